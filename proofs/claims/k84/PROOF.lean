import PyProof.Rows.All
import Wide.All
import OpenK.AllK
import Wide.FinOn
import KE.KStateDown
import HandS.ForMost
import HandS.ForExc
import HandS.Defaults
import HandS.ExcIs
import HandS.IsInst
import HandS.Head0
import HandS.Head1
import HandS.Head2
import HandS.HeadEnd
import HandS.HeadHook1
import HandS.HeadHook2
import HandS.HeadHook4
import HandS.Wide
import HandS.Deep
import HandS.TupAny
import HandS.DictComp
import HandS.Walk
import HandS.Conv
import HandS.Zip
import HandS.Text
import HandS.Comp
import HandS.Replace
import PyProof.StrOps2
import PyProof.Rows.SeqMore2
import KE.SortData
import HandS.Set
import HandS.Strs
import KE.GoesNew
import KE.DataMinMax
import KE.KDictList
import PyProof.Rows.StrLawsPart
import PyProof.StrLawsIn
import PyProof.Claim2Refuses
import HandS.SetBool
import KE.KDictDisplayH
import KE.KeyNested
import PySem.Challenge.RW_stretchprices_k84_whole_the_cheapest_and
set_option Elab.async false
set_option linter.all false
set_option maxRecDepth 100000
set_option maxHeartbeats 4000000
namespace K84
open PySem PySem.Spec PyProof.Rows L2
/-- the i-th statement of the linked text -/
def top (i : Nat) : Stmt := PySem.Challenge.pw_stretchprices_k84_whole_the_cheapest_and.main.body.getD i (.Pass ⟨0, 0, 0, 0⟩)
end K84
set_option maxHeartbeats 0
namespace K84
open PySem PySem.Spec PyProof.Rows L2
def hdF (x : Str) (i : Nat) : He.DefD := ⟨(x, none), x, x, defArgs (top i), defBody (top i), defScope (top i), [], []⟩
def hdM (C m q : Str) (i j : Nat) : He.DefD := ⟨(C, some m), m, q, defArgs (inClass (top i) j), defBody (inClass (top i) j), defScope (inClass (top i) j), [], []⟩
def hdFns : List He.DefD := [
  hdF "common_divisor" 9,
  hdF "made" 10,
  hdF "plus" 11,
  hdF "is_less" 12,
  hdF "sum_of" 13,
  hdF "is_integer" 18,
  hdF "is_within" 19,
  hdF "is_pair" 20,
  hdF "is_listed" 21,
  hdF "is_string_of" 22,
  hdF "is_word" 23,
  hdF "is_ascending" 24,
  hdF "is_rows" 25,
  hdF "is_code" 26,
  hdF "is_any_code" 27,
  hdF "is_width" 28,
  hdF "is_fraction" 29,
  hdF "check_like_rows" 30,
  hdF "stretches_of" 32,
  hdF "codes_of_length" 33,
  hdF "stretch_names" 34,
  hdF "is_table" 35,
  hdM "Prices" "__init__" "Prices.__init__" 36 0,
  hdF "price_of" 37,
  hdF "price" 38,
  hdF "is_before" 41,
  hdF "check_befores" 42,
  hdF "check_ordered" 43,
  hdF "all_orders" 44,
  hdF "orders" 45,
  hdF "worst_of" 46,
  hdF "worst" 47,
  hdF "quickest" 48,
  hdF "cheapest" 49,
  hdF "waste" 50,
  hdF "is_move" 55,
  hdF "are_moves" 56,
  hdM "Machine" "__init__" "Machine.__init__" 57 0,
  hdM "Machine" "keep" "Machine.keep" 57 1,
  hdF "_law_tape" 59,
  hdF "_law_pick" 60,
  hdF "_law_rows" 61,
  hdF "_law_moves" 62,
  hdF "_law_code" 63,
  hdF "_law_spans" 64,
  hdF "_law_lowest" 65,
  hdF "_law_plus" 66,
  hdF "_law_less" 67,
  hdF "_law_fraction" 68,
  hdF "_law_all_stretches" 69,
  hdF "_law_table" 70,
  hdF "_law_stretches" 71,
  hdF "_law_price" 72,
  hdF "_law_is" 73,
  hdF "_law_priced_world" 74,
  hdF "_law_reached" 75,
  hdF "_law_is_int" 76,
  hdF "_law_is_code" 77,
  hdF "_law_all_places" 78,
  hdF "_law_all_orders" 79,
  hdF "_law_befores" 80,
  hdF "_law_ordered_code" 81,
  hdF "_law_cheapest" 82,
  hdF "_law_asked" 83,
  hdF "_law_are_befores" 84,
  hdF "_law_due" 85,
  hdF "_law_refuses" 86,
  hdF "law" 87]
def hdLoose0 : List PySem.Str := ["StretchError", "BadMachine", "OtherRows", "NoCode", "BadPrices", "NoBefores", "NOUGHT", "common_divisor", "made", "plus", "is_less", "sum_of", "SMALL", "MOST_ROWS", "MOST_WIDTH", "is_integer", "is_within", "is_pair", "is_listed", "is_string_of", "is_word", "is_ascending", "is_rows", "is_code", "is_any_code", "is_width", "is_fraction", "check_like_rows", "stretches_of", "codes_of_length"]
def hdLoose1 : List PySem.Str := ["stretch_names", "is_table", "Prices", "price_of", "price", "MOST_ORDERED", "is_before", "check_befores", "check_ordered", "all_orders", "orders", "worst_of", "worst", "quickest", "cheapest", "waste", "MOST_ANSWERS", "MOST_STANDINGS", "MOST_TICKS", "is_move", "are_moves", "Machine", "_law_tape", "_law_pick", "_law_rows", "_law_moves", "_law_code", "_law_spans", "_law_lowest", "_law_plus"]
def hdLoose2 : List PySem.Str := ["_law_less", "_law_fraction", "_law_all_stretches", "_law_table", "_law_stretches", "_law_price", "_law_is", "_law_priced_world", "_law_reached", "_law_is_int", "_law_is_code", "_law_all_places", "_law_all_orders", "_law_befores", "_law_ordered_code", "_law_cheapest", "_law_asked", "_law_are_befores", "_law_due", "_law_refuses"]
def hdLoose : List PySem.Str := hdLoose0 ++ hdLoose1 ++ hdLoose2
def hdFas : List He.Fa := [
  .glo "common_divisor", .glo "made", .glo "plus", .glo "is_less", .glo "sum_of", .glo "is_integer",
  .glo "is_within", .glo "is_pair", .glo "is_listed", .glo "is_string_of", .glo "is_word", .glo "is_ascending",
  .glo "is_rows", .glo "is_code", .glo "is_any_code", .glo "is_width", .glo "is_fraction", .glo "check_like_rows",
  .glo "stretches_of", .glo "codes_of_length", .glo "stretch_names", .glo "is_table", .glo "price_of", .glo "price",
  .glo "is_before", .glo "check_befores", .glo "check_ordered", .glo "all_orders", .glo "orders", .glo "worst_of",
  .glo "worst", .glo "quickest", .glo "cheapest", .glo "waste", .glo "is_move", .glo "are_moves",
  .glo "_law_tape", .glo "_law_pick", .glo "_law_rows", .glo "_law_moves", .glo "_law_code", .glo "_law_spans",
  .glo "_law_lowest", .glo "_law_plus", .glo "_law_less", .glo "_law_fraction", .glo "_law_all_stretches", .glo "_law_table",
  .glo "_law_stretches", .glo "_law_price", .glo "_law_is", .glo "_law_priced_world", .glo "_law_reached", .glo "_law_is_int",
  .glo "_law_is_code", .glo "_law_all_places", .glo "_law_all_orders", .glo "_law_befores", .glo "_law_ordered_code", .glo "_law_cheapest",
  .glo "_law_asked", .glo "_law_are_befores", .glo "_law_due", .glo "_law_refuses", .glo "law", .free "len",
  .free "range", .free "int", .free "isinstance", .free "bool", .free "tuple", .free "list",
  .free "str", .free "abs", .free "all", .free "sorted", .free "enumerate", .free "zip",
  .free "max", .free "min", .free "dict", .int "MOST_ROWS" 4, .int "MOST_WIDTH" 3, .int "MOST_ORDERED" 7,
  .int "MOST_ANSWERS" 3, .int "MOST_STANDINGS" 12, .int "MOST_TICKS" 99, .str "SMALL" "abcdefghijklmnopqrstuvwxyz", .glo "NOUGHT", .glo "Machine",
  .cls "Machine", .mkr "Machine", .glo "Prices", .cls "Prices", .mkr "Prices", .noat "Machine" "rows",
  .noat "Machine" "answers", .noat "Machine" "moves", .noat "Machine" "size", .noat "Machine" "kept_steps", .noat "Machine" "kept_webs", .noat "Prices" "rows",
  .noat "Prices" "width", .noat "Prices" "kept_table", .meth "Machine" "keep", .glo "StretchError", .glo "OtherRows", .glo "NoCode",
  .glo "NoBefores", .exc "OtherRows", .exm "OtherRows" "StretchError" true, .exc "NoCode", .exm "NoCode" "StretchError" true, .exc "NoBefores",
  .exm "NoBefores" "StretchError" true]
/-- isinstance of a caught error of the class D asks rightly -/
def hdExc (K : PySem.W.Frag) (D : Addr) : Bool :=
  decide (PySem.W.findIn K (.ref D) "__getattribute__" = some (some (.builtin "BaseException.__getattribute__"))) && (decide (PySem.W.findIn K (.ref D) "__getattr__" = some none) && (decide (PySem.W.subIn K (.ref D) (.type "BaseException") = some true) && (PySem.W.hasDictIn K D &&
  (decide (PySem.W.findIn K (.ref D) "__class__" = some (some (.builtin "object.__class__"))) && (decide (PySem.W.specialIn K (.builtin "object.__class__") "__get__" = some (some (.builtin "getset_descriptor.__get__"))) && (decide (PySem.W.takesIn K (.builtin "object.__class__") = some true) && decide (PySem.W.mroIn K D (.type "object") = some true)))))))
def hdKit (K : PySem.W.Frag) (x y : Str) (b : Bool) : Bool := decide (PySem.W.kitOne K (.ref (He.ga K x)) (.ref (He.ga K y)) = some b)
def hdMore (K : PySem.W.Frag) : Bool :=
  He.tupB K "NOUGHT" [.int 0, .int 1] && (hdExc K (He.ga K "OtherRows") && (hdExc K (He.ga K "NoCode") && (hdExc K (He.ga K "NoBefores") &&
  (hdKit K "OtherRows" "OtherRows" true && (hdKit K "OtherRows" "NoCode" false && (hdKit K "OtherRows" "NoBefores" false &&
  (hdKit K "NoCode" "OtherRows" false && (hdKit K "NoCode" "NoCode" true && (hdKit K "NoCode" "NoBefores" false &&
  (hdKit K "NoBefores" "OtherRows" false && (hdKit K "NoBefores" "NoCode" false && hdKit K "NoBefores" "NoBefores" true)))))))))))
abbrev hdR : PySem.W.OpenRow := PySem.W.OpenLaw.row PySem.Challenge.rw_stretchprices_k84_whole_the_cheapest_and
abbrev hdHook : PySem.W.Hook := He.hookX 4 hdFas hdFns [] [] hdMore
def hdOb (s : PySem.W.SharedT) : He.AlX := He.obsX 4 hdFas hdFns [] [] hdMore (HandSHeadRun.getT s)
theorem hdOb_eq (s : PySem.W.SharedT) : hdOb s = hdHook.obs s.abs := He.obsX_eq (HandSHeadRun.getT_eq s)
theorem hdRun (w : World) : HandSHeadRun.RunEq hdR (PySem.W.view hdR.prog [87]) hdHook hdOb 9000 hdLoose w := by
  intro os
  kernel_rfl
end K84
set_option maxHeartbeats 4000000
namespace K84
open PySem PySem.Spec PyProof.Rows L2

/-! ### defs as names of the module -/
/-- a global name that holds the value v -/
def GC (mg : Str → Option Value) (x : Str) (v : V) : Prop := ∃ u, mg x = some u ∧ RelV v u
theorem pe_gcv {X : Cx} {x : Str} {v : V} {pos : Pos} (hg : Gl X x) (h : GC X.mg x v) (hd : (x == ("__debug__" : Str)) = false := by decide) : PE X (.Name x pos) (tC v) := by
  obtain ⟨u, hm, r⟩ := h
  exact pe_glob hg hm r hd
/-- the def of the text at st, as the top leaves it -/
structure Df (K : PySem.W.Frag) (mg : Str → Option Value) (x : Str) (st : Stmt) : Prop where
  fd : ∃ (f : Addr) (fd : FuncData), FunD K x x (defArgs st) (defBody st) (defScope st) [] [] f fd ∧ mg x = some (.ref f)
/-- a name of the module that holds a def with the promise sp -/
def Cl (CX : CXT) (P : Program) (w : World) (K : PySem.W.Frag) (mg : Str → Option Value) (base : Heap) (k : Nat) (x : Str) (sp : Sp) : Prop :=
  ∃ (f : Addr) (fd : FuncData) (ps : List Str), FnOk P w K mg base CX k f fd ps sp ∧ mg x = some (.ref f) ∧ PySem.W.keepIn K (.ref f) = true ∧ Binds K fd ps []
theorem pe_cl {X : Cx} {CX : CXT} {k j : Nat} {x : Str} {sp : Sp} {E : XK} {e : Expr} {es : List Expr} {t : TA} {p pos : Pos} (c : Cl CX X.prog X.w X.K X.mg X.base k x sp) (hr : Room j X.A) (hk : k ≤ j) (hx : Passes CX X E) (ha : PA X (e :: es) t) (hg : Gl X x := by rfl)
    (hdb : (x == ("__debug__" : Str)) = false := by decide) (he : starEach (e :: es) X.env = (false, eval e X.env) :: starEach es X.env := by rfl) (hpl : (backTo pos (starEach es X.env)).any (·.1) = false := by rfl) :
    PE X (.Call (.Name x p) (e :: es) [] pos) (tCall sp [] E t) := by
  obtain ⟨f, fd, ps, F, hm, kp, b⟩ := c
  exact pe_call F (hr.mono hk) hg hm kp b .nil hx ha hdb he hpl
/-- the same where what is raised is wished for at the slots -/
theorem pe_clS {X : Cx} {CX : CXT} {k j : Nat} {x : Str} {sp : Sp} {E : L2.St → XK} {e : Expr} {es : List Expr} {t : TA} {p pos : Pos} (c : Cl CX X.prog X.w X.K X.mg X.base k x sp) (hr : Room j X.A) (hk : k ≤ j) (hx : ∀ σ, PassesAt CX X σ (E σ)) (ha : PA X (e :: es) t) (hg : Gl X x := by rfl)
    (hdb : (x == ("__debug__" : Str)) = false := by decide) (he : starEach (e :: es) X.env = (false, eval e X.env) :: starEach es X.env := by rfl) (hpl : (backTo pos (starEach es X.env)).any (·.1) = false := by rfl) :
    PE X (.Call (.Name x p) (e :: es) [] pos) (tCallS sp E t) := by
  obtain ⟨f, fd, ps, F, hm, kp, b⟩ := c
  exact pe_callS F (hr.mono hk) hg hm kp b hx ha hdb he hpl
theorem passX {X : Cx} {E : XK} (tk : Takes X (fun cls d _ H => E cls d H)) : Passes (L2.CX X.prog X.w) X E := passes_call tk (fun _ _ _ _ h => h)

/-! ### promises by the number of arguments -/
def sp1 (f : V → Hp → VK → XK → Prop) : Sp := fun vs H Q E => ∃ a, vs = [a] ∧ f a H Q E
def sp2 (f : V → V → Hp → VK → XK → Prop) : Sp := fun vs H Q E => ∃ a b, vs = [a, b] ∧ f a b H Q E
def sp3 (f : V → V → V → Hp → VK → XK → Prop) : Sp := fun vs H Q E => ∃ a b c, vs = [a, b, c] ∧ f a b c H Q E
def sp4 (f : V → V → V → V → Hp → VK → XK → Prop) : Sp := fun vs H Q E => ∃ a b c d, vs = [a, b, c, d] ∧ f a b c d H Q E
def sp5 (f : V → V → V → V → V → Hp → VK → XK → Prop) : Sp := fun vs H Q E => ∃ a b c d e, vs = [a, b, c, d, e] ∧ f a b c d e H Q E
def sp6 (f : V → V → V → V → V → V → Hp → VK → XK → Prop) : Sp := fun vs H Q E => ∃ a b c d e g, vs = [a, b, c, d, e, g] ∧ f a b c d e g H Q E
section
variable {CX : CXT} {P : Program} {w : World} {K : PySem.W.Frag} {mg : Str → Option Value} {base : Heap} {x : Str} {st : Stmt} {N : List Str} {k : Nat}
/-- THE RULE: a def keeps its promise -/
theorem Df.ok {ps : List Str} {sp : Sp} (D : Df K mg x st) (S : FnScope N ps (defScope st)) (len : ∀ vs H Q E, sp vs H Q E → vs.length = ps.length)
    (bd : ∀ (kV doc pm : Value) (an : Option Addr) (cdv ct : Value) (us : List Value), us.length = ps.length → bindArgs (PySem.W.fnOf x x (defArgs st) (defBody st) (defScope st) .none kV doc pm an cdv ct) ⟨us, []⟩ = pure (ps.zip us))
    (body : ∀ (f : Addr) (cdv : Value) (A : Around) (outer : List Env) (s : Shared) (H : Hp) (vs : List V) (Q : VK) (E : XK), Room k (A.deeper (envOfC x (defScope st) s.heap.objs.size f cdv)) → sp vs H Q E →
      ∃ t, PSs (cxOf CX P w K mg base N x (defScope st) f cdv A outer s H E) (defBody st) t ∧ t { nx := fun _ H' => Q .non H', rt := Q } (start N vs) H) : Cl CX P w K mg base (k + 1) x sp := by
  obtain ⟨f, fd, F, hm⟩ := D.fd
  exact ⟨f, fd, ps, F.ok S len (fun cdv A outer s H vs Q E hr h => body f cdv A outer s H vs Q E hr h), hm, F.kp, F.bindsN bd⟩
theorem Df.ok1 {p1 : Str} {f1 : V → Hp → VK → XK → Prop} (D : Df K mg x st) (S : FnScope N [p1] (defScope st))
    (bd : ∀ (kV doc pm : Value) (an : Option Addr) (cdv ct : Value) (us : List Value), us.length = 1 → bindArgs (PySem.W.fnOf x x (defArgs st) (defBody st) (defScope st) .none kV doc pm an cdv ct) ⟨us, []⟩ = pure ([p1].zip us))
    (body : ∀ (f : Addr) (cdv : Value) (A : Around) (outer : List Env) (s : Shared) (H : Hp) (a : V) (Q : VK) (E : XK), Room k (A.deeper (envOfC x (defScope st) s.heap.objs.size f cdv)) → f1 a H Q E →
      ∃ t, PSs (cxOf CX P w K mg base N x (defScope st) f cdv A outer s H E) (defBody st) t ∧ t { nx := fun _ H' => Q .non H', rt := Q } (start N [a]) H) : Cl CX P w K mg base (k + 1) x (sp1 f1) :=
  D.ok S (fun _ _ _ _ ⟨_, e, _⟩ => by rw [e] <;> rfl) bd fun f cdv A outer s H vs Q E hr ⟨a, e, h⟩ => by
    subst e
    exact body f cdv A outer s H a Q E hr h
theorem Df.ok2 {p1 p2 : Str} {f2 : V → V → Hp → VK → XK → Prop} (D : Df K mg x st) (S : FnScope N [p1, p2] (defScope st))
    (bd : ∀ (kV doc pm : Value) (an : Option Addr) (cdv ct : Value) (us : List Value), us.length = 2 → bindArgs (PySem.W.fnOf x x (defArgs st) (defBody st) (defScope st) .none kV doc pm an cdv ct) ⟨us, []⟩ = pure ([p1, p2].zip us))
    (body : ∀ (f : Addr) (cdv : Value) (A : Around) (outer : List Env) (s : Shared) (H : Hp) (a b : V) (Q : VK) (E : XK), Room k (A.deeper (envOfC x (defScope st) s.heap.objs.size f cdv)) → f2 a b H Q E →
      ∃ t, PSs (cxOf CX P w K mg base N x (defScope st) f cdv A outer s H E) (defBody st) t ∧ t { nx := fun _ H' => Q .non H', rt := Q } (start N [a, b]) H) : Cl CX P w K mg base (k + 1) x (sp2 f2) :=
  D.ok S (fun _ _ _ _ ⟨_, _, e, _⟩ => by rw [e] <;> rfl) bd fun f cdv A outer s H vs Q E hr ⟨a, b, e, h⟩ => by
    subst e
    exact body f cdv A outer s H a b Q E hr h
theorem Df.ok3 {p1 p2 p3 : Str} {f3 : V → V → V → Hp → VK → XK → Prop} (D : Df K mg x st) (S : FnScope N [p1, p2, p3] (defScope st))
    (bd : ∀ (kV doc pm : Value) (an : Option Addr) (cdv ct : Value) (us : List Value), us.length = 3 → bindArgs (PySem.W.fnOf x x (defArgs st) (defBody st) (defScope st) .none kV doc pm an cdv ct) ⟨us, []⟩ = pure ([p1, p2, p3].zip us))
    (body : ∀ (f : Addr) (cdv : Value) (A : Around) (outer : List Env) (s : Shared) (H : Hp) (a b c : V) (Q : VK) (E : XK), Room k (A.deeper (envOfC x (defScope st) s.heap.objs.size f cdv)) → f3 a b c H Q E →
      ∃ t, PSs (cxOf CX P w K mg base N x (defScope st) f cdv A outer s H E) (defBody st) t ∧ t { nx := fun _ H' => Q .non H', rt := Q } (start N [a, b, c]) H) : Cl CX P w K mg base (k + 1) x (sp3 f3) :=
  D.ok S (fun _ _ _ _ ⟨_, _, _, e, _⟩ => by rw [e] <;> rfl) bd fun f cdv A outer s H vs Q E hr ⟨a, b, c, e, h⟩ => by
    subst e
    exact body f cdv A outer s H a b c Q E hr h
theorem Df.ok4 {p1 p2 p3 p4 : Str} {f4 : V → V → V → V → Hp → VK → XK → Prop} (D : Df K mg x st) (S : FnScope N [p1, p2, p3, p4] (defScope st))
    (bd : ∀ (kV doc pm : Value) (an : Option Addr) (cdv ct : Value) (us : List Value), us.length = 4 → bindArgs (PySem.W.fnOf x x (defArgs st) (defBody st) (defScope st) .none kV doc pm an cdv ct) ⟨us, []⟩ = pure ([p1, p2, p3, p4].zip us))
    (body : ∀ (f : Addr) (cdv : Value) (A : Around) (outer : List Env) (s : Shared) (H : Hp) (a b c d : V) (Q : VK) (E : XK), Room k (A.deeper (envOfC x (defScope st) s.heap.objs.size f cdv)) → f4 a b c d H Q E →
      ∃ t, PSs (cxOf CX P w K mg base N x (defScope st) f cdv A outer s H E) (defBody st) t ∧ t { nx := fun _ H' => Q .non H', rt := Q } (start N [a, b, c, d]) H) : Cl CX P w K mg base (k + 1) x (sp4 f4) :=
  D.ok S (fun _ _ _ _ ⟨_, _, _, _, e, _⟩ => by rw [e] <;> rfl) bd fun f cdv A outer s H vs Q E hr ⟨a, b, c, d, e, h⟩ => by
    subst e
    exact body f cdv A outer s H a b c d Q E hr h
theorem Df.ok5 {p1 p2 p3 p4 p5 : Str} {f5 : V → V → V → V → V → Hp → VK → XK → Prop} (D : Df K mg x st) (S : FnScope N [p1, p2, p3, p4, p5] (defScope st))
    (bd : ∀ (kV doc pm : Value) (an : Option Addr) (cdv ct : Value) (us : List Value), us.length = 5 → bindArgs (PySem.W.fnOf x x (defArgs st) (defBody st) (defScope st) .none kV doc pm an cdv ct) ⟨us, []⟩ = pure ([p1, p2, p3, p4, p5].zip us))
    (body : ∀ (f : Addr) (cdv : Value) (A : Around) (outer : List Env) (s : Shared) (H : Hp) (a b c d e : V) (Q : VK) (E : XK), Room k (A.deeper (envOfC x (defScope st) s.heap.objs.size f cdv)) → f5 a b c d e H Q E →
      ∃ t, PSs (cxOf CX P w K mg base N x (defScope st) f cdv A outer s H E) (defBody st) t ∧ t { nx := fun _ H' => Q .non H', rt := Q } (start N [a, b, c, d, e]) H) : Cl CX P w K mg base (k + 1) x (sp5 f5) :=
  D.ok S (fun _ _ _ _ ⟨_, _, _, _, _, e, _⟩ => by rw [e] <;> rfl) bd fun f cdv A outer s H vs Q E hr ⟨a, b, c, d, e, ev, h⟩ => by
    subst ev
    exact body f cdv A outer s H a b c d e Q E hr h
theorem Df.ok6 {p1 p2 p3 p4 p5 p6 : Str} {f6 : V → V → V → V → V → V → Hp → VK → XK → Prop} (D : Df K mg x st) (S : FnScope N [p1, p2, p3, p4, p5, p6] (defScope st))
    (bd : ∀ (kV doc pm : Value) (an : Option Addr) (cdv ct : Value) (us : List Value), us.length = 6 → bindArgs (PySem.W.fnOf x x (defArgs st) (defBody st) (defScope st) .none kV doc pm an cdv ct) ⟨us, []⟩ = pure ([p1, p2, p3, p4, p5, p6].zip us))
    (body : ∀ (f : Addr) (cdv : Value) (A : Around) (outer : List Env) (s : Shared) (H : Hp) (a b c d e g : V) (Q : VK) (E : XK), Room k (A.deeper (envOfC x (defScope st) s.heap.objs.size f cdv)) → f6 a b c d e g H Q E →
      ∃ t, PSs (cxOf CX P w K mg base N x (defScope st) f cdv A outer s H E) (defBody st) t ∧ t { nx := fun _ H' => Q .non H', rt := Q } (start N [a, b, c, d, e, g]) H) : Cl CX P w K mg base (k + 1) x (sp6 f6) :=
  D.ok S (fun _ _ _ _ ⟨_, _, _, _, _, _, e, _⟩ => by rw [e] <;> rfl) bd fun f cdv A outer s H vs Q E hr ⟨a, b, c, d, e, g, ev, h⟩ => by
    subst ev
    exact body f cdv A outer s H a b c d e g Q E hr h
end

/-! ### what the top leaves of the built-in names and the constants -/
/-- an error class of the text, as the top leaves it -/
structure XF (K : PySem.W.Frag) (mg : Str → Option Value) (x : Str) : Prop where
  g : mg x = some (.ref (He.ga K x))
  i : PySem.W.excIn K (He.ga K x) He.veBase "ValueError.__new__" = true
  k : PySem.W.keepIn K (.ref (He.ga K x)) = true
  s : PySem.W.subIn K (.ref (He.ga K x)) (.type "BaseException") = some true
  t : PySem.W.typeIn K (.ref (He.ga K x)) = some (.type "type")
  ec : ExcC K (He.ga K x)
  em : PySem.W.exmOne K (.ref (He.ga K x)) (.ref (He.ga K "StretchError")) = some true
def kitL : List (Str × Str × Bool) := [("OtherRows", "OtherRows", true), ("OtherRows", "NoCode", false), ("OtherRows", "NoBefores", false), ("NoCode", "OtherRows", false), ("NoCode", "NoCode", true), ("NoCode", "NoBefores", false), ("NoBefores", "OtherRows", false), ("NoBefores", "NoCode", false), ("NoBefores", "NoBefores", true)]
structure Tx (K : PySem.W.Frag) (mg : Str → Option Value) : Prop where
  len : mg "len" = none
  range : mg "range" = none
  int_ : mg "int" = none
  isinstance : mg "isinstance" = none
  bool_ : mg "bool" = none
  tuple_ : mg "tuple" = none
  list_ : mg "list" = none
  str_ : mg "str" = none
  dict_ : mg "dict" = none
  abs : mg "abs" = none
  all : mg "all" = none
  sorted : mg "sorted" = none
  enumerate : mg "enumerate" = none
  zip : mg "zip" = none
  max : mg "max" = none
  min : mg "min" = none
  c_MOST_ROWS : GC mg "MOST_ROWS" (.int 4)
  c_MOST_WIDTH : GC mg "MOST_WIDTH" (.int 3)
  c_MOST_ORDERED : GC mg "MOST_ORDERED" (.int 7)
  c_MOST_ANSWERS : GC mg "MOST_ANSWERS" (.int 3)
  c_MOST_STANDINGS : GC mg "MOST_STANDINGS" (.int 12)
  c_MOST_TICKS : GC mg "MOST_TICKS" (.int 99)
  c_SMALL : GC mg "SMALL" (.str "abcdefghijklmnopqrstuvwxyz")
  x_OtherRows : XF K mg "OtherRows"
  x_NoCode : XF K mg "NoCode"
  x_NoBefores : XF K mg "NoBefores"
  e_StretchError : mg "StretchError" = some (.ref (He.ga K "StretchError"))
  c_OtherRows : GC mg "OtherRows" (.ref (He.ga K "OtherRows"))
  c_NoCode : GC mg "NoCode" (.ref (He.ga K "NoCode"))
  c_NoBefores : GC mg "NoBefores" (.ref (He.ga K "NoBefores"))
  kits : ∀ e ∈ kitL, PySem.W.kitOne K (.ref (He.ga K e.1)) (.ref (He.ga K e.2.1)) = some e.2.2
  c_NOUGHT : ∃ a, GC mg "NOUGHT" (.ref a) ∧ ∀ H, SqT K H a [.int 0, .int 1]

end K84
namespace L2
open PySem
/-! ### heaps -/
theorem Same.new {H H' : Hp} {p : Addr} {o : HO} (s : Same H H') (h : H' p = none) : Same H (upd H' p o) := fun b u e => by
  rw [upd_ne (ne_of_none (s b u e) h)]
  exact s b u e
/-- an object that H does not know may change -/
theorem Same.mut {H H' : Hp} {p : Addr} {o : HO} (s : Same H H') (h : H p = none) : Same H (upd H' p o) := fun b u e => by
  rw [upd_ne (ne_of_none e h)]
  exact s b u e
theorem Same.seqT {K : PySem.W.Frag} {H H' : Hp} {a : Addr} {xs : List V} (e : Same H H') (h : SqT K H a xs) : SqT K H' a xs := by
  rcases h with (h | ⟨o, h⟩) | h
  · exact .inl (.inl (e _ _ h))
  · exact .inl (.inr ⟨o, e _ _ h⟩)
  · exact .inr h
end L2
namespace K84
open PySem PySem.Spec PyProof.Rows L2
theorem same_new {H : Hp} {p : Addr} {o : HO} (h : H p = none) : Same H (upd H p o) := L2.Same.new (Same.refl H) h
theorem sqT_of {K : PySem.W.Frag} {H : Hp} {a : Addr} {xs : List V} (h : H a = some (.tup xs)) : SqT K H a xs := .inl (.inl h)
theorem sqL_of {K : PySem.W.Frag} {H : Hp} {a : Addr} {xs : List V} (h : H a = some (.lst xs)) : SqL K H a xs := .inl (.inl h)
theorem szle {n : Nat} (h : n ≤ 100000) : n ≤ sizeLine := Nat.le_trans h (by decide)
theorem szlt {n : Nat} (h : n < 100000) : n < sizeLine := Nat.lt_of_lt_of_le h (by decide)
theorem ifT {c : Bool} {A B : Prop} (hc : c = true) (h : A) : if c = true then A else B := by
  rw [if_pos hc]
  exact h
theorem ifF {c : Bool} {A B : Prop} (hc : c = false) (h : B) : if c = true then A else B := by
  rw [hc]
  exact iteF h
theorem ifB {c : Bool} {A B : Prop} (h1 : c = true → A) (h2 : c = false → B) : if c = true then A else B := by
  cases c with
  | true => exact iteT (h1 rfl)
  | false => exact iteF (h2 rfl)
/-- one by one -/
def Each {α : Type} (R : V → α → Prop) (xs : List V) (as : List α) : Prop := xs.length = as.length ∧ ∀ (i : Nat) (v : V) (q : α), xs[i]? = some v → as[i]? = some q → R v q
section
variable {α : Type} {R R' : V → α → Prop} {xs : List V} {as : List α}
theorem Each.nil : Each R [] [] := ⟨rfl, fun i v q h => by simp at h⟩
theorem Each.mono (h : Each R xs as) (f : ∀ v q, R v q → R' v q) : Each R' xs as := ⟨h.1, fun i v q h1 h2 => f v q (h.2 i v q h1 h2)⟩
theorem Each.get (h : Each R xs as) {i : Nat} {v : V} (hv : xs[i]? = some v) : ∃ q, as[i]? = some q ∧ R v q := by
  obtain ⟨hi, _⟩ := List.getElem?_eq_some_iff.mp hv
  have hi2 : i < as.length := h.1 ▸ hi
  exact ⟨as[i], List.getElem?_eq_getElem hi2, h.2 i v _ hv (List.getElem?_eq_getElem hi2)⟩
theorem Each.at (h : Each R xs as) {i : Nat} {q : α} (hq : as[i]? = some q) : ∃ v, xs[i]? = some v ∧ R v q := by
  obtain ⟨hi, _⟩ := List.getElem?_eq_some_iff.mp hq
  have hi2 : i < xs.length := h.1 ▸ hi
  exact ⟨xs[i], List.getElem?_eq_getElem hi2, h.2 i _ q (List.getElem?_eq_getElem hi2) hq⟩
theorem Each.snoc (h : Each R xs as) {v : V} {q : α} (r : R v q) : Each R (xs ++ [v]) (as ++ [q]) := by
  refine ⟨by rw [List.length_append, List.length_append, h.1] <;> rfl, fun i x y hx hy => ?_⟩
  by_cases hi : i < xs.length
  · rw [List.getElem?_append_left hi] at hx
    rw [List.getElem?_append_left (h.1 ▸ hi)] at hy
    exact h.2 i x y hx hy
  · rw [List.getElem?_append_right (by omega)] at hx
    rw [List.getElem?_append_right (by have := h.1; omega)] at hy
    rw [h.1] at hx
    by_cases h0 : i - as.length = 0
    · rw [h0] at hx hy
      simp at hx hy
      rw [← hx, ← hy]
      exact r
    · obtain ⟨j, e⟩ : ∃ j, i - as.length = j + 1 := ⟨i - as.length - 1, by omega⟩
      rw [e] at hx
      simp at hx
theorem Each.cons (h : Each R xs as) {v : V} {q : α} (r : R v q) : Each R (v :: xs) (q :: as) := by
  refine ⟨by rw [List.length_cons, List.length_cons, h.1], fun i x y hx hy => ?_⟩
  cases i with
  | zero =>
    cases hx
    cases hy
    exact r
  | succ i => exact h.2 i x y hx hy
theorem Each.map {f : α → V} (h : ∀ q ∈ as, R (f q) q) : Each R (as.map f) as := ⟨by rw [List.length_map], fun i v q h1 h2 => by
  rw [List.getElem?_map, h2] at h1
  cases h1
  exact h q (List.mem_of_getElem? h2)⟩
end
/-- a fraction at v -/
def FrV (K : PySem.W.Frag) (H : Hp) (v : V) (q : Int × Int) : Prop := ∃ p, v = .ref p ∧ SqT K H p [.int q.1, .int q.2]
theorem FrV.mono {K : PySem.W.Frag} {H H' : Hp} {v : V} {q : Int × Int} (s : Same H H') (h : FrV K H v q) : FrV K H' v q := by
  obtain ⟨p, e, h⟩ := h
  exact ⟨p, e, s.seqT h⟩
theorem FrV.new {K : PySem.W.Frag} {H : Hp} {p : Addr} {a b : Int} : FrV K (upd H p (.tup [.int a, .int b])) (.ref p) (a, b) := ⟨p, rfl, sqT_of upd_same⟩
end K84
set_option maxHeartbeats 4000000
namespace K84
open PySem PySem.Spec PyProof.Rows L2
/-! ### things: what may be judged -/
inductive Th where
  | non | bl (b : Bool) | int (i : Int) | str (s : Str) | lst (l : List Th) | tup (l : List Th) | dct
mutual
inductive Tg (K : PySem.W.Frag) (H : Hp) : V → Th → Prop
  | non : Tg K H .non .non
  | bl (b : Bool) : Tg K H (.bl b) (.bl b)
  | int (i : Int) : Tg K H (.int i) (.int i)
  | str (x : Str) : Tg K H (.str x) (.str x)
  | lst {a : Addr} {xs : List V} {ds : List Th} : SqL K H a xs → TgAll K H xs ds → Tg K H (.ref a) (.lst ds)
  | tup {a : Addr} {xs : List V} {ds : List Th} : SqT K H a xs → TgAll K H xs ds → Tg K H (.ref a) (.tup ds)
  | dct {a : Addr} : H a = some (.dK []) → Tg K H (.ref a) .dct
inductive TgAll (K : PySem.W.Frag) (H : Hp) : List V → List Th → Prop
  | nil : TgAll K H [] []
  | cons {v : V} {vs : List V} {d : Th} {ds : List Th} : Tg K H v d → TgAll K H vs ds → TgAll K H (v :: vs) (d :: ds)
end
section
variable {K : PySem.W.Frag} {H H' : Hp}
mutual
theorem Tg.mono (s : Same H H') : ∀ {v : V} {d : Th}, Tg K H v d → Tg K H' v d
  | _, _, .non => .non
  | _, _, .bl b => .bl b
  | _, _, .int i => .int i
  | _, _, .str x => .str x
  | _, _, .lst h t => .lst (s.seq h) (TgAll.mono s t)
  | _, _, .tup h t => .tup (s.seqT h) (TgAll.mono s t)
  | _, _, .dct h => .dct (s _ _ h)
theorem TgAll.mono (s : Same H H') : ∀ {vs : List V} {ds : List Th}, TgAll K H vs ds → TgAll K H' vs ds
  | _, _, .nil => .nil
  | _, _, .cons h t => .cons (Tg.mono s h) (TgAll.mono s t)
end
theorem TgAll.length : ∀ {vs : List V} {ds : List Th}, TgAll K H vs ds → vs.length = ds.length
  | _, _, .nil => rfl
  | _, _, .cons _ t => congrArg (· + 1) (TgAll.length t)
theorem TgAll.at : ∀ {vs : List V} {ds : List Th} {i : Nat} {v : V}, TgAll K H vs ds → vs[i]? = some v → ∃ d, ds[i]? = some d ∧ Tg K H v d
  | _, _, _, _, .nil, e => by simp at e
  | _, _, 0, _, .cons h _, e => by cases e; exact ⟨_, rfl, h⟩
  | _, _, i + 1, v, .cons _ t, e => TgAll.at (i := i) t e
theorem TgAll.of : ∀ {vs : List V} {ds : List Th} {i : Nat} {d : Th}, TgAll K H vs ds → ds[i]? = some d → ∃ v, vs[i]? = some v ∧ Tg K H v d
  | _, _, _, _, .nil, e => by simp at e
  | _, _, 0, _, .cons h _, e => by cases e; exact ⟨_, rfl, h⟩
  | _, _, i + 1, v, .cons _ t, e => TgAll.of (i := i) t e
theorem TgAll.append : ∀ {vs ws : List V} {ds es : List Th}, TgAll K H vs ds → TgAll K H ws es → TgAll K H (vs ++ ws) (ds ++ es)
  | _, _, _, _, .nil, s => s
  | _, _, _, _, .cons h t, s => .cons h (TgAll.append t s)
theorem TgAll.take : ∀ {vs : List V} {ds : List Th} (n : Nat), TgAll K H vs ds → TgAll K H (vs.take n) (ds.take n)
  | _, _, 0, _ => .nil
  | _, _, _ + 1, .nil => .nil
  | _, _, n + 1, .cons h t => .cons h (TgAll.take n t)
theorem TgAll.drop : ∀ {vs : List V} {ds : List Th} (n : Nat), TgAll K H vs ds → TgAll K H (vs.drop n) (ds.drop n)
  | _, _, 0, h => h
  | _, _, _ + 1, .nil => .nil
  | _, _, n + 1, .cons _ t => TgAll.drop n t

/-! ### isinstance -/
def tyn : Th → String
  | .non => "NoneType"
  | .bl _ => "bool"
  | .int _ => "int"
  | .str _ => "str"
  | .lst _ => "list"
  | .tup _ => "tuple"
  | .dct => "dict"
theorem Tg.ty {v : V} {d : Th} (g : Tg K H v d) : TyX K H v (.type (tyn d)) := by
  cases g with
  | non => exact .base .non
  | bl b => exact .base (.bl b)
  | int i => exact .base (.int i)
  | str x => exact .base (.str x)
  | lst h _ =>
    rcases h with (h | ⟨o, h⟩) | ⟨o, its, n, h, c, _⟩
    · exact .base (.lst h)
    · exact .base (.frz h)
    · exact .kList h c
  | tup h _ =>
    rcases h with (h | ⟨o, h⟩) | ⟨o, its, n, h, c, _⟩
    · exact .base (.tup h)
    · exact .fTuple h
    · exact .kTuple h c
  | dct h => exact .base (.dK h)
def Th.isInt : Th → Bool
  | .int _ => true
  | .bl _ => true
  | _ => false
def Th.isBool : Th → Bool
  | .bl _ => true
  | _ => false
def Th.isStr : Th → Bool
  | .str _ => true
  | _ => false
def Th.isTup : Th → Bool
  | .tup _ => true
  | _ => false
def Th.isLst : Th → Bool
  | .lst _ => true
  | _ => false
theorem kInt (d : Th) : kitB (tyn d) "int" = some d.isInt := by cases d <;> (dsimp only [tyn, Th.isInt]; decide +kernel)
theorem kBool (d : Th) : kitB (tyn d) "bool" = some d.isBool := by cases d <;> (dsimp only [tyn, Th.isBool]; decide +kernel)
theorem kStr (d : Th) : kitB (tyn d) "str" = some d.isStr := by cases d <;> (dsimp only [tyn, Th.isStr]; decide +kernel)
theorem kTup (d : Th) : kitB (tyn d) "tuple" = some d.isTup := by cases d <;> (dsimp only [tyn, Th.isTup]; decide +kernel)
theorem kLst (d : Th) : kitB (tyn d) "list" = some d.isLst := by cases d <;> (dsimp only [tyn, Th.isLst]; decide +kernel)
theorem kDct (d : Th) : kitB (tyn d) "dict" = some (match d with | .dct => true | _ => false) := by cases d <;> (dsimp only [tyn]; decide +kernel)
theorem isi_of {v : V} {d : Th} {c : String} {b : Bool} {Q : VK} (g : Tg K H v d) (h : kitB (tyn d) c = some b) (q : Q (.bl b) H) : rIsi K [v, .ty c] H Q := ⟨v, .ty c, .type (tyn d), .type c, b, rfl, .ty c, g.ty, kit_ty h, q⟩
theorem kAny2 {d : Th} {c1 c2 : String} {b1 b2 : Bool} (h1 : kitB (tyn d) c1 = some b1) (h2 : kitB (tyn d) c2 = some b2) : PySem.W.kitAny K (.type (tyn d)) [.type c1, .type c2] = some (b1 || b2) := by
  show (match PySem.W.kitOne K (.type (tyn d)) (.type c1) with | some true => some true | some false => PySem.W.kitAny K (.type (tyn d)) [.type c2] | none => none) = _
  rw [kit_ty (K := K) h1]
  cases b1 with
  | true => rfl
  | false =>
    show (match PySem.W.kitOne K (.type (tyn d)) (.type c2) with | some true => some true | some false => PySem.W.kitAny K (.type (tyn d)) [] | none => none) = _
    rw [kit_ty (K := K) h2]
    cases b2 <;> rfl
/-- isinstance(x, (T1, T2)), the tuple just made -/
theorem isi2_of {v : V} {d : Th} {p : Addr} {c1 c2 : String} {b1 b2 : Bool} {Q : VK} (g : Tg K H v d) (hp : H p = none) (h1 : kitB (tyn d) c1 = some b1) (h2 : kitB (tyn d) c2 = some b2) (q : Q (.bl (b1 || b2)) (upd H p (.tup [.ty c1, .ty c2]))) : rIsiT K [v, .ref p] (upd H p (.tup [.ty c1, .ty c2])) Q :=
  ⟨v, p, _, .type (tyn d), [.type c1, .type c2], _, rfl, upd_same, .cons (.ty c1) (.cons (.ty c2) .nil), (g.mono (same_new hp)).ty, kAny2 h1 h2, q⟩
end
/-! ### what the checks tell -/
def Th.int? : Th → Bool
  | .int _ => true
  | _ => false
def Th.within (lo hi : Int) : Th → Bool
  | .int i => decide (lo ≤ i) && decide (i ≤ hi)
  | _ => false
def Th.pair? : Th → Bool
  | .tup l => decide (l.length = 2)
  | _ => false
def Th.listed : Th → Bool
  | .lst _ => true
  | .tup _ => true
  | _ => false
/-- a string of the signs -/
def Th.over (signs : List Nat) : Th → Bool
  | .str s => s.cps.toList.all fun c => decide (c ∈ signs)
  | _ => false
/-- a pair of places of so many rows, the first one ahead -/
def Th.before (n : Nat) : Th → Bool
  | .tup [x, y] => match x with
    | .int i => decide (0 ≤ i) && decide (i ≤ (n : Int) - 1) && y.within (i + 1) ((n : Int) - 1)
    | _ => false
  | _ => false
/-! ### fields -/
/-- v.f is x -/
def Fd (K : PySem.W.Frag) (H : Hp) (v : V) (f : Str) (x : V) : Prop := ∃ a C dx fs, v = .ref a ∧ H a = some (.ins C dx fs) ∧ Cls K C ∧ NoAttr K C f ∧ fs.lookup f = some x
theorem Fd.mono {K : PySem.W.Frag} {H H' : Hp} {v x : V} {f : Str} (s : Same H H') (h : Fd K H v f x) : Fd K H' v f x := by
  obtain ⟨a, C, dx, fs, e, h1, h2, h3, h4⟩ := h
  exact ⟨a, C, dx, fs, e, s _ _ h1, h2, h3, h4⟩
theorem Fd.read {K : PySem.W.Frag} {H : Hp} {v x : V} {f : Str} {Q : VK} (h : Fd K H v f x) (q : Q x H) : ∃ a C dx fs y, v = .ref a ∧ H a = some (.ins C dx fs) ∧ Cls K C ∧ NoAttr K C f ∧ fs.lookup f = some y ∧ Q y H := by
  obtain ⟨a, C, dx, fs, e, h1, h2, h3, h4⟩ := h
  exact ⟨a, C, dx, fs, x, e, h1, h2, h3, h4, q⟩
/-! ### texts by their codes -/
def S (l : List Nat) : Str := ⟨l.toArray⟩
theorem S_list (l : List Nat) : (S l).cps.toList = l := rfl
theorem S_length (l : List Nat) : (S l).length = l.length := by
  show l.toArray.size = l.length
  simp
theorem S_of (s : Str) : S s.cps.toList = s := by
  cases s
  rfl
theorem S_inj {a b : List Nat} (h : S a = S b) : a = b := by
  have := congrArg (fun s : Str => s.cps.toList) h
  exact this
theorem S_app (a b : List Nat) : S a ++ S b = S (a ++ b) := by
  have h : (S a ++ S b).cps.toList = a ++ b := by
    show ((S a).cps ++ (S b).cps).toList = a ++ b
    rw [Array.toList_append] <;> rfl
  rw [← S_of (S a ++ S b), h]
/-- a letter of a to z -/
def small : List Nat := (List.range 26).map (· + 97)
theorem small_is : ("abcdefghijklmnopqrstuvwxyz" : Str) = S small := by decide +kernel
theorem mem_small {c : Nat} : c ∈ small ↔ 97 ≤ c ∧ c ≤ 122 := by
  unfold small
  rw [List.mem_map]
  constructor
  · rintro ⟨i, hi, rfl⟩
    have := List.mem_range.mp hi
    omega
  · rintro ⟨h1, h2⟩
    exact ⟨c - 97, List.mem_range.mpr (by omega), by omega⟩
/-- rows: different letters, ascending -/
structure RowsOk (r : List Nat) : Prop where
  pos : 1 ≤ r.length
  le : r.length ≤ 3
  sm : ∀ c ∈ r, c ∈ small
  asc : r.Pairwise (· < ·)
theorem RowsOk.nd {r : List Nat} (h : RowsOk r) : r.Nodup := h.asc.imp fun h => Nat.ne_of_lt h
end K84
set_option maxHeartbeats 4000000
namespace K84
open PySem PySem.Spec PyProof.Rows L2
/-! ### a list that is being filled; what is known beside it -/
def AccP (H1 : Hp) (D : Addr) (P : Nat → List V → Hp → Prop) (i : Nat) (H : Hp) : Prop := ∃ acc G, H D = some (.lst acc) ∧ G D = none ∧ Same H1 G ∧ Same G H ∧ P i acc G
section
variable {H1 : Hp} {D : Addr} {P : Nat → List V → Hp → Prop}
theorem AccP.start (hD : H1 D = none) (h : P 0 [] H1) : AccP H1 D P 0 (upd H1 D (.lst [])) := ⟨[], H1, upd_same, hD, L2.Same.refl _, same_new hD, h⟩
theorem AccP.push {i : Nat} {acc : List V} {G H4 : Hp} {y : V} (e : H4 D = some (.lst acc)) (hG : G D = none) (s1 : Same H1 G) (s : Same G H4) (hz : acc.length < sizeLine) (h : P (i + 1) (acc ++ [y]) G) :
    ∃ acc, H4 D = some (.lst acc) ∧ acc.length < sizeLine ∧ AccP H1 D P (i + 1) (upd H4 D (.lst (acc ++ [y]))) :=
  ⟨acc, e, hz, acc ++ [y], G, upd_same, hG, s1, L2.Same.mut s hG, h⟩
end
/-! ### comprehensions of two clauses -/
def LcIn (J1 : It) (g1 : TG) (tt1 : TT) (te : TE) (D : Addr) (σ2 : L2.St) (vs1 : List Nat) (H4 : Hp) (Nx : Hp → Prop) : Prop :=
  ∃ W1 : Nat → Nat → Hp → Prop, (∃ m, W1 0 m H4) ∧ ∀ j k H, W1 j k H →
    (J1.stop j H ∧ Nx H) ∨ (J1.go j H ∧ ∃ Nx1 : Hp → Prop, (∀ H', Nx1 H' → ∃ k', k' < k ∧ W1 (j + 1) k' H') ∧ ∀ x H', J1.yld j H x H' → g1 x (wipe σ2 vs1) H' fun σ3 H5 => wipe σ3 vs1 = wipe σ2 vs1 ∧ tt1 σ3 H5 fun b H6 =>
      if b = true then te σ3 H6 fun y H7 => ∃ acc, H7 D = some (.lst acc) ∧ acc.length < sizeLine ∧ Nx1 (upd H7 D (.lst (acc ++ [y]))) else Nx1 H6)
theorem in_it {J1 : It} {n1 : Nat} {G1 : Hp → Prop} {Y1 : Nat → Hp → V → Hp → Prop} (w : Walk J1 n1 G1 Y1) {g1 : TG} {tt1 : TT} {te : TE} {D : Addr} {σ2 : L2.St} {vs1 : List Nat} {H4 : Hp} {Nx : Hp → Prop} (Pv : Nat → Hp → Prop) (h0 : Pv 0 H4) (hG : ∀ i H, i ≤ n1 → Pv i H → G1 H)
    (hs : ∀ j x H H', j < n1 → Pv j H → Y1 j H x H' → g1 x (wipe σ2 vs1) H' fun σ3 H5 => wipe σ3 vs1 = wipe σ2 vs1 ∧ tt1 σ3 H5 fun b H6 =>
      if b = true then te σ3 H6 fun y H7 => ∃ acc, H7 D = some (.lst acc) ∧ acc.length < sizeLine ∧ Pv (j + 1) (upd H7 D (.lst (acc ++ [y]))) else Pv (j + 1) H6) (hd : ∀ H, Pv n1 H → Nx H) : LcIn J1 g1 tt1 te D σ2 vs1 H4 Nx := by
  refine ⟨fun i m H => m = n1 - i ∧ i ≤ n1 ∧ Pv i H, ⟨n1, by simp, Nat.zero_le _, h0⟩, ?_⟩
  rintro i m H ⟨rfl, hi, p⟩
  by_cases hlt : i < n1
  · exact .inr ⟨w.goes i H hlt (hG i H hi p), Pv (i + 1), fun H' p' => ⟨n1 - (i + 1), by omega, rfl, hlt, p'⟩, fun x H' y => hs i x H H' hlt p (w.yields i H x H' hlt (hG i H hi p) y)⟩
  · obtain rfl : i = n1 := by omega
    exact .inl ⟨w.stops H (hG i H hi p), hd H p⟩
theorem lc2_it {J : It} {n : Nat} {G : Hp → Prop} {Y : Nat → Hp → V → Hp → Prop} (w : Walk J n G Y) {g g1 : TG} {tt tt1 : TT} {te : TE} {wi1 : TI} {vs vs1 : List Nat} {σ : L2.St} {H1 : Hp} {D : Addr} {Qd : Hp → Prop} (Pv : Nat → Hp → Prop) (h0 : Pv 0 (upd H1 D (.lst []))) (hG : ∀ i H, i ≤ n → Pv i H → G H)
    (hs : ∀ i x H H', i < n → Pv i H → Y i H x H' → g x (wipe σ vs) H' fun σ2 H2 => wipe σ2 vs = wipe σ vs ∧ tt σ2 H2 fun b H3 =>
      if b = true then wi1 σ2 H3 fun J1 H4 => LcIn J1 g1 tt1 te D σ2 vs1 H4 (Pv (i + 1)) else Pv (i + 1) H3) (hd : ∀ H, Pv n H → Qd H) :
    ∃ W : Nat → Nat → Hp → Prop, (∃ m, W 0 m (upd H1 D (.lst []))) ∧ ∀ i m H, W i m H →
      (J.stop i H ∧ Qd H) ∨ (J.go i H ∧ ∃ Nx : Hp → Prop, (∀ H', Nx H' → ∃ m', m' < m ∧ W (i + 1) m' H') ∧ ∀ x H', J.yld i H x H' → g x (wipe σ vs) H' fun σ2 H2 => wipe σ2 vs = wipe σ vs ∧ tt σ2 H2 fun b H3 =>
        if b = true then wi1 σ2 H3 fun J1 H4 => LcIn J1 g1 tt1 te D σ2 vs1 H4 Nx else Nx H3) := by
  refine ⟨fun i m H => m = n - i ∧ i ≤ n ∧ Pv i H, ⟨n, by simp, Nat.zero_le _, h0⟩, ?_⟩
  rintro i m H ⟨rfl, hi, p⟩
  by_cases hlt : i < n
  · exact .inr ⟨w.goes i H hlt (hG i H hi p), Pv (i + 1), fun H' p' => ⟨n - (i + 1), by omega, rfl, hlt, p'⟩, fun x H' y => hs i x H H' hlt p (w.yields i H x H' hlt (hG i H hi p) y)⟩
  · obtain rfl : i = n := by omega
    exact .inl ⟨w.stops H (hG i H hi p), hd H p⟩
/-! ### a reading in other words (inside a block the frame's own name of the kit is used) -/
theorem peK {X : Cx} {e : Expr} {t t' : TE} (h : PE X e t) (hk : t = t') : PE X e t' := hk ▸ h
theorem piK {X : Cx} {tg e : Expr} {t t' : TI} (h : PI X tg e t) (hk : t = t') : PI X tg e t' := hk ▸ h
theorem pgK {X : Cx} {e : Expr} {t t' : TG} (h : PG X e t) (hk : t = t') : PG X e t' := hk ▸ h
def rLenQ (K : PySem.W.Frag) : List V → Hp → VK → Prop := fun xs H Q => ∃ p ys, xs = [.ref p] ∧ (SqL K H p ys ∨ SqT K H p ys) ∧ Q (.int ys.length) H
/-! ### slices of texts -/
theorem sIx_some {n d k : Nat} (h : k ≤ n) : HT.sIx n d (some (k : Int)) = k := by
  unfold HT.sIx
  simp only [] <;> split <;> omega
theorem cut_to {l : List Nat} {k : Nat} (h : k ≤ l.length) : cutS (S l) none (some (k : Int)) = S (l.take k) := by
  have e : (S l).length = l.length := S_length l
  unfold cutS
  rw [e, sIx_some h]
  show S ((l.drop 0).take (k - 0)) = _
  rfl
theorem cut_from {l : List Nat} {k : Nat} (h : k ≤ l.length) : cutS (S l) (some (k : Int)) none = S (l.drop k) := by
  have e : (S l).length = l.length := S_length l
  unfold cutS
  rw [e, sIx_some h]
  show S ((l.drop k).take (l.length - k)) = _
  rw [List.take_of_length_le (by rw [List.length_drop]; exact Nat.le_refl _)]
theorem cut_mid {l : List Nat} {i j : Nat} (hi : i ≤ l.length) (hj : j ≤ l.length) : cutS (S l) (some (i : Int)) (some (j : Int)) = S ((l.drop i).take (j - i)) := by
  have e : (S l).length = l.length := S_length l
  unfold cutS
  rw [e, sIx_some hi, sIx_some hj]
  rfl
end K84
set_option maxHeartbeats 4000000
namespace K84
open PySem PySem.Spec PyProof.Rows L2
/-! ### errors: made without arguments, raised, caught -/
section
variable {X : Cx} {C : Addr} {bmB : List Value} {B newId initId : String}
theorem pmk_own0 {x : Str} {p pos : Pos} (F : ExcBaseFacts B newId initId bmB) (q : PySem.W.excIn X.K C bmB newId = true) (gC : X.mg x = some (.ref C)) (kC : PySem.W.keepIn X.K (.ref C) = true) (r : Raises X (.ref C)) (hg : Gl X x)
    (hdb : (x == ("__debug__" : Str)) = false := by decide) : PMk X (.Call (.Name x p) [] [] pos) (fun _ H Q => Q (.ref C) none H) := by
  intro pins s σ H Q I h
  refine wpAny_Call_Name_kw (ld_glob I hg gC ?_ hdb)
  refine PySem.W.callWith_K0 I.kIn kC ?_
  obtain ⟨bm, N, nm, qn, bs, hdct, sn, sub, ab, col, dd, k0, k1, k2, k3, k5, mN, hC, hN, hni, tl⟩ := exc_obj I.kIn q
  exact wpAny_call_exc_subT F tl hC hN hni (fun h' e hm => mk_of I hm r h (I.hok.gone hm.new)) (by show 0 ≤ sizeLine; exact Nat.zero_le _)
end
theorem pmk_x {X : Cx} {x : Str} {p pos : Pos} (h : XF X.K X.mg x) (hg : Gl X x) (hdb : (x == ("__debug__" : Str)) = false := by decide) : PMk X (.Call (.Name x p) [] [] pos) (fun _ H Q => Q (.ref (He.ga X.K x)) none H) :=
  pmk_own0 PySem.F.excBase_ValueError h.i h.g h.k (raises_own h.s h.t) hg hdb
/-- isinstance(e, c), e the error that the suite holds -/
def rIsE2 (K : PySem.W.Frag) (a : Addr) (cls : Value) (d : Option Addr) : List V → Hp → VK → Prop := fun xs H Q => ∃ (D : Addr) (c : V) (cv : Value) (b : Bool), cls = .ref D ∧ d = none ∧ ExcC K D ∧ xs = [.ref a, c] ∧ (∀ u, RelV c u → u = cv) ∧ PySem.W.kitOne K (.ref D) cv = some b ∧ Q (.bl b) H
theorem call_isE2 {X : Cx} {a : Addr} {cls : Value} {d : Option Addr} {oe : Obj} {pn : List (Addr × Obj)} (hz : Zc cls d oe) (hf : ∃ vs, oe.data = .fields vs) : CallR (X.suite a ((a, oe) :: pn)) (.builtin "isinstance") (rIsE2 X.K a cls d) := by
  intro pins s σ H xs us Q I r h
  obtain ⟨D, c, cv, b, rfl, rfl, hD, e1, e2, e3, q⟩ := h
  exact call_isE hD hz hf pins s σ H xs us Q I r ⟨c, cv, b, e1, e2, e3, q⟩

/-! ### classes: made, methods -/
/-- a def of a class's body -/
structure DfM (K : PySem.W.Frag) (C : Addr) (m q : Str) (st : Stmt) (f : Addr) : Prop where
  fd : ∃ (fd : FuncData), FunD K m q (defArgs st) (defBody st) (defScope st) [] [] f fd
def ClM (P : Program) (w : World) (K : PySem.W.Frag) (mg : Str → Option Value) (base : Heap) (k : Nat) (x : Str) (C : Addr) (sp : Sp) : Prop :=
  ∃ (f : Addr) (fd : FuncData) (ps : List Str), Mk K C f ∧ FnOk P w K mg base CX0 k f fd ps sp ∧ mg x = some (.ref C) ∧ Binds K fd ps []
theorem pe_mkl {X : Cx} {k j : Nat} {x : Str} {C : Addr} {sp : Sp} {e : Expr} {es : List Expr} {t : TA} {p pos : Pos} (c : ClM X.prog X.w X.K X.mg X.base k x C sp) (hr : Room j X.A) (hk : k + 1 ≤ j) (hx : Passes CX0 X E0) (ha : PA X (e :: es) t) (hg : Gl X x := by rfl)
    (hdb : (x == ("__debug__" : Str)) = false := by decide) (he : starEach (e :: es) X.env = (false, eval e X.env) :: starEach es X.env := by rfl) (hpl : (backTo pos (starEach es X.env)).any (·.1) = false := by rfl) :
    PE X (.Call (.Name x p) (e :: es) [] pos) (tMake C sp [] E0 t) := by
  obtain ⟨f, fd, ps, M, F, hm, b⟩ := c
  exact pe_make M F (hr.mono hk) hg hm b .nil hx ha hdb he hpl
def ClK (P : Program) (w : World) (K : PySem.W.Frag) (mg : Str → Option Value) (base : Heap) (k : Nat) (m : Str) (C : Addr) (sp : Sp) : Prop :=
  ∃ (f : Addr) (fd : FuncData) (ps : List Str), Cls K C ∧ Meth K C m f ∧ FnOk P w K mg base CX0 k f fd ps sp ∧ Binds K fd ps []
theorem pe_mtl {X : Cx} {k j : Nat} {m : Str} {C : Addr} {sp : Sp} {o e : Expr} {es : List Expr} {to : TE} {t : TA} {apos pos : Pos} {pl : Sem Bool} (c : ClK X.prog X.w X.K X.mg X.base k m C sp) (hr : Room j X.A) (hk : k ≤ j) (hx : Passes CX0 X E0) (ho : PE X o to) (ha : PA X (e :: es) t)
    (hst : starEach (e :: es) X.env = (false, eval e X.env) :: starEach es X.env := by rfl) (hpl : (backTo pos (starEach es X.env)).any (·.1) = false := by rfl)
    (ht : eval (.Call (.Attribute o m apos) (e :: es) [] pos) X.env = (do
      let ov ← eval o X.env
      standAt apos.atName
      let (f, first) ← holding [ov] (getMethod ov m pl)
      callWith pos f first (backTo pos (starEach (e :: es) X.env)) (backToKw pos (keywordEach [] X.env))) := by rfl) :
    PE X (.Call (.Attribute o m apos) (e :: es) [] pos) (tMeth C m sp [] E0 to t) := by
  obtain ⟨f, fd, ps, cl, M, F, b⟩ := c
  exact pe_meth ho cl M F (hr.mono hk) b .nil hx ha hst hpl ht
section
variable {P : Program} {w : World} {K : PySem.W.Frag} {mg : Str → Option Value} {base : Heap} {m q : Str} {st : Stmt} {N : List Str} {k : Nat} {C f : Addr}
theorem DfM.ok4 {p1 p2 p3 p4 : Str} {f4 : V → V → V → V → Hp → VK → XK → Prop} (D : DfM K C m q st f) (S : FnScope N [p1, p2, p3, p4] (defScope st))
    (bd : ∀ (kV doc pm : Value) (an : Option Addr) (cdv ct : Value) (us : List Value), us.length = 4 → bindArgs (PySem.W.fnOf m q (defArgs st) (defBody st) (defScope st) .none kV doc pm an cdv ct) ⟨us, []⟩ = pure ([p1, p2, p3, p4].zip us))
    (body : ∀ (cdv : Value) (A : Around) (outer : List Env) (s : Shared) (H : Hp) (a b c d : V) (Q : VK) (E : XK), Room k (A.deeper (envOfC q (defScope st) s.heap.objs.size f cdv)) → f4 a b c d H Q E →
      ∃ t, PSs (cxOf CX0 P w K mg base N q (defScope st) f cdv A outer s H E) (defBody st) t ∧ t { nx := fun _ H' => Q .non H', rt := Q } (start N [a, b, c, d]) H) :
    ∃ fd ps, FnOk P w K mg base CX0 (k + 1) f fd ps (sp4 f4) ∧ Binds K fd ps [] := by
  obtain ⟨fd, F⟩ := D.fd
  exact ⟨fd, [p1, p2, p3, p4], F.ok S (fun _ _ _ _ ⟨_, _, _, _, e, _⟩ => by rw [e] <;> rfl) (fun cdv A outer s H vs Q E hr ⟨a, b, c, d, e, h⟩ => by
    subst e
    exact body cdv A outer s H a b c d Q E hr h), F.bindsN bd⟩
end

/-! ### texts -/
theorem foldl_cat : ∀ (n : Nat) (acc : Array Nat) (z : List Nat), ((List.replicate n z.toArray).foldl (· ++ ·) acc).toList = acc.toList ++ (List.replicate n z).flatten
  | 0, acc, z => by simp
  | n + 1, acc, z => by
    rw [List.replicate_succ, List.foldl_cons, foldl_cat n, List.replicate_succ, List.flatten_cons, Array.toList_append, List.append_assoc]
theorem op_repS {X : Cx} : OpR X (binaryOp .Mult) (fun x y H Q => ∃ (z : List Nat) (k : Nat), x = .str (S z) ∧ y = .int k ∧ 2 ≤ k ∧ k ≤ 100 ∧ z.length ≤ 100 ∧ Q (.str (S (List.replicate k z).flatten)) H) := by
  intro pins s σ H x y v u Q I rx ry h
  obtain ⟨z, k, rfl, rfl, h1, h2, h3, q⟩ := h
  obtain ⟨t, rfl⟩ := rx
  obtain ⟨t', rfl⟩ := ry
  have hz : (S z).length = z.length := S_length z
  by_cases h0 : z.length = 0
  · have ez : z = [] := List.length_eq_zero_iff.mp h0
    subst ez
    have e : (List.replicate k ([] : List Nat)).flatten = [] := by simp
    rw [e] at q
    refine PySem.P.mul_str ?_ (fun _ c => ?_) (fun _ c => ?_) ?_
    · rw [decide_eq_false (by omega), decide_eq_false (by omega)] <;> rfl
    · rw [hz, h0] at c
      simp at c
    · rw [hz, h0] at c
      simp at c
    · rw [if_neg (by omega), if_pos (by rw [hz, h0]; simp)]
      exact ⟨.str (S []), H, I, ⟨_, rfl⟩, q⟩
  · refine PySem.P.mul_str ?_ (fun _ _ => ?_) (fun _ _ => ?_) ?_
    · rw [decide_eq_false (by omega), decide_eq_false (by omega)] <;> rfl
    · have hd : (2 ^ 63 - 1) / (k : Int) ≥ (2 ^ 63 - 1) / 100 := by
        refine Int.le_ediv_of_mul_le (by omega) ?_
        have : ((2 ^ 63 - 1) / 100 : Int) * (k : Int) ≤ ((2 ^ 63 - 1) / 100 : Int) * 100 := Int.mul_le_mul_of_nonneg_left (by omega) (by decide)
        exact Int.le_trans this (by decide)
      have e100 : ((2 ^ 63 - 1) / 100 : Int) ≥ 100 := by decide
      rw [hz]
      omega
    · have hb : (S z).length * ((k : Nat) : Int).toNat ≤ 10000 := by
        rw [hz, Int.toNat_natCast]
        exact Nat.le_trans (Nat.mul_le_mul h3 h2) (by decide)
      exact decide_eq_false (Nat.not_lt.mpr (Nat.le_trans hb (by rw [sizeLine_eq]; decide)))
    · rw [if_neg (by omega), if_neg (by
        intro c
        rw [hz] at c
        simp at c
        rcases c with c | c
        · omega
        · exact h0 (by rw [c] <;> rfl))]
      have e : (⟨(List.replicate ((k : Nat) : Int).toNat (S z).cps).foldl (· ++ ·) #[]⟩ : Str) = S (List.replicate k z).flatten := by
        have e1 := foldl_cat k #[] z
        rw [Int.toNat_natCast]
        rw [← S_of ⟨(List.replicate k (S z).cps).foldl (· ++ ·) #[]⟩]
        congr 1
      rw [e]
      have hlen : (S (List.replicate k z).flatten).length ≤ sizeLine := by
        rw [S_length, List.length_flatten, List.map_replicate, List.sum_replicate_nat]
        exact Nat.le_trans (Nat.mul_le_mul h2 h3) (by rw [sizeLine_eq]; decide)
      first
        | exact ⟨hlen, .str _, H, I.tok _, ⟨_, rfl⟩, q⟩
        | exact ⟨.str _, H, I.tok _, ⟨_, rfl⟩, q⟩
end K84
namespace K84
/-! ### fractions: a top and a bottom in lowest terms -/
abbrev Fq := Int × Int
def low (t b : Int) : Fq := (t / (Int.gcd t b : Nat), b / (Int.gcd t b : Nat))
def fplus (p q : Fq) : Fq := low (p.1 * q.2 + q.1 * p.2) (p.2 * q.2)
def fless (p q : Fq) : Bool := decide (p.1 * q.2 < q.1 * p.2)
def fsum (l : List Fq) : Fq := l.foldl fplus (0, 1)
/-- so many bits at most, the bottom above 0 -/
def FB (n : Nat) (q : Fq) : Prop := q.1.natAbs < 2 ^ n ∧ 0 < q.2 ∧ q.2.natAbs < 2 ^ n
theorem gcd_pos {t b : Int} (h : 0 < b) : 0 < (Int.gcd t b : Int) := by
  have : 0 < Int.gcd t b := Int.gcd_pos_of_ne_zero_right t (by omega)
  omega
theorem low_scale {k t b : Int} (hk : 0 < k) : low (k * t) (k * b) = low t b := by
  unfold low
  have e : ((Int.gcd (k * t) (k * b) : Nat) : Int) = k * (Int.gcd t b : Nat) := by
    rw [Int.gcd_mul_left]
    have : ((k.natAbs : Nat) : Int) = k := by omega
    rw [Int.natCast_mul, this]
  rw [e, Int.mul_ediv_mul_of_pos _ _ hk, Int.mul_ediv_mul_of_pos _ _ hk]
theorem low_same {a b d : Int} (hd : 0 < d) : low (a + b) d = low (a * d + b * d) (d * d) := by
  rw [← Int.add_mul, Int.mul_comm (a + b) d, low_scale hd]
theorem low_pos {t b : Int} (hb : 0 < b) : 0 < (low t b).2 := by
  have g := gcd_pos (t := t) hb
  have d : (Int.gcd t b : Int) ∣ b := Int.gcd_dvd_right ..
  exact Int.ediv_pos_of_pos_of_dvd hb (by omega) d
theorem low_coprime {t b : Int} (hb : 0 < b) : Int.gcd (low t b).1 (low t b).2 = 1 := by
  unfold low
  have g : 0 < Int.gcd t b := Int.gcd_pos_of_ne_zero_right t (by omega)
  exact Int.gcd_ediv_gcd_ediv_gcd g
theorem natAbs_ediv_le (t : Int) {g : Int} (hg : 0 < g) : (t / g).natAbs ≤ t.natAbs := by
  have h := Int.natAbs_ediv_le_natAbs t g
  exact h
theorem low_fb {n : Nat} {t b : Int} (hb : 0 < b) (h1 : t.natAbs < 2 ^ n) (h2 : b.natAbs < 2 ^ n) : FB n (low t b) := by
  refine ⟨?_, low_pos hb, ?_⟩
  · exact Nat.lt_of_le_of_lt (natAbs_ediv_le t (gcd_pos hb)) h1
  · exact Nat.lt_of_le_of_lt (natAbs_ediv_le b (gcd_pos hb)) h2
theorem mul_bits {i j : Int} {a b : Nat} (ha : i.natAbs < 2 ^ a) (hb : j.natAbs < 2 ^ b) : (i * j).natAbs < 2 ^ (a + b) := by
  rw [Int.natAbs_mul, Nat.pow_add]
  exact Nat.mul_lt_mul'' ha hb
theorem FB.mono {n m : Nat} {q : Fq} (h : FB n q) (hm : n ≤ m) : FB m q :=
  ⟨Nat.lt_of_lt_of_le h.1 (Nat.pow_le_pow_right (by decide) hm), h.2.1, Nat.lt_of_lt_of_le h.2.2 (Nat.pow_le_pow_right (by decide) hm)⟩
theorem cross_bits {a b : Nat} {p q : Fq} (hp : FB a p) (hq : FB b q) : (p.1 * q.2 + q.1 * p.2).natAbs < 2 ^ (a + b + 1) ∧ 0 < p.2 * q.2 ∧ (p.2 * q.2).natAbs < 2 ^ (a + b + 1) := by
  have h1 := mul_bits hp.1 hq.2.2
  have h2 := mul_bits hq.1 hp.2.2
  have h3 := mul_bits hp.2.2 hq.2.2
  rw [Nat.add_comm b a] at h2
  have e : 2 ^ (a + b + 1) = 2 ^ (a + b) + 2 ^ (a + b) := by rw [Nat.pow_succ]; omega
  refine ⟨?_, Int.mul_pos hp.2.1 hq.2.1, by rw [e]; omega⟩
  have := Int.natAbs_add_le (p.1 * q.2) (q.1 * p.2)
  rw [e]
  omega
theorem fplus_fb {a b : Nat} {p q : Fq} (hp : FB a p) (hq : FB b q) : FB (a + b + 1) (fplus p q) :=
  let ⟨h1, h2, h3⟩ := cross_bits hp hq
  low_fb h2 h1 h3
theorem fsum_snoc (l : List Fq) (q : Fq) : fsum (l ++ [q]) = fplus (fsum l) q := by
  unfold fsum
  rw [List.foldl_append]
  rfl
theorem fsum_take {l : List Fq} {i : Nat} {q : Fq} (h : l[i]? = some q) : fsum (l.take (i + 1)) = fplus (fsum (l.take i)) q := by
  rw [List.take_add_one, h]
  exact fsum_snoc _ _
theorem fsum_fb {m : Nat} : ∀ {l : List Fq}, (∀ q ∈ l, FB m q) → FB (1 + (m + 1) * l.length) (fsum l) := by
  intro l
  suffices H : ∀ (l : List Fq) (a : Nat) (p : Fq), FB a p → (∀ q ∈ l, FB m q) → FB (a + (m + 1) * l.length) (l.foldl fplus p) from
    fun h => H l 1 (0, 1) ⟨by decide, by decide, by decide⟩ h
  intro l
  induction l with
  | nil => intro a p hp _; simpa using hp
  | cons x r ih =>
    intro a p hp h
    have h1 := fplus_fb hp (h x List.mem_cons_self)
    have h2 := ih _ _ h1 (fun q hq => h q (List.mem_cons_of_mem _ hq))
    show FB _ (r.foldl fplus (fplus p x))
    refine h2.mono ?_
    rw [List.length_cons, Nat.mul_add]
    omega
/-! ### Euclid -/
theorem gcd_step (a b : Nat) : Nat.gcd b (a % b) = Nat.gcd a b := by
  rw [Nat.gcd_comm a b, Nat.gcd_rec b a]
  exact Nat.gcd_comm _ _
/-- two numbers of a turn lose a third of their sum -/
theorem euclid_step {x y : Nat} (h0 : 0 < y) (h : y ≤ x) : 3 * (x % y + y) ≤ 2 * (y + x) := by
  have h1 := Nat.mod_lt x h0
  have h2 : x % y + y ≤ x := by
    have := Nat.div_add_mod x y
    have h3 : 1 ≤ x / y := (Nat.one_le_div_iff h0).mpr h
    have h4 : y * 1 ≤ y * (x / y) := Nat.mul_le_mul_left y h3
    omega
  omega
/-- what the loop of _law_lowest keeps: y is taken next -/
def Eu (c i x y : Nat) : Prop := i = 0 ∨ (y ≤ x ∧ (y + x) * 3 ^ (i - 1) ≤ (c + c) * 2 ^ (i - 1))
theorem Eu.next {c i x y : Nat} (h : Eu c i x y) (h0 : 0 < y) (hx : i = 0 → y < c) : Eu c (i + 1) y (x % y) := by
  refine .inr ⟨Nat.le_of_lt (Nat.mod_lt _ h0), ?_⟩
  by_cases hi : i = 0
  · subst hi
    have h1 := Nat.mod_lt x h0
    have h2 := hx rfl
    have q : (x % y + y) * 1 ≤ (c + c) * 1 := by omega
    exact q
  · rcases h with h | ⟨h1, h2⟩
    · exact absurd h hi
    · have s := euclid_step h0 h1
      obtain ⟨j, rfl⟩ : ∃ j, i = j + 1 := ⟨i - 1, by omega⟩
      show (x % y + y) * 3 ^ (j + 1) ≤ (c + c) * 2 ^ (j + 1)
      have h2' : (y + x) * 3 ^ j ≤ (c + c) * 2 ^ j := h2
      have e1 : (x % y + y) * 3 ^ (j + 1) = (3 * (x % y + y)) * 3 ^ j := by rw [Nat.pow_succ, Nat.mul_comm (3 ^ j) 3, ← Nat.mul_assoc, Nat.mul_comm (x % y + y) 3]
      have e2 : (c + c) * 2 ^ (j + 1) = 2 * ((c + c) * 2 ^ j) := by rw [Nat.pow_succ, ← Nat.mul_assoc, Nat.mul_comm _ 2]
      rw [e1, e2]
      exact Nat.le_trans (Nat.mul_le_mul_right _ s) (by rw [Nat.mul_assoc]; exact Nat.mul_le_mul_left _ h2')
theorem euBound : (2 ^ 1501 + 2 ^ 1501) * 2 ^ 3999 < 3 ^ 3999 := by decide +kernel
theorem Eu.done {c x y : Nat} (h : Eu c 4000 x y) (hc : c ≤ 2 ^ 1501) : y = 0 := by
  rcases h with h | ⟨h1, h2⟩
  · exact absurd h (by decide)
  · apply Classical.byContradiction
    intro hy
    have h3 : 1 * 3 ^ 3999 ≤ (y + x) * 3 ^ 3999 := Nat.mul_le_mul_right _ (by clear h2; omega)
    have h4 : (c + c) * 2 ^ 3999 ≤ (2 ^ 1501 + 2 ^ 1501) * 2 ^ 3999 := Nat.mul_le_mul_right _ (Nat.add_le_add hc hc)
    have h5 := Nat.le_trans h3 (Nat.le_trans h2 h4)
    rw [Nat.one_mul] at h5
    exact absurd h5 (Nat.not_le_of_lt euBound)
end K84
namespace K84
open PySem
/-! ### orders of texts, by their codes -/
abbrev Wd := List Nat
def lsle (a b : Wd) : Bool := decide (a ≤ b)
theorem lsle_trans (a b c : Wd) (h1 : lsle a b = true) (h2 : lsle b c = true) : lsle a c = true := by
  unfold lsle at *
  exact decide_eq_true (List.le_trans (of_decide_eq_true h1) (of_decide_eq_true h2))
theorem lsle_total (a b : Wd) : (lsle a b || lsle b a) = true := by
  unfold lsle
  rcases List.le_total a b with h | h
  · rw [decide_eq_true h] <;> rfl
  · rw [decide_eq_true h]
    exact Bool.or_true _
theorem lsle_anti {a b : Wd} (h1 : lsle a b = true) (h2 : lsle b a = true) : a = b := List.le_antisymm (of_decide_eq_true h1) (of_decide_eq_true h2)
def srt (l : List Wd) : List Wd := l.mergeSort lsle
theorem srt_perm (l : List Wd) : (srt l).Perm l := List.mergeSort_perm l lsle
theorem srt_pw (l : List Wd) : (srt l).Pairwise (fun a b => lsle a b = true) := List.pairwise_mergeSort lsle_trans lsle_total l
theorem srt_congr {a b : List Wd} (h : a.Perm b) : srt a = srt b := by
  refine List.Perm.eq_of_pairwise (le := fun a b => lsle a b = true) (fun x y _ _ h1 h2 => lsle_anti h1 h2) (srt_pw a) (srt_pw b) ?_
  exact (srt_perm a).trans (h.trans (srt_perm b).symm)
theorem mem_srt {l : List Wd} {x : Wd} : x ∈ srt l ↔ x ∈ l := (srt_perm l).mem_iff
theorem srt_length (l : List Wd) : (srt l).length = l.length := (srt_perm l).length_eq
theorem srt_nodup {l : List Wd} (h : l.Nodup) : (srt l).Nodup := (srt_perm l).nodup_iff.mpr h
/-! ### stretches -/
def caret : Nat := 94
def stq (w : Nat) (c : Wd) : List Wd := (List.range c.length).map fun i => if w ≤ i + 1 then (c.drop (i + 1 - w)).take w else caret :: c.take (i + 1)
theorem stq_length (w : Nat) (c : Wd) : (stq w c).length = c.length := by unfold stq; rw [List.length_map, List.length_range]
def codes (r : Wd) : Nat → List Wd
  | 0 => [[]]
  | n + 1 => (codes r n).flatMap fun c => r.map fun x => c ++ [x]
theorem codes_length (r : Wd) : ∀ n, (codes r n).length = r.length ^ n
  | 0 => rfl
  | n + 1 => by
    have h : ∀ l : List Wd, (l.flatMap fun c => r.map fun x => c ++ [x]).length = l.length * r.length := by
      intro l
      induction l with
      | nil => simp
      | cons a l ih =>
        rw [List.flatMap_cons, List.length_append, ih, List.length_map, List.length_cons, Nat.add_mul]
        omega
    show ((codes r n).flatMap _).length = _
    rw [h, codes_length r n, Nat.pow_succ]
theorem mem_codes {r : Wd} : ∀ {n : Nat} {c : Wd}, c ∈ codes r n ↔ c.length = n ∧ ∀ x ∈ c, x ∈ r
  | 0, c => by
    show c ∈ [[]] ↔ _
    rw [List.mem_singleton]
    constructor
    · rintro rfl
      exact ⟨rfl, fun x hx => by cases hx⟩
    · rintro ⟨h, _⟩
      exact List.length_eq_zero_iff.mp h
  | n + 1, c => by
    show c ∈ (codes r n).flatMap _ ↔ _
    rw [List.mem_flatMap]
    constructor
    · rintro ⟨d, hd, hc⟩
      obtain ⟨x, hx, rfl⟩ := List.mem_map.mp hc
      obtain ⟨h1, h2⟩ := mem_codes.mp hd
      refine ⟨by rw [List.length_append, h1] <;> rfl, fun y hy => ?_⟩
      rcases List.mem_append.mp hy with h | h
      · exact h2 y h
      · rw [List.mem_singleton.mp h]
        exact hx
    · rintro ⟨h1, h2⟩
      have hne : c ≠ [] := by
        rintro rfl
        cases h1
      refine ⟨c.dropLast, mem_codes.mpr ⟨by rw [List.length_dropLast, h1] <;> rfl, fun y hy => h2 y ((List.dropLast_sublist c).subset hy)⟩, ?_⟩
      exact List.mem_map.mpr ⟨c.getLast hne, h2 _ (List.getLast_mem hne), List.dropLast_concat_getLast hne⟩
theorem codes_nodup {r : Wd} (h : r.Nodup) : ∀ n, (codes r n).Nodup
  | 0 => by simp [codes]
  | n + 1 => by
    show ((codes r n).flatMap _).Nodup
    unfold List.Nodup
    rw [List.pairwise_flatMap]
    refine ⟨fun c _ => ?_, ?_⟩
    · rw [List.pairwise_map]
      refine h.imp fun hne he => ?_
      exact hne (by simpa using List.append_cancel_left he)
    · refine (codes_nodup h n).imp fun hne x hx y hy he => ?_
      obtain ⟨a, _, rfl⟩ := List.mem_map.mp hx
      obtain ⟨b, _, e⟩ := List.mem_map.mp hy
      rw [← e] at he
      exact hne (List.append_inj_left' he rfl)
def extra (r : Wd) (m : Nat) : List Wd := (List.range m).flatMap fun l => (codes r (l + 1)).map (caret :: ·)
theorem extra_succ (r : Wd) (m : Nat) : extra r (m + 1) = extra r m ++ (codes r (m + 1)).map (caret :: ·) := by
  unfold extra
  rw [List.range_succ, List.flatMap_append]
  simp
theorem mem_extra {r : Wd} {m : Nat} {c : Wd} : c ∈ extra r m ↔ ∃ d, c = caret :: d ∧ 1 ≤ d.length ∧ d.length ≤ m ∧ ∀ x ∈ d, x ∈ r := by
  unfold extra
  rw [List.mem_flatMap]
  constructor
  · rintro ⟨l, hl, hc⟩
    obtain ⟨d, hd, rfl⟩ := List.mem_map.mp hc
    obtain ⟨h1, h2⟩ := mem_codes.mp hd
    have := List.mem_range.mp hl
    exact ⟨d, rfl, by omega, by omega, h2⟩
  · rintro ⟨d, rfl, h1, h2, h3⟩
    exact ⟨d.length - 1, List.mem_range.mpr (by omega), List.mem_map.mpr ⟨d, mem_codes.mpr ⟨by omega, h3⟩, rfl⟩⟩
def allst (r : Wd) (w : Nat) : List Wd := codes r w ++ extra r (w - 1)
/-- the names of the stretches, sorted -/
def st (r : Wd) (w : Nat) : List Wd := srt (allst r w)
theorem st_law (r : Wd) (w : Nat) : srt (extra r (w - 1) ++ codes r w) = st r w := srt_congr List.perm_append_comm
theorem caret_small : caret ∉ small := by decide
theorem extra_nodup {r : Wd} (h : r.Nodup) (m : Nat) : (extra r m).Nodup := by
  unfold extra List.Nodup
  rw [List.pairwise_flatMap]
  refine ⟨fun l _ => ?_, ?_⟩
  · rw [List.pairwise_map]
    exact (codes_nodup h _).imp fun hne he => hne (List.cons.inj he).2
  · refine List.pairwise_lt_range.imp fun hlt x hx y hy he => ?_
    obtain ⟨a, ha, rfl⟩ := List.mem_map.mp hx
    obtain ⟨b, hb, e⟩ := List.mem_map.mp hy
    rw [← e] at he
    have h1 := (mem_codes.mp ha).1
    have h2 := (mem_codes.mp hb).1
    have := (List.cons.inj he).2
    rw [this] at h1
    omega
theorem allst_nodup {r : Wd} (h : RowsOk r) (w : Nat) : (allst r w).Nodup := by
  unfold allst
  refine List.nodup_append.mpr ⟨codes_nodup h.nd w, extra_nodup h.nd _, fun a ha b hb e => ?_⟩
  obtain ⟨d, rfl, _⟩ := mem_extra.mp hb
  subst e
  exact caret_small (h.sm _ ((mem_codes.mp ha).2 caret List.mem_cons_self))
theorem st_nodup {r : Wd} (h : RowsOk r) (w : Nat) : (st r w).Nodup := srt_nodup (allst_nodup h w)
theorem st_length {r : Wd} {w : Nat} (h : RowsOk r) (h1 : 1 ≤ w) (hw : w ≤ 2) : (st r w).length ≤ 12 := by
  unfold st
  rw [srt_length]
  unfold allst
  rw [List.length_append, codes_length]
  have hl := h.le
  have e : w = 1 ∨ w = 2 := by omega
  rcases e with rfl | rfl
  · show r.length ^ 1 + 0 ≤ 12
    rw [Nat.pow_one]
    omega
  · show r.length ^ 2 + (extra r (0 + 1)).length ≤ 12
    rw [extra_succ, List.length_append, List.length_map, codes_length]
    show r.length ^ 2 + (0 + r.length ^ 1) ≤ 12
    have : r.length ^ 2 ≤ 3 ^ 2 := Nat.pow_le_pow_left hl 2
    rw [Nat.pow_one]
    omega
theorem st_word {r : Wd} {w : Nat} {x : Wd} (h : x ∈ st r w) : x.length ≤ w ∧ (1 ≤ w → 1 ≤ x.length) := by
  rcases List.mem_append.mp (mem_srt.mp h) with h | h
  · have := (mem_codes.mp h).1
    omega
  · obtain ⟨d, rfl, h1, h2, _⟩ := mem_extra.mp h
    rw [List.length_cons]
    omega
/-- the last letter is a row's -/
theorem st_last {r : Wd} {w : Nat} {x : Wd} (h : x ∈ st r w) (hw : 1 ≤ w) : ∃ c, x.getLast? = some c ∧ c ∈ r := by
  rcases List.mem_append.mp (mem_srt.mp h) with h | h
  · obtain ⟨h1, h2⟩ := mem_codes.mp h
    have hne : x ≠ [] := by
      rintro rfl
      rw [← h1] at hw
      cases hw
    exact ⟨x.getLast hne, List.getLast?_eq_some_getLast hne, h2 _ (List.getLast_mem hne)⟩
  · obtain ⟨d, rfl, h1, h2, h3⟩ := mem_extra.mp h
    have hne : d ≠ [] := by
      rintro rfl
      cases h1
    refine ⟨d.getLast hne, ?_, h3 _ (List.getLast_mem hne)⟩
    rw [List.getLast?_cons, List.getLast?_eq_some_getLast hne] <;> rfl
theorem stq_mem {r c : Wd} {w : Nat} (h : ∀ x ∈ c, x ∈ r) {x : Wd} (hx : x ∈ stq w c) : x ∈ st r w := by
  refine mem_srt.mpr (List.mem_append.mpr ?_)
  unfold stq at hx
  obtain ⟨i, hi, rfl⟩ := List.mem_map.mp hx
  have hi := List.mem_range.mp hi
  by_cases hw : w ≤ i + 1
  · rw [if_pos hw]
    refine .inl (mem_codes.mpr ⟨?_, fun y hy => h y (List.mem_of_mem_drop (List.mem_of_mem_take hy))⟩)
    rw [List.length_take, List.length_drop]
    omega
  · rw [if_neg hw]
    refine .inr (mem_extra.mpr ⟨_, rfl, ?_, ?_, fun y hy => h y (List.mem_of_mem_take hy)⟩) <;> (rw [List.length_take]; omega)
/-- the price of a code by the table tb -/
def prc (tb : Wd → Fq) (w : Nat) (c : Wd) : Fq := fsum ((stq w c).map tb)
end K84
set_option maxHeartbeats 4000000
namespace K84
open PySem PySem.Spec PyProof.Rows L2
section
variable {prog : Program} {w : World} {A : Around} {E : Value → Shared → Prop} {s : Shared}
theorem strs_each : ∀ {vs : List Value} {xs : List Str}, StrsAre vs xs → PySem.W.EachIs (fun v x => ∃ t, v = .str x t) vs xs
  | _, _, .nil => .nil
  | _, _, .cons x t h => .cons ⟨t, rfl⟩ (strs_each h)
theorem each_strs : ∀ {vs : List Value} {xs : List Str}, PySem.W.EachIs (fun v x => ∃ t, v = .str x t) vs xs → StrsAre vs xs
  | _, _, .nil => .nil
  | _, _, .cons ⟨t, e⟩ h => by
    subst e
    exact .cons _ t (each_strs h)
theorem ints_each : ∀ {vs : List Value} {xs : List Int}, IntsAre vs xs → PySem.W.EachIs (fun v x => ∃ t, v = .int x t) vs xs
  | _, _, .nil => .nil
  | _, _, .cons x t h => .cons ⟨t, rfl⟩ (ints_each h)
theorem each_ints : ∀ {vs : List Value} {xs : List Int}, PySem.W.EachIs (fun v x => ∃ t, v = .int x t) vs xs → IntsAre vs xs
  | _, _, .nil => .nil
  | _, _, .cons ⟨t, e⟩ h => by
    subst e
    exact .cons _ t (each_ints h)
/-- what was gathered, sorted: whatever the items stand for -/
theorem sorted_gathered {β : Type} {R : Value → β → Prop} {enc : β → PyData} {arg : Value} {Q : Value → Shared → Prop} {n : Nat} (hn : n ≤ sizeLine) (hal : ∀ b b' : β, PySem.W.alike (enc b) (enc b') = true) (hk : ∀ b : β, enc b ≠ .none ∧ ∀ xs, enc b ≠ .tuple xs)
    (hd : ∀ b : β, (enc b).depth ≤ 8) (hu : A.units + 64 < cLine)
    (hr : ∀ (h : Heap) (v : Value) (b : β), R v b → Reads h v (enc b) [])
    (col : ∀ Q' : List Value → Shared → Prop, (∀ s' vs bs, (∀ b o, s.heap.get? b = some o → s'.heap.get? b = some o) → s.heap.objs.size ≤ s'.heap.objs.size → s'.gens = s.gens → s'.os = s.os → PySem.W.EachIs R vs bs → bs.length = n →
      (∀ s2 p (out : Array Value) c, (∀ b o, s.heap.get? b = some o → s2.heap.get? b = some o) → s2.gens = s.gens → s2.os = s.os → s.heap.objs.size ≤ p → s2.heap.get? p = some (seqObj "list" out c) → PySem.W.EachIs R out.toList (bs.mergeSort (PySem.W.dataLe false enc)) → Q (.ref p) s2) → Q' vs s') →
      wpAny (model prog w) A.in1 (collect arg) Q' E s) :
    wpAny (model prog w) A (call (.builtin "sorted") [arg]) Q E s := by
  refine Calls.call_function_entry kind_sorted plain_sorted entry_sorted (args_sorted1 _) ?_
  unfold Builtin.«sorted»
  refine wpAny_bind (m := checkCount "sorted" 1 1 _) (wpAny_pure ?_)
  refine wpAny_bind (col _ fun s1 vs bs k1 hz g1 o1 hE hl hQ => ?_)
  have hvl : vs.length = n := hE.length.trans hl
  refine wpAny_bind (wpAny_newList ?_ (by rw [hvl]; exact hn))
  have hoL : (s1.heap.push (seqObj "list" vs.toArray 0)).get? s1.heap.objs.size = some (seqObj "list" vs.toArray 0) := Heap.get?_push_size _ rfl
  have er : PySem.W.EachIs (fun v b => ∃ as, Reads (s1.heap.push (seqObj "list" vs.toArray 0)) v (enc b) as ∧ s1.heap.objs.size ∉ as) vs bs := by
    exact hE.mono fun v b r => ⟨[], hr _ v b r, fun z => nomatch z⟩
  refine wpAny_bind (wpAny_holding (PySem.W.list_sort_data (s := { s1 with heap := s1.heap.push (seqObj "list" vs.toArray 0) }) (enc := enc) hoL hE er (PySem.W.AllAlike.of hal) (PySem.W.Sortable.others hk) (by rw [hl]; exact hn) (fun b _ => ?_) fun out ho1 ho2 => ?_))
  · have := hd b
    show A.units + 1 + 1 + (enc b).depth < cLine
    omega
  · obtain ⟨c, hc⟩ := sortedHeap_at (vs := vs) (out := out.toArray) hoL
    refine wpAny_pure ⟨_, rfl, hQ { s1 with heap := sortedHeap (s1.heap.push (seqObj "list" vs.toArray 0)) s1.heap.objs.size vs out.toArray } s1.heap.objs.size out.toArray c (fun b u e => ?_) g1 o1 hz hc (by simpa using ho2)⟩
    have q := k1 b u e
    have hlt := Heap.lt_size q
    show (sortedHeap (s1.heap.push (seqObj "list" vs.toArray 0)) s1.heap.objs.size vs out.toArray).get? b = some u
    rw [sortedHeap_old (Nat.ne_of_lt hlt) (by rw [size_push']; exact Nat.lt_succ_of_lt hlt)]
    exact Heap.get?_push_of_some _ q

/-- a tuple's items, gathered -/
theorem collect_tup {l : Addr} {vs : List Value} {Q : List Value → Shared → Prop} (hl : IsTup s.heap l vs.toArray) (hz : vs.length ≤ sizeLine)
    (h : ∀ s', (∀ b o, s.heap.get? b = some o → s'.heap.get? b = some o) → s.heap.objs.size ≤ s'.heap.objs.size → s'.gens = s.gens → s'.os = s.os → Q vs s') : wpAny (model prog w) A (collect (.ref l)) Q E s := by
  obtain ⟨o, ho, hc, n, hd⟩ := hl
  have hlt : l < s.heap.objs.size := Heap.lt_size ho
  have hne : s.heap.objs.size ≠ l := Nat.ne_of_gt hlt
  unfold collect
  refine wpAny_bind (wpAny_runValue (codeAny_builtin entry_proto_collect' ?_))
  show wpAny _ _ (newList [] >>= fun r => again (.builtin "list.__iadd__" ⟨[r, .ref l], []⟩)) _ _ s
  refine wpAny_bind (wpAny_newList (wpAny_pure ⟨Code.quiet_builtin _ (by decide +kernel), codeAny_builtin entry_list_iadd' ?_⟩))
  show wpAny _ _ (Builtin.List.listExtendWith (.ref s.heap.objs.size) (.ref l) (.ref s.heap.objs.size)) _ _ { s with heap := s.heap.push (seqObj "list" #[] 0) }
  unfold Builtin.List.listExtendWith
  have ho2 : (s.heap.push (seqObj "list" #[] 0)).get? l = some o := Heap.get?_push_of_some _ ho
  refine wpAny_bind (wpAny_typeOf (T := "tuple") ⟨o, ho2, hc⟩ ?_)
  have e1 : (Value.type "tuple" == Value.type "list") = false := by decide
  have e2 : (Value.type "tuple" == Value.type "tuple") = true := by rfl
  rw [if_pos (by rw [e2]; simp)]
  refine wpAny_bind (listItems_at ho2 hd ?_)
  refine wpAny_bind (listItems_at (xs := #[]) (n := 0) (Heap.get?_push_size _ rfl) rfl ?_)
  rw [if_neg (by simp)]
  refine wpAny_bind (listUpdate_at (xs := #[]) (n := 0) (Heap.get?_push_size _ rfl) rfl ?_ (Nat.zero_le _) (by show (#[] ++ vs.toArray).size ≤ sizeLine + 1; simp only [Array.size_append, List.size_toArray, List.length_nil]; omega))
  refine wpAny_pure ?_
  show wpAny (model prog w) A (do
      let o ← load s.heap.objs.size
      match o.data with | .seq xs _ => pure xs.toList | _ => unsupported "internal:collect") Q E { s with heap := (s.heap.push (seqObj "list" #[] 0)).update s.heap.objs.size (Obj.mapSeq (· ++ vs.toArray)) }
  refine wpAny_bind (wpAny_load (get?_update_seq (Heap.get?_push_size _ rfl) _) ?_)
  show wpAny _ _ (pure ((#[] : Array Value) ++ vs.toArray).toList) Q E _
  have ev : ((#[] : Array Value) ++ vs.toArray).toList = vs := by simp
  rw [ev]
  refine wpAny_pure (h _ (fun b u e => ?_) ?_ rfl rfl)
  · have hb : b < s.heap.objs.size := Heap.lt_size e
    show ((s.heap.push (seqObj "list" #[] 0)).update s.heap.objs.size (Obj.mapSeq (· ++ vs.toArray))).get? b = some u
    rw [Heap.get?_update_ne _ _ _ _ (Nat.ne_of_lt hb)]
    exact Heap.get?_push_of_some _ e
  · show s.heap.objs.size ≤ ((s.heap.push (seqObj "list" #[] 0)).update s.heap.objs.size (Obj.mapSeq (· ++ vs.toArray))).objs.size
    rw [Heap.size_update, size_push']
    exact Nat.le_succ _
end
/-- laid: a list of what was sorted -/
theorem laid_sorted {X : Cx} {pins : List (Addr × Obj)} {σ : L2.St} {H : Hp} {s s' : Shared} {p : Addr} {out : Array Value} {c : Nat} {ys : List V} {Q : VK} (I : Inv X pins σ H s) (k : ∀ b o, s.heap.get? b = some o → s'.heap.get? b = some o) (g : s'.gens = s.gens) (o : s'.os = s.os) (hp : s.heap.objs.size ≤ p)
    (hg : s'.heap.get? p = some (seqObj "list" out c)) (hv : Vals ys out.toList) (hl : ys.length ≤ sizeLine) (q : H p = none → Q (.ref p) (upd H p (.lst ys))) : EP X pins σ Q (.ref p) s' := by
  have hn : H p = none := I.hok.fresh hp
  have J : Inv X pins σ (upd H p (.lst ys)) { s with heap := s'.heap, gens := s'.gens, drawn := s'.drawn, toks := s'.toks } :=
    I.call (ch := []) (Un.laid k hp hn) (I.hok.laid k hp ⟨hl, out.toList, c, hv, hg⟩) (by rw [g]; exact I.bare) (fun _ z => nomatch z)
  have e : s' = { s with heap := s'.heap, gens := s'.gens, drawn := s'.drawn, toks := s'.toks } := by
    cases s'
    cases s
    cases o
    rfl
  rw [e]
  exact ⟨.ref p, _, J, rfl, q hn⟩
/-- sorted(xs), xs a list of texts: any number of them -/
def strV (l : List Nat) : V := .str (S l)
def rSortedSA (K : PySem.W.Frag) : List V → Hp → VK → Prop := fun vs H Q => ∃ (a : Addr) (xs : List (List Nat)), vs = [V.ref a] ∧ SqL K H a (xs.map strV) ∧ ∀ p, H p = none → Q (.ref p) (upd H p (.lst ((srt xs).map strV)))
theorem each_vals {α : Type} {R : Value → α → Prop} {f : α → V} (hf : ∀ v a, R v a → RelV (f a) v) : ∀ {vs : List Value} {xs : List α}, PySem.W.EachIs R vs xs → Vals (xs.map f) vs
  | _, _, .nil => .nil
  | _, _, .cons h t => .cons (hf _ _ h) (each_vals hf t)
theorem vals_each {α : Type} {f : α → V} : ∀ {vs : List Value} {xs : List α}, Vals (xs.map f) vs → PySem.W.EachIs (fun v a => RelV (f a) v) vs xs
  | [], [], _ => .nil
  | v :: vs, x :: xs, r => by
    rw [List.map_cons] at r
    cases r with
    | cons h t => exact .cons h (vals_each t)
  | [], x :: xs, r => by
    rw [List.map_cons] at r
    cases r
  | v :: vs, [], r => by cases r
theorem cr_sortedSA {X : Cx} (hu : X.A.units + 64 < cLine) : CallR X (.builtin "sorted") (rSortedSA X.K) := by
  intro pins s σ H vs us Q I r h
  obtain ⟨a, xs, rfl, hs, q⟩ := h
  obtain ⟨its, rv, hl, hz⟩ := I.list hs
  rw [Vals.ref1 r]
  rw [List.length_map] at hz
  refine sorted_gathered (R := fun v x => RelV (strV x) v) (enc := fun x => .str (S x)) (n := xs.length) hz (fun _ _ => rfl) (fun b => ⟨fun z => (nomatch z), fun _ z => nomatch z⟩) (fun b => by show PyData.depth (.str (S b)) ≤ 8; simp [PyData.depth]) hu (fun h v b ⟨t, e⟩ => by subst e; exact Reads.str ..) (fun Q' hQ => collect_list hl.isList ?_ (by rw [← rv.length, List.length_map]; exact hz))
  refine hQ _ its xs (fun b o e => ?_) ?_ rfl rfl (vals_each rv) rfl fun s2 p out c k g o hp hg hE => ?_
  · have hb : b < s.heap.objs.size := Heap.lt_size e
    show ((s.heap.push (seqObj "list" #[] 0)).update s.heap.objs.size (Obj.mapSeq (· ++ its.toArray))).get? b = some o
    rw [Heap.get?_update_ne _ _ _ _ (Nat.ne_of_lt hb)]
    exact Heap.get?_push_of_some _ e
  · show s.heap.objs.size ≤ ((s.heap.push (seqObj "list" #[] 0)).update s.heap.objs.size (Obj.mapSeq (· ++ its.toArray))).objs.size
    rw [Heap.size_update, size_push']
    exact Nat.le_succ _
  · have eo : PySem.W.dataLe false (fun x => PyData.str (S x)) = lsle := by
      rw [PySem.W.dataLe_str]
      funext a b
      rfl
    rw [eo] at hE
    exact laid_sorted I k g o hp hg (each_vals (fun _ _ h => h) hE) (by rw [List.length_map, List.length_mergeSort]; exact hz) (fun hn => q p hn)
/-- sorted(t), t a tuple of whole numbers -/
def rSortedTI (K : PySem.W.Frag) : List V → Hp → VK → Prop := fun vs H Q => ∃ (a : Addr) (xs : List Int), vs = [V.ref a] ∧ SqT K H a (xs.map V.int) ∧ ∀ p, H p = none → Q (.ref p) (upd H p (.lst ((xs.mergeSort fun a b => decide (a ≤ b)).map V.int)))
theorem cr_sortedTI {X : Cx} (hu : X.A.units + 64 < cLine) : CallR X (.builtin "sorted") (rSortedTI X.K) := by
  intro pins s σ H vs us Q I r h
  obtain ⟨a, xs, rfl, hs, q⟩ := h
  obtain ⟨its, rv, hl, hz⟩ := I.tuple hs
  rw [Vals.ref1 r]
  rw [List.length_map] at hz
  refine sorted_gathered (R := fun v x => RelV (V.int x) v) (enc := fun x => .int x) (n := xs.length) hz (fun _ _ => rfl) (fun b => ⟨fun z => (nomatch z), fun _ z => nomatch z⟩) (fun b => by show PyData.depth (.int b) ≤ 8; simp [PyData.depth]) hu (fun h v b ⟨t, e⟩ => by subst e; exact Reads.int ..) (fun Q' hQ => collect_tup hl (by rw [← rv.length, List.length_map]; exact hz) fun s' k hz' g o => ?_)
  refine hQ s' its xs k hz' g o (vals_each rv) rfl fun s2 p out c k2 g2 o2 hp hg hE => ?_
  have eo : PySem.W.dataLe false (fun x => PyData.int x) = fun a b => decide (a ≤ b) := PySem.W.dataLe_int (fun x => x)
  rw [eo] at hE
  exact laid_sorted I k2 g2 o2 hp hg (each_vals (fun _ _ h => h) hE) (by rw [List.length_map, List.length_mergeSort]; exact hz) (fun hn => q p hn)
end K84
set_option maxHeartbeats 4000000
namespace K84
open PySem PySem.Spec PyProof.Rows L2
local macro_rules | `(tactic| walk_at "ix") => `(tactic| first | exact atI_nat (j := 0) rfl | exact atI_nat (j := 1) rfl | exact atI_nat (j := 2) rfl | exact atI_nat (j := 3) rfl | exact atI_nat (j := 4) rfl)
local macro_rules | `(tactic| walk_at "rd") => `(tactic| repeat (first
  | refine ⟨_, rfl, ?_⟩
  | refine ⟨rfl, ?_⟩
  | refine ⟨_, _, rfl, ?_⟩
  | refine ⟨_, _, rfl, rfl, ?_⟩
  | refine ⟨_, _, _, rfl, ?_⟩
  | refine ⟨_, _, _, _, rfl, ?_⟩
  | refine ⟨_, _, _, _, rfl, rfl, (by assumption), (by walk_at "ix"), ?_⟩
  | refine ⟨_, _, _, rfl, rfl, (by assumption), ?_⟩
  | refine ⟨.inl ⟨rfl, _, sqL_of (by assumption)⟩, ?_⟩
  | refine ⟨_, _, _, _, _, rfl, (by assumption), (by assumption), (by assumption), (by assumption), ?_⟩))
theorem emod_nat {a b : Int} (ha : 0 ≤ a) (hb : 0 ≤ b) : a % b = ((a.toNat % b.toNat : Nat) : Int) := by
  rw [Int.natCast_emod, Int.toNat_of_nonneg ha, Int.toNat_of_nonneg hb]
/-- two numbers from 0 on: their greatest common divisor -/
def sp_common_divisor (_ : PySem.W.Frag) : Sp := sp2 fun a b H Q _ => ∃ x y : Int, a = .int x ∧ b = .int y ∧ 0 ≤ x ∧ 0 ≤ y ∧ Q (.int (Nat.gcd x.toNat y.toNat : Nat)) H
/- common_divisor: one=0 other=1; cells []; calls []; builtins ['int'] -/
abbrev s_common_divisor : Stmt := top 9
theorem sc_common_divisor : FnScope ["one", "other"] ["one", "other"] (defScope s_common_divisor) := ⟨rfl, rfl, rfl, by decide +kernel, rfl, by decide +kernel, by decide +kernel⟩
theorem ok_common_divisor {P : Program} {w : World} {K : PySem.W.Frag} {mg : Str → Option Value} {base : Heap} (D : Df K mg "common_divisor" s_common_divisor) (T : Tx K mg)  :
    Cl CX0 P w K mg base 1 "common_divisor" (sp_common_divisor K) := by
  refine D.ok2 (k := 0) sc_common_divisor (fun _ _ _ _ _ _ us hl => match us, hl with | [_, _], _ => rfl) (fun f cdv A outer s H a b Q E hr h => ⟨_, PSs.nox ((pss_cons (ps_while PassesOwn.never (pt_cmpR op_ne (pv 1) pe_int (nomark _)) (pss_one (ps_par (i := 0) (j := 1) (by rfl) sc_common_divisor.nd rfl rfl (by decide) rfl rfl (pa_cons (pv 1) (pa_cons (pe_op op_mod (pe_callTy call_int1 (by rfl) T.int_ (by decide +kernel) (pa_cons (pv 0) pa_nil)) (pv 1)) pa_nil)) (by rfl))))
      (pss_one (ps_ret (pv 0))))), ?_⟩)
  obtain ⟨x, y, rfl, rfl, hx, hy, q⟩ := h
  refine while_by (fun σ H' => H' = H ∧ ∃ u v : Int, σ = [some (.int u), some (.int v)] ∧ 0 ≤ u ∧ 0 ≤ v ∧ Nat.gcd u.toNat v.toNat = Nat.gcd x.toNat y.toNat) (fun σ _ => match σ with | [_, some (.int v)] => v.toNat | _ => 0) ⟨rfl, x, y, rfl, hx, hy, rfl⟩ ?_ ?_
  · rintro σ H' ⟨rfl, u, v, rfl, hu, hv, hg⟩
    refine ⟨.int v, rfl, rfl, _, rfl, ?_⟩
    by_cases hz : v = 0
    · subst hz
      refine iteF ?_
      refine ⟨.int u, rfl, ?_⟩
      have e : (u : Int) = ((Nat.gcd x.toNat y.toNat : Nat) : Int) := by
        rw [← hg]
        show u = ((Nat.gcd u.toNat 0 : Nat) : Int)
        rw [Nat.gcd_zero_right, Int.toNat_of_nonneg hu]
      show Q (.int u) H'
      rw [e]
      exact q
    · have hd : (!decide (V.int v = V.int 0)) = true := by
        rw [decide_eq_false (fun z => hz (V.int.inj z))]
        rfl
      refine ifT hd ?_
      have hv0 : 0 < v := by omega
      refine ⟨.int v, rfl, .int u, rfl, .inl ⟨u, rfl, .int v, rfl, u, v, rfl, rfl, hv0, .int v, .int (u % v), rfl, ?_⟩⟩
      have e := emod_nat hu hv
      refine ⟨⟨rfl, v, u % v, rfl, hv, Int.emod_nonneg _ (by omega), ?_⟩, ?_⟩
      · rw [e, Int.toNat_natCast, gcd_step, hg]
      · have hl := Int.emod_lt_of_pos u hv0
        have h0 := Int.emod_nonneg u (show v ≠ 0 by omega)
        show (u % v).toNat < v.toNat
        omega
  · rintro σ H' Q1 Q2 mono ⟨z, h1, h2, k, h3, h4⟩
    exact ⟨z, h1, h2, k, h3, mono _ _ h4⟩
/-- a top and a bottom above 0: the fraction in lowest terms -/
def sp_made (K : PySem.W.Frag) : Sp := sp2 fun a b H Q _ => ∃ (t d : Int) (n : Nat), a = .int t ∧ b = .int d ∧ 0 < d ∧ d.natAbs < 2 ^ n ∧ n ≤ 9000 ∧ ∀ v H', Same H H' → FrV K H' v (low t d) → Q v H'
/- made: top=0 bottom=1 part=2; cells []; calls ['common_divisor']; builtins ['abs'] -/
abbrev s_made : Stmt := top 10
theorem sc_made : FnScope ["top", "bottom", "part"] ["top", "bottom"] (defScope s_made) := ⟨rfl, rfl, rfl, by decide +kernel, rfl, by decide +kernel, by decide +kernel⟩
theorem ok_made {P : Program} {w : World} {K : PySem.W.Frag} {mg : Str → Option Value} {base : Heap} (D : Df K mg "made" s_made) (T : Tx K mg) (c_common_divisor : Cl CX0 P w K mg base 1 "common_divisor" (sp_common_divisor K)) :
    Cl CX0 P w K mg base 2 "made" (sp_made K) := by
  refine D.ok2 (k := 1) sc_made (fun _ _ _ _ _ _ us hl => match us, hl with | [_, _], _ => rfl) (fun f cdv A outer s H a b Q E hr h => ⟨_, PSs.nox ((pss_cons (ps_if (pt_cmpR op_lt (pv 1) pe_int (nomark _)) (pss_one (ps_par (i := 0) (j := 1) (by rfl) sc_made.nd rfl rfl (by decide) rfl rfl (pa_cons (pe_un un_neg (pv 0)) (pa_cons (pe_un un_neg (pv 1)) pa_nil)) (by rfl))) pss_nil)
      (pss_cons (ps_set (i := 2) sc_made.nd rfl (Or.inl rfl) (pe_cl c_common_divisor hr (by decide) pass0 (pa_cons (pe_callB call_abs (by rfl) T.abs (by decide +kernel) (pa_cons (pv 0) pa_nil)) (pa_cons (pv 1) pa_nil))))
      (pss_one (ps_ret (pe_tup (pa_cons (pe_op op_fdivW (pv 0) (pv 2)) (pa_cons (pe_op op_fdivW (pv 1) (pv 2)) pa_nil)))))))), ?_⟩)
  obtain ⟨t, d, n, rfl, rfl, hd, hb, hn, q⟩ := h
  have hn0 : 0 < n := by
    rcases Nat.eq_zero_or_pos n with z | z
    · subst z
      simp at hb
      omega
    · exact z
  walk_at "rd"
  refine ifF (decide_eq_false (by omega)) ?_
  walk_at "rd"
  refine ⟨?_, by omega, ?_⟩
  · split <;> omega
  have eg : ((Nat.gcd (if t < 0 then -t else t).toNat d.toNat : Nat) : Int) = (Int.gcd t d : Nat) := by
    have h1 : (if t < 0 then -t else t).toNat = t.natAbs := by split <;> omega
    have h2 : d.toNat = d.natAbs := by omega
    rw [h1, h2]
    rfl
  rw [eg]
  have hg := gcd_pos (t := t) hd
  have hgb : ((Int.gcd t d : Nat) : Int).natAbs < 2 ^ n := by
    have hle : Int.gcd t d ≤ d.natAbs := Nat.le_of_dvd (by omega) (Nat.gcd_dvd_right t.natAbs d.natAbs)
    rw [Int.natAbs_natCast]
    exact Nat.lt_of_le_of_lt hle hb
  walk_at "rd"
  refine ⟨wide_div hg hgb hn0 hn, ?_⟩
  walk_at "rd"
  refine ⟨wide_div hg hgb hn0 hn, (by show 2 ≤ sizeLine; decide), fun p hp => ?_⟩
  exact q _ _ (same_new hp) FrV.new
theorem FB.pos {n : Nat} {q : Fq} (h : FB n q) : 0 < n := by
  rcases Nat.eq_zero_or_pos n with z | z
  · subst z
    have h1 := h.2.1
    have h2 := h.2.2
    simp at h2
    omega
  · exact z
/-- two fractions: their sum -/
def sp_plus (K : PySem.W.Frag) : Sp := sp2 fun a b H Q _ => ∃ (p r : Fq) (n m : Nat), FrV K H a p ∧ FrV K H b r ∧ FB n p ∧ FB m r ∧ n + m + 1 ≤ 9000 ∧ ∀ v H', Same H H' → FrV K H' v (fplus p r) → Q v H'
/- plus: one=0 other=1; cells []; calls ['made']; builtins [] -/
abbrev s_plus : Stmt := top 11
theorem sc_plus : FnScope ["one", "other"] ["one", "other"] (defScope s_plus) := ⟨rfl, rfl, rfl, by decide +kernel, rfl, by decide +kernel, by decide +kernel⟩
theorem ok_plus {P : Program} {w : World} {K : PySem.W.Frag} {mg : Str → Option Value} {base : Heap} (D : Df K mg "plus" s_plus) (T : Tx K mg) (c_made : Cl CX0 P w K mg base 2 "made" (sp_made K)) :
    Cl CX0 P w K mg base 3 "plus" (sp_plus K) := by
  refine D.ok2 (k := 2) sc_plus (fun _ _ _ _ _ _ us hl => match us, hl with | [_, _], _ => rfl) (fun f cdv A outer s H a b Q E hr h => ⟨_, PSs.nox ((pss_cons (ps_if (pt_cmpR op_eq (pe_ix ix_tup (pv 0) pe_int (fun _ _ => rfl)) (pe_ix ix_tup (pv 1) pe_int (fun _ _ => rfl)) (nomark _)) (pss_one (ps_ret (pe_cl c_made hr (by decide) pass0 (pa_cons (pe_op op_add (pe_ix ix_tup (pv 0) pe_int (fun _ _ => rfl)) (pe_ix ix_tup (pv 1) pe_int (fun _ _ => rfl))) (pa_cons (pe_ix ix_tup (pv 0) pe_int (fun _ _ => rfl)) pa_nil))))) pss_nil)
      (pss_one (ps_ret (pe_cl c_made hr (by decide) pass0 (pa_cons (pe_op op_add (pe_op op_mulW (pe_ix ix_tup (pv 0) pe_int (fun _ _ => rfl)) (pe_ix ix_tup (pv 1) pe_int (fun _ _ => rfl))) (pe_op op_mulW (pe_ix ix_tup (pv 1) pe_int (fun _ _ => rfl)) (pe_ix ix_tup (pv 0) pe_int (fun _ _ => rfl)))) (pa_cons (pe_op op_mulW (pe_ix ix_tup (pv 0) pe_int (fun _ _ => rfl)) (pe_ix ix_tup (pv 1) pe_int (fun _ _ => rfl))) pa_nil))))))), ?_⟩)
  obtain ⟨p, r, n, m, ⟨x, rfl, hx⟩, ⟨y, rfl, hy⟩, hp, hr2, hnm, q⟩ := h
  have hn0 := hp.pos
  have hm0 := hr2.pos
  obtain ⟨c1, c2, c3⟩ := cross_bits hp hr2
  walk_at "rd"
  refine ifB (fun e => ?_) (fun e => ?_)
  · have e1 : p.2 = r.2 := V.int.inj (of_decide_eq_true e)
    walk_at "rd"
    refine ⟨p.1 + r.1, p.2, m, rfl, rfl, hp.2.1, by rw [e1]; exact hr2.2.2, by omega, fun v H' s hv => q v H' s ?_⟩
    have e2 : low (p.1 + r.1) p.2 = fplus p r := by
      unfold fplus
      rw [low_same hp.2.1, ← e1]
    rw [← e2]
    exact hv
  · walk_at "rd"
    refine ⟨wide_mul hp.1 hr2.2.2 (by omega) (by omega) (by omega), ?_⟩
    walk_at "rd"
    refine ⟨wide_mul hr2.1 hp.2.2 (by omega) (by omega) (by omega), ?_⟩
    walk_at "rd"
    refine ⟨wide_mul hp.2.2 hr2.2.2 (by omega) (by omega) (by omega), ?_⟩
    exact ⟨_, _, rfl, _, _, n + m + 1, rfl, rfl, c2, c3, by omega, fun v H' s hv => q v H' s hv⟩
/-- whether the one is below the other -/
def sp_is_less (K : PySem.W.Frag) : Sp := sp2 fun a b H Q _ => ∃ (p r : Fq) (n m : Nat), FrV K H a p ∧ FrV K H b r ∧ FB n p ∧ FB m r ∧ n + m ≤ 9000 ∧ Q (.bl (fless p r)) H
/- is_less: one=0 other=1; cells []; calls []; builtins [] -/
abbrev s_is_less : Stmt := top 12
theorem sc_is_less : FnScope ["one", "other"] ["one", "other"] (defScope s_is_less) := ⟨rfl, rfl, rfl, by decide +kernel, rfl, by decide +kernel, by decide +kernel⟩
theorem ok_is_less {P : Program} {w : World} {K : PySem.W.Frag} {mg : Str → Option Value} {base : Heap} (D : Df K mg "is_less" s_is_less) (T : Tx K mg)  :
    Cl CX0 P w K mg base 1 "is_less" (sp_is_less K) := by
  refine D.ok2 (k := 0) sc_is_less (fun _ _ _ _ _ _ us hl => match us, hl with | [_, _], _ => rfl) (fun f cdv A outer s H a b Q E hr h => ⟨_, PSs.nox ((pss_one (ps_ret (pe_cmpR op_lt (pe_op op_mulW (pe_ix ix_tup (pv 0) pe_int (fun _ _ => rfl)) (pe_ix ix_tup (pv 1) pe_int (fun _ _ => rfl))) (pe_op op_mulW (pe_ix ix_tup (pv 1) pe_int (fun _ _ => rfl)) (pe_ix ix_tup (pv 0) pe_int (fun _ _ => rfl))) (nomark _))))), ?_⟩)
  obtain ⟨p, r, n, m, ⟨x, rfl, hx⟩, ⟨y, rfl, hy⟩, hp, hr2, hnm, q⟩ := h
  have hn0 := hp.pos
  have hm0 := hr2.pos
  walk_at "rd"
  refine ⟨wide_mul hp.1 hr2.2.2 (by omega) (by omega) (by omega), ?_⟩
  walk_at "rd"
  refine ⟨wide_mul hr2.1 hp.2.2 (by omega) (by omega) (by omega), ?_⟩
  walk_at "rd"
  exact q
/-- the sum of some fractions -/
def sp_sum_of (K : PySem.W.Frag) : Sp := sp1 fun a H Q _ => ∃ (p : Addr) (xs : List V) (qs : List Fq) (m : Nat), a = .ref p ∧ SqL K H p xs ∧ Each (FrV K H) xs qs ∧ (∀ q ∈ qs, FB m q) ∧ 1 + (m + 1) * (qs.length + 1) ≤ 9000 ∧
  ∀ v H', Same H H' → FrV K H' v (fsum qs) → Q v H'
/- sum_of: fractions=0 found=1 fraction=2; cells []; calls ['plus']; builtins [] -/
abbrev s_sum_of : Stmt := top 13
theorem sc_sum_of : FnScope ["fractions", "found", "fraction"] ["fractions"] (defScope s_sum_of) := ⟨rfl, rfl, rfl, by decide +kernel, rfl, by decide +kernel, by decide +kernel⟩
theorem ok_sum_of {P : Program} {w : World} {K : PySem.W.Frag} {mg : Str → Option Value} {base : Heap} (D : Df K mg "sum_of" s_sum_of) (T : Tx K mg) (c_plus : Cl CX0 P w K mg base 3 "plus" (sp_plus K)) :
    Cl CX0 P w K mg base 4 "sum_of" (sp_sum_of K) := by
  refine D.ok1 (k := 3) sc_sum_of (fun _ _ _ _ _ _ us hl => match us, hl with | [_], _ => rfl) (fun f cdv A outer s H a Q E hr h => ⟨_, PSs.nox ((pss_cons (ps_set (i := 1) sc_sum_of.nd rfl (Or.inl rfl) (pe_gcv rfl T.c_NOUGHT.choose_spec.1))
      (pss_cons (ps_for PassesOwn.never rfl (pi_list (pv 0)) (pg_name (i := 2) sc_sum_of.nd rfl (Or.inl rfl)) (pss_one (ps_set (i := 1) sc_sum_of.nd rfl (Or.inl rfl) (pe_cl c_plus hr (by decide) pass0 (pa_cons (pv 1) (pa_cons (pv 2) pa_nil))))))
      (pss_one (ps_ret (pv 1)))))), ?_⟩)
  obtain ⟨p, xs, qs, m, rfl, hS, hF, hB, hm, q⟩ := h
  refine ⟨.ref p, rfl, p, rfl, ⟨xs, hS⟩, for_list (xs := xs) (fun i σ H' => Same H H' ∧ ∃ v z, σ = [some (.ref p), some v, z] ∧ FrV K H' v (fsum (qs.take i)))
    ⟨L2.Same.refl H, _, _, rfl, _, rfl, T.c_NOUGHT.choose_spec.2 H⟩ (fun i σ H' _ h => h.1.seq hS) ?_ ?_⟩
  · rintro i x σ H' hx ⟨s1, v, z, rfl, hv⟩
    obtain ⟨r, hr1, hr2⟩ := hF.get hx
    have hil := (List.getElem?_eq_some_iff.mp hr1).1
    have hfb : FB (1 + (m + 1) * (qs.take i).length) (fsum (qs.take i)) := fsum_fb fun y hy => hB y (List.mem_of_mem_take hy)
    walk_at "rd"
    refine ⟨_, r, _, m, hv, hr2.mono s1, hfb, hB r (List.mem_of_getElem? hr1), ?_, fun u H2 s2 hu => ⟨s1.trans s2, u, _, rfl, ?_⟩⟩
    · have h1 : (qs.take i).length ≤ qs.length := by rw [List.length_take]; omega
      have h2 : (m + 1) * (qs.take i).length ≤ (m + 1) * qs.length := Nat.mul_le_mul_left _ h1
      rw [Nat.mul_add] at hm
      omega
    · rw [fsum_take hr1]
      exact hu
  · rintro σ H' ⟨s1, v, z, rfl, hv⟩
    rw [hF.1, List.take_length] at hv
    exact ⟨v, rfl, q v H' s1 hv⟩
end K84
set_option maxHeartbeats 4000000
namespace K84
open PySem PySem.Spec PyProof.Rows L2
local macro_rules | `(tactic| walk_at "ix") => `(tactic| first | exact atI_nat (j := 0) rfl | exact atI_nat (j := 1) rfl | exact atI_nat (j := 2) rfl | exact atI_nat (j := 3) rfl | exact atI_nat (j := 4) rfl)
local macro_rules | `(tactic| walk_at "rd") => `(tactic| repeat (first
  | refine ⟨_, rfl, ?_⟩
  | refine ⟨rfl, ?_⟩
  | refine ⟨_, _, rfl, ?_⟩
  | refine ⟨_, _, rfl, rfl, ?_⟩
  | refine ⟨_, _, _, rfl, ?_⟩
  | refine ⟨_, _, _, _, rfl, ?_⟩
  | refine ⟨_, _, _, _, rfl, rfl, (by assumption), (by walk_at "ix"), ?_⟩
  | refine ⟨_, _, _, rfl, rfl, (by assumption), ?_⟩
  | refine ⟨.inl ⟨rfl, _, sqL_of (by assumption)⟩, ?_⟩
  | refine ⟨_, _, _, _, _, rfl, (by assumption), (by assumption), (by assumption), (by assumption), ?_⟩
  | refine ⟨_, _, _, _, _, rfl, .ty _, Tg.ty (by assumption), kit_ty (by first | exact kInt _ | exact kBool _ | exact kStr _ | exact kTup _ | exact kLst _ | exact kDct _), ?_⟩))
def sp_is_integer (K : PySem.W.Frag) : Sp := sp1 fun a H Q _ => ∃ d, Tg K H a d ∧ Q (.bl d.int?) H
/- is_integer: thing=0; cells []; calls []; builtins ['isinstance', 'bool', 'int'] -/
abbrev s_is_integer : Stmt := top 18
theorem sc_is_integer : FnScope ["thing"] ["thing"] (defScope s_is_integer) := ⟨rfl, rfl, rfl, by decide +kernel, rfl, by decide +kernel, by decide +kernel⟩
theorem ok_is_integer {P : Program} {w : World} {K : PySem.W.Frag} {mg : Str → Option Value} {base : Heap} (D : Df K mg "is_integer" s_is_integer) (T : Tx K mg)  :
    Cl CX0 P w K mg base 1 "is_integer" (sp_is_integer K) := by
  refine D.ok1 (k := 0) sc_is_integer (fun _ _ _ _ _ _ us hl => match us, hl with | [_], _ => rfl) (fun f cdv A outer s H a Q E hr h => ⟨_, PSs.nox ((pss_one (ps_ret (pe_and (pe_callB call_isi (by rfl) T.isinstance (by decide +kernel) (pa_cons (pv 0) (pa_cons (pe_bltn (v := .ty "int") (by rfl) T.int_ (by decide +kernel) rfl) pa_nil))) (pe_one (pe_not (pe_callB call_isi (by rfl) T.isinstance (by decide +kernel) (pa_cons (pv 0) (pa_cons (pe_bltn (v := .ty "bool") (by rfl) T.bool_ (by decide +kernel) rfl) pa_nil))))))))), ?_⟩)
  obtain ⟨d, g, q⟩ := h
  walk_at "rd"
  cases hd : d.isInt with
  | false =>
    refine iteF ?_
    have e : d.int? = false := by cases d <;> first | rfl | cases hd
    rw [e] at q
    exact q
  | true =>
    refine iteT ?_
    walk_at "rd"
    have e : d.int? = !d.isBool := by cases d <;> first | rfl | cases hd
    rw [e] at q
    exact q
def sp_is_within (K : PySem.W.Frag) : Sp := sp3 fun a b c H Q _ => ∃ d lo hi, Tg K H a d ∧ b = .int lo ∧ c = .int hi ∧ Q (.bl (d.within lo hi)) H
/- is_within: thing=0 least=1 most=2; cells []; calls ['is_integer']; builtins [] -/
abbrev s_is_within : Stmt := top 19
theorem sc_is_within : FnScope ["thing", "least", "most"] ["thing", "least", "most"] (defScope s_is_within) := ⟨rfl, rfl, rfl, by decide +kernel, rfl, by decide +kernel, by decide +kernel⟩
theorem ok_is_within {P : Program} {w : World} {K : PySem.W.Frag} {mg : Str → Option Value} {base : Heap} (D : Df K mg "is_within" s_is_within) (T : Tx K mg) (c_is_integer : Cl CX0 P w K mg base 1 "is_integer" (sp_is_integer K)) :
    Cl CX0 P w K mg base 2 "is_within" (sp_is_within K) := by
  refine D.ok3 (k := 1) sc_is_within (fun _ _ _ _ _ _ us hl => match us, hl with | [_, _, _], _ => rfl) (fun f cdv A outer s H a b c Q E hr h => ⟨_, PSs.nox ((pss_one (ps_ret (pe_and (pe_cl c_is_integer hr (by decide) pass0 (pa_cons (pv 0) pa_nil)) (pe_one (pe_chain op_le op_le (pv 1) (pv 0) (pv 2))))))), ?_⟩)
  obtain ⟨d, lo, hi, g, rfl, rfl, q⟩ := h
  walk_at "rd"
  refine ⟨d, g, ?_⟩
  walk_at "rd"
  cases d with
  | int i =>
    cases g
    refine iteT ?_
    walk_at "rd"
    refine ifB (fun e => ?_) (fun e => ?_)
    · walk_at "rd"
      have e2 : (Th.int i).within lo hi = decide (i ≤ hi) := by
        show (decide (lo ≤ i) && decide (i ≤ hi)) = _
        rw [e, Bool.true_and]
      rw [e2] at q
      exact q
    · have e2 : (Th.int i).within lo hi = false := by
        show (decide (lo ≤ i) && decide (i ≤ hi)) = _
        rw [e, Bool.false_and]
      rw [e2] at q
      exact q
  | _ => exact iteF q
def sp_is_pair (K : PySem.W.Frag) : Sp := sp1 fun a H Q _ => ∃ d, Tg K H a d ∧ Q (.bl d.pair?) H
/- is_pair: thing=0; cells []; calls []; builtins ['len', 'isinstance', 'tuple'] -/
abbrev s_is_pair : Stmt := top 20
theorem sc_is_pair : FnScope ["thing"] ["thing"] (defScope s_is_pair) := ⟨rfl, rfl, rfl, by decide +kernel, rfl, by decide +kernel, by decide +kernel⟩
theorem ok_is_pair {P : Program} {w : World} {K : PySem.W.Frag} {mg : Str → Option Value} {base : Heap} (D : Df K mg "is_pair" s_is_pair) (T : Tx K mg)  :
    Cl CX0 P w K mg base 1 "is_pair" (sp_is_pair K) := by
  refine D.ok1 (k := 0) sc_is_pair (fun _ _ _ _ _ _ us hl => match us, hl with | [_], _ => rfl) (fun f cdv A outer s H a Q E hr h => ⟨_, PSs.nox ((pss_one (ps_ret (pe_and (pe_callB call_isi (by rfl) T.isinstance (by decide +kernel) (pa_cons (pv 0) (pa_cons (pe_bltn (v := .ty "tuple") (by rfl) T.tuple_ (by decide +kernel) rfl) pa_nil))) (pe_one (pe_cmpR op_eq (pe_callB call_len_seq (by rfl) T.len (by decide +kernel) (pa_cons (pv 0) pa_nil)) pe_int (nomark _))))))), ?_⟩)
  obtain ⟨d, g, q⟩ := h
  walk_at "rd"
  cases g with
  | @tup p xs ds hp ht =>
    refine iteT ?_
    refine ⟨_, rfl, p, xs, rfl, .inr hp, ?_⟩
    walk_at "rd"
    have e : decide (V.int (xs.length : Int) = V.int 2) = (Th.tup ds).pair? := by
      show _ = decide (ds.length = 2)
      rw [ht.length]
      exact decide_eq_decide.mpr ⟨fun z => by have := V.int.inj z; omega, fun z => by rw [z] <;> rfl⟩
    rw [e]
    exact q
  | _ => exact iteF q
def sp_is_listed (K : PySem.W.Frag) : Sp := sp1 fun a H Q _ => ∃ d, Tg K H a d ∧ ∀ H', Same H H' → Q (.bl d.listed) H'
/- is_listed: thing=0; cells []; calls []; builtins ['isinstance', 'tuple', 'list'] -/
abbrev s_is_listed : Stmt := top 21
theorem sc_is_listed : FnScope ["thing"] ["thing"] (defScope s_is_listed) := ⟨rfl, rfl, rfl, by decide +kernel, rfl, by decide +kernel, by decide +kernel⟩
theorem ok_is_listed {P : Program} {w : World} {K : PySem.W.Frag} {mg : Str → Option Value} {base : Heap} (D : Df K mg "is_listed" s_is_listed) (T : Tx K mg)  :
    Cl CX0 P w K mg base 1 "is_listed" (sp_is_listed K) := by
  refine D.ok1 (k := 0) sc_is_listed (fun _ _ _ _ _ _ us hl => match us, hl with | [_], _ => rfl) (fun f cdv A outer s H a Q E hr h => ⟨_, PSs.nox ((pss_one (ps_ret (pe_callB call_isiT (by rfl) T.isinstance (by decide +kernel) (pa_cons (pv 0) (pa_cons (pe_tup (pa_cons (pe_bltn (v := .ty "list") (by rfl) T.list_ (by decide +kernel) rfl) (pa_cons (pe_bltn (v := .ty "tuple") (by rfl) T.tuple_ (by decide +kernel) rfl) pa_nil))) pa_nil)))))), ?_⟩)
  obtain ⟨d, g, q⟩ := h
  walk_at "rd"
  refine ⟨(by show 2 ≤ sizeLine; decide), fun p hp => ?_⟩
  refine ⟨_, p, _, _, [.type "list", .type "tuple"], _, rfl, upd_same, .cons (.ty "list") (.cons (.ty "tuple") .nil), (g.mono (same_new hp)).ty, kAny2 (kLst d) (kTup d), ?_⟩
  have e : (d.isLst || d.isTup) = d.listed := by cases d <;> rfl
  rw [e]
  exact q _ (same_new hp)
def sp_is_string_of (K : PySem.W.Frag) : Sp := sp2 fun a b H Q _ => ∃ d signs, Tg K H a d ∧ b = .str (S signs) ∧ Q (.bl (d.over signs)) H
/- is_string_of: thing=0 signs=1 sign=2; cells []; calls []; builtins ['isinstance', 'str'] -/
abbrev s_is_string_of : Stmt := top 22
theorem sc_is_string_of : FnScope ["thing", "signs", "sign"] ["thing", "signs"] (defScope s_is_string_of) := ⟨rfl, rfl, rfl, by decide +kernel, rfl, by decide +kernel, by decide +kernel⟩
theorem ok_is_string_of {P : Program} {w : World} {K : PySem.W.Frag} {mg : Str → Option Value} {base : Heap} (D : Df K mg "is_string_of" s_is_string_of) (T : Tx K mg)  :
    Cl CX0 P w K mg base 1 "is_string_of" (sp_is_string_of K) := by
  refine D.ok2 (k := 0) sc_is_string_of (fun _ _ _ _ _ _ us hl => match us, hl with | [_, _], _ => rfl) (fun f cdv A outer s H a b Q E hr h => ⟨_, PSs.nox ((pss_cons (ps_if (pt_not (pt_val (pe_callB call_isi (by rfl) T.isinstance (by decide +kernel) (pa_cons (pv 0) (pa_cons (pe_bltn (v := .ty "str") (by rfl) T.str_ (by decide +kernel) rfl) pa_nil))))) (pss_one (ps_ret pe_bl)) pss_nil)
      (pss_cons (ps_for PassesOwn.never rfl (pi_str (pv 0)) (pg_name (i := 2) sc_is_string_of.nd rfl (Or.inl rfl)) (pss_one (ps_if (pt_cmpR op_notIn_sign (pv 2) (pv 1) rfl) (pss_one (ps_ret pe_bl)) pss_nil)))
      (pss_one (ps_ret pe_bl))))), ?_⟩)
  obtain ⟨d, signs, g, rfl, q⟩ := h
  walk_at "rd"
  cases g with
  | str x =>
    refine iteF ?_
    refine ⟨_, rfl, x, rfl, for_it walk_str (fun i σ H' => H' = H ∧ (∃ z, σ = [some (.str x), some (.str (S signs)), z]) ∧ ∀ c ∈ x.cps.toList.take i, c ∈ signs) ⟨rfl, ⟨_, rfl⟩, fun c hc => by simp at hc⟩ (fun _ _ _ _ _ => trivial) ?_ ?_⟩
    · rintro i v σ H1 H2 hi ⟨rfl, ⟨z, rfl⟩, ha⟩ ⟨rfl, c, hc, rfl⟩
      walk_at "rd"
      have hc2 : x.cps.toList[i]? = some c := by rw [Array.getElem?_toList]; exact hc
      by_cases hm : c ∈ signs
      · have e : (!decide (c ∈ (S signs).cps.toList)) = false := by
          rw [S_list, decide_eq_true hm]
          rfl
        refine ifF e ?_
        refine ⟨rfl, ⟨_, rfl⟩, fun y hy => ?_⟩
        rw [List.take_add_one, hc2] at hy
        rcases List.mem_append.mp hy with h1 | h1
        · exact ha y h1
        · simp at h1
          rw [h1]
          exact hm
      · have e : (!decide (c ∈ (S signs).cps.toList)) = true := by
          rw [S_list, decide_eq_false hm]
          rfl
        refine ifT e ?_
        have e2 : (Th.str x).over signs = false := by
          show (x.cps.toList.all fun c => decide (c ∈ signs)) = false
          rw [List.all_eq_false]
          exact ⟨c, List.mem_of_getElem? hc2, by simpa using hm⟩
        rw [e2] at q
        exact q
    · rintro σ H1 ⟨rfl, ⟨z, rfl⟩, ha⟩
      have e2 : (Th.str x).over signs = true := by
        show (x.cps.toList.all fun c => decide (c ∈ signs)) = true
        rw [List.all_eq_true]
        intro c hc
        refine decide_eq_true (ha c ?_)
        rw [List.take_of_length_le (by rw [Array.length_toList]; exact Nat.le_refl _)]
        exact hc
      rw [e2] at q
      exact q
  | _ => exact iteT q
/-- of rows alone -/
def sp_is_word (K : PySem.W.Frag) : Sp := sp1 fun a H Q _ => ∃ r, a = .str (S r) ∧ RowsOk r ∧ Q (.bl true) H
/- is_word: thing=0; cells []; calls ['is_string_of']; builtins ['len'] -/
abbrev s_is_word : Stmt := top 23
theorem sc_is_word : FnScope ["thing"] ["thing"] (defScope s_is_word) := ⟨rfl, rfl, rfl, by decide +kernel, rfl, by decide +kernel, by decide +kernel⟩
theorem ok_is_word {P : Program} {w : World} {K : PySem.W.Frag} {mg : Str → Option Value} {base : Heap} (D : Df K mg "is_word" s_is_word) (T : Tx K mg) (c_is_string_of : Cl CX0 P w K mg base 1 "is_string_of" (sp_is_string_of K)) :
    Cl CX0 P w K mg base 2 "is_word" (sp_is_word K) := by
  refine D.ok1 (k := 1) sc_is_word (fun _ _ _ _ _ _ us hl => match us, hl with | [_], _ => rfl) (fun f cdv A outer s H a Q E hr h => ⟨_, PSs.nox ((pss_one (ps_ret (pe_and (pe_cl c_is_string_of hr (by decide) pass0 (pa_cons (pv 0) (pa_cons (pe_gcv rfl T.c_SMALL) pa_nil))) (pe_one (pe_cmpR op_gt (pe_callB call_len_str (by rfl) T.len (by decide +kernel) (pa_cons (pv 0) pa_nil)) pe_int (nomark _))))))), ?_⟩)
  obtain ⟨r, rfl, hr3, q⟩ := h
  refine ⟨_, rfl, ?_⟩
  refine ⟨_, _, rfl, .str (S r), small, .str _, congrArg V.str small_is, ?_⟩
  have e : (Th.str (S r)).over small = true := by
    show ((S r).cps.toList.all fun c => decide (c ∈ small)) = true
    rw [S_list, List.all_eq_true]
    exact fun c hc => decide_eq_true (hr3.sm c hc)
  rw [e]
  walk_at "rd"
  have h1 := hr3.pos
  have h2 := hr3.le
  refine ⟨szle (by rw [S_length]; omega), ?_⟩
  walk_at "rd"
  have e2 : decide ((0 : Int) < ((S r).length : Nat)) = true := decide_eq_true (by rw [S_length]; omega)
  show Q (.bl (decide ((0 : Int) < ((S r).length : Nat)))) H
  rw [e2]
  exact q
def sp_is_ascending (K : PySem.W.Frag) : Sp := sp1 fun a H Q _ => ∃ r, a = .str (S r) ∧ RowsOk r ∧ Q (.bl true) H
/- is_ascending: word=0 at=1; cells []; calls []; builtins ['range', 'len'] -/
abbrev s_is_ascending : Stmt := top 24
theorem sc_is_ascending : FnScope ["word", "at"] ["word"] (defScope s_is_ascending) := ⟨rfl, rfl, rfl, by decide +kernel, rfl, by decide +kernel, by decide +kernel⟩
theorem ok_is_ascending {P : Program} {w : World} {K : PySem.W.Frag} {mg : Str → Option Value} {base : Heap} (D : Df K mg "is_ascending" s_is_ascending) (T : Tx K mg)  :
    Cl CX0 P w K mg base 1 "is_ascending" (sp_is_ascending K) := by
  refine D.ok1 (k := 0) sc_is_ascending (fun _ _ _ _ _ _ us hl => match us, hl with | [_], _ => rfl) (fun f cdv A outer s H a Q E hr h => ⟨_, PSs.nox ((pss_cons (ps_for PassesOwn.never rfl (pi_range2 (by rfl) T.range (pa_cons pe_int (pa_cons (pe_callB call_len_str (by rfl) T.len (by decide +kernel) (pa_cons (pv 0) pa_nil)) pa_nil))) (pg_name (i := 1) sc_is_ascending.nd rfl (Or.inl rfl)) (pss_one (ps_if (pt_cmpR op_ge_str (pe_ix ix_str (pv 0) (pe_op op_sub (pv 1) pe_int) (fun _ _ => rfl)) (pe_ix ix_str (pv 0) (pv 1) (fun _ _ => rfl)) (nomark _)) (pss_one (ps_ret pe_bl)) pss_nil)))
      (pss_one (ps_ret pe_bl)))), ?_⟩)
  obtain ⟨r, rfl, hr3, q⟩ := h
  have h1 := hr3.pos
  have h2 := hr3.le
  refine ⟨_, rfl, _, rfl, szle (by rw [S_length]; omega), 1, _, rfl, ⟨by decide, by decide, by rw [S_length]; omega, by rw [S_length]; omega⟩, for_range (fun i σ H' => H' = H ∧ ∃ z, σ = [some (.str (S r)), z]) ⟨rfl, _, rfl⟩ ?_ ?_⟩
  · rintro i σ H' hi ⟨rfl, z, rfl⟩
    rw [S_length] at hi
    have hi1 : i + 1 < r.length := by omega
    have hsz : (S r).length ≤ sizeLine := szle (by rw [S_length]; omega)
    walk_at "rd"
    refine ⟨S r, _, r[i], rfl, rfl, hsz, ?_, ?_⟩
    · have e : (1 + (i : Int) - 1) = ((i : Nat) : Int) := by omega
      rw [e]
      exact atI_nat (by rw [S_list, List.getElem?_eq_getElem (by omega)])
    · walk_at "rd"
      refine ⟨S r, _, r[i + 1], rfl, rfl, hsz, ?_, ?_⟩
      · have e : (1 + (i : Int)) = ((i + 1 : Nat) : Int) := by omega
        rw [e]
        exact atI_nat (by rw [S_list, List.getElem?_eq_getElem hi1])
      · walk_at "rd"
        have hlt : r[i] < r[i + 1] := List.pairwise_iff_getElem.mp hr3.asc i (i + 1) (by omega) hi1 (by omega)
        refine ifF ?_ ⟨rfl, _, rfl⟩
        show (!decide ([r[i]] < [r[i + 1]])) = false
        have e3 : decide ([r[i]] < [r[i + 1]]) = true := decide_eq_true (List.cons_lt_cons_iff.mpr (.inl hlt))
        rw [e3]
        rfl
  · rintro σ H' ⟨rfl, z, rfl⟩
    exact q
def sp_is_rows (K : PySem.W.Frag) : Sp := sp1 fun a H Q _ => ∃ r, a = .str (S r) ∧ RowsOk r ∧ Q (.bl true) H
/- is_rows: thing=0; cells []; calls ['is_ascending', 'is_word']; builtins ['len'] -/
abbrev s_is_rows : Stmt := top 25
theorem sc_is_rows : FnScope ["thing"] ["thing"] (defScope s_is_rows) := ⟨rfl, rfl, rfl, by decide +kernel, rfl, by decide +kernel, by decide +kernel⟩
theorem ok_is_rows {P : Program} {w : World} {K : PySem.W.Frag} {mg : Str → Option Value} {base : Heap} (D : Df K mg "is_rows" s_is_rows) (T : Tx K mg) (c_is_ascending : Cl CX0 P w K mg base 1 "is_ascending" (sp_is_ascending K)) (c_is_word : Cl CX0 P w K mg base 2 "is_word" (sp_is_word K)) :
    Cl CX0 P w K mg base 3 "is_rows" (sp_is_rows K) := by
  refine D.ok1 (k := 2) sc_is_rows (fun _ _ _ _ _ _ us hl => match us, hl with | [_], _ => rfl) (fun f cdv A outer s H a Q E hr h => ⟨_, PSs.nox ((pss_one (ps_ret (pe_and (pe_cl c_is_word hr (by decide) pass0 (pa_cons (pv 0) pa_nil)) (pe_and (pe_cmpR op_le (pe_callB call_len_str (by rfl) T.len (by decide +kernel) (pa_cons (pv 0) pa_nil)) (pe_gcv rfl T.c_MOST_ROWS) (nomark _)) (pe_one (pe_cl c_is_ascending hr (by decide) pass0 (pa_cons (pv 0) pa_nil)))))))), ?_⟩)
  obtain ⟨r, rfl, hr3, q⟩ := h
  have h1 := hr3.pos
  have h2 := hr3.le
  refine ⟨_, rfl, _, rfl, r, rfl, hr3, _, rfl, iteT ?_⟩
  refine ⟨_, rfl, _, rfl, szle (by rw [S_length]; omega), _, _, rfl, rfl, _, rfl, ?_⟩
  refine ifT (decide_eq_true (by rw [S_length]; omega)) ?_
  exact ⟨_, rfl, _, rfl, r, rfl, hr3, q⟩
def sp_is_code (K : PySem.W.Frag) : Sp := sp2 fun a b H Q _ => ∃ rows d, a = .str (S rows) ∧ Tg K H b d ∧ Q (.bl (d.over rows)) H
/- is_code: rows=0 thing=1; cells []; calls ['is_string_of']; builtins [] -/
abbrev s_is_code : Stmt := top 26
theorem sc_is_code : FnScope ["rows", "thing"] ["rows", "thing"] (defScope s_is_code) := ⟨rfl, rfl, rfl, by decide +kernel, rfl, by decide +kernel, by decide +kernel⟩
theorem ok_is_code {P : Program} {w : World} {K : PySem.W.Frag} {mg : Str → Option Value} {base : Heap} (D : Df K mg "is_code" s_is_code) (T : Tx K mg) (c_is_string_of : Cl CX0 P w K mg base 1 "is_string_of" (sp_is_string_of K)) :
    Cl CX0 P w K mg base 2 "is_code" (sp_is_code K) := by
  refine D.ok2 (k := 1) sc_is_code (fun _ _ _ _ _ _ us hl => match us, hl with | [_, _], _ => rfl) (fun f cdv A outer s H a b Q E hr h => ⟨_, PSs.nox ((pss_one (ps_ret (pe_cl c_is_string_of hr (by decide) pass0 (pa_cons (pv 1) (pa_cons (pv 0) pa_nil)))))), ?_⟩)
  obtain ⟨rows, d, rfl, g, q⟩ := h
  exact ⟨_, rfl, _, rfl, _, _, rfl, d, rows, g, rfl, q⟩
def sp_is_any_code (K : PySem.W.Frag) : Sp := sp1 fun a H Q _ => ∃ d, Tg K H a d ∧ Q (.bl (d.over small)) H
/- is_any_code: thing=0; cells []; calls ['is_string_of']; builtins [] -/
abbrev s_is_any_code : Stmt := top 27
theorem sc_is_any_code : FnScope ["thing"] ["thing"] (defScope s_is_any_code) := ⟨rfl, rfl, rfl, by decide +kernel, rfl, by decide +kernel, by decide +kernel⟩
theorem ok_is_any_code {P : Program} {w : World} {K : PySem.W.Frag} {mg : Str → Option Value} {base : Heap} (D : Df K mg "is_any_code" s_is_any_code) (T : Tx K mg) (c_is_string_of : Cl CX0 P w K mg base 1 "is_string_of" (sp_is_string_of K)) :
    Cl CX0 P w K mg base 2 "is_any_code" (sp_is_any_code K) := by
  refine D.ok1 (k := 1) sc_is_any_code (fun _ _ _ _ _ _ us hl => match us, hl with | [_], _ => rfl) (fun f cdv A outer s H a Q E hr h => ⟨_, PSs.nox ((pss_one (ps_ret (pe_cl c_is_string_of hr (by decide) pass0 (pa_cons (pv 0) (pa_cons (pe_gcv rfl T.c_SMALL) pa_nil)))))), ?_⟩)
  obtain ⟨d, g, q⟩ := h
  exact ⟨_, rfl, _, _, rfl, d, small, g, congrArg V.str small_is, q⟩
def sp_is_width (K : PySem.W.Frag) : Sp := sp1 fun a H Q _ => ∃ d, Tg K H a d ∧ Q (.bl (d.within 1 3)) H
/- is_width: thing=0; cells []; calls ['is_within']; builtins [] -/
abbrev s_is_width : Stmt := top 28
theorem sc_is_width : FnScope ["thing"] ["thing"] (defScope s_is_width) := ⟨rfl, rfl, rfl, by decide +kernel, rfl, by decide +kernel, by decide +kernel⟩
theorem ok_is_width {P : Program} {w : World} {K : PySem.W.Frag} {mg : Str → Option Value} {base : Heap} (D : Df K mg "is_width" s_is_width) (T : Tx K mg) (c_is_within : Cl CX0 P w K mg base 2 "is_within" (sp_is_within K)) :
    Cl CX0 P w K mg base 3 "is_width" (sp_is_width K) := by
  refine D.ok1 (k := 2) sc_is_width (fun _ _ _ _ _ _ us hl => match us, hl with | [_], _ => rfl) (fun f cdv A outer s H a Q E hr h => ⟨_, PSs.nox ((pss_one (ps_ret (pe_cl c_is_within hr (by decide) pass0 (pa_cons (pv 0) (pa_cons pe_int (pa_cons (pe_gcv rfl T.c_MOST_WIDTH) pa_nil))))))), ?_⟩)
  obtain ⟨d, g, q⟩ := h
  exact ⟨_, rfl, _, _, _, rfl, d, 1, 3, g, rfl, rfl, q⟩
/-- of a fraction alone -/
def sp_is_fraction (K : PySem.W.Frag) : Sp := sp1 fun a H Q _ => ∃ p : Fq, FrV K H a p ∧ 0 < p.2 ∧ Int.gcd p.1 p.2 = 1 ∧ Q (.bl true) H
/- is_fraction: thing=0; cells []; calls ['common_divisor', 'is_integer', 'is_pair']; builtins ['abs'] -/
abbrev s_is_fraction : Stmt := top 29
theorem sc_is_fraction : FnScope ["thing"] ["thing"] (defScope s_is_fraction) := ⟨rfl, rfl, rfl, by decide +kernel, rfl, by decide +kernel, by decide +kernel⟩
theorem ok_is_fraction {P : Program} {w : World} {K : PySem.W.Frag} {mg : Str → Option Value} {base : Heap} (D : Df K mg "is_fraction" s_is_fraction) (T : Tx K mg) (c_common_divisor : Cl CX0 P w K mg base 1 "common_divisor" (sp_common_divisor K)) (c_is_integer : Cl CX0 P w K mg base 1 "is_integer" (sp_is_integer K)) (c_is_pair : Cl CX0 P w K mg base 1 "is_pair" (sp_is_pair K)) :
    Cl CX0 P w K mg base 2 "is_fraction" (sp_is_fraction K) := by
  refine D.ok1 (k := 1) sc_is_fraction (fun _ _ _ _ _ _ us hl => match us, hl with | [_], _ => rfl) (fun f cdv A outer s H a Q E hr h => ⟨_, PSs.nox ((pss_cons (ps_if (PW.pt (pw_or (pt_not (pt_val (pe_cl c_is_pair hr (by decide) pass0 (pa_cons (pv 0) pa_nil)))) (pw_or (pt_not (pt_val (pe_cl c_is_integer hr (by decide) pass0 (pa_cons (pe_ix ix_tup (pv 0) pe_int (fun _ _ => rfl)) pa_nil)))) (pw_or (pt_not (pt_val (pe_cl c_is_integer hr (by decide) pass0 (pa_cons (pe_ix ix_tup (pv 0) pe_int (fun _ _ => rfl)) pa_nil)))) (pw_or1 (pt_cmpR op_lt (pe_ix ix_tup (pv 0) pe_int (fun _ _ => rfl)) pe_int (nomark _))))))) (pss_one (ps_ret pe_bl)) pss_nil)
      (pss_one (ps_ret (pe_cmpR op_eq (pe_cl c_common_divisor hr (by decide) pass0 (pa_cons (pe_callB call_abs (by rfl) T.abs (by decide +kernel) (pa_cons (pe_ix ix_tup (pv 0) pe_int (fun _ _ => rfl)) pa_nil)) (pa_cons (pe_ix ix_tup (pv 0) pe_int (fun _ _ => rfl)) pa_nil))) pe_int (nomark _)))))), ?_⟩)
  obtain ⟨p, ⟨x, rfl, hx⟩, hp, hg, q⟩ := h
  have gT : Tg K H (.ref x) (.tup [.int p.1, .int p.2]) := .tup hx (.cons (.int _) (.cons (.int _) .nil))
  refine ⟨_, rfl, _, rfl, _, gT, true, rfl, ?_⟩
  refine iteF ?_
  walk_at "rd"
  refine ⟨.int p.1, .int _, true, rfl, iteF ?_⟩
  walk_at "rd"
  refine ⟨.int p.2, .int _, true, rfl, iteF ?_⟩
  walk_at "rd"
  refine ifF (decide_eq_false (by omega)) ?_
  walk_at "rd"
  refine ⟨by split <;> omega, by omega, ?_⟩
  walk_at "rd"
  have e : ((Nat.gcd (if p.1 < 0 then -p.1 else p.1).toNat p.2.toNat : Nat) : Int) = 1 := by
    have h1 : (if p.1 < 0 then -p.1 else p.1).toNat = p.1.natAbs := by split <;> omega
    have h2 : p.2.toNat = p.2.natAbs := by omega
    rw [h1, h2]
    have h3 : Nat.gcd p.1.natAbs p.2.natAbs = 1 := hg
    rw [h3] <;> rfl
  rw [e]
  exact q
end K84
set_option maxHeartbeats 4000000
namespace K84
open PySem PySem.Spec PyProof.Rows L2
local macro_rules | `(tactic| walk_at "ix") => `(tactic| first | exact atI_nat (j := 0) rfl | exact atI_nat (j := 1) rfl | exact atI_nat (j := 2) rfl | exact atI_nat (j := 3) rfl | exact atI_nat (j := 4) rfl)
local macro_rules | `(tactic| walk_at "rd") => `(tactic| repeat (first
  | refine ⟨_, rfl, ?_⟩
  | refine ⟨rfl, ?_⟩
  | refine ⟨_, _, rfl, ?_⟩
  | refine ⟨_, _, rfl, rfl, ?_⟩
  | refine ⟨_, _, _, rfl, ?_⟩
  | refine ⟨_, _, _, _, rfl, ?_⟩
  | refine ⟨_, _, _, _, rfl, rfl, (by assumption), (by walk_at "ix"), ?_⟩
  | refine ⟨_, _, _, rfl, rfl, (by assumption), ?_⟩
  | refine ⟨.inl ⟨rfl, _, sqL_of (by assumption)⟩, ?_⟩
  | refine ⟨_, _, _, _, _, rfl, (by assumption), (by assumption), (by assumption), (by assumption), ?_⟩
  | refine ⟨_, _, _, _, _, rfl, .ty _, Tg.ty (by assumption), kit_ty (by first | exact kInt _ | exact kBool _ | exact kStr _ | exact kTup _ | exact kLst _ | exact kDct _), ?_⟩))
/-- a new list -/
def NewL (K : PySem.W.Frag) (H : Hp) (Q : VK) (xs : List V) : Prop := ∀ p H', Same H H' → H p = none → H' p = some (.lst xs) → Q (.ref p) H'
def sp_stretches_of (K : PySem.W.Frag) : Sp := sp2 fun a b H Q _ => ∃ (c : Wd) (w : Nat), a = .str (S c) ∧ b = .int w ∧ 1 ≤ w ∧ c.length ≤ 1000 ∧ NewL K H Q ((stq w c).map strV)
theorem stq_get {w i : Nat} {c : Wd} (h : i < c.length) : (stq w c)[i]? = some (if w ≤ i + 1 then (c.drop (i + 1 - w)).take w else caret :: c.take (i + 1)) := by
  unfold stq
  rw [List.getElem?_map, List.getElem?_range h] <;> rfl
theorem take_map_snoc {α β : Type} {l : List α} {f : α → β} {i : Nat} {x : α} (h : l[i]? = some x) : (l.take (i + 1)).map f = (l.take i).map f ++ [f x] := by
  rw [List.take_add_one, h, List.map_append] <;> rfl
/- stretches_of: code=0 width=1 found=2 last=3; cells []; calls []; builtins ['range', 'len'] -/
abbrev s_stretches_of : Stmt := top 32
theorem sc_stretches_of : FnScope ["code", "width", "found", "last"] ["code", "width"] (defScope s_stretches_of) := ⟨rfl, rfl, rfl, by decide +kernel, rfl, by decide +kernel, by decide +kernel⟩
theorem ok_stretches_of {P : Program} {w : World} {K : PySem.W.Frag} {mg : Str → Option Value} {base : Heap} (D : Df K mg "stretches_of" s_stretches_of) (T : Tx K mg)  :
    Cl CX0 P w K mg base 1 "stretches_of" (sp_stretches_of K) := by
  refine D.ok2 (k := 0) sc_stretches_of (fun _ _ _ _ _ _ us hl => match us, hl with | [_, _], _ => rfl) (fun f cdv A outer s H a b Q E hr h => ⟨_, PSs.nox ((pss_cons (ps_set (i := 2) sc_stretches_of.nd rfl (Or.inl rfl) (pe_lst pa_nil))
      (pss_cons (ps_for PassesOwn.never rfl (pi_range2 (by rfl) T.range (pa_cons pe_int (pa_cons (pe_op op_add (pe_callB call_len_str (by rfl) T.len (by decide +kernel) (pa_cons (pv 0) pa_nil)) pe_int) pa_nil))) (pg_name (i := 3) sc_stretches_of.nd rfl (Or.inl rfl)) (pss_one (ps_expr (pe_bm PySem.F.plainAttrs_list PySem.F.slot_list_append PySem.F.type_list_append mt_append (pv 2) (pa_cons (pe_ifExp (pt_cmpR op_ge (pv 3) (pv 1) (nomark _)) (pe_slice sl_str (pv 0) (po_some (pe_op op_sub (pv 3) (pv 1))) (po_some (pv 3))) (pe_op op_add_str pe_str (pe_slice sl_str (pv 0) po_none (po_some (pv 3))))) pa_nil)))))
      (pss_one (ps_ret (pv 2)))))), ?_⟩)
  obtain ⟨c, w, rfl, rfl, hw, hc, q⟩ := h
  refine ⟨Nat.zero_le _, fun p hp => ?_⟩
  have hsz : (S c).length ≤ sizeLine := szle (by rw [S_length]; omega)
  refine ⟨_, rfl, _, rfl, hsz, ?_⟩
  walk_at "rd"
  refine ⟨⟨by decide, by decide, by rw [S_length]; omega, by rw [S_length]; omega⟩, ?_⟩
  refine for_range (fun i σ H' => (∃ z, σ = [some (.str (S c)), some (.int w), some (.ref p), z]) ∧ AccP H p (fun i acc _ => acc = ((stq w c).take i).map strV) i H') ⟨⟨_, rfl⟩, AccP.start hp rfl⟩ ?_ ?_
  · rintro i σ H' hi ⟨⟨z, rfl⟩, acc, G, e, hG, s1, s2, rfl⟩
    rw [S_length] at hi
    have hi2 : i < c.length := by omega
    have hlen : (((stq w c).take i).map strV).length < sizeLine := by
      rw [List.length_map, List.length_take]
      exact szlt (by omega)
    walk_at "rd"
    refine ifB (fun t => ?_) (fun t => ?_)
    · have t2 := of_decide_eq_true t
      walk_at "rd"
      refine ⟨hsz, ?_⟩
      have e1 : (1 + (i : Int) - (w : Int)) = ((i + 1 - w : Nat) : Int) := by omega
      have e2 : (1 + (i : Int)) = ((i + 1 : Nat) : Int) := by omega
      rw [e1, e2, cut_mid (by omega) (by omega)]
      walk_at "rd"
      refine ⟨hlen, ⟨_, rfl⟩, _, G, upd_same, hG, s1, L2.Same.mut s2 hG, ?_⟩
      show _ = ((stq w c).take (i + 1)).map strV
      rw [take_map_snoc (stq_get hi2), if_pos (by omega)]
      have e3 : i + 1 - (i + 1 - w) = w := by omega
      rw [e3]
      rfl
    · have t2 := of_decide_eq_false t
      walk_at "rd"
      refine ⟨hsz, ?_⟩
      have e2 : (1 + (i : Int)) = ((i + 1 : Nat) : Int) := by omega
      rw [e2, cut_to (by omega)]
      walk_at "rd"
      refine ⟨szle (by rw [S_length, List.length_take]; show 1 + _ ≤ _; omega), ?_⟩
      walk_at "rd"
      refine ⟨hlen, ⟨_, rfl⟩, _, G, upd_same, hG, s1, L2.Same.mut s2 hG, ?_⟩
      show _ = ((stq w c).take (i + 1)).map strV
      rw [take_map_snoc (stq_get hi2), if_neg (by omega)]
      have e3 : (Str.ofString "^" : Str) = S [caret] := by decide +kernel
      rw [e3, S_app]
      rfl
  · rintro σ H' ⟨⟨z, rfl⟩, acc, G, e, hG, s1, s2, rfl⟩
    refine ⟨_, rfl, q p H' (s1.trans s2) hp ?_⟩
    rw [e, S_length]
    have e4 : (((c.length : Nat) : Int) + 1 - 1).toNat = c.length := by omega
    rw [e4, List.take_of_length_le (by rw [stq_length]; exact Nat.le_refl _)]
def sp_codes_of_length (K : PySem.W.Frag) : Sp := sp2 fun a b H Q _ => ∃ (r : Wd) (n : Nat), a = .str (S r) ∧ b = .int n ∧ r.length ≤ 3 ∧ n ≤ 3 ∧ NewL K H Q ((codes r n).map strV)
theorem codes_few {r : Wd} {n : Nat} (h : r.length ≤ 3) (hn : n ≤ 3) : (codes r n).length ≤ 27 := by
  rw [codes_length]
  have h1 : r.length ^ n ≤ 3 ^ n := Nat.pow_le_pow_left h n
  have h2 : 3 ^ n ≤ 3 ^ 3 := Nat.pow_le_pow_right (by decide) hn
  omega
theorem none_of {H H' : Hp} {p : Addr} (s : Same H H') (h : H' p = none) : H p = none := by
  cases e : H p with
  | none => rfl
  | some o => rw [s p o e] at h; cases h
theorem S_codes (c : Nat) : (⟨#[c]⟩ : Str) = S [c] := rfl
theorem flat_take {α β : Type} {l : List α} {f : α → List β} {i : Nat} {x : α} (h : l[i]? = some x) : (l.take (i + 1)).flatMap f = (l.take i).flatMap f ++ f x := by
  rw [List.take_add_one, h, List.flatMap_append]
  simp
theorem codes_sz {r : Wd} {n : Nat} (h : r.length ≤ 3) (hn : n ≤ 2) (i : Nat) : (((codes r n).take i).flatMap fun c => r.map fun x => c ++ [x]).length ≤ 27 := by
  refine Nat.le_trans ?_ (codes_few (r := r) (n := n + 1) h (by omega))
  have e : (codes r (n + 1)) = ((codes r n).take i).flatMap (fun c => r.map fun x => c ++ [x]) ++ ((codes r n).drop i).flatMap (fun c => r.map fun x => c ++ [x]) := by
    rw [← List.flatMap_append, List.take_append_drop]
    rfl
  rw [e, List.length_append]
  exact Nat.le_add_right _ _
/- codes_of_length: rows=0 length=1 found=2 turn=3 code=4 row=5; cells ['rows']; calls []; builtins ['range'] -/
abbrev s_codes_of_length : Stmt := top 33
theorem sc_codes_of_length : FnScope ["rows", "length", "found", "turn", "code", "row"] ["rows", "length"] (defScope s_codes_of_length) := ⟨rfl, rfl, rfl, by decide +kernel, rfl, by decide +kernel, by decide +kernel⟩
theorem ok_codes_of_length {P : Program} {w : World} {K : PySem.W.Frag} {mg : Str → Option Value} {base : Heap} (D : Df K mg "codes_of_length" s_codes_of_length) (T : Tx K mg)  :
    Cl CX0 P w K mg base 1 "codes_of_length" (sp_codes_of_length K) := by
  refine D.ok2 (k := 0) sc_codes_of_length (fun _ _ _ _ _ _ us hl => match us, hl with | [_, _], _ => rfl) (fun f cdv A outer s H a b Q E hr h => ⟨_, PSs.nox ((pss_cons (ps_set (i := 2) sc_codes_of_length.nd rfl (Or.inl rfl) (pe_lst (pa_cons pe_str pa_nil)))
      (pss_cons (ps_for PassesOwn.never rfl (pi_range1 (by rfl) T.range (pa_cons (pv 1) pa_nil)) (pg_name (i := 3) sc_codes_of_length.nd rfl (Or.inl rfl)) (pss_one (ps_setLc2 (i := 2) (own := [("code", 4), ("row", 5)]) (vs1 := [5]) rfl sc_codes_of_length.nd rfl rfl (sw_true rfl rfl rfl (by decide +kernel)) (pi_list (pv 2)) (blkOk_by (own := [("code", 4), ("row", 5)]) (N := ["rows", "length", "found", "turn", "code", "row"]) (sc := defScope s_codes_of_length) (by decide +kernel)) (by decide) (fun _ _ _ _ _ => (pg_name (i := 4) sc_codes_of_length.nd rfl (Or.inl rfl))) (fun _ _ _ _ _ => pts_nil) (fun _ _ _ _ _ => (pi_str (pv 0))) (fun _ _ _ _ _ => (pg_name (i := 5) sc_codes_of_length.nd rfl (Or.inl rfl))) (fun _ _ _ _ _ => pts_nil) (fun _ _ _ _ _ => (pe_op op_add_str (pv 4) (pv 5))))))
      (pss_one (ps_ret (pv 2)))))), ?_⟩)
  obtain ⟨r, n, rfl, rfl, hr3, hn, q⟩ := h
  refine ⟨by show 1 ≤ sizeLine; decide, fun p hp => ?_⟩
  refine ⟨_, rfl, _, rfl, by omega, by omega, ?_⟩
  refine for_range (fun i σ H' => Same H H' ∧ ∃ p z x y, σ = [some (.str (S r)), some (.int n), some (.ref p), z, x, y] ∧ H p = none ∧ H' p = some (.lst ((codes r i).map strV))) ⟨same_new hp, p, _, _, _, rfl, hp, upd_same⟩ ?_ ?_
  · rintro i0 σ H' hi ⟨s0, p, z, x, y, rfl, hp0, e⟩
    have hi2 : i0 ≤ 2 := by omega
    refine ⟨.ref p, rfl, p, rfl, ⟨_, sqL_of e⟩, fun D hD => ?_⟩
    refine lc2_it (walk_list (xs := (codes r i0).map strV)) (AccP H' D fun i acc _ => acc = (((codes r i0).take i).flatMap fun c => r.map fun x => c ++ [x]).map strV) (AccP.start hD rfl) ?_ ?_ ?_
    · rintro j H2 hj ⟨acc, G, e2, hG, s1, s2, e3⟩
      exact s2.seq (s1.seq (sqL_of e))
    · rintro j v H2 H3 hj ⟨acc, G, e2, hG, s1, s2, e3⟩ ⟨rfl, hv⟩
      rw [List.getElem?_map] at hv
      obtain ⟨c, hc, rfl⟩ := Option.map_eq_some_iff.mp hv
      obtain ⟨cl, _⟩ := mem_codes.mp (List.mem_of_getElem? hc)
      refine ⟨rfl, _, rfl, _, rfl, ?_⟩
      refine in_it (walk_str (z := S r)) (AccP H' D fun k acc _ => acc = (((codes r i0).take j).flatMap (fun c => r.map fun x => c ++ [x]) ++ (r.take k).map fun x => c ++ [x]).map strV) ⟨acc, G, e2, hG, s1, s2, by simpa using e3⟩ (fun _ _ _ _ => trivial) ?_ ?_
      · rintro k v H2 H3 hk ⟨acc, G, e2, hG, s1, s2, rfl⟩ ⟨rfl, a, ha, rfl⟩
        walk_at "rd"
        have hs : (c.length + 1 : Nat) ≤ 100 := by omega
        refine ⟨szle (by rw [S_length]; show c.length + 1 ≤ _; omega), ?_⟩
        have hlen : ((((codes r i0).take j).flatMap (fun c => r.map fun x => c ++ [x]) ++ (r.take k).map fun x => c ++ [x]).map strV).length < sizeLine := by
          rw [List.length_map, List.length_append, List.length_map, List.length_take]
          have := codes_sz hr3 hi2 j
          exact szlt (by omega)
        refine AccP.push e2 hG s1 s2 hlen ?_
        have ha2 : r[k]? = some a := by
          have := ha
          rw [← Array.getElem?_toList] at this
          exact this
        show _ = ((((codes r i0).take j).flatMap (fun c => r.map fun x => c ++ [x]) ++ (r.take (k + 1)).map fun x => c ++ [x])).map strV
        rw [S_codes, S_app, List.map_append, List.map_append, take_map_snoc ha2, List.map_append, List.append_assoc]
        rfl
      · rintro H2 ⟨acc, G, e2, hG, s1, s2, rfl⟩
        refine ⟨_, G, e2, hG, s1, s2, ?_⟩
        show _ = (((codes r i0).take (j + 1)).flatMap fun c => r.map fun x => c ++ [x]).map strV
        have et : r.take (S r).cps.size = r := List.take_of_length_le (by show r.length ≤ r.toArray.size; simp)
        rw [flat_take hc, et]
    · rintro H2 ⟨acc, G, e2, hG, s1, s2, rfl⟩
      refine ⟨s0.trans (s1.trans s2), D, _, _, _, rfl, ?_, ?_⟩
      · exact none_of s0 hD
      · rw [e2, List.length_map, List.take_length]
        rfl
  · rintro σ H' ⟨s0, p, z, x, y, rfl, hp0, e⟩
    exact ⟨_, rfl, q p H' s0 hp0 e⟩
def sp_stretch_names (K : PySem.W.Frag) : Sp := sp2 fun a b H Q _ => ∃ (r : Wd) (w : Nat), a = .str (S r) ∧ b = .int w ∧ r.length ≤ 3 ∧ 1 ≤ w ∧ w ≤ 2 ∧ NewL K H Q ((st r w).map strV)
/- stretch_names: rows=0 width=1 found=2 length=3 code=4; cells []; calls ['codes_of_length']; builtins ['sorted', 'range'] -/
abbrev s_stretch_names : Stmt := top 34
theorem sc_stretch_names : FnScope ["rows", "width", "found", "length", "code"] ["rows", "width"] (defScope s_stretch_names) := ⟨rfl, rfl, rfl, by decide +kernel, rfl, by decide +kernel, by decide +kernel⟩
theorem ok_stretch_names {P : Program} {w : World} {K : PySem.W.Frag} {mg : Str → Option Value} {base : Heap} (D : Df K mg "stretch_names" s_stretch_names) (T : Tx K mg) (c_codes_of_length : Cl CX0 P w K mg base 1 "codes_of_length" (sp_codes_of_length K)) :
    Cl CX0 P w K mg base 2 "stretch_names" (sp_stretch_names K) := by
  refine D.ok2 (k := 1) sc_stretch_names (fun _ _ _ _ _ _ us hl => match us, hl with | [_, _], _ => rfl) (fun f cdv A outer s H a b Q E hr h => ⟨_, PSs.nox ((pss_cons (ps_set (i := 2) sc_stretch_names.nd rfl (Or.inl rfl) (pe_cl c_codes_of_length hr (by decide) pass0 (pa_cons (pv 0) (pa_cons (pv 1) pa_nil))))
      (pss_cons (ps_for PassesOwn.never rfl (pi_range2 (by rfl) T.range (pa_cons pe_int (pa_cons (pv 1) pa_nil))) (pg_name (i := 3) sc_stretch_names.nd rfl (Or.inl rfl)) (pss_one (ps_expr (pe_bm PySem.F.plainAttrs_list PySem.F.slot_list_extend PySem.F.type_list_extend mt_extend (pv 2) (pa_cons (pe_lc (own := [("code", 4)]) rfl sc_stretch_names.nd (pi_list (pe_cl c_codes_of_length hr (by decide) pass0 (pa_cons (pv 0) (pa_cons (pv 3) pa_nil)))) (blkOk_by (own := [("code", 4)]) (N := ["rows", "width", "found", "length", "code"]) (sc := defScope s_stretch_names) (by decide +kernel)) (fun _ _ _ _ _ => (pg_name (i := 4) sc_stretch_names.nd rfl (Or.inl rfl))) (fun _ _ _ _ _ => pts_nil) (fun _ _ _ _ _ => (pe_op op_add_str pe_str (pv 4)))) pa_nil)))))
      (pss_one (ps_ret (pe_callB (cr_sortedSA hr.units) (by rfl) T.sorted (by decide +kernel) (pa_cons (pv 2) pa_nil))))))), ?_⟩)
  obtain ⟨r, w, rfl, rfl, hr3, hw, hw2, q⟩ := h
  walk_at "rd"
  refine ⟨hr3, by omega, fun p H1 s1 hp e => ?_⟩
  walk_at "rd"
  refine ⟨⟨by decide, by decide, by omega, by omega⟩, ?_⟩
  refine for_range (fun i σ H' => (∃ z y, σ = [some (.str (S r)), some (.int w), some (.ref p), z, y]) ∧ Same H H' ∧ H' p = some (.lst ((codes r w ++ extra r i).map strV))) ⟨⟨_, _, rfl⟩, s1, by rw [e]; simp [extra]⟩ ?_ ?_
  · rintro i σ H' hi ⟨⟨z, y, rfl⟩, s2, e2⟩
    have hi2 : i = 0 := by omega
    subst hi2
    walk_at "rd"
    refine ⟨hr3, by decide, fun d H2 s3 hd ed => ?_⟩
    walk_at "rd"
    refine ⟨⟨_, sqL_of ed⟩, fun D hD => ?_⟩
    refine lc_it (walk_list (xs := (codes r 1).map strV)) (AccP H2 D fun i acc _ => acc = ((((codes r 1).take i).map (caret :: ·))).map strV) (AccP.start hD rfl) (fun j H3 _ h => ?_) ?_ ?_
    · obtain ⟨acc, G, e2, hG, s1, s2, e3⟩ := h
      exact s2.seq (s1.seq (sqL_of ed))
    · rintro j v H3 H4 hj ⟨acc, G, e3, hG, s4, s5, rfl⟩ ⟨rfl, hv⟩
      rw [List.getElem?_map] at hv
      obtain ⟨c, hc, rfl⟩ := Option.map_eq_some_iff.mp hv
      obtain ⟨cl, _⟩ := mem_codes.mp (List.mem_of_getElem? hc)
      walk_at "rd"
      refine ⟨szle (by rw [S_length]; show 1 + c.length ≤ _; omega), ?_⟩
      have hf := codes_few (n := 1) hr3 (by omega)
      refine AccP.push e3 hG s4 s5 (by rw [List.length_map, List.length_map, List.length_take]; exact szlt (by omega)) ?_
      show _ = ((((codes r 1).take (j + 1)).map (caret :: ·))).map strV
      have e3 : (Str.ofString "^" : Str) = S [caret] := by decide +kernel
      rw [e3, S_app, take_map_snoc hc, List.map_append]
      rfl
    · rintro H3 ⟨acc, G, e3, hG, s4, s5, rfl⟩
      have s6 := s3.trans (s4.trans s5)
      have hf := codes_few (n := 1) hr3 (by omega)
      have hf2 := codes_few (n := w) hr3 (by omega)
      rw [List.length_map, List.take_length] at e3
      refine ⟨p, D, _, _, rfl, rfl, s6 _ _ e2, e3, ?_, ?_⟩
      · rw [List.length_map, List.length_map, List.length_map, List.length_append]
        refine szle ?_
        show _ + 0 + _ ≤ _
        omega
      · refine ⟨⟨_, _, rfl⟩, (s2.trans s6).mut hp, ?_⟩
        rw [upd_same, extra_succ, ← List.append_assoc, List.map_append (l₁ := codes r w ++ extra r 0)]
  · rintro σ H' ⟨⟨z, y, rfl⟩, s2, e2⟩
    have e5 : ((w : Int) - 1).toNat = w - 1 := by omega
    rw [e5] at e2
    refine ⟨_, rfl, p, _, rfl, sqL_of e2, fun b hb => ?_⟩
    exact q b _ (s2.new hb) (none_of s2 hb) upd_same
/-- a table: the names of the stretches in their order, a fraction each -/
structure Tab (K : PySem.W.Frag) (H : Hp) (a : Addr) (r : Wd) (w : Nat) (tb : Wd → Fq) (m : Nat) : Prop where
  at_ : ∃ f : Wd → V, H a = some (.dK ((st r w).map fun n => (Sum.inr (S n), f n))) ∧ ∀ n ∈ st r w, FrV K H (f n) (tb n)
  ok : ∀ n ∈ st r w, FB m (tb n) ∧ Int.gcd (tb n).1 (tb n).2 = 1
theorem Tab.mono {K : PySem.W.Frag} {H H' : Hp} {a : Addr} {r : Wd} {w m : Nat} {tb : Wd → Fq} (s : Same H H') (h : Tab K H a r w tb m) : Tab K H' a r w tb m := by
  obtain ⟨⟨f, h1, h2⟩, h3⟩ := h
  exact ⟨⟨f, s _ _ h1, fun n hn => (h2 n hn).mono s⟩, h3⟩
theorem valV_map {f : Wd → V} : ∀ {l : List Wd} {n : Wd}, n ∈ l → valV (l.map fun n => ((Sum.inr (S n) : L2.Key), f n)) (Sum.inr (S n)) = some (f n)
  | a :: l, n, h => by
    unfold valV
    rw [List.map_cons, List.find?_cons]
    by_cases e : a = n
    · subst e
      rw [decide_eq_true rfl] <;> rfl
    · have e2 : decide ((Sum.inr (S a) : L2.Key) = Sum.inr (S n)) = false := decide_eq_false fun z => e (S_inj (Sum.inr.inj z))
      rw [e2]
      exact valV_map ((List.mem_cons.mp h).resolve_left fun z => e z.symm)
theorem valV_off {f : Wd → V} : ∀ {l : List Wd} {n : Wd}, n ∉ l → valV (l.map fun n => ((Sum.inr (S n) : L2.Key), f n)) (Sum.inr (S n)) = none
  | [], n, h => rfl
  | a :: l, n, h => by
    unfold valV
    rw [List.map_cons, List.find?_cons]
    have e : a ≠ n := fun z => h (by rw [z]; exact List.mem_cons_self)
    have e2 : decide ((Sum.inr (S a) : L2.Key) = Sum.inr (S n)) = false := decide_eq_false fun z => e (S_inj (Sum.inr.inj z))
    rw [e2]
    exact valV_off fun z => h (List.mem_cons_of_mem _ z)
theorem putK_map {f : Wd → V} {l : List Wd} {n : Wd} {v : V} (h : n ∉ l) (e : f n = v) : putK (l.map fun n => ((Sum.inr (S n) : L2.Key), f n)) (Sum.inr (S n)) v = (l ++ [n]).map fun n => ((Sum.inr (S n) : L2.Key), f n) := by
  rw [putK_new v (valV_off h), List.map_append, ← e]
  rfl
theorem Tab.get {K : PySem.W.Frag} {H : Hp} {a : Addr} {r : Wd} {w m : Nat} {tb : Wd → Fq} (h : Tab K H a r w tb m) {n : Wd} (hn : n ∈ st r w) : ∃ v, DGet H a (.str (S n)) (some v) ∧ FrV K H v (tb n) := by
  obtain ⟨⟨f, h1, h2⟩, h3⟩ := h
  refine ⟨f n, .inl ⟨_, Sum.inr (S n), .inl h1, rfl, ?_⟩, h2 n hn⟩
  exact (valV_map hn).symm
def sp_is_table (K : PySem.W.Frag) : Sp := sp2 fun a b H Q _ => ∃ (p q : Addr) (r : Wd) (w m : Nat) (tb : Wd → Fq), a = .ref p ∧ b = .ref q ∧ RowsOk r ∧ 1 ≤ w ∧ w ≤ 2 ∧ Tab K H p r w tb m ∧ SqL K H q ((st r w).map strV) ∧ ∀ H', Same H H' → Q (.bl true) H'
/- is_table: thing=0 names=1 name=2; cells ['thing']; calls ['is_fraction']; builtins ['all', 'len', 'isinstance', 'dict'] -/
abbrev s_is_table : Stmt := top 35
theorem sc_is_table : FnScope ["thing", "names", "name"] ["thing", "names"] (defScope s_is_table) := ⟨rfl, rfl, rfl, by decide +kernel, rfl, by decide +kernel, by decide +kernel⟩
theorem ok_is_table {P : Program} {w : World} {K : PySem.W.Frag} {mg : Str → Option Value} {base : Heap} (D : Df K mg "is_table" s_is_table) (T : Tx K mg) (c_is_fraction : Cl CX0 P w K mg base 2 "is_fraction" (sp_is_fraction K)) :
    Cl CX0 P w K mg base 3 "is_table" (sp_is_table K) := by
  refine D.ok2 (k := 2) sc_is_table (fun _ _ _ _ _ _ us hl => match us, hl with | [_, _], _ => rfl) (fun f cdv A outer s H a b Q E hr h => ⟨_, PSs.nox ((pss_cons (ps_if (PW.pt (pw_or (pt_not (pt_val (pe_callB call_isi (by rfl) T.isinstance (by decide +kernel) (pa_cons (pv 0) (pa_cons (pe_bltn (v := .ty "dict") (by rfl) T.dict_ (by decide +kernel) rfl) pa_nil))))) (pw_or1 (pt_cmpR op_ne (pe_callB call_lenD (by rfl) T.len (by decide +kernel) (pa_cons (pv 0) pa_nil)) (pe_callB call_len_seq (by rfl) T.len (by decide +kernel) (pa_cons (pv 1) pa_nil)) (nomark _))))) (pss_one (ps_ret pe_bl)) pss_nil)
      (pss_one (ps_ret (pe_callB (cr_all rfl) (by rfl) T.all (by decide +kernel) (pa_cons (pe_lc (own := [("name", 2)]) rfl sc_is_table.nd (pi_list (pv 1)) (blkOk_by (own := [("name", 2)]) (N := ["thing", "names", "name"]) (sc := defScope s_is_table) (by decide +kernel)) (fun _ _ _ _ _ => (pg_name (i := 2) sc_is_table.nd rfl (Or.inl rfl))) (fun _ _ _ _ _ => pts_nil) (fun _ _ _ _ _ => (pe_and (pe_cmp (pc_din (hu_of hr) (pv 2) (pv 0)) rfl) (pe_one (pe_cl c_is_fraction hr (by decide) pass0 (pa_cons (pe_dget (hu_of hr) (pv 0) (pv 2) (fun _ _ => rfl)) pa_nil)))))) pa_nil)))))), ?_⟩)
  obtain ⟨p, t, r, w, m, tb, rfl, rfl, hrr, hw, hw2, hT, hL, q⟩ := h
  obtain ⟨⟨fv, h1, h2⟩, h3⟩ := id hT
  have hlen := st_length hrr hw hw2
  refine ⟨_, rfl, _, _, _, _, true, rfl, .ty _, .base (.dK h1), kit_ty (kDct .dct), ?_⟩
  refine ⟨_, rfl, iteF ?_⟩
  refine ⟨_, rfl, p, _, rfl, h1, _, rfl, t, _, rfl, .inl hL, ?_⟩
  walk_at "rd"
  refine ifF ?_ ?_
  · rw [List.length_map, List.length_map, decide_eq_true rfl] <;> rfl
  refine ⟨_, rfl, t, rfl, ⟨_, hL⟩, fun D hD => ?_⟩
  refine lc_it (walk_list (xs := (st r w).map strV)) (AccP H D fun i acc _ => acc = (List.replicate i true).map V.bl) (AccP.start hD rfl) (fun j H3 _ h => ?_) ?_ ?_
  · obtain ⟨acc, G, e2, hG, s1, s2, e3⟩ := h
    exact s2.seq (s1.seq hL)
  · rintro j v H3 H4 hj ⟨acc, G, e3, hG, s4, s5, rfl⟩ ⟨rfl, hv⟩
    rw [List.getElem?_map] at hv
    obtain ⟨c, hc, rfl⟩ := Option.map_eq_some_iff.mp hv
    have hm := List.mem_of_getElem? hc
    obtain ⟨u, g1, g2⟩ := (hT.mono (s4.trans s5)).get hm
    obtain ⟨b1, b2⟩ := h3 c hm
    refine ⟨rfl, _, rfl, _, rfl, p, some u, rfl, g1, ?_⟩
    refine ⟨_, rfl, iteT ?_⟩
    refine ⟨_, rfl, _, rfl, p, u, rfl, g1, _, rfl, tb c, g2, b1.2.1, b2, ?_⟩
    refine AccP.push e3 hG s4 s5 (by rw [List.length_map, List.length_replicate]; rw [List.length_map] at hj; exact szlt (by omega)) ?_
    show _ = (List.replicate (j + 1) true).map V.bl
    rw [List.replicate_succ', List.map_append] <;> rfl
  · rintro H3 ⟨acc, G, e3, hG, s4, s5, rfl⟩
    refine ⟨D, _, rfl, sqL_of e3, ?_⟩
    have e5 : (List.replicate ((st r w).map strV).length true).all id = true := by simp
    rw [e5]
    exact q H3 (s4.trans s5)
/-- a Prices object -/
def PrO (K : PySem.W.Frag) (H : Hp) (v : V) (r : Wd) (w : Nat) (tb : Wd → Fq) (m : Nat) : Prop :=
  ∃ a C dx fs t, v = .ref a ∧ H a = some (.ins C dx fs) ∧ Cls K C ∧ NoAttr K C "rows" ∧ NoAttr K C "width" ∧ NoAttr K C "kept_table" ∧
    fs.lookup ("rows" : Str) = some (V.str (S r)) ∧ fs.lookup ("width" : Str) = some (V.int w) ∧ fs.lookup ("kept_table" : Str) = some (V.ref t) ∧ Tab K H t r w tb m
theorem PrO.mono {K : PySem.W.Frag} {H H' : Hp} {v : V} {r : Wd} {w m : Nat} {tb : Wd → Fq} (s : Same H H') (h : PrO K H v r w tb m) : PrO K H' v r w tb m := by
  obtain ⟨a, C, dx, fs, t, e, h1, h2, h3, h4, h5, h6, h7, h8, h9⟩ := h
  exact ⟨a, C, dx, fs, t, e, s _ _ h1, h2, h3, h4, h5, h6, h7, h8, h9.mono s⟩
def sp_price_of (K : PySem.W.Frag) : Sp := sp2 fun a b H Q _ => ∃ (c r : Wd) (w m : Nat) (tb : Wd → Fq), b = .str (S c) ∧ PrO K H a r w tb m ∧ 1 ≤ w ∧ (∀ x ∈ c, x ∈ r) ∧ c.length ≤ 8 ∧ m ≤ 200 ∧ ∀ v H', Same H H' → FrV K H' v (prc tb w c) → Q v H'
/- price_of: prices=0 code=1 stretch=2; cells ['prices']; calls ['sum_of', 'stretches_of']; builtins [] -/
abbrev s_price_of : Stmt := top 37
theorem sc_price_of : FnScope ["prices", "code", "stretch"] ["prices", "code"] (defScope s_price_of) := ⟨rfl, rfl, rfl, by decide +kernel, rfl, by decide +kernel, by decide +kernel⟩
theorem ok_price_of {P : Program} {w : World} {K : PySem.W.Frag} {mg : Str → Option Value} {base : Heap} (D : Df K mg "price_of" s_price_of) (T : Tx K mg) (c_sum_of : Cl CX0 P w K mg base 4 "sum_of" (sp_sum_of K)) (c_stretches_of : Cl CX0 P w K mg base 1 "stretches_of" (sp_stretches_of K)) :
    Cl CX0 P w K mg base 5 "price_of" (sp_price_of K) := by
  refine D.ok2 (k := 4) sc_price_of (fun _ _ _ _ _ _ us hl => match us, hl with | [_, _], _ => rfl) (fun f cdv A outer s H a b Q E hr h => ⟨_, PSs.nox ((pss_one (ps_ret (pe_cl c_sum_of hr (by decide) pass0 (pa_cons (pe_lc (own := [("stretch", 2)]) rfl sc_price_of.nd (pi_list (pe_cl c_stretches_of hr (by decide) pass0 (pa_cons (pv 1) (pa_cons (pe_fld (pv 0) (by rfl)) pa_nil)))) (blkOk_by (own := [("stretch", 2)]) (N := ["prices", "code", "stretch"]) (sc := defScope s_price_of) (by decide +kernel)) (fun _ _ _ _ _ => (pg_name (i := 2) sc_price_of.nd rfl (Or.inl rfl))) (fun _ _ _ _ _ => pts_nil) (fun _ _ _ _ _ => (pe_dget (hu_of hr) (peK (t' := tFld K _ _) (pe_fld (pv 0) (by rfl)) rfl) (pv 2) (fun _ _ => rfl)))) pa_nil))))), ?_⟩)
  obtain ⟨c, r, w, m, tb, rfl, hP, hw, hc, hl, hm, q⟩ := h
  obtain ⟨oa, C, dx, fs, ta, rfl, o1, o2, o3, o4, o5, o6, o7, o8, h4⟩ := hP
  walk_at "rd"
  refine ⟨hw, by omega, fun p H1 s1 hp e => ?_⟩
  walk_at "rd"
  refine ⟨⟨_, sqL_of e⟩, fun D hD => ?_⟩
  refine lc_it (walk_list (xs := (stq w c).map strV)) (AccP H1 D fun i acc G => Each (FrV K G) acc (((stq w c).take i).map tb)) (AccP.start hD Each.nil) (fun j H3 _ h => ?_) ?_ ?_
  · obtain ⟨acc, G, e2, hG, s1, s2, e3⟩ := h
    exact s2.seq (s1.seq (sqL_of e))
  · rintro j v H3 H4 hj ⟨acc, G, e3, hG, s4, s5, hE⟩ ⟨rfl, hv⟩
    rw [List.getElem?_map] at hv
    obtain ⟨x, hx, rfl⟩ := Option.map_eq_some_iff.mp hv
    have hm := stq_mem hc (List.mem_of_getElem? hx)
    have o1' := (s1.trans (s4.trans s5)) _ _ o1
    obtain ⟨u, g1, g2⟩ := (h4.mono (s1.trans s4)).get hm
    have g1' : DGet H4 ta (.str (S x)) (some u) := by
      obtain ⟨v2, k1, k2⟩ := (h4.mono (s1.trans (s4.trans s5))).get hm
      rcases g1 with ⟨kvs, k, e1, e2, e3⟩ | ⟨kvs, k, b, e1, e2, e3, e4⟩
      · refine .inl ⟨kvs, k, ?_, e2, e3⟩
        rcases e1 with e1 | ⟨o, e1⟩
        · exact .inl (s5 _ _ e1)
        · exact .inr ⟨o, s5 _ _ e1⟩
      · cases e2
    walk_at "rd"
    refine ⟨ta, u, rfl, g1', ?_⟩
    have hlen : acc.length < sizeLine := by
      rw [hE.1, List.length_map, List.length_take, stq_length]
      exact szlt (by omega)
    refine AccP.push e3 hG s4 s5 hlen ?_
    show Each (FrV K G) (acc ++ [u]) (((stq w c).take (j + 1)).map tb)
    rw [take_map_snoc hx]
    exact hE.snoc g2
  · rintro H3 ⟨acc, G, e3, hG, s4, s5, hE⟩
    rw [List.length_map, List.take_length] at hE
    refine ⟨_, rfl, D, acc, _, m, rfl, sqL_of e3, hE.mono fun v q h => h.mono s5, fun q hq => ?_, ?_, fun v H4 s6 hv => q v H4 (s1.trans (s4.trans (s5.trans s6))) hv⟩
    · obtain ⟨x, hx, rfl⟩ := List.mem_map.mp hq
      exact (h4.ok x (stq_mem hc hx)).1
    · rw [List.length_map, stq_length]
      have k1 : (m + 1) * (c.length + 1) ≤ 201 * 9 := Nat.mul_le_mul (by omega) (by omega)
      omega
def sp_price (K : PySem.W.Frag) : Sp := sp2 fun a b H Q _ => ∃ (c r : Wd) (w m : Nat) (tb : Wd → Fq), b = .str (S c) ∧ PrO K H a r w tb m ∧ 1 ≤ w ∧ (∀ x ∈ c, x ∈ r) ∧ c.length ≤ 8 ∧ m ≤ 200 ∧ ∀ v H', Same H H' → FrV K H' v (prc tb w c) → Q v H'
theorem over_yes {c r : Wd} (h : ∀ x ∈ c, x ∈ r) : (Th.str (S c)).over r = true := by
  show ((S c).cps.toList.all fun x => decide (x ∈ r)) = true
  rw [S_list, List.all_eq_true]
  exact fun x hx => decide_eq_true (h x hx)
/- price: prices=0 code=1; cells []; calls ['price_of', 'is_code']; builtins [] -/
abbrev s_price : Stmt := top 38
theorem sc_price : FnScope ["prices", "code"] ["prices", "code"] (defScope s_price) := ⟨rfl, rfl, rfl, by decide +kernel, rfl, by decide +kernel, by decide +kernel⟩
theorem ok_price {P : Program} {w : World} {K : PySem.W.Frag} {mg : Str → Option Value} {base : Heap} (D : Df K mg "price" s_price) (T : Tx K mg) (c_price_of : Cl CX0 P w K mg base 5 "price_of" (sp_price_of K)) (c_is_code : Cl CX0 P w K mg base 2 "is_code" (sp_is_code K)) :
    Cl (L2.CX P w) P w K mg base 6 "price" (sp_price K) := by
  refine D.ok2 (k := 5) sc_price (fun _ _ _ _ _ _ us hl => match us, hl with | [_, _], _ => rfl) (fun f cdv A outer s H a b Q E hr h => ⟨_, (pss_cons (ps_if (pt_not (pt_val (pe_cl c_is_code hr (by decide) pass0 (pa_cons (pe_fld (pv 0) (by rfl)) (pa_cons (pv 1) pa_nil))))) (pss_one ps_never) pss_nil)
      (pss_one (ps_ret (pe_cl c_price_of hr (by decide) pass0 (pa_cons (pv 0) (pa_cons (pv 1) pa_nil)))))), ?_⟩)
  obtain ⟨c, r, w, m, tb, rfl, hP, hw, hc, hl, hm, q⟩ := h
  obtain ⟨oa, C, dx, fs, ta, rfl, o1, o2, o3, o4, o5, o6, o7, o8, h4⟩ := id hP
  walk_at "rd"
  refine ⟨r, .str (S c), rfl, .str _, ?_⟩
  walk_at "rd"
  rw [over_yes hc]
  refine iteF ?_
  exact ⟨_, rfl, _, rfl, _, _, rfl, c, r, w, m, tb, rfl, hP, hw, hc, hl, hm, q⟩
end K84
namespace K84
open PySem PySem.Spec PyProof.Rows L2
/-! ### all but one -/
def wo (H : Hp) (t : Addr) : Hp := fun b => if b = t then none else H b
theorem wo_at {H : Hp} {t : Addr} : wo H t t = none := by unfold wo; rw [if_pos rfl]
theorem wo_ne {H : Hp} {t b : Addr} (h : b ≠ t) : wo H t b = H b := by unfold wo; rw [if_neg h]
theorem wo_same {H : Hp} {t : Addr} : Same (wo H t) H := fun b o e => by
  by_cases h : b = t
  · rw [h, wo_at] at e; cases e
  · rwa [wo_ne h] at e
theorem wo_mono {H H' : Hp} {t : Addr} (s : Same H H') : Same (wo H t) (wo H' t) := fun b o e => by
  by_cases h : b = t
  · rw [h, wo_at] at e; cases e
  · rw [wo_ne h] at e ⊢
    exact s b o e
theorem wo_upd {H : Hp} {t : Addr} {o : HO} : Same (wo H t) (upd H t o) := L2.Same.mut wo_same wo_at
theorem wo_eq {H : Hp} {t : Addr} {o : HO} : wo (upd H t o) t = wo H t := by
  funext b
  by_cases h : b = t
  · rw [h, wo_at, wo_at]
  · rw [wo_ne h, wo_ne h, upd_ne h]
theorem wo_to {H G : Hp} {t : Addr} (s : Same G H) (h : G t = none) : Same G (wo H t) := fun b o e => by
  have hb : b ≠ t := by rintro rfl; rw [h] at e; cases e
  rw [wo_ne hb]
  exact s b o e
/-- a list or an instance -/
def Odd (u : HO) : Prop := (∃ xs, u = .lst xs) ∨ ∃ C dx fs, u = .ins C dx fs
theorem Odd.lst {xs : List V} : Odd (.lst xs) := .inl ⟨xs, rfl⟩
theorem Odd.ins {C dx : Addr} {fs : List (Str × V)} : Odd (.ins C dx fs) := .inr ⟨C, dx, fs, rfl⟩
theorem sqT_wo {K : PySem.W.Frag} {H : Hp} {t p : Addr} {u : HO} {xs : List V} (e : H t = some u) (o : Odd u) (h : SqT K H p xs) : SqT K (wo H t) p xs := by
  rcases h with (h | ⟨q, h⟩) | h
  · refine .inl (.inl ?_)
    rw [wo_ne ?_]
    · exact h
    · rintro rfl
      rw [h] at e
      cases e
      rcases o with ⟨_, z⟩ | ⟨_, _, _, z⟩ <;> cases z
  · refine .inl (.inr ⟨q, ?_⟩)
    rw [wo_ne ?_]
    · exact h
    · rintro rfl
      rw [h] at e
      cases e
      rcases o with ⟨_, z⟩ | ⟨_, _, _, z⟩ <;> cases z
  · exact .inr h
theorem FrV.wo {K : PySem.W.Frag} {H : Hp} {t : Addr} {u : HO} {v : V} {q : Int × Int} (e : H t = some u) (o : Odd u) (h : FrV K H v q) : FrV K (wo H t) v q := by
  obtain ⟨p, e2, h⟩ := h
  exact ⟨p, e2, sqT_wo e o h⟩
theorem wo_keep {H : Hp} {t p : Addr} {u u' : HO} (e : H t = some u) (e' : H p = some u') (h : u ≠ u') : wo H t p = some u' := by
  rw [wo_ne ?_]
  · exact e'
  · rintro rfl
    rw [e] at e'
    exact h (Option.some.inj e')
/-! ### dict comprehensions, over any walk -/
theorem dc_it {J : It} {n : Nat} {G : Hp → Prop} {Y : Nat → Hp → V → Hp → Prop} (w : Walk J n G Y) {g : TG} {tt : TT} {tk tv : TE} {vs : List Nat} {σ : L2.St} {H1 : Hp} {D : Addr} {Qd : Hp → Prop} (Pv : Nat → Hp → Prop) (h0 : Pv 0 (upd H1 D (.dK []))) (hG : ∀ i H, i ≤ n → Pv i H → G H)
    (hs : ∀ i x H H', i < n → Pv i H → Y i H x H' → g x (wipe σ vs) H' fun σ2 H2 => wipe σ2 vs = wipe σ vs ∧ tt σ2 H2 fun b H3 =>
      if b = true then tk σ2 H3 fun y H4 => tv σ2 H4 fun z H5 => ∃ kvs k, y = kV k ∧ H5 D = some (.dK kvs) ∧ kvs.length < sizeLine ∧ Pv (i + 1) (upd H5 D (.dK (putK kvs k z))) else Pv (i + 1) H3) (hd : ∀ H, Pv n H → Qd H) :
    ∃ W : Nat → Nat → Hp → Prop, (∃ m, W 0 m (upd H1 D (.dK []))) ∧ ∀ i m H, W i m H →
      (J.stop i H ∧ Qd H) ∨ (J.go i H ∧ ∃ Nx : Hp → Prop, (∀ H', Nx H' → ∃ m', m' < m ∧ W (i + 1) m' H') ∧ ∀ x H', J.yld i H x H' → g x (wipe σ vs) H' fun σ2 H2 => wipe σ2 vs = wipe σ vs ∧ tt σ2 H2 fun b H3 =>
        if b = true then tk σ2 H3 fun y H4 => tv σ2 H4 fun z H5 => ∃ kvs k, y = kV k ∧ H5 D = some (.dK kvs) ∧ kvs.length < sizeLine ∧ Nx (upd H5 D (.dK (putK kvs k z))) else Nx H3) := by
  refine ⟨fun i m H => m = n - i ∧ i ≤ n ∧ Pv i H, ⟨n, by simp, Nat.zero_le _, h0⟩, ?_⟩
  rintro i m H ⟨rfl, hi, p⟩
  by_cases hlt : i < n
  · exact .inr ⟨w.goes i H hlt (hG i H hi p), Pv (i + 1), fun H' p' => ⟨n - (i + 1), by omega, rfl, hlt, p'⟩, fun x H' y => hs i x H H' hlt p (w.yields i H x H' hlt (hG i H hi p) y)⟩
  · obtain rfl : i = n := by omega
    exact .inl ⟨w.stops H (hG i H hi p), hd H p⟩
end K84
set_option maxHeartbeats 4000000
namespace K84
open PySem PySem.Spec PyProof.Rows L2
local macro_rules | `(tactic| walk_at "ix") => `(tactic| first | exact atI_nat (j := 0) rfl | exact atI_nat (j := 1) rfl | exact atI_nat (j := 2) rfl | exact atI_nat (j := 3) rfl | exact atI_nat (j := 4) rfl)
local macro_rules | `(tactic| walk_at "rd") => `(tactic| repeat (first
  | refine ⟨_, rfl, ?_⟩
  | refine ⟨rfl, ?_⟩
  | refine ⟨_, _, rfl, ?_⟩
  | refine ⟨_, _, rfl, rfl, ?_⟩
  | refine ⟨_, _, _, rfl, ?_⟩
  | refine ⟨_, _, _, _, rfl, ?_⟩
  | refine ⟨_, _, _, _, rfl, rfl, (by assumption), (by walk_at "ix"), ?_⟩
  | refine ⟨_, _, _, rfl, rfl, (by assumption), ?_⟩
  | refine ⟨.inl ⟨rfl, _, sqL_of (by assumption)⟩, ?_⟩
  | refine ⟨_, _, _, _, _, rfl, (by assumption), (by assumption), (by assumption), (by assumption), ?_⟩
  | refine ⟨_, _, _, _, _, rfl, .ty _, Tg.ty (by assumption), kit_ty (by first | exact kInt _ | exact kBool _ | exact kStr _ | exact kTup _ | exact kLst _ | exact kDct _), ?_⟩))
theorem lookup_put {f g : Str} {v : V} {fs : List (Str × V)} {o : Option V} (h : (if g = f then some v else fs.lookup g) = o) : (putF f v fs).lookup g = o := by
  rw [lookup_putF]
  exact h
theorem Tab.wo {K : PySem.W.Frag} {H : Hp} {p t : Addr} {u : HO} {r : Wd} {w m : Nat} {tb : Wd → Fq} (e : H t = some u) (o : Odd u) (h : Tab K H p r w tb m) : Tab K (wo H t) p r w tb m := by
  obtain ⟨⟨f, h1, h2⟩, h3⟩ := h
  refine ⟨⟨f, wo_keep e h1 ?_, fun n hn => (h2 n hn).wo e o⟩, h3⟩
  rintro rfl
  rcases o with ⟨_, z⟩ | ⟨_, _, _, z⟩ <;> cases z
theorem nd_off {α : Type} {l : List α} {j : Nat} {c : α} (h : l.Nodup) (hc : l[j]? = some c) : c ∉ l.take j := fun hin => by
  obtain ⟨k, hk, ek⟩ := List.mem_take_iff_getElem.mp hin
  obtain ⟨hj2, ej⟩ := List.getElem?_eq_some_iff.mp hc
  have hlt : k < j := by omega
  exact List.pairwise_iff_getElem.mp h k j (by omega) hj2 hlt (ek.trans ej.symm)
def sp_Prices (K : PySem.W.Frag) (C : Addr) : Sp := sp4 fun a b c d H Q _ => ∃ (x dx t : Addr) (r : Wd) (w m : Nat) (tb : Wd → Fq), a = .ref x ∧ b = .str (S r) ∧ c = .int w ∧ d = .ref t ∧ H x = some (.ins C dx []) ∧ RowsOk r ∧ 1 ≤ w ∧ w ≤ 2 ∧ Tab K H t r w tb m ∧
  ∀ H', (∀ b o, b ≠ x → H b = some o → H' b = some o) → PrO K H' (.ref x) r w tb m → Q .non H'
/- Prices.__init__: self=0 rows=1 width=2 table=3 names=4 name=5; cells ['table']; calls ['is_table', 'stretch_names', 'is_width', 'is_rows']; builtins [] -/
abbrev s_Prices___init__ : Stmt := inClass (top 36) 0
theorem sc_Prices___init__ : FnScope ["self", "rows", "width", "table", "names", "name"] ["self", "rows", "width", "table"] (defScope s_Prices___init__) := ⟨rfl, rfl, rfl, by decide +kernel, rfl, by decide +kernel, by decide +kernel⟩
theorem ok_Prices___init__ {P : Program} {w : World} {K : PySem.W.Frag} {mg : Str → Option Value} {base : Heap} {C f : Addr} (D : DfM K C "__init__" "Prices.__init__" s_Prices___init__ f) (T : Tx K mg) (c_is_table : Cl CX0 P w K mg base 3 "is_table" (sp_is_table K)) (c_stretch_names : Cl CX0 P w K mg base 2 "stretch_names" (sp_stretch_names K)) (c_is_width : Cl CX0 P w K mg base 3 "is_width" (sp_is_width K)) (c_is_rows : Cl CX0 P w K mg base 3 "is_rows" (sp_is_rows K)) (hM : Mk K C f) (gC : mg "Prices" = some (.ref C)) (cC : Cls K C) (n1 : NoAttr K C "rows") (n2 : NoAttr K C "width") (n3 : NoAttr K C "kept_table") :
    ClM P w K mg base 4 "Prices" C (sp_Prices K C) := by
  suffices HH : ∃ fd ps, FnOk P w K mg base CX0 4 f fd ps (sp_Prices K C) ∧ Binds K fd ps [] from let ⟨fd, ps, F, bb⟩ := HH; ⟨f, fd, ps, hM, F, gC, bb⟩
  refine D.ok4 (k := 3) sc_Prices___init__ (fun _ _ _ _ _ _ us hl => match us, hl with | [_, _, _, _], _ => rfl) (fun cdv A outer s H a b c d Q E hr h => ⟨_, PSs.nox ((pss_cons (ps_if (pt_not (pt_val (pe_cl c_is_rows hr (by decide) pass0 (pa_cons (pv 1) pa_nil)))) (pss_one ps_never) pss_nil)
      (pss_cons (ps_if (pt_not (pt_val (pe_cl c_is_width hr (by decide) pass0 (pa_cons (pv 2) pa_nil)))) (pss_one ps_never) pss_nil)
      (pss_cons (ps_set (i := 4) sc_Prices___init__.nd rfl (Or.inl rfl) (pe_cl c_stretch_names hr (by decide) pass0 (pa_cons (pv 1) (pa_cons (pv 2) pa_nil))))
      (pss_cons (ps_if (pt_not (pt_val (pe_cl c_is_table hr (by decide) pass0 (pa_cons (pv 3) (pa_cons (pv 4) pa_nil))))) (pss_one ps_never) pss_nil)
      (pss_cons (ps_fld (pv 0) (pv 1) rfl)
      (pss_cons (ps_fld (pv 0) (pv 2) rfl)
      (pss_one (ps_fld (pv 0) (pe_dc (own := [("name", 5)]) rfl sc_Prices___init__.nd (pi_list (pv 4)) (blkOk_by (own := [("name", 5)]) (N := ["self", "rows", "width", "table", "names", "name"]) (sc := defScope s_Prices___init__) (by decide +kernel)) (fun _ _ _ _ _ => (pg_name (i := 5) sc_Prices___init__.nd rfl (Or.inl rfl))) (fun _ _ _ _ _ => pts_nil) (fun _ _ _ _ _ => (pv 5)) (fun _ _ _ _ _ => (pe_dget (hu_of hr) (pv 3) (pv 5) (fun _ _ => rfl)))) rfl))))))))), ?_⟩)
  obtain ⟨x, dx, t, r, w, m, tb, rfl, rfl, rfl, rfl, hx, hrr, hw, hw2, hT, q⟩ := h
  walk_at "rd"
  refine ⟨hrr, ?_⟩
  refine ⟨_, rfl, iteF ?_⟩
  refine ⟨_, rfl, _, rfl, .int w, .int _, ?_⟩
  have e1 : (Th.int (w : Int)).within 1 3 = true := by
    show (decide (1 ≤ (w : Int)) && decide ((w : Int) ≤ 3)) = true
    rw [decide_eq_true (by omega), decide_eq_true (by omega)] <;> rfl
  rw [e1]
  refine ⟨_, rfl, iteF ?_⟩
  walk_at "rd"
  refine ⟨hrr.le, hw, hw2, fun np H1 s1 hnp en => ?_⟩
  refine ⟨_, rfl, _, rfl, _, _, rfl, t, np, r, w, m, tb, rfl, rfl, hrr, hw, hw2, hT.mono s1, sqL_of en, fun H2 s2 => ?_⟩
  refine ⟨_, rfl, iteF ?_⟩
  have s12 := s1.trans s2
  have hx2 := s12 _ _ hx
  refine ⟨_, rfl, _, rfl, x, C, dx, [], rfl, hx2, cC, n1, by decide, ?_⟩
  refine ⟨_, rfl, _, rfl, x, C, dx, _, rfl, upd_same, cC, n2, by show 1 < 1000; decide, ?_⟩
  rw [upd_upd]
  have hT2 : Tab K (wo H2 x) t r w tb m := (hT.mono s12).wo hx2 .ins
  have hT3 := hT2.mono (wo_upd (H := H2) (t := x) (o := .ins C dx (putF "width" (.int w) (putF "rows" (.str (S r)) []))))
  have hne : np ≠ x := fun z => by rw [z, hx] at hnp; cases hnp
  have en2 := (upd_ne (H := H2) (o := .ins C dx (putF "width" (.int w) (putF "rows" (.str (S r)) []))) hne).trans (s2 _ _ en)
  have hx3 := upd_same (H := H2) (a := x) (o := .ins C dx (putF "width" (.int w) (putF "rows" (.str (S r)) [])))
  generalize hH3 : upd H2 x (.ins C dx (putF "width" (.int w) (putF "rows" (.str (S r)) []))) = H3 at hT3 en2 hx3 ⊢
  have hlen := st_length hrr hw hw2
  have hnd := st_nodup hrr w
  obtain ⟨⟨fv, h1, h2⟩, h3⟩ := id hT3
  refine ⟨_, rfl, np, rfl, ⟨_, sqL_of en2⟩, fun Dd hD => ?_⟩
  refine dc_it (walk_list (xs := (st r w).map strV)) (fun i H' => ∃ G, G Dd = none ∧ Same H3 G ∧ Same G H' ∧ H' Dd = some (.dK (((st r w).take i).map fun n => ((Sum.inr (S n) : L2.Key), fv n)))) ⟨H3, hD, L2.Same.refl _, same_new hD, upd_same⟩ (fun i H' _ h => ?_) ?_ ?_
  · obtain ⟨G, hG, s4, s5, e⟩ := h
    exact s5.seq (s4.seq (sqL_of en2))
  · rintro j v H4 H5 hj ⟨G, hG, s4, s5, e⟩ ⟨rfl, hv⟩
    rw [List.getElem?_map] at hv
    obtain ⟨c, hc, rfl⟩ := Option.map_eq_some_iff.mp hv
    have hm := List.mem_of_getElem? hc
    have g1 : DGet H5 t (.str (S c)) (some (fv c)) := .inl ⟨_, Sum.inr (S c), .inl (s5 _ _ (s4 _ _ h1)), rfl, (valV_map hm).symm⟩
    refine ⟨rfl, _, rfl, _, rfl, _, rfl, t, fv c, rfl, g1, _, Sum.inr (S c), rfl, e, ?_, ?_⟩
    · rw [List.length_map, List.length_take]
      exact szlt (by omega)
    · refine ⟨G, hG, s4, L2.Same.mut s5 hG, ?_⟩
      have hoff := nd_off hnd hc
      rw [upd_same, putK_map hoff rfl, List.take_add_one, hc]
      rfl
  · rintro H4 ⟨G, hG, s4, s5, e⟩
    have s35 := s4.trans s5
    have hx4 := s35 _ _ hx3
    rw [List.length_map, List.take_length] at e
    refine ⟨_, rfl, x, C, dx, _, rfl, hx4, cC, n3, by show 2 < 1000; decide, ?_⟩
    have hDx : Dd ≠ x := fun z => by rw [z, hx3] at hD; cases hD
    have s6 : Same (wo H2 x) (upd H4 x (.ins C dx (putF "kept_table" (.ref Dd) (putF "width" (.int w) (putF "rows" (.str (S r)) []))))) := fun b o eb => by
      have hb : b ≠ x := fun z => by rw [z, wo_at] at eb; cases eb
      rw [upd_ne hb]
      refine s35 _ _ ?_
      rw [← hH3, upd_ne hb]
      rwa [wo_ne hb] at eb
    refine q _ (fun b o hb eb => s6 b o ?_) ⟨x, C, dx, _, Dd, rfl, upd_same, cC, n1, n2, n3, ?_, ?_, ?_, ?_⟩
    · rw [wo_ne hb]
      exact s12 _ _ eb
    · refine lookup_put (lookup_put (lookup_put ?_)) <;> rfl
    · refine lookup_put (lookup_put ?_) <;> rfl
    · refine lookup_put ?_
      rfl
    · refine ⟨⟨fv, ?_, fun n hn => ?_⟩, h3⟩
      · rw [upd_ne hDx]
        exact e
      · obtain ⟨⟨f2, k1, k2⟩, _⟩ := id hT2
        have e5 : H3 t = _ := h1
        have e6 := (wo_upd (H := H2) (t := x) (o := .ins C dx (putF "width" (.int w) (putF "rows" (.str (S r)) [])))) _ _ k1
        rw [hH3, h1] at e6
        have e7 : fv n = f2 n := by
          have v1 := valV_map (f := fv) hn
          have v2 := valV_map (f := f2) hn
          rw [HO.dK.inj (Option.some.inj e6)] at v1
          exact Option.some.inj (v1.symm.trans v2)
        rw [e7]
        exact (k2 n hn).mono s6
end K84
set_option maxHeartbeats 4000000
namespace K84
open PySem PySem.Spec PyProof.Rows L2
/-! ### enumerate and zip over a text, a tuple -/
/-- n turns, each a new pair of f i and g i, while Gd stands -/
def ItP (n : Nat) (Gd : Hp → Prop) (f g : Nat → Option V) : It :=
  ⟨fun i H => i < n ∧ Gd H, fun i H v H' => ∃ T x y, v = .ref T ∧ H T = none ∧ H' = upd H T (.tup [x, y]) ∧ f i = some x ∧ g i = some y, fun i H => i = n ∧ Gd H⟩
theorem walk_P {n : Nat} {Gd : Hp → Prop} {f g : Nat → Option V} : Walk (ItP n Gd f g) n Gd (YPair f g) :=
  ⟨fun _ _ hi q => ⟨hi, q⟩, fun _ q => ⟨rfl, q⟩, fun _ _ _ _ _ _ y => y⟩
theorem turn_gn {P : Program} {w : World} {K : PySem.W.Frag} {elts : List Expr} {kk : Nat} {tpos : Pos} {n : Nat} {Gd : Hp → Prop} {f g : Nat → Option V} {own : List Addr} {it : Addr} {tn : Nat → Heap → Prop} (mem : it ∈ own)
    (obj : ∀ i h, tn i h → ∀ b ∈ own, ∃ o, h.get? b = some o ∧ ∀ v, o.data ≠ .cell v) (keep : ∀ i h h', tn i h → (∀ b ∈ own, ∀ o, h.get? b = some o → h'.get? b = some o) → tn i h')
    (step : ∀ (X : Cx), X.prog = P → X.w = w → X.K = K → ∀ (pins : List (Addr × Obj)) (s : Shared) (σ : L2.St) (H : Hp), Inv X pins σ H s → Gd H → ∀ i, tn i s.heap → ∃ (fp wr : List Addr) (Y : Nat → Heap → Value → Heap → Prop) (St : Nat → Heap → Prop),
      (∀ A : Around, A.handled = none → GoesN P w A (.Tuple elts kk tpos) it fp wr n Y St) ∧ St i s.heap ∧ (∀ h', St (i + 1) h' → tn (i + 1) h') ∧ (∀ b ∈ wr, b ∈ own) ∧
      ∀ h0 v h, Y i h0 v h → ∃ T x y xv yv, v = .ref T ∧ h0.objs.size ≤ T ∧ h.IsTuple T #[x, y] ∧ f i = some xv ∧ RelV xv x ∧ g i = some yv ∧ RelV yv y)
    (self : ∀ (A : Around) (i : Nat) (s : Shared) (Q : Value → Shared → Prop) (E : Value → Shared → Prop), tn i s.heap → Q (.ref it) s → wpAny (model P w) A (pyIter (.ref it)) Q E s) :
    Turn P w K (.Tuple elts kk tpos) (ItP n Gd f g) own it tn where
  mem := mem
  obj := obj
  keep := keep
  self := self
  item := by
    intro X hP hw hK hc i pins s σ H E I hf st hg
    obtain ⟨hi, hG⟩ := hg
    obtain ⟨fp, wr, Y, St, W, hst, hd, hwr, hY⟩ := step X hP hw hK pins s σ H I hG i st
    refine (W X.A (I.ok.hd hc)).goes i s _ E hi hst fun v h' tk hy hst' hk _ => ?_
    obtain ⟨T, x, y, xv, yv, rfl, hT, ht, e1, r1, e2, r2⟩ := hY _ _ _ hy
    have hTn : H T = none := I.hok.fresh hT
    have hN : s.heap.get? T = none := Heap.get?_none_of_le hT
    have new : ObjOk X.prog X.w (upd H T (.tup [xv, yv])) h' T (.tup [xv, yv]) := ⟨by show 2 ≤ sizeLine; decide, [x, y], .cons r1 (.cons r2 .nil), ht⟩
    have I1 : Inv X pins σ (upd H T (.tup [xv, yv])) { s with heap := h', toks := tk } := I.turnedNew (ch := own) (fun b o hb e => hk b o (fun z => hb (hwr b z)) e) hf hT new
    refine ⟨.ref T, _, I1, rfl, ⟨T, xv, yv, rfl, hTn, rfl, e1, e2⟩, hd _ hst', fun b hb => ?_⟩
    obtain ⟨o, ho, _⟩ := obj i _ st b hb
    rw [upd_ne (fun z => by rw [z, hN] at ho; cases ho)]
    exact (hf b hb).1
  done := by
    intro X hP hw hK hc i pins s σ H E I hf st hg
    obtain ⟨hi, hG⟩ := hg
    subst hi
    obtain ⟨fp, wr, Y, St, W, hst, hd, hwr, hY⟩ := step X hP hw hK pins s σ H I hG i st
    refine (W X.A (I.ok.hd hc)).stops s (fun s1 => Inv X pins σ H s1) E hst fun h' tk hk _ => ?_
    exact I.step (g' := s.gens) (d' := s.drawn) (ch := own) (fun b hb => ⟨(hf b hb).2.2.2.1, (hf b hb).2.1, (hf b hb).2.2.2.2.1, (hf b hb).2.2.2.2.2⟩) (fun b o _ _ hb e _ => hk b o (fun z => hb (hwr b z)) e) (fun b o _ _ hb e _ => ⟨o.slots, hk b o (fun z => hb (hwr b z)) e⟩) (fun _ _ _ _ e => e)
      (fun b o hb e => ⟨o, hk b o (fun z => hb (hwr b z)) e⟩) (fun _ _ e => e) (fun _ _ _ e => e) (fun _ ps e => ⟨#[], by rw [e]; simp⟩)
      (fun m ⟨o, es, ep, ho, r⟩ => ⟨o, es, ep, hk _ o (fun z => (hf _ (hwr _ z)).2.1 rfl) ho, r⟩)
      (fun a u e => (I.hok a u e).stay (fun b v hb q => hk b v (fun z => by
        have q1 := (hf b (hwr b z)).1
        rcases hb with hb | hb
        · rw [hb, e] at q1; cases q1
        · rw [hb] at q1; cases q1) q) (fun _ q => q) fun _ _ q => q) I.bare

/-- enumerate(v) begins, whatever v begins by -/
theorem meets_enum1 {v : Value} {o : Obj} {Hh : Heap → Prop} (B : Begins v o Hh) : Meets (Builtin.«enumerate.__new__» ⟨[.type "enumerate", v], []⟩) (fun _ R s => Hh s.heap ∧
    R (.ok (.ret (.ref (s.heap.push o).objs.size))) { s with heap := (s.heap.push o).push { cls := .type "enumerate", data := .fields #[.none, .bool false, .ref s.heap.objs.size, rawInt 0, .none, .none] } }) :=
  .of_wp fun prog w A R s h => by
    obtain ⟨hp, gs, dr, tk, os⟩ := s
    obtain ⟨h1, h⟩ := h
    have hsub := sub_enumerate
    have q1 : ∀ {A2 : Around} {E : Value → Shared → Prop} {Q : Value → Shared → Prop}, Q (.ref hp.objs.size) ⟨hp.push o, gs, dr, tk, os⟩ → wpAny (model prog w) A2 (pyIter v) Q E ⟨hp, gs, dr, tk, os⟩ := fun q => B.iter prog w _ _ _ _ h1 q
    wp_walk
    refine wpAny_stack_any fun st => wpAny_pure ?_
    split
    · rename_i c _ _ _ _ _
      cases (c == Value.type "enumerate") <;> (wp_walk using q1; exact ⟨_, rfl, h⟩)
    · wp_walk using q1
      exact ⟨_, rfl, h⟩
theorem enum_begins1 {prog : Program} {w : World} {A : Around} {E : Value → Shared → Prop} {s : Shared} {v : Value} {o : Obj} {Hh : Heap → Prop} {Q : Value → Shared → Prop} (B : Begins v o Hh) (h1 : Hh s.heap)
    (h : ∀ h', IsEnum h' (s.heap.objs.size + 1) s.heap.objs.size 0 .none → h'.get? s.heap.objs.size = some o → (∀ b u, s.heap.get? b = some u → h'.get? b = some u) → Q (.ref (s.heap.objs.size + 1)) { s with heap := h' }) :
    wpAny (model prog w) A (call (.type "enumerate") [v]) Q E s := by
  refine callType_new PySem.F.called_enumerate (by decide) (PySem.F.typeCall_enumerate_1 _) (PySem.F.newCall_enumerate_1 _) (fun obj => PySem.F.args_object_init_2 obj _) PySem.F.entry_enumerate_new (meets_enum1 B) ⟨h1, ?_⟩
  have hz : (s.heap.push o).objs.size = s.heap.objs.size + 1 := Heap.size_push ..
  show _ ∧ _
  rw [hz]
  have he : IsEnum ((s.heap.push o).push { cls := .type "enumerate", data := .fields #[.none, .bool false, .ref s.heap.objs.size, rawInt 0, .none, .none] }) (s.heap.objs.size + 1) s.heap.objs.size 0 .none := by
    have q := Heap.get?_push_size (s.heap.push o) (o := { cls := .type "enumerate", data := .fields #[.none, .bool false, .ref s.heap.objs.size, rawInt 0, .none, .none] }) rfl
    rw [hz] at q
    exact q
  exact ⟨⟨_, he, rfl⟩, h _ he (Heap.get?_push_of_some _ (Heap.get?_push_size _ B.free)) fun b u x => Heap.get?_push_of_some _ (Heap.get?_push_of_some _ x)⟩
/-- the turns of enumerate over the tuple at a -/
theorem turn_enumT {P : Program} {w : World} {K : PySem.W.Frag} {elts : List Expr} {kk : Nat} {tpos : Pos} {a e it : Addr} {xs : List V} (h1 : e ≠ it) (h2 : e ≠ a) (h3 : a ≠ it) :
    Turn P w K (.Tuple elts kk tpos) (ItP xs.length (fun H => SqT K H a xs) (fun i => some (.int (i : Nat))) (fun i => xs[i]?)) [e, it] e (fun i h => (∃ old, IsEnum h e it ((i : Nat) : Int) old) ∧ h.IsTupleIter it a i) := by
  refine turn_gn (by simp) (fun i h st b hb => ?_) (fun i h h' st k => ?_) (fun X hP hw hK pins s σ H I hG i st => ?_) (fun A i s Q E st h => ?_)
  · obtain ⟨⟨old, he⟩, o, ho, hc, hd⟩ := st
    have hb2 : b = e ∨ b = it := by simpa using hb
    rcases hb2 with z | z
    · rw [z]; exact ⟨_, he, fun v q => nomatch q⟩
    · rw [z]; exact ⟨o, ho, fun v q => by rw [hd] at q; cases q⟩
  · obtain ⟨⟨old, he⟩, o, ho, hc, hd⟩ := st
    exact ⟨⟨old, k e (by simp) _ he⟩, o, k it (by simp) _ ho, hc, hd⟩
  · subst hP hw hK
    obtain ⟨its, rv, p, hz⟩ := I.tuple hG
    have hn : its.toArray.size = xs.length := by rw [List.size_toArray, rv.length]
    have W := fun (A : Around) (hA : A.handled = none) => GoesN.enumFrom (prog := X.prog) (w := X.w) (elts := elts) (x1 := kk) (pos := tpos) (A := A) 0 (Draws.tuple (A := A.in1) hA it a h3 its.toArray) e h1 (by simp [h1, h2]) (by simp)
    rw [hn] at W
    refine ⟨_, _, _, _, W, ⟨?_, st.2, p⟩, fun h' st' => ⟨?_, st'.2.1⟩, fun b hb => ?_, fun h0 v h hy => ?_⟩
    · obtain ⟨old, he⟩ := st.1
      exact ⟨old, by rw [Int.zero_add]; exact he⟩
    · obtain ⟨old, he⟩ := st'.1
      exact ⟨old, by rw [Int.zero_add] at he; exact he⟩
    · simpa using hb
    · obtain ⟨T, t, x, ev, hT, hx, ht⟩ := hy
      have hx2 : its[i]? = some x := by simpa using hx
      have hi : i < xs.length := by
        have q := (List.getElem?_eq_some_iff.mp hx2).1
        rw [← rv.length] at q
        exact q
      obtain ⟨u, hu, ru⟩ := rv.get (i := i) (List.getElem?_eq_getElem hi)
      rw [hx2] at hu
      cases hu
      exact ⟨T, _, x, .int (i : Nat), xs[i], ev, hT, ht, rfl, ⟨t, by rw [Int.zero_add]⟩, List.getElem?_eq_getElem hi, ru⟩
  · obtain ⟨⟨old, he⟩, _⟩ := st
    exact wpAny_pyIter_enum he h
def iEnumT (K : PySem.W.Frag) (ta : TA) : TI := fun σ H R => ta σ H fun vs H1 => ∃ a xs, vs = [.ref a] ∧ SqT K H1 a xs ∧ R (ItP xs.length (fun H => SqT K H a xs) (fun i => some (.int (i : Nat))) (fun i => xs[i]?)) H1
theorem pi_enumT {X : Cx} {e : Expr} {ta : TA} {p pos tpos : Pos} {elts : List Expr} {kk : Nat} (hg : Gl X "enumerate") (hm : X.mg "enumerate" = none) (ha : PA X [e] ta) (hs : starEach [e] X.env = [(false, eval e X.env)] := by rfl) :
    PI X (.Tuple elts kk tpos) (.Call (.Name "enumerate" p) [e] [] pos) (iEnumT X.K ta) := by
  refine ⟨fun pins s σ H R I h => Call_ (ld_blt I hg hm boot_enumerate (PyProof.Rows.callWith_type1 (thn (ha.run pos pins s σ H _ I h) fun us s1 ⟨vs, H1, I1, r1, q1⟩ => ?_) hs rfl))⟩
  obtain ⟨a, xs, rfl, hq, q⟩ := q1
  rw [Vals.ref1 r1]
  obtain ⟨its, rv, p2, hz⟩ := I1.tuple hq
  have hlt : a < s1.heap.objs.size := by obtain ⟨o, ho, _⟩ := p2; exact Heap.lt_size ho
  refine enum_begins1 (begins_tuple a its.toArray) p2 fun h' he hi hk => wpAny_pyIter_enum he ?_
  refine ⟨s1.heap.objs.size + 1, [s1.heap.objs.size + 1, s1.heap.objs.size], _, _, H1, rfl, I1.kept (t' := s1.toks) hk, turn_enumT (a := a) (xs := xs) (Nat.succ_ne_self _) (Nat.ne_of_gt (Nat.lt_succ_of_lt hlt)) (Nat.ne_of_lt hlt), ⟨⟨.none, he⟩, _, hi, rfl, rfl⟩, fun b hb => ?_, q⟩
  have hle : s1.heap.objs.size ≤ b := by
    have e2 : b = s1.heap.objs.size + 1 ∨ b = s1.heap.objs.size := by simpa using hb
    rcases e2 with z | z <;> rw [z]
    · exact Nat.le_add_right _ _
    · exact Nat.le_refl _
  exact I1.fpOk hle (I1.hok.fresh hle)
/-- the turns of enumerate over the text x -/
def sgn (x : Str) (i : Nat) : Option V := (x.cps[i]?).map fun c => V.str ⟨#[c]⟩
theorem turn_enumS {P : Program} {w : World} {K : PySem.W.Frag} {elts : List Expr} {kk : Nat} {tpos : Pos} {e it : Addr} {x : Str} {tx : Tok} (h1 : e ≠ it) :
    Turn P w K (.Tuple elts kk tpos) (ItP x.cps.size (fun _ => True) (fun i => some (.int (i : Nat))) (sgn x)) [e, it] e (fun i h => (∃ old, IsEnum h e it ((i : Nat) : Int) old) ∧ h.IsStrIter it (strIterType x) x tx i) := by
  refine turn_gn (by simp) (fun i h st b hb => ?_) (fun i h h' st k => ?_) (fun X hP hw hK pins s σ H I hG i st => ?_) (fun A i s Q E st h => ?_)
  · obtain ⟨⟨old, he⟩, o, ho, hc, hd⟩ := st
    have hb2 : b = e ∨ b = it := by simpa using hb
    rcases hb2 with z | z
    · rw [z]; exact ⟨_, he, fun v q => nomatch q⟩
    · rw [z]; exact ⟨o, ho, fun v q => by rw [hd] at q; cases q⟩
  · obtain ⟨⟨old, he⟩, o, ho, hc, hd⟩ := st
    exact ⟨⟨old, k e (by simp) _ he⟩, o, k it (by simp) _ ho, hc, hd⟩
  · refine ⟨_, _, _, _, fun A hA => GoesN.enumFrom 0 (Draws.text (A := A.in1) hA it x tx) e h1 (by simp [h1]) (by simp), ⟨?_, st.2⟩, fun h' st' => ⟨?_, st'.2⟩, fun b hb => ?_, fun h0 v h hy => ?_⟩
    · obtain ⟨old, he⟩ := st.1
      exact ⟨old, by rw [Int.zero_add]; exact he⟩
    · obtain ⟨old, he⟩ := st'.1
      exact ⟨old, by rw [Int.zero_add] at he; exact he⟩
    · simpa using hb
    · obtain ⟨T, t, y, ev, hT, ⟨c, u, hc, hy⟩, ht⟩ := hy
      exact ⟨T, _, y, .int (i : Nat), .str ⟨#[c]⟩, ev, hT, ht, rfl, ⟨t, by rw [Int.zero_add]⟩, by unfold sgn; rw [hc] <;> rfl, ⟨u, hy⟩⟩
  · obtain ⟨⟨old, he⟩, _⟩ := st
    exact wpAny_pyIter_enum he h
def iEnumS (ta : TA) : TI := fun σ H R => ta σ H fun vs H1 => ∃ x, vs = [.str x] ∧ R (ItP x.cps.size (fun _ => True) (fun i => some (.int (i : Nat))) (sgn x)) H1
theorem pi_enumS {X : Cx} {e : Expr} {ta : TA} {p pos tpos : Pos} {elts : List Expr} {kk : Nat} (hg : Gl X "enumerate") (hm : X.mg "enumerate" = none) (ha : PA X [e] ta) (hs : starEach [e] X.env = [(false, eval e X.env)] := by rfl) :
    PI X (.Tuple elts kk tpos) (.Call (.Name "enumerate" p) [e] [] pos) (iEnumS ta) := by
  refine ⟨fun pins s σ H R I h => Call_ (ld_blt I hg hm boot_enumerate (PyProof.Rows.callWith_type1 (thn (ha.run pos pins s σ H _ I h) fun us s1 ⟨vs, H1, I1, r1, q1⟩ => ?_) hs rfl))⟩
  obtain ⟨x, rfl, q⟩ := q1
  cases r1 with
  | cons r rr =>
    cases rr
    obtain ⟨tx, rfl⟩ := r
    refine enum_begins1 (begins_text x tx) trivial fun h' he hi hk => wpAny_pyIter_enum he ?_
    refine ⟨s1.heap.objs.size + 1, [s1.heap.objs.size + 1, s1.heap.objs.size], _, _, H1, rfl, I1.kept (t' := s1.toks) hk, turn_enumS (x := x) (tx := tx) (Nat.succ_ne_self _), ⟨⟨.none, he⟩, _, hi, rfl, rfl⟩, fun b hb => ?_, q⟩
    have hle : s1.heap.objs.size ≤ b := by
      have e2 : b = s1.heap.objs.size + 1 ∨ b = s1.heap.objs.size := by simpa using hb
      rcases e2 with z | z <;> rw [z]
      · exact Nat.le_add_right _ _
      · exact Nat.le_refl _
    exact I1.fpOk hle (I1.hok.fresh hle)
/-- the turns of zip over the text x and the tuple at a -/
theorem turn_zipST {P : Program} {w : World} {K : PySem.W.Frag} {elts : List Expr} {kk : Nat} {tpos : Pos} {z TI TO i1 i2 a : Addr} {x : Str} {tx : Tok} {xs : List V} (D : ZipSep2 z TI TO i1 i2 [i1] [i2, a]) (h3 : a ≠ i2) :
    Turn P w K (.Tuple elts kk tpos) (ItP (min x.cps.size xs.length) (fun H => SqT K H a xs) (sgn x) (fun i => xs[i]?)) [z, TI, TO, i1, i2] z
      (fun i h => IsZip h z TI TO .none ∧ IsTupOf2 h TI (.ref i1) (.ref i2) ∧ (∃ a1 a2, IsTupOf2 h TO a1 a2) ∧ h.IsStrIter i1 (strIterType x) x tx i ∧ h.IsTupleIter i2 a i) := by
  refine turn_gn (by simp) (fun i h st b hb => ?_) (fun i h h' st k => ?_) (fun X hP hw hK pins s σ H I hG i st => ?_) (fun A i s Q E st h => ?_)
  · obtain ⟨hz, hI, ⟨a1, a2, hO⟩, ⟨o1, ho1, _, hd1⟩, ⟨o2, ho2, _, hd2⟩⟩ := st
    have hb2 : b = z ∨ b = TI ∨ b = TO ∨ b = i1 ∨ b = i2 := by simpa using hb
    rcases hb2 with q | q | q | q | q
    · rw [q]; exact ⟨_, hz, fun v q => nomatch q⟩
    · rw [q]; exact ⟨_, hI, fun v q => nomatch q⟩
    · rw [q]; exact ⟨_, hO, fun v q => nomatch q⟩
    · rw [q]; exact ⟨_, ho1, fun v q => by rw [hd1] at q; cases q⟩
    · rw [q]; exact ⟨_, ho2, fun v q => by rw [hd2] at q; cases q⟩
  · obtain ⟨hz, hI, ⟨a1, a2, hO⟩, ⟨o1, ho1, hc1, hd1⟩, ⟨o2, ho2, hc2, hd2⟩⟩ := st
    exact ⟨k z (by simp) _ hz, k TI (by simp) _ hI, ⟨a1, a2, k TO (by simp) _ hO⟩, ⟨o1, k i1 (by simp) _ ho1, hc1, hd1⟩, ⟨o2, k i2 (by simp) _ ho2, hc2, hd2⟩⟩
  · subst hP hw hK
    obtain ⟨its, rv, p, hz⟩ := I.tuple hG
    have hn : its.toArray.size = xs.length := by rw [List.size_toArray, rv.length]
    obtain ⟨s1, s2, s3, s4, s5⟩ := st
    have W := fun (A : Around) (hA : A.handled = none) => GoesN.zip2 (prog := X.prog) (w := X.w) (elts := elts) (x1 := kk) (pos := tpos) (A := A) D (Draws.text (A := A.in1) hA i1 x tx) (Draws.tuple (A := A.in1) hA i2 a h3 its.toArray)
    rw [hn] at W
    refine ⟨_, _, _, _, W, ⟨s1, s2, s3, s4, s5, p⟩, fun h' st' => ⟨st'.1, st'.2.1, st'.2.2.1, st'.2.2.2.1, st'.2.2.2.2.1⟩, fun b hb => ?_, fun h0 v h hy => ?_⟩
    · have hb2 : b = z ∨ b = TO ∨ b = i1 ∨ b = i2 := by simpa using hb
      rcases hb2 with q | q | q | q <;> rw [q] <;> simp
    · obtain ⟨T, y1, y2, ev, hT, ⟨c, u, hc, hy1⟩, hy2, ht⟩ := hy
      have hx2 : its[i]? = some y2 := by simpa using hy2
      have hi : i < xs.length := by
        have q := (List.getElem?_eq_some_iff.mp hx2).1
        rw [← rv.length] at q
        exact q
      obtain ⟨u2, hu, ru⟩ := rv.get (i := i) (List.getElem?_eq_getElem hi)
      rw [hx2] at hu
      cases hu
      exact ⟨T, y1, y2, .str ⟨#[c]⟩, xs[i], ev, hT, ht, by unfold sgn; rw [hc] <;> rfl, ⟨u, hy1⟩, List.getElem?_eq_getElem hi, ru⟩
  · exact wpAny_pyIter_zip st.1 h
def iZipST (K : PySem.W.Frag) (ta : TA) : TI := fun σ H R => ta σ H fun vs H1 => ∃ x a xs, vs = [.str x, .ref a] ∧ SqT K H1 a xs ∧ R (ItP (min x.cps.size xs.length) (fun H => SqT K H a xs) (sgn x) (fun i => xs[i]?)) H1
theorem pi_zipST {X : Cx} {e e2 : Expr} {ta : TA} {p pos tpos : Pos} {elts : List Expr} {kk : Nat} (hg : Gl X "zip") (hm : X.mg "zip" = none) (ha : PA X [e, e2] ta) (hs : starEach [e, e2] X.env = (false, eval e X.env) :: starEach [e2] X.env := by rfl) (hpl : (backTo pos (starEach [e2] X.env)).any (·.1) = false := by rfl) :
    PI X (.Tuple elts kk tpos) (.Call (.Name "zip" p) [e, e2] [] pos) (iZipST X.K ta) := by
  refine ⟨fun pins s σ H R I h => ?_⟩
  refine Call_ (ld_blt I hg hm PyProof.Rows.boot_zip (PyProof.Rows.callWith_type1 (thn (ha.run pos pins s σ H _ I h) fun us s1 ⟨vs, H1, I1, r1, q1⟩ => ?_) hs hpl))
  obtain ⟨x, a, xs, rfl, hq, q⟩ := q1
  cases r1 with
  | cons r rr =>
    cases rr with
    | cons r' rr =>
      cases rr
      obtain ⟨tx, rfl⟩ := r
      cases r'
      obtain ⟨its, rv, p1, _⟩ := I1.tuple hq
      have la : a < s1.heap.objs.size := by obtain ⟨o, ho, _⟩ := p1; exact Heap.lt_size ho
      refine zip_begins2 (begins_text x tx) (begins_tuple a its.toArray) trivial p1 fun h' hz hTI hTO h1 h2 hsz hk => wpAny_pyIter_zip hz ?_
      have I2 : Inv X pins σ H1 { s1 with heap := h' } := I1.kept (t' := s1.toks) hk
      refine ⟨s1.heap.objs.size + 4, [s1.heap.objs.size + 4, s1.heap.objs.size + 2, s1.heap.objs.size + 3, s1.heap.objs.size, s1.heap.objs.size + 1], _, _, H1, rfl, I2, turn_zipST (x := x) (tx := tx) (xs := xs) (zip_sep2 (N := s1.heap.objs.size) (fp1 := []) (fp2 := [a]) (fun b hb => nomatch hb) (fun b hb => by rw [List.mem_singleton.mp hb]; exact la)) (Nat.ne_of_lt (Nat.lt_succ_of_lt la)), ⟨hz, hTI, ⟨_, _, hTO⟩, ⟨_, h1, rfl, rfl⟩, ⟨_, h2, rfl, rfl⟩⟩, fun c hcm => ?_, q⟩
      have e' : c = s1.heap.objs.size + 4 ∨ c = s1.heap.objs.size + 2 ∨ c = s1.heap.objs.size + 3 ∨ c = s1.heap.objs.size ∨ c = s1.heap.objs.size + 1 := by simpa using hcm
      have hle : s1.heap.objs.size ≤ c := by
        rcases e' with z | z | z | z | z
        · rw [z]; exact Nat.le_add_right _ _
        · rw [z]; exact Nat.le_add_right _ _
        · rw [z]; exact Nat.le_add_right _ _
        · rw [z]; exact Nat.le_refl _
        · rw [z]; exact Nat.le_add_right _ _
      exact I1.fpOk hle (I1.hok.fresh hle)
end K84
set_option maxHeartbeats 4000000
namespace K84
open PySem PySem.Spec PyProof.Rows L2
/-! ### list(d.values()) -/
def viewO (p d : Addr) : HO := .ext fun h => h.IsValuesView p d
section
variable {X : Cx}
def rValsK : V → List V → Hp → VK → Prop := fun x xs H Q => ∃ (a : Addr) (kvs : List (L2.Key × V)), x = .ref a ∧ xs = [] ∧ H a = some (.dK kvs) ∧ ∀ p, H p = none → Q (.ref p) (upd H p (viewO p a))
theorem mt_vals : MtR X "dict.values" rValsK := by
  intro pins s σ H x xs v us Q I rx rxs h
  obtain ⟨a, kvs, rfl, rfl, ha, q⟩ := h
  cases rx
  cases rxs
  obtain ⟨z, hd, vs, rel, dd⟩ := dk_of I.hok ha
  have hf : H s.heap.objs.size = none := I.hok.fresh (Nat.le_refl _)
  have hv : (s.heap.push { cls := .type "dict_values", data := .fields #[.ref a] }).get? s.heap.objs.size = some { cls := .type "dict_values", data := .fields #[.ref a] } := Heap.get?_push_size _ rfl
  refine call_meetsIn PySem.F.slot_dict_values dd.typeIs PySem.F.entry_dict_values (PySem.F.args_dict_values_1 _) (meets_dict_values (mixKind X.prog X.w) a hd) ⟨⟨vs, dd⟩, ?_⟩
  refine ⟨.ref s.heap.objs.size, upd H s.heap.objs.size (viewO s.heap.objs.size a), ?_, rfl, q _ hf⟩
  refine I.laid (t' := s.toks) (fun b u e => Heap.get?_push_of_some _ e) (Nat.le_refl _) ?_
  exact ⟨⟨_, hv, rfl, rfl⟩, ⟨_, hv⟩, fun h1 h2 y k => let ⟨o, ho, r⟩ := y; ⟨o, k o ho, r⟩⟩
def rListVals : List V → Hp → VK → Prop := fun xs H Q => ∃ (p d : Addr) (kvs : List (L2.Key × V)), xs = [.ref p] ∧ H p = some (viewO p d) ∧ H d = some (.dK kvs) ∧ ∀ q, H q = none → Q (.ref q) (upd H q (.lst (kvs.map (·.2))))
theorem kv_vals {κ : Type} [DecidableEq κ] : ∀ {kvs : List (κ × V)} {vs : List (κ × Value)}, KV kvs vs → Vals (kvs.map (·.2)) (vs.map (·.2))
  | [], [], _ => .nil
  | _ :: _, _ :: _, r => by
    cases r with
    | cons h t => exact .cons h.2 (kv_vals t)
theorem call_listVals (hcalm : X.calm = true) : CallR X (.type "list") rListVals := by
  intro pins s σ H xs us Q I r h
  obtain ⟨p, d, kvs, rfl, hp, hd, q⟩ := h
  rw [Vals.ref1 r]
  obtain ⟨hv, _, _⟩ := I.hok p _ hp
  obtain ⟨z, lo, vs, rel, dd⟩ := dk_of I.hok hd
  obtain ⟨ep, hat⟩ := dd.dictAt
  refine PySem.W.kdl_call (PySem.W.kdl_values (knd := mixKind X.prog X.w) (kvs := vs) (ep := ep)) (I.ok.hd hcalm) ⟨hv, hat⟩ (by rw [← rel.length]; exact z) fun h' tk acc c' hk hD hacc => ?_
  have e : acc.toList = vs.map (·.2) := PySem.W.kdl_vals_eq acc.toList (by rw [Array.length_toList]; exact hacc.1) fun j v e => hacc.2 j v (by rw [← Array.getElem?_toList]; exact e)
  refine ⟨.ref s.heap.objs.size, upd H s.heap.objs.size (.lst (kvs.map (·.2))), I.laid (t' := tk) hk (Nat.le_refl _) ?_, rfl, q _ (I.hok.fresh (Nat.le_refl _))⟩
  exact ⟨by rw [List.length_map]; exact z, acc.toList, c', by rw [e]; exact kv_vals rel, by rw [Array.toArray_toList]; exact hD⟩

/-! ### index -/
theorem ints_can : ∀ {ns : List Int}, PyData.canLayAll0 (ns.map .int) = true ∧ PyData.depthAll (ns.map .int) = 0
  | [] => ⟨rfl, rfl⟩
  | n :: ns => by
    obtain ⟨h1, h2⟩ := ints_can (ns := ns)
    refine ⟨?_, ?_⟩
    · show (PyData.canLay0 (.int n) && PyData.canLayAll0 (ns.map .int)) = true
      rw [h1]
      rfl
    · show max (PyData.depth (.int n)) (PyData.depthAll (ns.map .int)) = 0
      rw [h2]
      simp [PyData.depth]
theorem ints_weight : ∀ {ns : List Int}, (∀ n ∈ ns, 0 ≤ n ∧ n < 1000) → PyData.weightAll (ns.map .int) ≤ 1001 * ns.length
  | [], _ => Nat.le_refl _
  | n :: ns, h => by
    have ih := ints_weight (ns := ns) fun m hm => h m (List.mem_cons_of_mem _ hm)
    obtain ⟨h1, h2⟩ := h n List.mem_cons_self
    show PyData.weight (.int n) + 1 + PyData.weightAll (ns.map .int) ≤ _
    have hw : PyData.weight (.int n) ≤ 1000 := by
      unfold PyData.weight
      split
      · omega
      · have hl := Nat.log2_le_self n.natAbs
        omega
    rw [List.length_cons]
    omega
theorem ints_lay {ns : List Int} (h : ∀ n ∈ ns, 0 ≤ n ∧ n < 1000) (hl : ns.length ≤ 100) : PyData.layable0 (.list (ns.map .int)) = true := by
  obtain ⟨h1, h2⟩ := ints_can (ns := ns)
  unfold PyData.layable0
  have e1 : PyData.canLay0 (.list (ns.map .int)) = true := h1
  have e2 : PyData.depth (.list (ns.map .int)) = 1 := by
    show PyData.depthAll (ns.map .int) + 1 = 1
    rw [h2]
  have e3 : PyData.weight (.list (ns.map .int)) ≤ 2 ^ 20 := by
    show PyData.weightAll (ns.map .int) ≤ 2 ^ 20
    have := ints_weight h
    have h5 : (2 : Nat) ^ 20 = 1048576 := by decide
    omega
  rw [e1, e2, decide_eq_true e3]
  rfl
def rIndexL (K : PySem.W.Frag) : V → List V → Hp → VK → Prop := fun x xs H Q => ∃ (a : Addr) (ns : List Int) (k : Int), x = .ref a ∧ xs = [.int k] ∧ SqL K H a (ns.map V.int) ∧ (∀ n ∈ ns, 0 ≤ n ∧ n < 1000) ∧ ns.length ≤ 100 ∧ k ∈ ns ∧ Q (.int (ns.idxOf k : Nat)) H
theorem mt_indexL : MtR X "list.index" (rIndexL X.K) := by
  intro pins s σ H x xs v us Q I rx rxs h
  obtain ⟨a, ns, k, rfl, rfl, hs, hb, hl, hk, q⟩ := h
  cases rx
  cases rxs with
  | cons r1 r2 =>
    cases r2
    obtain ⟨t, rfl⟩ := r1
    obtain ⟨its, rv, hL, hz⟩ := I.list hs
    exact PyProof.Rows.index_list_ints hL.isList (intsAre_of rv) (ints_lay hb hl) hk ⟨.int (ns.idxOf k : Nat), H, I.tok _, ⟨_, rfl⟩, q⟩
def rIndexS : V → List V → Hp → VK → Prop := fun x xs H Q => ∃ (r : List Nat) (c j : Nat), x = .str (S r) ∧ xs = [.str ⟨#[c]⟩] ∧ r.Nodup ∧ r[j]? = some c ∧ Q (.int (j : Nat)) H
theorem mt_indexS : MtR X "str.index" rIndexS := by
  intro pins s σ H x xs v us Q I rx rxs h
  obtain ⟨r, c, j, rfl, rfl, hn, hj, q⟩ := h
  have hne := StrLaws.found_one (S r) c
  have hc : decide (c ∈ (S r).cps.toList) = true := decide_eq_true (List.mem_of_getElem? hj)
  rw [hc] at hne
  cases ho : Builtin.Str.occurrences (S r) ⟨#[c]⟩ 0 (S r).length 1 with
  | nil =>
    rw [ho] at hne
    cases hne
  | cons i rest =>
    have hi := (StrLaws.subAt_one (S r) c i).mp (StrLaws.occ_spec (S r) ⟨#[c]⟩ 0 (S r).length 1 i (by rw [ho]; exact List.mem_cons_self))
    have e : i = j := by
      obtain ⟨h1, e1⟩ := List.getElem?_eq_some_iff.mp (show r[i]? = some c from hi)
      obtain ⟨h2, e2⟩ := List.getElem?_eq_some_iff.mp hj
      rcases Nat.lt_trichotomy i j with hlt | he | hlt
      · exact absurd (e1.trans e2.symm) (List.pairwise_iff_getElem.mp hn i j h1 h2 hlt)
      · exact he
      · exact absurd (e2.trans e1.symm) (List.pairwise_iff_getElem.mp hn j i h2 h1 hlt)
    subst e
    exact mt_sindex pins s σ H _ _ v us Q I rx rxs ⟨S r, ⟨#[c]⟩, i, rest, rfl, rfl, ho, q⟩

/-! ### min of a list of pairs of a number and a text -/
def pairD (p : Int × List Nat) : PyData := .tuple [.int p.1, .str (S p.2)]
theorem pairD_lt (p q : Int × List Nat) : (p.1 < q.1 → PySem.W.dataLt (pairD p) (pairD q) = true) ∧ (q.1 < p.1 → PySem.W.dataLt (pairD p) (pairD q) = false) := by
  have e := PySem.W.dataLt_pair (x := .int p.1) (y := .str (S p.2)) (x' := .int q.1) (y' := .str (S q.2)) (by simp [PySem.W.alike]) (by simp [PySem.W.alike])
  unfold pairD
  rw [e]
  simp only [PyData.eqv, beq_iff_eq]
  constructor
  · intro h
    rw [if_neg (by omega), PySem.W.dataLt_int]
    exact decide_eq_true h
  · intro h
    rw [if_neg (by omega), PySem.W.dataLt_int]
    exact decide_eq_false (by omega)
theorem minD_pairs (p : Int × List Nat) : ∀ ps : List (Int × List Nat), ∃ m ∈ p :: ps, PySem.W.minD (pairD p) (ps.map pairD) = pairD m ∧ ∀ y ∈ p :: ps, m.1 ≤ y.1 := by
  intro ps
  induction ps generalizing p with
  | nil => exact ⟨p, List.mem_cons_self, rfl, fun y hy => by rw [List.mem_singleton.mp hy]; omega⟩
  | cons a ps ih =>
    show ∃ m ∈ p :: a :: ps, (ps.map pairD).foldl (fun a y => if PySem.W.dataLt y a then y else a) (if PySem.W.dataLt (pairD a) (pairD p) then pairD a else pairD p) = pairD m ∧ _
    obtain ⟨h1, h2⟩ := pairD_lt a p
    cases hd : PySem.W.dataLt (pairD a) (pairD p) with
    | true =>
      rw [if_pos rfl]
      obtain ⟨m, hm, e, hle⟩ := ih a
      refine ⟨m, List.mem_cons_of_mem _ hm, e, fun y hy => ?_⟩
      rcases List.mem_cons.mp hy with rfl | hy
      · have h3 := hle a List.mem_cons_self
        have h4 : a.1 ≤ y.1 := by
          apply Classical.byContradiction
          intro hc
          rw [h2 (by omega)] at hd
          cases hd
        omega
      · exact hle y hy
    | false =>
      rw [if_neg Bool.false_ne_true]
      obtain ⟨m, hm, e, hle⟩ := ih p
      refine ⟨m, ?_, e, fun y hy => ?_⟩
      · rcases List.mem_cons.mp hm with h | h
        · rw [h]; exact List.mem_cons_self
        · exact List.mem_cons_of_mem _ (List.mem_cons_of_mem _ h)
      · rcases List.mem_cons.mp hy with rfl | hy
        · exact hle _ List.mem_cons_self
        · rcases List.mem_cons.mp hy with rfl | hy
          · have h3 := hle p List.mem_cons_self
            have h4 : p.1 ≤ y.1 := by
              apply Classical.byContradiction
              intro hc
              rw [h1 (by omega)] at hd
              cases hd
            omega
          · exact hle y (List.mem_cons_of_mem _ hy)
def PairV (K : PySem.W.Frag) (H : Hp) (v : V) (p : Int × List Nat) : Prop := ∃ b, v = .ref b ∧ H b = some (.tup [.int p.1, .str (S p.2)])
def rMinT (K : PySem.W.Frag) : List V → Hp → VK → Prop := fun vs H Q => ∃ (a : Addr) (xs : List V) (ps : List (Int × List Nat)), vs = [V.ref a] ∧ H a = some (.lst xs) ∧ Each (PairV K H) xs ps ∧ ps ≠ [] ∧ ∀ (v : V) (m : Int × List Nat), m ∈ ps → (∀ y ∈ ps, m.1 ≤ y.1) → PairV K H v m → Q v H
theorem cr_minT (hc : X.calm = true) (hu : X.A.units + 64 < cLine) : CallR X (.builtin "min") (rMinT X.K) := by
  intro pins s σ H vs us Q I r h
  obtain ⟨a, xs, ps, rfl, ha, hE, hne, q⟩ := h
  rw [Vals.ref1 r]
  obtain ⟨its, rv, hL, hz⟩ := I.list (sqL_of (K := X.K) ha)
  have hR : ∀ (i : Nat) (v : Value), its[i]? = some v → ∃ p u, ps[i]? = some p ∧ xs[i]? = some u ∧ RelV u v ∧ PairV X.K H u p ∧ Reads s.heap v (pairD p) [] := by
    intro i v hv
    have hi : i < xs.length := by
      rw [rv.length]
      exact (List.getElem?_eq_some_iff.mp hv).1
    obtain ⟨v2, hv2, rr⟩ := rv.get (i := i) (List.getElem?_eq_getElem hi)
    rw [hv] at hv2
    cases hv2
    obtain ⟨p, hp, hP⟩ := hE.get (List.getElem?_eq_getElem hi)
    obtain ⟨b, eb, hb⟩ := id hP
    rw [eb] at rr
    cases rr
    obtain ⟨_, vs2, rv2, o, ho, hcl, n, hd⟩ := (show ObjOk X.prog X.w H s.heap b (.tup [.int p.1, .str (S p.2)]) from I.hok b _ hb)
    refine ⟨p, xs[i], hp, List.getElem?_eq_getElem hi, by rw [eb] <;> rfl, hP, ?_⟩
    cases rv2 with
    | cons r1 r2 =>
      cases r2 with
      | cons r2 r3 =>
        cases r3
        obtain ⟨t1, rfl⟩ := r1
        obtain ⟨t2, rfl⟩ := r2
        exact Reads.tuple ho hcl hd (.cons (.int _ _) (.cons (.str _ _) .nil))
  have hall : ∀ (vs : List Value) (qs : List (Int × List Nat)), vs.length = qs.length → (∀ (i : Nat) (v : Value), vs[i]? = some v → ∃ p, qs[i]? = some p ∧ Reads s.heap v (pairD p) []) → ReadsAll s.heap vs (qs.map pairD) [] := by
    intro vs
    induction vs with
    | nil =>
      intro qs hl _
      cases qs with
      | nil => exact .nil
      | cons a b => cases hl
    | cons v vs ih =>
      intro qs hl hv
      cases qs with
      | nil => cases hl
      | cons a qs =>
        obtain ⟨p, hp, r⟩ := hv 0 v rfl
        cases hp
        exact ReadsAll.cons (as := []) (bs := []) r (ih qs (Nat.succ.inj hl) fun i u hu => hv (i + 1) u hu)
  have hRA := hall its ps (by rw [← rv.length, hE.1]) fun i v hv => by
    obtain ⟨p, u, h1, _, _, _, h2⟩ := hR i v hv
    exact ⟨p, h1, h2⟩
  cases ps with
  | nil => exact absurd rfl hne
  | cons p ps =>
    refine PySem.W.min_list_data (x := pairD p) (xs := ps.map pairD) (I.ok.hd hc) hL.isList hRA ⟨fun x hx y hy => ?_, fun x hx => ?_⟩ ?_ fun i v h' tk bs hv hr hk => ?_
    · obtain ⟨a1, _, rfl⟩ := List.mem_map.mp (show x ∈ (p :: ps).map pairD from hx)
      obtain ⟨b1, _, rfl⟩ := List.mem_map.mp (show y ∈ (p :: ps).map pairD from hy)
      rfl
    · obtain ⟨a1, _, rfl⟩ := List.mem_map.mp (show x ∈ (p :: ps).map pairD from hx)
      exact fun z => nomatch z
    · have hd : ∀ qs : List (Int × List Nat), PyData.depthAll (qs.map pairD) ≤ 1 := by
        intro qs
        induction qs with
        | nil => exact Nat.zero_le _
        | cons a qs ih =>
          show max (PyData.depth (pairD a)) _ ≤ 1
          exact Nat.max_le.mpr ⟨by simp [pairD, PyData.depth, PyData.depthAll], ih⟩
      have := hd (p :: ps)
      show X.A.units + 1 + PyData.depthAll ((p :: ps).map pairD) < cLine
      omega
    · obtain ⟨m, hm, em, hle⟩ := minD_pairs p ps
      obtain ⟨p2, u, h1, h2, h3, h4, h5⟩ := hR i v (by rw [← Array.getElem?_toList] at hv; exact hv)
      have e := (Reads.unique hr _ _ (Reads.keeps hk h5)).1
      rw [em] at e
      have e2 : m.1 = p2.1 := by
        unfold pairD at e
        injection e with e
        injection e with e e'
        injection e
      refine ⟨u, H, I.kept (t' := tk) hk, h3, q u p2 (List.mem_of_getElem? h1) (fun y hy => ?_) h4⟩
      rw [← e2]
      exact hle y hy
end
end K84
namespace K84
open PySem
/-! ### machines: moves by standing, row and answer; the worst time -/
abbrev Mv := List (List (List (Int × Int)))
def mvAt (M : Mv) (i : Int) (j : Nat) : List (Int × Int) := (M[i.toNat]?.getD [])[j]?.getD []
structure MvOk (M : Mv) (r : Wd) (ans : Nat) : Prop where
  pos : 1 ≤ M.length
  few : M.length ≤ 4
  a1 : 1 ≤ ans
  a3 : ans ≤ 3
  rows : ∀ L ∈ M, L.length = r.length
  ans : ∀ L ∈ M, ∀ l ∈ L, l.length = ans
  ok : ∀ L ∈ M, ∀ l ∈ L, ∀ q ∈ l, (1 ≤ q.1 ∧ q.1 ≤ 99) ∧ 0 ≤ q.2 ∧ q.2 ≤ (M.length : Int) - 1
abbrev As := List (Int × Int)
def getA (l : As) (g : Int) : Option Int := (l.find? fun p => decide (p.1 = g)).map (·.2)
def putA (l : As) (g v : Int) : As := if (l.any fun p => decide (p.1 = g)) = true then l.map (fun p => if p.1 = g then (p.1, v) else p) else l ++ [(g, v)]
def step1 (tot : Int) (later : As) (q : Int × Int) : As := putA later q.2 (max ((getA later q.2).getD 0) (tot + q.1))
def stepP (M : Mv) (j : Nat) (later : As) (p : Int × Int) : As := (mvAt M p.1 j).foldl (step1 p.2) later
def stepH (M : Mv) (j : Nat) (here : As) : As := here.foldl (stepP M j) []
def runH (M : Mv) (r : Wd) (c : Wd) : As := c.foldl (fun here x => stepH M (r.idxOf x) here) [(0, 0)]
def wst (M : Mv) (r c : Wd) : Int := ((runH M r c).map (·.2)).foldl max 0
theorem runH_snoc {M : Mv} {r c : Wd} {x : Nat} : runH M r (c ++ [x]) = stepH M (r.idxOf x) (runH M r c) := by
  unfold runH
  rw [List.foldl_append]
  rfl
theorem putA_length {l : As} {g v : Int} : (putA l g v).length ≤ l.length + 1 := by
  unfold putA
  split
  · rw [List.length_map]; omega
  · rw [List.length_append]; exact Nat.le_refl _
theorem foldl_len {α : Type} {f : As → α → As} {k : Nat} (h : ∀ l a, (f l a).length ≤ l.length + k) : ∀ (xs : List α) (l : As), (xs.foldl f l).length ≤ l.length + k * xs.length
  | [], l => Nat.le_refl _
  | x :: xs, l => by
    have h1 := foldl_len h xs (f l x)
    have h2 := h l x
    show (xs.foldl f (f l x)).length ≤ _
    rw [List.length_cons, Nat.mul_add]
    omega
theorem step1_len {tot : Int} {later : As} {q : Int × Int} : (step1 tot later q).length ≤ later.length + 1 := putA_length
theorem mvAt_mem {M : Mv} {i : Int} {j : Nat} {q : Int × Int} (h : q ∈ mvAt M i j) : ∃ L ∈ M, ∃ l ∈ L, q ∈ l := by
  unfold mvAt at h
  cases e : M[i.toNat]? with
  | none => rw [e] at h; simp at h
  | some L =>
    rw [e] at h
    cases e2 : L[j]? with
    | none => simp [e2] at h
    | some l =>
      simp [e2] at h
      exact ⟨L, List.mem_of_getElem? e, l, List.mem_of_getElem? e2, h⟩
section
variable {M : Mv} {r : Wd} {ans : Nat} (h : MvOk M r ans)
include h
theorem mvAt_len {i : Int} {j : Nat} (h0 : 0 ≤ i) (hi : i ≤ (M.length : Int) - 1) (hj : j < r.length) : (mvAt M i j).length = ans := by
  unfold mvAt
  have hi2 : i.toNat < M.length := by omega
  rw [List.getElem?_eq_getElem hi2]
  have hL := h.rows _ (List.getElem_mem hi2)
  simp only [Option.getD_some]
  rw [List.getElem?_eq_getElem (by rw [hL]; exact hj)]
  exact h.ans _ (List.getElem_mem hi2) _ (List.getElem_mem _)
theorem mvAt_le {i : Int} {j : Nat} : (mvAt M i j).length ≤ 3 := by
  unfold mvAt
  cases e : M[i.toNat]? with
  | none => simp
  | some L =>
    cases e2 : L[j]? with
    | none => simp [e2]
    | some l =>
      simp only [Option.getD_some, e2]
      rw [h.ans L (List.mem_of_getElem? e) l (List.mem_of_getElem? e2)]
      exact h.a3
theorem stepP_len {j : Nat} {later : As} {p : Int × Int} : (stepP M j later p).length ≤ later.length + 3 := by
  have h1 := foldl_len (k := 1) (f := step1 p.2) (fun l a => step1_len) (mvAt M p.1 j) later
  have h2 := mvAt_le h (i := p.1) (j := j)
  unfold stepP
  omega
theorem runH_len (c : Wd) : (runH M r c).length ≤ 3 ^ c.length := by
  suffices H : ∀ (c : Wd) (l : As), (c.foldl (fun here x => stepH M (r.idxOf x) here) l).length ≤ l.length * 3 ^ c.length by
    have := H c [(0, 0)]
    unfold runH
    simpa using this
  intro c
  induction c with
  | nil => intro l; simp
  | cons x c ih =>
    intro l
    have h1 := foldl_len (k := 3) (f := stepP M (r.idxOf x)) (fun l a => stepP_len h) l []
    have h2 := ih (stepH M (r.idxOf x) l)
    show (c.foldl _ (stepH M (r.idxOf x) l)).length ≤ _
    refine Nat.le_trans h2 ?_
    rw [List.length_cons, Nat.pow_succ, Nat.mul_comm (3 ^ c.length) 3, ← Nat.mul_assoc]
    refine Nat.mul_le_mul_right _ ?_
    unfold stepH
    simp at h1
    omega
end
/-! ### what holds of every entry -/
def AllA (P : Int → Int → Prop) (l : As) : Prop := ∀ p ∈ l, P p.1 p.2
theorem getA_mem {l : As} {g v : Int} (h : getA l g = some v) : (g, v) ∈ l := by
  unfold getA at h
  obtain ⟨p, hp, e⟩ := Option.map_eq_some_iff.mp h
  have h1 := List.find?_some hp
  have h2 := List.mem_of_find?_eq_some hp
  have e1 : p.1 = g := of_decide_eq_true h1
  rw [← e1, ← e]
  exact h2
theorem putA_all {P : Int → Int → Prop} {l : As} {g v : Int} (h : AllA P l) (hv : P g v) : AllA P (putA l g v) := by
  intro p hp
  unfold putA at hp
  split at hp
  · obtain ⟨q, hq, e⟩ := List.mem_map.mp hp
    by_cases hg : q.1 = g
    · rw [if_pos hg] at e
      rw [← e]
      show P q.1 v
      rw [hg]
      exact hv
    · rw [if_neg hg] at e
      rw [← e]
      exact h q hq
  · rcases List.mem_append.mp hp with hp | hp
    · exact h p hp
    · rw [List.mem_singleton.mp hp]
      exact hv
/-- an entry of the next step comes from one of this step and a move -/
theorem step1_all {P : Int → Int → Prop} {tot : Int} {later : As} {q : Int × Int} (h : AllA P later) (hq : P q.2 (tot + q.1)) (h0 : 0 ≤ tot + q.1) : AllA P (step1 tot later q) := by
  refine putA_all h ?_
  cases e : getA later q.2 with
  | none =>
    show P q.2 (max 0 (tot + q.1))
    rw [Int.max_eq_right h0]
    exact hq
  | some v =>
    show P q.2 (max v (tot + q.1))
    rcases Int.le_total v (tot + q.1) with hle | hle
    · rw [Int.max_eq_right hle]
      exact hq
    · rw [Int.max_eq_left hle]
      exact h _ (getA_mem e)
theorem foldl_all {α : Type} {f : As → α → As} {P : Int → Int → Prop} : ∀ (xs : List α) (l : As), AllA P l → (∀ l x, x ∈ xs → AllA P l → AllA P (f l x)) → AllA P (xs.foldl f l)
  | [], l, h, _ => h
  | x :: xs, l, h, hf => foldl_all xs (f l x) (hf l x List.mem_cons_self h) fun l y hy => hf l y (List.mem_cons_of_mem _ hy)
theorem stepH_all {M : Mv} {j : Nat} {here : As} {P Q : Int → Int → Prop} (h : AllA P here) (hs : ∀ a t q, P a t → q ∈ mvAt M a j → Q q.2 (t + q.1) ∧ 0 ≤ t + q.1) : AllA Q (stepH M j here) := by
  unfold stepH
  refine foldl_all here [] (fun p hp => by cases hp) fun l p hp hl => ?_
  unfold stepP
  refine foldl_all _ l hl fun l q hq hl => ?_
  obtain ⟨h1, h2⟩ := hs p.1 p.2 q (h p hp) hq
  exact step1_all hl h1 h2
theorem putA_ne {l : As} {g v : Int} : putA l g v ≠ [] := by
  unfold putA
  split
  · rename_i h
    intro e
    rw [List.map_eq_nil_iff] at e
    subst e
    simp at h
  · simp
theorem foldl_ne {α : Type} {f : As → α → As} (h : ∀ l a, f l a ≠ []) : ∀ (xs : List α) (l : As), (xs ≠ [] ∨ l ≠ []) → xs.foldl f l ≠ []
  | [], l, hl => hl.resolve_left fun z => z rfl
  | x :: xs, l, _ => foldl_ne h xs (f l x) (.inr (h l x))
theorem foldl_ne2 {α : Type} {f : As → α → As} : ∀ (xs : List α) (l : As), (∀ l a, a ∈ xs → f l a ≠ []) → (xs ≠ [] ∨ l ≠ []) → xs.foldl f l ≠ []
  | [], l, _, hl => hl.resolve_left fun z => z rfl
  | x :: xs, l, h, _ => foldl_ne2 xs (f l x) (fun l a ha => h l a (List.mem_cons_of_mem _ ha)) (.inr (h l x List.mem_cons_self))
/-- the standings and the times of a run: in range, from 0 on -/
def Inr (M : Mv) (a t : Int) : Prop := 0 ≤ a ∧ a ≤ (M.length : Int) - 1 ∧ 0 ≤ t
theorem runH_ok {M : Mv} {r : Wd} {ans : Nat} (h : MvOk M r ans) : ∀ {c : Wd}, (∀ x ∈ c, x ∈ r) → AllA (Inr M) (runH M r c) ∧ runH M r c ≠ [] := by
  suffices H : ∀ (c : Wd) (l : As), (∀ x ∈ c, x ∈ r) → AllA (Inr M) l → l ≠ [] → AllA (Inr M) (c.foldl (fun here x => stepH M (r.idxOf x) here) l) ∧ c.foldl (fun here x => stepH M (r.idxOf x) here) l ≠ [] from
    fun {c} hc => H c [(0, 0)] hc (fun p hp => by
      rw [List.mem_singleton.mp hp]
      have := h.pos
      exact ⟨Int.le_refl _, by show (0 : Int) ≤ _; omega, Int.le_refl _⟩) (by simp)
  intro c
  induction c with
  | nil => exact fun l _ h1 h2 => ⟨h1, h2⟩
  | cons x c ih =>
    intro l hc h1 h2
    refine ih (stepH M (r.idxOf x) l) (fun y hy => hc y (List.mem_cons_of_mem _ hy)) ?_ ?_
    · refine stepH_all h1 fun a t q ha hq => ?_
      obtain ⟨L, hL, l2, hl2, hq2⟩ := mvAt_mem hq
      obtain ⟨⟨k1, k2⟩, k3, k4⟩ := h.ok L hL l2 hl2 q hq2
      obtain ⟨a1, a2, a3⟩ := ha
      exact ⟨⟨k3, k4, by omega⟩, by omega⟩
    · have hj : r.idxOf x < r.length := List.idxOf_lt_length_of_mem (hc x List.mem_cons_self)
      unfold stepH
      refine foldl_ne2 _ _ (fun l' p hp => ?_) (.inl h2)
      unfold stepP
      obtain ⟨a1, a2, a3⟩ := h1 p hp
      have hl := mvAt_len h a1 a2 hj
      have ha := h.a1
      refine foldl_ne (fun l a => putA_ne) _ _ (.inl fun z => ?_)
      rw [z] at hl
      simp at hl
      omega
theorem foldl_max : ∀ (l : List Int) (a : Int), a ≤ l.foldl max a ∧ (∀ y ∈ l, y ≤ l.foldl max a) ∧ (l.foldl max a = a ∨ l.foldl max a ∈ l)
  | [], a => ⟨Int.le_refl _, fun y hy => (by cases hy), .inl rfl⟩
  | x :: l, a => by
    obtain ⟨h1, h2, h3⟩ := foldl_max l (max a x)
    show a ≤ l.foldl max (max a x) ∧ _
    refine ⟨by omega, fun y hy => ?_, ?_⟩
    · show y ≤ l.foldl max (max a x)
      rcases List.mem_cons.mp hy with rfl | hy
      · omega
      · exact h2 y hy
    · show l.foldl max (max a x) = a ∨ l.foldl max (max a x) ∈ _
      rcases h3 with h3 | h3
      · rw [h3]
        rcases Int.le_total a x with hle | hle
        · rw [Int.max_eq_right hle]
          exact .inr List.mem_cons_self
        · rw [Int.max_eq_left hle]
          exact .inl rfl
      · exact .inr (List.mem_cons_of_mem _ h3)
theorem max_is {l : List Int} {m : Int} (h0 : ∀ y ∈ l, 0 ≤ y) (hm : m ∈ l) (hle : ∀ y ∈ l, y ≤ m) : l.foldl max 0 = m := by
  obtain ⟨h1, h2, h3⟩ := foldl_max l 0
  have k1 := h2 m hm
  have k2 := h0 m hm
  rcases h3 with h3 | h3
  · omega
  · have := hle _ h3
    omega
end K84
set_option maxHeartbeats 4000000
namespace K84
open PySem PySem.Spec PyProof.Rows L2
local macro_rules | `(tactic| walk_at "ix") => `(tactic| first | exact atI_nat (j := 0) rfl | exact atI_nat (j := 1) rfl | exact atI_nat (j := 2) rfl | exact atI_nat (j := 3) rfl | exact atI_nat (j := 4) rfl)
local macro_rules | `(tactic| walk_at "rd") => `(tactic| repeat (first
  | refine ⟨_, rfl, ?_⟩
  | refine ⟨rfl, ?_⟩
  | refine ⟨_, _, rfl, ?_⟩
  | refine ⟨_, _, rfl, rfl, ?_⟩
  | refine ⟨_, _, _, rfl, ?_⟩
  | refine ⟨_, _, _, _, rfl, ?_⟩
  | refine ⟨_, _, _, _, rfl, rfl, (by assumption), (by walk_at "ix"), ?_⟩
  | refine ⟨_, _, _, rfl, rfl, (by assumption), ?_⟩
  | refine ⟨.inl ⟨rfl, _, sqL_of (by assumption)⟩, ?_⟩
  | refine ⟨_, _, _, _, _, rfl, (by assumption), (by assumption), (by assumption), (by assumption), ?_⟩
  | refine ⟨_, _, _, _, _, rfl, .ty _, Tg.ty (by assumption), kit_ty (by first | exact kInt _ | exact kBool _ | exact kStr _ | exact kTup _ | exact kLst _ | exact kDct _), ?_⟩))
/-- a tuple whose items are as told -/
def TupE {α : Type} (K : PySem.W.Frag) (H : Hp) (R : V → α → Prop) (v : V) (ys : List α) : Prop := ∃ p xs, v = .ref p ∧ SqT K H p xs ∧ Each R xs ys
theorem TupE.mono {α : Type} {K : PySem.W.Frag} {H H' : Hp} {R R' : V → α → Prop} {v : V} {ys : List α} (s : Same H H') (f : ∀ v q, R v q → R' v q) (h : TupE K H R v ys) : TupE K H' R' v ys := by
  obtain ⟨p, xs, e, h1, h2⟩ := h
  exact ⟨p, xs, e, s.seqT h1, h2.mono f⟩
def MvV (K : PySem.W.Frag) (H : Hp) (v : V) (M : Mv) : Prop := TupE K H (TupE K H (TupE K H (FrV K H))) v M
theorem MvV.mono {K : PySem.W.Frag} {H H' : Hp} {v : V} {M : Mv} (s : Same H H') (h : MvV K H v M) : MvV K H' v M :=
  TupE.mono s (fun _ _ => TupE.mono s fun _ _ => TupE.mono s fun _ _ => FrV.mono s) h
def sp_is_move (K : PySem.W.Frag) : Sp := sp2 fun a b H Q _ => ∃ (q : Int × Int) (n : Int), FrV K H a q ∧ b = .int n ∧ 1 ≤ q.1 ∧ q.1 ≤ 99 ∧ 0 ≤ q.2 ∧ q.2 ≤ n - 1 ∧ Q (.bl true) H
theorem within_yes {i lo hi : Int} (h1 : lo ≤ i) (h2 : i ≤ hi) : (Th.int i).within lo hi = true := by
  show (decide (lo ≤ i) && decide (i ≤ hi)) = true
  rw [decide_eq_true h1, decide_eq_true h2] <;> rfl
/- is_move: thing=0 size=1; cells []; calls ['is_within', 'is_pair']; builtins [] -/
abbrev s_is_move : Stmt := top 55
theorem sc_is_move : FnScope ["thing", "size"] ["thing", "size"] (defScope s_is_move) := ⟨rfl, rfl, rfl, by decide +kernel, rfl, by decide +kernel, by decide +kernel⟩
theorem ok_is_move {P : Program} {w : World} {K : PySem.W.Frag} {mg : Str → Option Value} {base : Heap} (D : Df K mg "is_move" s_is_move) (T : Tx K mg) (c_is_within : Cl CX0 P w K mg base 2 "is_within" (sp_is_within K)) (c_is_pair : Cl CX0 P w K mg base 1 "is_pair" (sp_is_pair K)) :
    Cl CX0 P w K mg base 3 "is_move" (sp_is_move K) := by
  refine D.ok2 (k := 2) sc_is_move (fun _ _ _ _ _ _ us hl => match us, hl with | [_, _], _ => rfl) (fun f cdv A outer s H a b Q E hr h => ⟨_, PSs.nox ((pss_one (ps_ret (pe_and (pe_cl c_is_pair hr (by decide) pass0 (pa_cons (pv 0) pa_nil)) (pe_and (pe_cl c_is_within hr (by decide) pass0 (pa_cons (pe_ix ix_tup (pv 0) pe_int (fun _ _ => rfl)) (pa_cons pe_int (pa_cons (pe_gcv rfl T.c_MOST_TICKS) pa_nil)))) (pe_one (pe_cl c_is_within hr (by decide) pass0 (pa_cons (pe_ix ix_tup (pv 0) pe_int (fun _ _ => rfl)) (pa_cons pe_int (pa_cons (pe_op op_sub (pv 1) pe_int) pa_nil)))))))))), ?_⟩)
  obtain ⟨⟨q1, q2⟩, n, ⟨p, rfl, hp⟩, rfl, h1, h2, h3, h4, q⟩ := h
  have gT : Tg K H (.ref p) (.tup [.int q1, .int q2]) := .tup hp (.cons (.int _) (.cons (.int _) .nil))
  refine ⟨_, rfl, _, rfl, _, gT, true, rfl, iteT ?_⟩
  walk_at "rd"
  refine ⟨.int q1, 1, 99, .int _, rfl, rfl, ?_⟩
  rw [within_yes h1 h2]
  refine ⟨_, rfl, iteT ?_⟩
  walk_at "rd"
  refine ⟨.int q2, 0, n - 1, .int _, rfl, rfl, ?_⟩
  rw [within_yes h3 h4]
  exact q
theorem sqT_ty {K : PySem.W.Frag} {H : Hp} {a : Addr} {xs : List V} (h : SqT K H a xs) : TyX K H (.ref a) (.type "tuple") := by
  rcases h with (h | ⟨o, h⟩) | ⟨o, its, n, h, c, _⟩
  · exact .base (.tup h)
  · exact .fTuple h
  · exact .kTuple h c
def sp_are_moves (K : PySem.W.Frag) : Sp := sp3 fun a b c H Q _ => ∃ (M : Mv) (r : Wd) (ans : Nat), MvV K H a M ∧ b = .str (S r) ∧ c = .int ans ∧ MvOk M r ans ∧ RowsOk r ∧ ∀ H', Same H H' → Q (.bl true) H'
/- are_moves: thing=0 rows=1 answers=2 standing=3 moves=4 move=5; cells ['thing']; calls ['is_move']; builtins ['all', 'len', 'isinstance', 'tuple'] -/
abbrev s_are_moves : Stmt := top 56
theorem sc_are_moves : FnScope ["thing", "rows", "answers", "standing", "moves", "move"] ["thing", "rows", "answers"] (defScope s_are_moves) := ⟨rfl, rfl, rfl, by decide +kernel, rfl, by decide +kernel, by decide +kernel⟩
theorem ok_are_moves {P : Program} {w : World} {K : PySem.W.Frag} {mg : Str → Option Value} {base : Heap} (D : Df K mg "are_moves" s_are_moves) (T : Tx K mg) (c_is_move : Cl CX0 P w K mg base 3 "is_move" (sp_is_move K)) :
    Cl CX0 P w K mg base 4 "are_moves" (sp_are_moves K) := by
  refine D.ok3 (k := 3) sc_are_moves (fun _ _ _ _ _ _ us hl => match us, hl with | [_, _, _], _ => rfl) (fun f cdv A outer s H a b c Q E hr h => ⟨_, PSs.nox ((pss_cons (ps_if (PW.pt (pw_or (pt_not (pt_val (pe_callB call_isi (by rfl) T.isinstance (by decide +kernel) (pa_cons (pv 0) (pa_cons (pe_bltn (v := .ty "tuple") (by rfl) T.tuple_ (by decide +kernel) rfl) pa_nil))))) (pw_or1 (pt_not (pt_chain op_le op_le pe_int (pe_callB call_len_seq (by rfl) T.len (by decide +kernel) (pa_cons (pv 0) pa_nil)) (pe_gcv rfl T.c_MOST_STANDINGS)))))) (pss_one (ps_ret pe_bl)) pss_nil)
      (pss_cons (ps_for PassesOwn.never rfl (pi_tup (pv 0)) (pg_name (i := 3) sc_are_moves.nd rfl (Or.inl rfl)) (pss_cons (ps_if (PW.pt (pw_or (pt_not (pt_val (pe_callB call_isi (by rfl) T.isinstance (by decide +kernel) (pa_cons (pv 3) (pa_cons (pe_bltn (v := .ty "tuple") (by rfl) T.tuple_ (by decide +kernel) rfl) pa_nil))))) (pw_or1 (pt_cmpR op_ne (pe_callB call_len_seq (by rfl) T.len (by decide +kernel) (pa_cons (pv 3) pa_nil)) (pe_callB call_len_str (by rfl) T.len (by decide +kernel) (pa_cons (pv 1) pa_nil)) (nomark _))))) (pss_one (ps_ret pe_bl)) pss_nil)
      (pss_one (ps_for PassesOwn.never rfl (pi_tup (pv 3)) (pg_name (i := 4) sc_are_moves.nd rfl (Or.inl rfl)) (pss_cons (ps_if (PW.pt (pw_or (pt_not (pt_val (pe_callB call_isi (by rfl) T.isinstance (by decide +kernel) (pa_cons (pv 4) (pa_cons (pe_bltn (v := .ty "tuple") (by rfl) T.tuple_ (by decide +kernel) rfl) pa_nil))))) (pw_or1 (pt_cmpR op_ne (pe_callB call_len_seq (by rfl) T.len (by decide +kernel) (pa_cons (pv 4) pa_nil)) (pv 2) (nomark _))))) (pss_one (ps_ret pe_bl)) pss_nil)
      (pss_one (ps_if (pt_not (pt_val (pe_callB (cr_all rfl) (by rfl) T.all (by decide +kernel) (pa_cons (pe_lc (own := [("move", 5)]) rfl sc_are_moves.nd (pi_tup (pv 4)) (blkOk_by (own := [("move", 5)]) (N := ["thing", "rows", "answers", "standing", "moves", "move"]) (sc := defScope s_are_moves) (by decide +kernel)) (fun _ _ _ _ _ => (pg_name (i := 5) sc_are_moves.nd rfl (Or.inl rfl))) (fun _ _ _ _ _ => pts_nil) (fun _ _ _ _ _ => (pe_cl c_is_move hr (by decide) pass0 (pa_cons (pv 5) (pa_cons (peK (t' := tCB (rLenQ K) _) (pe_callB call_len_seq (by rfl) T.len (by decide +kernel) (pa_cons (pv 0) pa_nil)) rfl) pa_nil))))) pa_nil)))) (pss_one (ps_ret pe_bl)) pss_nil)))))))
      (pss_one (ps_ret pe_bl))))), ?_⟩)
  obtain ⟨M, r, ans, ⟨p, xs, rfl, hp, hE⟩, rfl, rfl, hM, hr3, q⟩ := h
  have m1 := hM.pos
  have m2 := hM.few
  refine ⟨_, rfl, _, _, _, _, true, rfl, .ty _, sqT_ty hp, kit_ty (kTup (.tup [])), ?_⟩
  refine ⟨_, rfl, iteF ?_⟩
  refine ⟨_, rfl, _, _, rfl, .inr hp, ?_⟩
  walk_at "rd"
  refine ifT (decide_eq_true (by rw [hE.1]; omega)) ?_
  walk_at "rd"
  refine ifF (by rw [decide_eq_true (by rw [hE.1]; omega)] <;> rfl) ?_
  refine ⟨_, rfl, p, rfl, ⟨_, hp⟩, ?_⟩
  refine for_it walk_tup (fun i σ H' => Same H H' ∧ ∃ y z u, σ = [some (.ref p), some (.str (S r)), some (.int ans), y, z, u]) ⟨L2.Same.refl _, _, _, _, rfl⟩ (fun i σ H' _ h => h.1.seqT hp) ?_ ?_
  · rintro i v σ H1 H2 hi ⟨s1, y, z, u, rfl⟩ ⟨rfl, hv⟩
    obtain ⟨L, hL, p2, xs2, rfl, hp2, hE2⟩ := hE.get hv
    have hLm := List.mem_of_getElem? hL
    have hp2' := s1.seqT hp2
    refine ⟨_, rfl, _, _, _, _, true, rfl, .ty _, sqT_ty hp2', kit_ty (kTup (.tup [])), ?_⟩
    refine ⟨_, rfl, iteF ?_⟩
    refine ⟨_, rfl, _, _, rfl, .inr hp2', ?_⟩
    refine ⟨_, rfl, _, rfl, szle (by rw [S_length]; have := hr3.le; omega), ?_⟩
    walk_at "rd"
    refine ifF (by rw [hE2.1, hM.rows L hLm, S_length, decide_eq_true rfl] <;> rfl) ?_
    refine ⟨_, rfl, p2, rfl, ⟨_, hp2'⟩, ?_⟩
    refine for_it walk_tup (fun i σ H' => Same H H' ∧ ∃ z u, σ = [some (.ref p), some (.str (S r)), some (.int ans), some (.ref p2), z, u]) ⟨s1, _, _, rfl⟩ (fun i σ H' _ h => h.1.seqT hp2) ?_ ?_
    · rintro j v σ H3 H4 hj ⟨s2, z, u, rfl⟩ ⟨rfl, hv⟩
      obtain ⟨l, hl, p3, xs3, rfl, hp3, hE3⟩ := hE2.get hv
      have hlm := List.mem_of_getElem? hl
      have hp3' := s2.seqT hp3
      refine ⟨_, rfl, _, _, _, _, true, rfl, .ty _, sqT_ty hp3', kit_ty (kTup (.tup [])), ?_⟩
      refine ⟨_, rfl, iteF ?_⟩
      refine ⟨_, rfl, _, _, rfl, .inr hp3', ?_⟩
      walk_at "rd"
      refine ifF (by rw [hE3.1, hM.ans L hLm l hlm, decide_eq_true rfl] <;> rfl) ?_
      have hle : xs3.length ≤ 3 := by rw [hE3.1, hM.ans L hLm l hlm]; exact hM.a3
      refine ⟨_, rfl, p3, rfl, ⟨_, hp3'⟩, fun D hD => ?_⟩
      refine lc_it (walk_tup (xs := xs3)) (AccP H4 D fun i acc _ => acc = (List.replicate i true).map V.bl) (AccP.start hD rfl) (fun j H3 _ h => ?_) ?_ ?_
      · obtain ⟨acc, G, e2, hG, k1, k2, e3⟩ := h
        exact k2.seqT (k1.seqT hp3')
      · rintro k v H5 H6 hk ⟨acc, G, e3, hG, k4, k5, rfl⟩ ⟨rfl, hv⟩
        obtain ⟨q2, hq2, hF⟩ := hE3.get hv
        obtain ⟨⟨b1, b2⟩, b3, b4⟩ := hM.ok L hLm l hlm q2 (List.mem_of_getElem? hq2)
        have hp6 := k5.seqT (k4.seqT (s2.seqT hp))
        refine ⟨rfl, _, rfl, _, rfl, p, xs, rfl, .inr hp6, ?_⟩
        refine ⟨_, _, rfl, q2, _, (hF.mono (s2.trans (k4.trans k5))), rfl, b1, b2, b3, by rw [hE.1]; exact b4, ?_⟩
        refine AccP.push e3 hG k4 k5 (by rw [List.length_map, List.length_replicate]; exact szlt (by omega)) ?_
        show _ = (List.replicate (k + 1) true).map V.bl
        rw [List.replicate_succ', List.map_append] <;> rfl
      · rintro H5 ⟨acc, G, e3, hG, k4, k5, rfl⟩
        refine ⟨D, _, rfl, sqL_of e3, ?_⟩
        have e5 : (List.replicate xs3.length true).all id = true := by simp
        rw [e5]
        walk_at "rd"
        refine iteF ?_
        exact ⟨s2.trans (k4.trans k5), _, _, rfl⟩
    · rintro σ H3 ⟨s2, z, u, rfl⟩
      exact ⟨s2, _, _, _, rfl⟩
  · rintro σ H1 ⟨s1, y, z, u, rfl⟩
    exact q H1 s1
/-- the dict of the steps -/
def stK (i : Nat) (c : Nat) (k : Nat) : List L2.Key := [.inl i, .inr (S [c]), .inl k]
structure MaO (K : PySem.W.Frag) (H : Hp) (v : V) (r : Wd) (ans : Nat) (M : Mv) : Prop where
  ex : ∃ a C dx fs t kvs, v = .ref a ∧ H a = some (.ins C dx fs) ∧ Cls K C ∧ NoAttr K C "rows" ∧ NoAttr K C "answers" ∧ NoAttr K C "kept_steps" ∧
    fs.lookup ("rows" : Str) = some (V.str (S r)) ∧ fs.lookup ("answers" : Str) = some (V.int ans) ∧ fs.lookup ("kept_steps" : Str) = some (V.ref t) ∧ H t = some (.dT kvs) ∧
    ∀ (i j k : Nat) L l q c, M[i]? = some L → L[j]? = some l → l[k]? = some q → r[j]? = some c → ∃ u, valV kvs (stK i c k) = some u ∧ FrV K H u q
theorem MaO.mono {K : PySem.W.Frag} {H H' : Hp} {v : V} {r : Wd} {ans : Nat} {M : Mv} (s : Same H H') (h : MaO K H v r ans M) : MaO K H' v r ans M := by
  obtain ⟨a, C, dx, fs, t, kvs, e, h1, h2, h3, h4, h5, h6, h7, h8, h9, h10⟩ := h
  exact ⟨a, C, dx, fs, t, kvs, e, s _ _ h1, h2, h3, h4, h5, h6, h7, h8, s _ _ h9, fun i j k L l q c e1 e2 e3 e4 => let ⟨u, u1, u2⟩ := h10 i j k L l q c e1 e2 e3 e4; ⟨u, u1, u2.mono s⟩⟩
def sp_keep (K : PySem.W.Frag) (C : Addr) : Sp := sp4 fun a b c d H Q _ => ∃ (x dx : Addr) (r : Wd) (ans : Nat) (M : Mv), a = .ref x ∧ H x = some (.ins C dx []) ∧ b = .str (S r) ∧ c = .int ans ∧ MvV K H d M ∧ MvOk M r ans ∧ RowsOk r ∧
  ∀ H', (∀ b o, b ≠ x → H b = some o → H' b = some o) → MaO K H' (.ref x) r ans M → Q .non H'
def KpI (K : PySem.W.Frag) (M : Mv) (r : Wd) (ks : Addr) (G0 : Hp) (P : Nat → Nat → Nat → Prop) (b : Nat) (H' : Hp) : Prop := ∃ G kvs, G ks = none ∧ Same G0 G ∧ Same G H' ∧ H' ks = some (.dT kvs) ∧ kvs.length ≤ b ∧
  ∀ i j k L l q c, M[i]? = some L → L[j]? = some l → l[k]? = some q → r[j]? = some c → P i j k → ∃ u, valV kvs (stK i c k) = some u ∧ FrV K G0 u q
theorem KpI.new {K : PySem.W.Frag} {M : Mv} {r : Wd} {ks T : Addr} {G0 H' : Hp} {P : Nat → Nat → Nat → Prop} {b : Nat} {o : HO} (h : KpI K M r ks G0 P b H') (hT : H' T = none) : KpI K M r ks G0 P b (upd H' T o) := by
  obtain ⟨G, kvs, h1, h2, h3, h4, h5, h6⟩ := h
  exact ⟨G, kvs, h1, h2, h3.new hT, same_new hT _ _ h4, h5, h6⟩
theorem KpI.weak {K : PySem.W.Frag} {M : Mv} {r : Wd} {ks : Addr} {G0 H' : Hp} {P P' : Nat → Nat → Nat → Prop} {b b' : Nat} (h : KpI K M r ks G0 P b H') (hb : b ≤ b')
    (f : ∀ i j k L l q, M[i]? = some L → L[j]? = some l → l[k]? = some q → P' i j k → P i j k) : KpI K M r ks G0 P' b' H' := by
  obtain ⟨G, kvs, h1, h2, h3, h4, h5, h6⟩ := h
  exact ⟨G, kvs, h1, h2, h3, h4, by omega, fun i j k L l q c e1 e2 e3 e4 p => h6 i j k L l q c e1 e2 e3 e4 (f i j k L l q e1 e2 e3 p)⟩
theorem stK_inj {i i' c c' k k' : Nat} (h : stK i c k = stK i' c' k') : i = i' ∧ c = c' ∧ k = k' := by
  unfold stK at h
  injection h with h1 h2
  injection h2 with h2 h3
  injection h3 with h3 _
  have e1 := Sum.inl.inj h1
  have e2 := S_inj (Sum.inr.inj h2)
  have e3 := Sum.inl.inj h3
  injection e2 with e2
  exact ⟨by omega, e2, by omega⟩
theorem MvV.wo {K : PySem.W.Frag} {H : Hp} {t : Addr} {u : HO} {v : V} {M : Mv} (e : H t = some u) (o : Odd u) (h : MvV K H v M) : MvV K (wo H t) v M := by
  obtain ⟨p, xs, e1, h1, h2⟩ := h
  refine ⟨p, xs, e1, sqT_wo e o h1, h2.mono ?_⟩
  rintro v q ⟨p, xs, e1, h1, h2⟩
  refine ⟨p, xs, e1, sqT_wo e o h1, h2.mono ?_⟩
  rintro v q ⟨p, xs, e1, h1, h2⟩
  exact ⟨p, xs, e1, sqT_wo e o h1, h2.mono fun v q h => h.wo e o⟩
/- Machine.keep: self=0 rows=1 answers=2 moves=3 standing=4 lines=5 row=6 line=7 answer=8 move=9; cells []; calls []; builtins ['enumerate', 'zip', 'len'] -/
abbrev s_Machine_keep : Stmt := inClass (top 57) 1
theorem sc_Machine_keep : FnScope ["self", "rows", "answers", "moves", "standing", "lines", "row", "line", "answer", "move"] ["self", "rows", "answers", "moves"] (defScope s_Machine_keep) := ⟨rfl, rfl, rfl, by decide +kernel, rfl, by decide +kernel, by decide +kernel⟩
theorem ok_Machine_keep {P : Program} {w : World} {K : PySem.W.Frag} {mg : Str → Option Value} {base : Heap} {C f : Addr} (D : DfM K C "keep" "Machine.keep" s_Machine_keep f) (T : Tx K mg) (hM : Meth K C "keep" f) (cC : Cls K C) (n1 : NoAttr K C "rows") (n2 : NoAttr K C "answers") (n3 : NoAttr K C "moves") (n4 : NoAttr K C "size") (n5 : NoAttr K C "kept_steps") (n6 : NoAttr K C "kept_webs") :
    ClK P w K mg base 1 "keep" C (sp_keep K C) := by
  suffices HH : ∃ fd ps, FnOk P w K mg base CX0 1 f fd ps (sp_keep K C) ∧ Binds K fd ps [] from let ⟨fd, ps, F, bb⟩ := HH; ⟨f, fd, ps, cC, hM, F, bb⟩
  refine D.ok4 (k := 0) sc_Machine_keep (fun _ _ _ _ _ _ us hl => match us, hl with | [_, _, _, _], _ => rfl) (fun cdv A outer s H a b c d Q E hr h => ⟨_, PSs.nox ((pss_cons (ps_fld (pv 0) (pv 1) rfl)
      (pss_cons (ps_fld (pv 0) (pv 2) rfl)
      (pss_cons (ps_fld (pv 0) (pv 3) rfl)
      (pss_cons (ps_fld (pv 0) (pe_callB call_len_seq (by rfl) T.len (by decide +kernel) (pa_cons (pv 3) pa_nil)) rfl)
      (pss_cons (ps_fld (pv 0) pe_dnewT rfl)
      (pss_cons (ps_fld (pv 0) pe_dnewT rfl)
      (pss_one (ps_for PassesOwn.never rfl (pi_enumT (by rfl) T.enumerate (pa_cons (pv 3) pa_nil)) (pg_tup rfl (pgs_cons (pg_name (i := 4) sc_Machine_keep.nd rfl (Or.inl rfl)) (pgs_cons (pg_name (i := 5) sc_Machine_keep.nd rfl (Or.inl rfl)) pgs_nil))) (pss_one (ps_for PassesOwn.never rfl (pi_zipST (by rfl) T.zip (pa_cons (pv 1) (pa_cons (pv 5) pa_nil))) (pg_tup rfl (pgs_cons (pg_name (i := 6) sc_Machine_keep.nd rfl (Or.inl rfl)) (pgs_cons (pg_name (i := 7) sc_Machine_keep.nd rfl (Or.inl rfl)) pgs_nil))) (pss_one (ps_for PassesOwn.never rfl (pi_enumT (by rfl) T.enumerate (pa_cons (pv 7) pa_nil)) (pg_tup rfl (pgs_cons (pg_name (i := 8) sc_Machine_keep.nd rfl (Or.inl rfl)) (pgs_cons (pg_name (i := 9) sc_Machine_keep.nd rfl (Or.inl rfl)) pgs_nil))) (pss_one (ps_dput (hu_of hr) (pe_fld (pv 0) (by rfl)) (pe_tup (pa_cons (pv 4) (pa_cons (pv 6) (pa_cons (pv 8) pa_nil)))) (pv 9) rfl))))))))))))))), ?_⟩)
  obtain ⟨x, dx, r, ans, M, rfl, hx, rfl, rfl, hV, hM, hrr, q⟩ := h
  obtain ⟨p, xs, rfl, hp, hE⟩ := id hV
  have m1 := hM.pos
  have m2 := hM.few
  walk_at "rd"
  refine ⟨x, C, dx, [], rfl, hx, cC, n1, by decide, ?_⟩
  refine ⟨_, rfl, _, rfl, x, C, dx, _, rfl, upd_same, cC, n2, by show 1 < 1000; decide, ?_⟩
  rw [upd_upd]
  refine ⟨_, rfl, _, rfl, x, C, dx, _, rfl, upd_same, cC, n3, by show 2 < 1000; decide, ?_⟩
  rw [upd_upd]
  have hVw := hV.wo hx .ins
  obtain ⟨_, xs0, e0, hp0, _⟩ := id hVw
  cases e0
  have hp1 : SqT K (upd H x (.ins C dx (putF "moves" (.ref p) (putF "answers" (.int ans) (putF "rows" (.str (S r)) []))))) p xs0 := wo_upd.seqT hp0
  refine ⟨_, rfl, p, xs0, rfl, .inr hp1, _, rfl, x, C, dx, _, rfl, upd_same, cC, n4, by show 3 < 1000; decide, ?_⟩
  rw [upd_upd]
  intro ks hks
  have hksx : ks ≠ x := fun z => by rw [z, upd_same] at hks; cases hks
  have hksn : H ks = none := by rwa [upd_ne hksx] at hks
  refine ⟨_, rfl, x, C, dx, _, rfl, (upd_ne (Ne.symm hksx)).trans upd_same, cC, n5, by show 4 < 1000; decide, ?_⟩
  intro kw hkw
  have hkwx : kw ≠ x := fun z => by rw [z, upd_same] at hkw; cases hkw
  have hkwk : kw ≠ ks := fun z => by rw [z, upd_ne hksx, upd_same] at hkw; cases hkw
  refine ⟨_, rfl, x, C, dx, _, rfl, (upd_ne (Ne.symm hkwx)).trans upd_same, cC, n6, by show 5 < 1000; decide, ?_⟩
  have hsW : Same (wo H x) (upd (upd (upd (upd (upd H x (.ins C dx (putF "size" (.int xs0.length) (putF "moves" (.ref p) (putF "answers" (.int ans) (putF "rows" (.str (S r)) [])))))) ks (.dT [])) x (.ins C dx (putF "kept_steps" (.ref ks) (putF "size" (.int xs0.length) (putF "moves" (.ref p) (putF "answers" (.int ans) (putF "rows" (.str (S r)) []))))))) kw (.dT []))
      x (.ins C dx (putF "kept_webs" (.ref kw) (putF "kept_steps" (.ref ks) (putF "size" (.int xs0.length) (putF "moves" (.ref p) (putF "answers" (.int ans) (putF "rows" (.str (S r)) [])))))))) := by
    intro b o eb
    have hb : b ≠ x := fun z => by rw [z, wo_at] at eb; cases eb
    have hbk : b ≠ ks := fun z => by rw [z, wo_ne hksx, hksn] at eb; cases eb
    rw [wo_ne hb] at eb
    have hbw : b ≠ kw := fun z => by
      rw [← z, upd_ne hb, upd_ne hbk, upd_ne hb, eb] at hkw
      cases hkw
    rw [upd_ne hb, upd_ne hbw, upd_ne hb, upd_ne hbk, upd_ne hb]
    exact eb
  have hHx := upd_same (H := (upd (upd (upd (upd H x (.ins C dx (putF "size" (.int xs0.length) (putF "moves" (.ref p) (putF "answers" (.int ans) (putF "rows" (.str (S r)) [])))))) ks (.dT [])) x (.ins C dx (putF "kept_steps" (.ref ks) (putF "size" (.int xs0.length) (putF "moves" (.ref p) (putF "answers" (.int ans) (putF "rows" (.str (S r)) []))))))) kw (.dT []))) (a := x) (o := .ins C dx (putF "kept_webs" (.ref kw) (putF "kept_steps" (.ref ks) (putF "size" (.int xs0.length) (putF "moves" (.ref p) (putF "answers" (.int ans) (putF "rows" (.str (S r)) [])))))))
  have hHk : (upd (upd (upd (upd (upd H x (.ins C dx (putF "size" (.int xs0.length) (putF "moves" (.ref p) (putF "answers" (.int ans) (putF "rows" (.str (S r)) [])))))) ks (.dT [])) x (.ins C dx (putF "kept_steps" (.ref ks) (putF "size" (.int xs0.length) (putF "moves" (.ref p) (putF "answers" (.int ans) (putF "rows" (.str (S r)) []))))))) kw (.dT []))
      x (.ins C dx (putF "kept_webs" (.ref kw) (putF "kept_steps" (.ref ks) (putF "size" (.int xs0.length) (putF "moves" (.ref p) (putF "answers" (.int ans) (putF "rows" (.str (S r)) [])))))))) ks = some (.dT []) := by
    rw [upd_ne hksx, upd_ne (Ne.symm hkwk), upd_ne hksx, upd_same]
  generalize hHs : upd (upd (upd (upd (upd H x _) ks _) x _) kw _) x _ = Hs at hsW hHx hHk ⊢
  have hG0k : (wo H x) ks = none := by rw [wo_ne hksx]; exact hksn
  have sG0 : Same (wo H x) (wo Hs ks) := wo_to hsW hG0k
  have hV0 := MvV.mono sG0 hVw
  have hx0 : (wo Hs ks) x = some _ := (wo_ne (Ne.symm hksx)).trans hHx
  have hk0 : (wo Hs ks) ks = none := wo_at
  have sHs : Same (wo Hs ks) Hs := wo_same
  generalize hG0 : wo Hs ks = G0 at sG0 hV0 hx0 hk0 sHs
  obtain ⟨_, xs1, e1, hp2, hE1⟩ := id hV0
  cases e1
  have hI : KpI K M r ks G0 (fun i _ _ => i < 0) 0 Hs := ⟨G0, [], hk0, L2.Same.refl _, sHs, hHk, Nat.le_refl _, fun i j k L l q c _ _ _ _ h => absurd h (Nat.not_lt_zero _)⟩
  have old : ∀ {P : Nat → Nat → Nat → Prop} {b : Nat} {H' : Hp}, KpI K M r ks G0 P b H' → Same G0 H' := fun h => let ⟨G, kvs, h1, h2, h3, _⟩ := h; h2.trans h3
  refine ⟨_, rfl, p, xs1, rfl, sHs.seqT hp2, ?_⟩
  refine for_it walk_P (fun i σ H' => (∃ a b c d e g, σ = [some (.ref x), some (.str (S r)), some (.int ans), some (.ref p), a, b, c, d, e, g]) ∧ KpI K M r ks G0 (fun i' _ _ => i' < i) (9 * i) H') ⟨⟨_, _, _, _, _, _, rfl⟩, hI⟩ (fun i σ H' _ h => (old h.2).seqT hp2) ?_ ?_
  · rintro i v σ H1 H2 hi ⟨⟨a, b, c, d, e, g, rfl⟩, hI1⟩ ⟨T, y1, y2, rfl, hT, rfl, hy1, hy2⟩
    cases hy1
    obtain ⟨L, hL, p2, xs2, rfl, hp3, hE2⟩ := hE1.get hy2
    have hLm := List.mem_of_getElem? hL
    have hI2 := hI1.new (o := .tup [.int (i : Nat), .ref p2]) hT
    refine ⟨T, _, rfl, sqT_of upd_same, rfl, ?_⟩
    refine ⟨_, _, rfl, _, _, rfl, rfl, ?_⟩
    refine ⟨_, rfl, _, rfl, S r, p2, xs2, rfl, (old hI2).seqT hp3, ?_⟩
    refine for_it walk_P (fun j σ H' => (∃ c d e g, σ = [some (.ref x), some (.str (S r)), some (.int ans), some (.ref p), some (.int (i : Nat)), some (.ref p2), c, d, e, g]) ∧ KpI K M r ks G0 (fun i' j' _ => i' < i ∨ (i' = i ∧ j' < j)) (9 * i + 3 * j) H') ⟨⟨_, _, _, _, rfl⟩, hI2.weak (by omega) ?_⟩ (fun j σ H' _ h => (old h.2).seqT hp3) ?_ ?_
    · intro i' j' k' L l q _ _ _ h
      rcases h with h | ⟨_, h⟩
      · exact h
      · exact absurd h (Nat.not_lt_zero _)
    · rintro j v σ H3 H4 hj ⟨⟨c, d, e, g, rfl⟩, hI3⟩ ⟨T2, y1, y2, rfl, hT2, rfl, hy1, hy3⟩
      obtain ⟨ch, hch, rfl⟩ := Option.map_eq_some_iff.mp hy1
      have hch2 : r[j]? = some ch := by
        have := hch
        rw [← Array.getElem?_toList] at this
        exact this
      obtain ⟨l, hl, p3, xs3, rfl, hp4, hE3⟩ := hE2.get hy3
      have hlm := List.mem_of_getElem? hl
      have hl3 : xs3.length ≤ 3 := by rw [hE3.1, hM.ans L hLm l hlm]; exact hM.a3
      have hI4 := hI3.new (o := .tup [.str ⟨#[ch]⟩, .ref p3]) hT2
      refine ⟨T2, _, rfl, sqT_of upd_same, rfl, ?_⟩
      refine ⟨_, _, rfl, _, _, rfl, rfl, ?_⟩
      refine ⟨_, rfl, p3, xs3, rfl, (old hI4).seqT hp4, ?_⟩
      refine for_it walk_P (fun k σ H' => (∃ e g, σ = [some (.ref x), some (.str (S r)), some (.int ans), some (.ref p), some (.int (i : Nat)), some (.ref p2), some (.str ⟨#[ch]⟩), some (.ref p3), e, g]) ∧ KpI K M r ks G0 (fun i' j' k' => i' < i ∨ (i' = i ∧ (j' < j ∨ (j' = j ∧ k' < k)))) (9 * i + 3 * j + k) H') ⟨⟨_, _, rfl⟩, hI4.weak (by omega) ?_⟩ (fun j σ H' _ h => (old h.2).seqT hp4) ?_ ?_
      · intro i' j' k' L l q _ _ _ h
        rcases h with h | ⟨h1, h | ⟨_, h⟩⟩
        · exact .inl h
        · exact .inr ⟨h1, h⟩
        · exact absurd h (Nat.not_lt_zero _)
      · rintro k v σ H5 H6 hk ⟨⟨e, g, rfl⟩, hI5⟩ ⟨T3, y1, y2, rfl, hT3, rfl, hy1, hy4⟩
        cases hy1
        obtain ⟨q2, hq2, hF⟩ := hE3.get hy4
        have hI6 := hI5.new (o := .tup [.int (k : Nat), y2]) hT3
        refine ⟨T3, _, rfl, sqT_of upd_same, rfl, ?_⟩
        refine ⟨_, _, rfl, _, _, rfl, rfl, ?_⟩
        obtain ⟨G, kvs, k1, k2, k3, k4, k5, k6⟩ := hI6
        have ox := k3 _ _ (k2 _ _ hx0)
        refine ⟨_, rfl, _, rfl, x, C, dx, _, .ref ks, rfl, ox, cC, n5, ?_, ?_⟩
        · refine lookup_put (lookup_put ?_) <;> rfl
        refine ⟨_, rfl, _, rfl, _, rfl, (by show 3 ≤ sizeLine; decide), fun kb hkb => ?_⟩
        have ekey : ([V.int (i : Nat), .str ⟨#[ch]⟩, .int (k : Nat)] : List V) = (stK i ch k).map kV := rfl
        have hkbk : kb ≠ ks := fun z => by rw [z, k4] at hkb; cases hkb
        refine ⟨ks, _, rfl, .inr ⟨kvs, stK i ch k, kb, same_new hkb _ _ k4, rfl, ?_, ?_, rfl⟩, ?_⟩
        · rw [upd_same, ← ekey]
        · have u1 := hE1.1
          have u2 := hE2.1.trans (hM.rows L hLm)
          have u3 := hrr.le
          exact szlt (by omega)
        · refine ⟨⟨_, _, rfl⟩, G, _, k1, k2, L2.Same.mut (k3.new hkb) k1, upd_same, ?_, ?_⟩
          · have := length_putK kvs (stK i ch k) y2
            omega
          · intro i' j' k' L' l' q' c' e1 e2 e3 e4 hb
            rw [valV_put]
            by_cases he : stK i' c' k' = stK i ch k
            · rw [if_pos he]
              obtain ⟨z1, z2, z3⟩ := stK_inj he
              subst z1 z2 z3
              rw [hL] at e1
              cases e1
              have ej : j' = j := by
                obtain ⟨w1, w2⟩ := List.getElem?_eq_some_iff.mp e4
                obtain ⟨w3, w4⟩ := List.getElem?_eq_some_iff.mp hch2
                rcases Nat.lt_trichotomy j' j with h | h | h
                · exact absurd (w2.trans w4.symm) (List.pairwise_iff_getElem.mp hrr.nd j' j w1 w3 h)
                · exact h
                · exact absurd (w4.trans w2.symm) (List.pairwise_iff_getElem.mp hrr.nd j j' w3 w1 h)
              subst ej
              rw [hl] at e2
              cases e2
              rw [hq2] at e3
              cases e3
              exact ⟨y2, rfl, hF⟩
            · rw [if_neg he]
              refine k6 i' j' k' L' l' q' c' e1 e2 e3 e4 ?_
              rcases hb with h | ⟨h1, h | ⟨h2, h3⟩⟩
              · exact .inl h
              · exact .inr ⟨h1, .inl h⟩
              · refine .inr ⟨h1, .inr ⟨h2, ?_⟩⟩
                rcases Nat.lt_or_eq_of_le (Nat.le_of_lt_succ h3) with h4 | h4
                · exact h4
                · subst h1 h2 h4
                  rw [hch2] at e4
                  cases e4
                  exact absurd rfl he
      · rintro σ H5 ⟨⟨e, g, rfl⟩, hI5⟩
        refine ⟨⟨_, _, _, _, rfl⟩, hI5.weak (by omega) ?_⟩
        intro i' j' k' L' l' q' e1 e2 e3 h
        rcases h with h | ⟨h1, h⟩
        · exact .inl h
        · refine .inr ⟨h1, ?_⟩
          rcases Nat.lt_or_eq_of_le (Nat.le_of_lt_succ h) with h | h
          · exact .inl h
          · subst h1 h
            rw [hL] at e1
            cases e1
            rw [hl] at e2
            cases e2
            exact .inr ⟨rfl, by rw [hE3.1]; exact (List.getElem?_eq_some_iff.mp e3).1⟩
    · rintro σ H3 ⟨⟨c, d, e, g, rfl⟩, hI3⟩
      have hr3 := hrr.le
      refine ⟨⟨_, _, _, _, _, _, rfl⟩, hI3.weak (by have : min (S r).cps.size xs2.length ≤ 3 := Nat.le_trans (Nat.min_le_left _ _) (by show r.toArray.size ≤ 3; simpa using hr3); omega) ?_⟩
      intro i' j' k' L' l' q' e1 e2 e3 h
      rcases Nat.lt_or_eq_of_le (Nat.le_of_lt_succ h) with h | h
      · exact .inl h
      · subst h
        rw [hL] at e1
        cases e1
        refine .inr ⟨rfl, ?_⟩
        have w := (List.getElem?_eq_some_iff.mp e2).1
        have w2 := hM.rows L hLm
        have w3 : (S r).cps.size = r.length := by show r.toArray.size = _; simp
        rw [w3, hE2.1]
        omega
  · rintro σ H1 ⟨⟨a, b, c, d, e, g, rfl⟩, G, kvs, k1, k2, k3, k4, k5, k6⟩
    have s0 := k2.trans k3
    refine q H1 (fun b o hb eb => s0 _ _ (sG0 _ _ (by rw [wo_ne hb]; exact eb))) ⟨x, C, dx, _, ks, kvs, rfl, s0 _ _ hx0, cC, n1, n2, n5, ?_, ?_, ?_, k4, fun i j k L l q c e1 e2 e3 e4 => ?_⟩
    · refine lookup_put (lookup_put (lookup_put (lookup_put (lookup_put (lookup_put ?_))))) <;> rfl
    · refine lookup_put (lookup_put (lookup_put (lookup_put (lookup_put ?_)))) <;> rfl
    · refine lookup_put (lookup_put ?_) <;> rfl
    · obtain ⟨u, u1, u2⟩ := k6 i j k L l q c e1 e2 e3 e4 (by rw [hE1.1]; exact (List.getElem?_eq_some_iff.mp e1).1)
      exact ⟨u, u1, u2.mono s0⟩
def sp_Machine (K : PySem.W.Frag) (C : Addr) : Sp := sp4 fun a b c d H Q _ => ∃ (x dx : Addr) (r : Wd) (ans : Nat) (M : Mv), a = .ref x ∧ H x = some (.ins C dx []) ∧ b = .str (S r) ∧ c = .int ans ∧ MvV K H d M ∧ MvOk M r ans ∧ RowsOk r ∧
  ∀ H', (∀ b o, b ≠ x → H b = some o → H' b = some o) → MaO K H' (.ref x) r ans M → Q .non H'
/- Machine.__init__: self=0 rows=1 answers=2 moves=3; cells []; calls ['Machine.keep', 'are_moves', 'is_within', 'is_rows']; builtins [] -/
abbrev s_Machine___init__ : Stmt := inClass (top 57) 0
theorem sc_Machine___init__ : FnScope ["self", "rows", "answers", "moves"] ["self", "rows", "answers", "moves"] (defScope s_Machine___init__) := ⟨rfl, rfl, rfl, by decide +kernel, rfl, by decide +kernel, by decide +kernel⟩
theorem ok_Machine___init__ {P : Program} {w : World} {K : PySem.W.Frag} {mg : Str → Option Value} {base : Heap} {C f : Addr} (D : DfM K C "__init__" "Machine.__init__" s_Machine___init__ f) (T : Tx K mg) (c_keep : ClK P w K mg base 1 "keep" C (sp_keep K C)) (c_are_moves : Cl CX0 P w K mg base 4 "are_moves" (sp_are_moves K)) (c_is_within : Cl CX0 P w K mg base 2 "is_within" (sp_is_within K)) (c_is_rows : Cl CX0 P w K mg base 3 "is_rows" (sp_is_rows K)) (hM : Mk K C f) (gC : mg "Machine" = some (.ref C)) (cC : Cls K C) :
    ClM P w K mg base 5 "Machine" C (sp_Machine K C) := by
  suffices HH : ∃ fd ps, FnOk P w K mg base CX0 5 f fd ps (sp_Machine K C) ∧ Binds K fd ps [] from let ⟨fd, ps, F, bb⟩ := HH; ⟨f, fd, ps, hM, F, gC, bb⟩
  refine D.ok4 (k := 4) sc_Machine___init__ (fun _ _ _ _ _ _ us hl => match us, hl with | [_, _, _, _], _ => rfl) (fun cdv A outer s H a b c d Q E hr h => ⟨_, PSs.nox ((pss_cons (ps_if (pt_not (pt_val (pe_cl c_is_rows hr (by decide) pass0 (pa_cons (pv 1) pa_nil)))) (pss_one ps_never) pss_nil)
      (pss_cons (ps_if (pt_not (pt_val (pe_cl c_is_within hr (by decide) pass0 (pa_cons (pv 2) (pa_cons pe_int (pa_cons (pe_gcv rfl T.c_MOST_ANSWERS) pa_nil)))))) (pss_one ps_never) pss_nil)
      (pss_cons (ps_if (pt_not (pt_val (pe_cl c_are_moves hr (by decide) pass0 (pa_cons (pv 3) (pa_cons (pv 1) (pa_cons (pv 2) pa_nil)))))) (pss_one ps_never) pss_nil)
      (pss_one (ps_expr (pe_mtl c_keep hr (by decide) pass0 (pv 0) (pa_cons (pv 1) (pa_cons (pv 2) (pa_cons (pv 3) pa_nil)))))))))), ?_⟩)
  obtain ⟨x, dx, r, ans, M, rfl, hx, rfl, rfl, hV, hM, hrr, q⟩ := h
  have m1 := hM.a1
  have m2 := hM.a3
  walk_at "rd"
  refine ⟨hrr, ?_⟩
  refine ⟨_, rfl, iteF ?_⟩
  refine ⟨_, rfl, _, _, _, rfl, .int ans, 1, 3, .int _, rfl, rfl, ?_⟩
  rw [within_yes (by omega) (by omega)]
  refine ⟨_, rfl, iteF ?_⟩
  refine ⟨_, rfl, _, rfl, _, rfl, _, _, _, rfl, M, r, ans, hV, rfl, rfl, hM, hrr, fun H1 s1 => ?_⟩
  refine ⟨_, rfl, iteF ?_⟩
  refine ⟨_, rfl, x, dx, [], rfl, s1 _ _ hx, rfl, _, rfl, _, rfl, _, rfl, _, _, _, _, rfl, x, dx, r, ans, M, rfl, s1 _ _ hx, rfl, rfl, hV.mono s1, hM, hrr, fun H2 s2 hO => ?_⟩
  exact q H2 (fun b o hb eb => s2 b o hb (s1 _ _ eb)) hO
/-- the dict of a step: times by standing -/
def encA (l : As) : List (L2.Key × V) := l.map fun p => (.inl p.1, .int p.2)
theorem valV_enc {g : Int} : ∀ {l : As}, valV (encA l) (.inl g) = (getA l g).map V.int
  | [] => rfl
  | p :: l => by
    have ih := valV_enc (g := g) (l := l)
    unfold valV getA encA at *
    rw [List.map_cons, List.find?_cons, List.find?_cons]
    by_cases e : p.1 = g
    · rw [decide_eq_true (congrArg Sum.inl e), decide_eq_true e] <;> rfl
    · rw [decide_eq_false fun z => e (Sum.inl.inj z), decide_eq_false e]
      exact ih
theorem putK_enc {g v : Int} {l : As} : putK (encA l) (.inl g) (.int v) = encA (putA l g v) := by
  have e1 : ((encA l).any fun kv => decide (kv.1 = (.inl g : L2.Key))) = l.any fun p => decide (p.1 = g) := by
    unfold encA
    rw [List.any_map]
    congr 1
    funext p
    exact decide_eq_decide.mpr ⟨Sum.inl.inj, congrArg Sum.inl⟩
  unfold putK putA
  rw [e1]
  by_cases h : (l.any fun p => decide (p.1 = g)) = true
  · rw [if_pos h, if_pos h]
    unfold encA
    rw [List.map_map, List.map_map]
    congr 1
    funext p
    show (if (Sum.inl p.1 : L2.Key) = .inl g then ((Sum.inl p.1 : L2.Key), V.int v) else (.inl p.1, .int p.2)) = _
    by_cases e : p.1 = g
    · rw [if_pos (congrArg Sum.inl e)]
      simp [e]
    · rw [if_neg fun z => e (Sum.inl.inj z)]
      simp [e]
  · rw [if_neg h, if_neg h]
    unfold encA
    rw [List.map_append]
    rfl
def sp_worst_of (K : PySem.W.Frag) : Sp := sp2 fun a b H Q _ => ∃ (r c : Wd) (ans : Nat) (M : Mv), MaO K H a r ans M ∧ b = .str (S c) ∧ MvOk M r ans ∧ RowsOk r ∧ (∀ x ∈ c, x ∈ r) ∧ c.length ≤ 9 ∧ ∀ H', Same H H' → Q (.int (wst M r c)) H'
/- worst_of: machine=0 code=1 here=2 row=3 later=4 at=5 total=6 answer=7 taken=8 goal=9; cells []; calls []; builtins ['max', 'list', 'range'] -/
abbrev s_worst_of : Stmt := top 46
theorem sc_worst_of : FnScope ["machine", "code", "here", "row", "later", "at", "total", "answer", "taken", "goal"] ["machine", "code"] (defScope s_worst_of) := ⟨rfl, rfl, rfl, by decide +kernel, rfl, by decide +kernel, by decide +kernel⟩
theorem ok_worst_of {P : Program} {w : World} {K : PySem.W.Frag} {mg : Str → Option Value} {base : Heap} (D : Df K mg "worst_of" s_worst_of) (T : Tx K mg)  :
    Cl CX0 P w K mg base 1 "worst_of" (sp_worst_of K) := by
  refine D.ok2 (k := 0) sc_worst_of (fun _ _ _ _ _ _ us hl => match us, hl with | [_, _], _ => rfl) (fun f cdv A outer s H a b Q E hr h => ⟨_, PSs.nox ((pss_cons (ps_set (i := 2) sc_worst_of.nd rfl (Or.inl rfl) (pe_disp (pps_cons pe_int pe_int pps_nil) (by rfl) (by rfl) (fun z => by cases z) (by decide)))
      (pss_cons (ps_for PassesOwn.never rfl (pi_str (pv 1)) (pg_name (i := 3) sc_worst_of.nd rfl (Or.inl rfl)) (pss_cons (ps_set (i := 4) sc_worst_of.nd rfl (Or.inl rfl) pe_dnewK)
      (pss_cons (ps_lock (ps_for PassesOwn.never rfl (pi_items (pv 2)) (pg_tup rfl (pgs_cons (pg_name (i := 5) sc_worst_of.nd rfl (Or.inl rfl)) (pgs_cons (pg_name (i := 6) sc_worst_of.nd rfl (Or.inl rfl)) pgs_nil))) (pss_one (ps_for PassesOwn.never rfl (pi_range1 (by rfl) T.range (pa_cons (pe_fld (pv 0) (by rfl)) pa_nil)) (pg_name (i := 7) sc_worst_of.nd rfl (Or.inl rfl)) (pss_cons (ps_asg (pe_dget (hu_of hr) (pe_fld (pv 0) (by rfl)) (pe_tup (pa_cons (pv 5) (pa_cons (pv 3) (pa_cons (pv 7) pa_nil)))) (fun _ _ => rfl)) (pg_tup rfl (pgs_cons (pg_name (i := 8) sc_worst_of.nd rfl (Or.inl rfl)) (pgs_cons (pg_name (i := 9) sc_worst_of.nd rfl (Or.inl rfl)) pgs_nil))))
      (pss_one (ps_dput (hu_of hr) (pv 4) (pv 9) (pe_callB (call_max2 rfl) (by rfl) T.max (by decide +kernel) (pa_cons (pe_dget2 (hu_of hr) (pv 4) (pv 9) pe_int ⟨by rfl, by rfl, by rfl, by rfl⟩) (pa_cons (pe_op op_add (pv 6) (pv 8)) pa_nil))) rfl)))))))
      (pss_one (ps_set (i := 2) sc_worst_of.nd rfl (Or.inl rfl) (pv 4))))))
      (pss_one (ps_ret (pe_callB (cr_max rfl) (by rfl) T.max (by decide +kernel) (pa_cons (pe_callTy (call_listVals rfl) (by rfl) T.list_ (by decide +kernel) (pa_cons (pe_bm0 PySem.F.plainAttrs_dict PySem.F.slot_dict_values PySem.F.type_dict_values mt_vals (pv 2)) pa_nil)) pa_nil))))))), ?_⟩)
  obtain ⟨r, c, ans, M, hO, rfl, hM, hrr, hc, hl, q⟩ := h
  obtain ⟨oa, C, dx, fs, kt, kvs, rfl, o1, o2, o3, o4, o5, o6, o7, o8, o9, o10⟩ := hO
  have m1 := hM.a1
  have m3 := hM.a3
  intro hp hhp
  refine ⟨upd_same, encA [(0, 0)], rfl, by decide, ?_⟩
  rw [upd_upd]
  show _
  refine ⟨_, rfl, S c, rfl, ?_⟩
  refine for_it walk_str (fun i σ H' => Same H H' ∧ ∃ d z3 z4 z5 z6 z7 z8 z9, σ = [some (.ref oa), some (.str (S c)), some (.ref d), z3, z4, z5, z6, z7, z8, z9] ∧ H d = none ∧ H' d = some (.dK (encA (runH M r (c.take i))))) ⟨same_new hhp, hp, _, _, _, _, _, _, _, rfl, hhp, upd_same⟩ (fun _ _ _ _ _ => trivial) ?_ ?_
  · rintro i v σ H0 H1 hi ⟨s1, d, z3, z4, z5, z6, z7, z8, z9, rfl, hd, ed⟩ ⟨rfl, ch, hch, rfl⟩
    have hch2 : c[i]? = some ch := by
      have := hch
      rw [← Array.getElem?_toList] at this
      exact this
    have hil := (List.getElem?_eq_some_iff.mp hch2).1
    have hcr := hc ch (List.mem_of_getElem? hch2)
    have hj : r.idxOf ch < r.length := List.idxOf_lt_length_of_mem hcr
    have hjr : r[r.idxOf ch]? = some ch := by
      rw [List.getElem?_eq_getElem hj, List.getElem_idxOf hj]
    have hct : ∀ y ∈ c.take i, y ∈ r := fun y hy => hc y (List.mem_of_mem_take hy)
    obtain ⟨hall, hne⟩ := runH_ok hM hct
    have hlen : (runH M r (c.take i)).length ≤ 19683 := by
      refine Nat.le_trans (runH_len hM _) ?_
      have h9 : (c.take i).length ≤ 9 := by rw [List.length_take]; omega
      exact Nat.le_trans (Nat.pow_le_pow_right (by decide) h9) (by decide)
    generalize hR : runH M r (c.take i) = R at ed hall hne hlen
    intro lp hlp
    have hlpd : lp ≠ d := fun z => by rw [z, ed] at hlp; cases hlp
    refine ⟨d, _, (upd_ne (Ne.symm hlpd)).trans ed, by trivial, fun od => ?_⟩
    have hs0 : Same (wo H1 d) (upd (upd H1 lp (.dK [])) d (.frz od (.dK (encA R)))) := by
      intro b o eb
      have hb : b ≠ d := fun z => by rw [z, wo_at] at eb; cases eb
      rw [wo_ne hb] at eb
      rw [upd_ne hb, upd_ne (ne_of_none eb hlp)]
      exact eb
    have hwd : wo H1 d d = none := wo_at
    refine ⟨_, rfl, d, od, encA R, rfl, upd_same, ?_⟩
    refine for_it walk_items (fun k σ H' => (∃ y5 y6 y7 y8 y9, σ = [some (.ref oa), some (.str (S c)), some (.ref d), some (.str ⟨#[ch]⟩), some (.ref lp), y5, y6, y7, y8, y9]) ∧ (wo H1 d) lp = none ∧ Same (wo H1 d) H' ∧ H' d = some (.frz od (.dK (encA R))) ∧ H' lp = some (.dK (encA ((R.take k).foldl (stepP M (r.idxOf ch)) []))))
      ⟨⟨_, _, _, _, _, rfl⟩, by rw [wo_ne hlpd]; exact hlp, hs0, upd_same, (upd_ne hlpd).trans upd_same⟩ (fun k σ H' _ h => h.2.2.2.1) ?_ ?_
    · rintro k v σ H3 H4 hk ⟨⟨y5, y6, y7, y8, y9, rfl⟩, hwl, s3, e3, e4⟩ ⟨T, kx, vx, rfl, hT, rfl, hkx, hvx⟩
      obtain ⟨pr, hpr, rfl⟩ := Option.map_eq_some_iff.mp hkx
      unfold encA at hpr
      rw [List.getElem?_map] at hpr
      obtain ⟨⟨a, tot⟩, hat, rfl⟩ := Option.map_eq_some_iff.mp hpr
      have hvx2 : vx = V.int tot := by
        have hvx3 : (R.map fun p => ((.inl p.1 : L2.Key), V.int p.2))[k]?.map Prod.snd = some vx := hvx
        rw [List.getElem?_map, hat] at hvx3
        exact (Option.some.inj hvx3).symm
      subst hvx2
      obtain ⟨a1, a2, a3⟩ : 0 ≤ a ∧ a ≤ (M.length : Int) - 1 ∧ 0 ≤ tot := hall _ (List.mem_of_getElem? hat)
      have hml : (mvAt M a (r.idxOf ch)).length = ans := mvAt_len hM a1 a2 hj
      have hkl : ((R.take k).foldl (stepP M (r.idxOf ch)) []).length ≤ 3 * 19683 := by
        have := foldl_len (k := 3) (f := stepP M (r.idxOf ch)) (fun l a => stepP_len hM) (R.take k) []
        rw [List.length_take] at this
        simp only [List.length_nil] at this
        have h3 : min k R.length ≤ 19683 := by omega
        omega
      generalize hL0 : (R.take k).foldl (stepP M (r.idxOf ch)) [] = L0 at e4 hkl
      refine ⟨T, _, rfl, sqT_of upd_same, rfl, ?_⟩
      refine ⟨_, _, rfl, _, _, rfl, rfl, ?_⟩
      have hTd : T ≠ d := fun z => by rw [z, e3] at hT; cases hT
      have hTl : T ≠ lp := fun z => by rw [z, e4] at hT; cases hT
      have oa1 : oa ≠ d := fun z => by rw [← z, o1] at hd; cases hd
      have kt1 : kt ≠ d := fun z => by rw [← z, o9] at hd; cases hd
      have sAll : ∀ {b o} , H b = some o → (wo H1 d) b = some o := fun {b o} eb => by
        rw [wo_ne (fun z => by rw [z, hd] at eb; cases eb)]
        exact s1 _ _ eb
      have s4 := s3.new (o := .tup [.int a, .int tot]) hT
      refine ⟨_, rfl, oa, C, dx, fs, _, rfl, s4 _ _ (sAll o1), o2, o4, o7, ?_⟩
      refine ⟨_, rfl, by omega, by omega, ?_⟩
      refine for_range (fun m σ H' => (∃ y7 y8 y9, σ = [some (.ref oa), some (.str (S c)), some (.ref d), some (.str ⟨#[ch]⟩), some (.ref lp), some (.int a), some (.int tot), y7, y8, y9]) ∧ Same (wo H1 d) H' ∧ H' d = some (.frz od (.dK (encA R))) ∧ H' lp = some (.dK (encA (((mvAt M a (r.idxOf ch)).take m).foldl (step1 tot) L0))))
        ⟨⟨_, _, _, rfl⟩, s4, (upd_ne (Ne.symm hTd)).trans e3, (upd_ne (Ne.symm hTl)).trans e4⟩ ?_ ?_
      · rintro m σ H5 hm ⟨⟨y7, y8, y9, rfl⟩, s5, e5, e6⟩
        have hm2 : m < (mvAt M a (r.idxOf ch)).length := by omega
        have hqm : (mvAt M a (r.idxOf ch))[m]? = some (mvAt M a (r.idxOf ch))[m] := List.getElem?_eq_getElem hm2
        generalize hq3 : (mvAt M a (r.idxOf ch))[m] = q3 at hqm
        have hLl : ∃ L l, M[a.toNat]? = some L ∧ L[r.idxOf ch]? = some l ∧ l[m]? = some q3 := by
          unfold mvAt at hqm
          cases w1 : M[a.toNat]? with
          | none => rw [w1] at hqm; simp at hqm
          | some L =>
            rw [w1] at hqm
            cases w2 : L[r.idxOf ch]? with
            | none => simp [w2] at hqm
            | some l =>
              simp [w2] at hqm
              exact ⟨L, l, rfl, w2, hqm⟩
        obtain ⟨L, l, w1, w2, w3⟩ := hLl
        obtain ⟨u, u1, u2⟩ := o10 a.toNat (r.idxOf ch) m L l q3 ch w1 w2 w3 hjr
        obtain ⟨up, rfl, u3⟩ := u2
        have sH5 : Same H H5 := fun b o eb => s5 _ _ (sAll eb)
        refine ⟨_, rfl, oa, C, dx, fs, _, rfl, sH5 _ _ o1, o2, o5, o8, ?_⟩
        refine ⟨_, rfl, _, rfl, _, rfl, (by show 3 ≤ sizeLine; decide), fun kb hkb => ?_⟩
        have s6 := sH5.new (o := .tup [.int a, .str ⟨#[ch]⟩, .int (0 + (m : Nat))]) hkb
        have ekey : ([V.int a, .str ⟨#[ch]⟩, .int (0 + (m : Nat))] : List V) = (stK a.toNat ch m).map kV := by
          show _ = [V.int (a.toNat : Nat), .str (S [ch]), .int (m : Nat)]
          rw [Int.toNat_of_nonneg a1, Int.zero_add]
          rfl
        refine ⟨kt, .ref up, rfl, .inr ⟨kvs, stK a.toNat ch m, kb, .inl (s6 _ _ o9), rfl, ?_, u1.symm⟩, ?_⟩
        · rw [upd_same, ekey]
        refine ⟨up, _, rfl, s6.seqT u3, rfl, ?_⟩
        refine ⟨_, _, rfl, _, _, rfl, rfl, ?_⟩
        have hkl2 : kb ≠ lp := fun z => by rw [z, e6] at hkb; cases hkb
        have hkd2 : kb ≠ d := fun z => by rw [z, e5] at hkb; cases hkb
        have e7 : upd H5 kb (.tup [.int a, .str ⟨#[ch]⟩, .int (0 + (m : Nat))]) lp = some (.dK (encA (((mvAt M a (r.idxOf ch)).take m).foldl (step1 tot) L0))) := (upd_ne (Ne.symm hkl2)).trans e6
        have hl9 : (((mvAt M a (r.idxOf ch)).take m).foldl (step1 tot) L0).length ≤ 3 * 19683 + 3 := by
          have := foldl_len (k := 1) (f := step1 tot) (fun l a => step1_len) ((mvAt M a (r.idxOf ch)).take m) L0
          rw [List.length_take] at this
          omega
        generalize hL1 : ((mvAt M a (r.idxOf ch)).take m).foldl (step1 tot) L0 = L1 at e7 hl9
        refine ⟨_, rfl, lp, rfl, .inl ⟨_, .inl e7⟩, _, rfl, _, .inl ⟨_, .inl q3.2, .inl e7, rfl, rfl⟩, ?_⟩
        have egd : (valV (encA L1) (.inl q3.2)).getD (V.int 0) = V.int ((getA L1 q3.2).getD 0) := by
          rw [valV_enc]
          cases getA L1 q3.2 <;> rfl
        rw [egd]
        refine ⟨_, rfl, _, rfl, _, _, rfl, rfl, _, _, rfl, ?_⟩
        refine ⟨_, rfl, _, rfl, lp, _, rfl, .inl ⟨_, .inl q3.2, e7, rfl, ?_, rfl⟩, ?_⟩
        · unfold encA
          rw [List.length_map]
          exact szlt (by omega)
        refine ⟨⟨_, _, _, rfl⟩, ?_, ?_, ?_⟩
        · exact L2.Same.mut (s5.new hkb) hwl
        · rw [upd_ne (Ne.symm hlpd), upd_ne (Ne.symm hkd2)]
          exact e5
        · rw [upd_same, putK_enc, List.take_add_one, hqm, List.foldl_append, hL1]
          have emx : (if tot + q3.1 > (getA L1 q3.2).getD 0 then tot + q3.1 else (getA L1 q3.2).getD 0) = max ((getA L1 q3.2).getD 0) (tot + q3.1) := by
            split <;> omega
          rw [emx]
          rfl
      · rintro σ H5 ⟨⟨y7, y8, y9, rfl⟩, s5, e5, e6⟩
        refine ⟨⟨_, _, _, _, _, rfl⟩, hwl, s5, e5, ?_⟩
        have et : ((ans : Int)).toNat = (mvAt M a (r.idxOf ch)).length := by omega
        rw [e6, et, List.take_length, List.take_add_one, hat, List.foldl_append, hL0]
        rfl
    · rintro σ H3 ⟨⟨y5, y6, y7, y8, y9, rfl⟩, hwl, s3, e3, e4⟩
      refine ⟨e3, ?_⟩
      refine ⟨_, rfl, ?_⟩
      refine ⟨?_, lp, _, _, _, _, _, _, _, rfl, none_of s1 hlp, ?_⟩
      · intro b o eb
        have hb : b ≠ d := fun z => by rw [z, hd] at eb; cases eb
        rw [upd_ne hb]
        refine s3 _ _ ?_
        rw [wo_ne hb]
        exact s1 _ _ eb
      · rw [upd_ne hlpd, e4, List.take_add_one, hch2]
        show _ = some (HO.dK (encA (runH M r (c.take i ++ [ch]))))
        rw [runH_snoc, hR]
        unfold encA
        rw [List.length_map, List.take_length]
        rfl
  · rintro σ H1 ⟨s1, d, z3, z4, z5, z6, z7, z8, z9, rfl, hd, ed⟩
    have et : c.take (S c).cps.size = c := List.take_of_length_le (by show c.length ≤ c.toArray.size; simp)
    rw [et] at ed
    obtain ⟨hall, hne⟩ := runH_ok hM hc
    refine ⟨_, rfl, .inr (.inr (.inl ⟨rfl, .inl ⟨_, ed⟩⟩)), d, _, rfl, rfl, ed, fun vp hvp => ?_⟩
    have hvd : vp ≠ d := fun z => by rw [z, ed] at hvp; cases hvp
    refine ⟨vp, d, _, rfl, upd_same, (upd_ne (Ne.symm hvd)).trans ed, fun lq hlq => ?_⟩
    refine ⟨lq, (runH M r c).map (·.2), rfl, sqL_of (by rw [upd_same]; unfold encA; rw [List.map_map, List.map_map]; rfl), ?_, fun m hm hle => ?_⟩
    · rw [List.length_map]
      exact List.length_pos_iff.mpr hne
    · have e9 : wst M r c = m := max_is (fun y hy => by
        obtain ⟨p, hp, rfl⟩ := List.mem_map.mp hy
        exact (hall p hp).2.2) hm hle
      rw [← e9]
      exact q _ ((s1.new hvp).new hlq)
end K84
set_option maxHeartbeats 4000000
noncomputable section
namespace K84
open PySem PySem.Spec PyProof.Rows L2 PpSet
theorem strK_is {P : Program} {w : World} (k : Str) (tk : Tok) : (strKind P w).is k (.str k tk) = true := beq_self_eq_true k
def keyT (e : Int × Value) : Str := match e.2 with | .str k _ => k | _ => ⟨#[]⟩
def GoodT (w : World) (e : Int × Value) : Prop := ∃ k tk, e.2 = Value.str k tk ∧ e.1 = hashStr w k
/-- the set of texts at a: S its members, n their number; its table rises and can be walked -/
def SetT (w : World) (h : Heap) (a : Addr) (S : Str → Bool) (n : Nat) : Prop :=
  ∃ o es ep t, h.get? a = some o ∧ o.ExactSet ∧ o.data = .set es ep t ∧ (∀ e ∈ es.toList, GoodT w e) ∧ (es.toList.map keyT).Nodup ∧ (∀ k, S k = true ↔ k ∈ es.toList.map keyT) ∧
    es.size < scanBound ∧ t.fits es.size = true ∧ es.size = n ∧ Ris t.place.toList ∧ (w.params.followText "set-order" = true ∨ t.led = true)

section
variable {P : Program} {w : World} {h h' : Heap} {a : Addr} {S : Str → Bool} {n : Nat}

theorem SetT.at (R : SetT w h a S n) (k : ∀ o, h.get? a = some o → h'.get? a = some o) : SetT w h' a S n := by
  obtain ⟨o, es, ep, t, ho, r⟩ := R
  exact ⟨o, es, ep, t, k o ho, r⟩
theorem SetT.lt (R : SetT w h a S n) : a < h.objs.size := by
  obtain ⟨o, es, ep, t, ho, r⟩ := R
  exact Heap.lt_size ho
theorem SetT.congr {S' : Str → Bool} (R : SetT w h a S n) (e : ∀ k, S' k = S k) : SetT w h a S' n := by
  have q : S' = S := funext e
  rw [q]; exact R
theorem goodT_elems {l : List (Int × Value)} (g : ∀ e ∈ l, GoodT w e) : ElemsOf (strKind P w) l := fun e he => by
  obtain ⟨k, tk, h1, h2⟩ := g e he
  exact ⟨⟨k, by rw [h1]; exact strK_is k tk, h2⟩, by rw [h1] <;> rfl⟩
theorem goodT_is {e : Int × Value} (g : GoodT w e) (k : Str) : (strKind P w).is k e.2 = true ↔ keyT e = k := by
  obtain ⟨k0, tk, h1, _⟩ := g
  unfold keyT
  rw [h1]
  show ((k0 == k) = true) ↔ k0 = k
  exact beq_iff_eq
theorem goodT_mem {l : List (Int × Value)} (g : ∀ e ∈ l, GoodT w e) (k : Str) : k ∈ l.map keyT ↔ ∃ e ∈ l, (strKind P w).is k e.2 = true := by
  rw [List.mem_map]
  constructor
  · rintro ⟨e, he, q⟩
    exact ⟨e, he, (goodT_is (g e he) k).2 q⟩
  · rintro ⟨e, he, q⟩
    exact ⟨e, he, (goodT_is (g e he) k).1 q⟩
theorem SetT.setOf (R : SetT w h a S n) : h.SetOf (strKind P w) a S n := by
  obtain ⟨o, es, ep, t, ho, hx, hd, g, nd, hm, hb, hf, hn, _⟩ := R
  exact ⟨o, es, ep, t, ho, hx, hd, goodT_elems g, fun k => (hm k).trans (goodT_mem g k), hb, hf, hn⟩
end

section
variable {P : Program} {w : World} {A : Around} {E : Value → Shared → Prop} {s : Shared} {a : Addr} {S : Str → Bool} {n : Nat}

/-! ### add -/
theorem storeT_at {h : Heap} {a : Addr} {o : Obj} {es es' : Array (Int × Value)} {ep : Nat} {t t' : SetTable} (ho : h.get? a = some o) (hd : o.data = .set es ep t) :
    (h.update a (Obj.putSet es' t')).get? a = some { o with data := .set es' (ep + 1) t' } := by
  have q := Heap.get?_update_self (Obj.putSet es' t') ho (by rw [putSet_of es' t' hd]; rfl)
  rw [putSet_of es' t' hd] at q
  exact q

theorem setT_add_tail {g : Bool → Sem Unit} (hg : ∀ (b : Bool) (s₁ : Shared) (Q' : Unit → Shared → Prop), Q' () s₁ → wpAny (model P w) A (g b) Q' E s₁)
    {o : Obj} {es : Array (Int × Value)} {ep : Nat} {t : SetTable} (ho : s.heap.get? a = some o) (hex : o.ExactSet) (hd : o.data = .set es ep t)
    {es1 : Array (Int × Value)} {t2 : SetTable} {S' : Str → Bool} (g1 : ∀ e ∈ es1.toList, GoodT w e) (nd1 : (es1.toList.map keyT).Nodup) (m1 : ∀ k, S' k = true ↔ k ∈ es1.toList.map keyT)
    (hb1 : es1.size < scanBound) (hf2 : t2.fits es1.size = true) (hr : Ris t2.place.toList) (hl : w.params.followText "set-order" = true ∨ t2.led = true) {wasDummy : Bool} {R : Option Bool → Shared → Prop}
    (hR : ∀ h', Heap.SameBut a s.heap h' → SetT w h' a S' es1.size → R (some true) { s with heap := h' }) :
    wpAny (model P w) A (do
        storeSet a es1 t2
        if (!wasDummy && t2.tooFull) = true then do
            g (relayAll t2 es1 (SetTable.grown es1.size)).2.2
            storeSet a (relayAll t2 es1 (SetTable.grown es1.size)).1 (relayAll t2 es1 (SetTable.grown es1.size)).2.1
            pure (some true)
          else pure (some true)) R E s := by
  refine wpAny_bind (wpAny_storeSet_of ho hd ?_ (fits_of_scanBound hb1))
  have ho1 := storeT_at (es' := es1) (t' := t2) ho hd
  have sb1 := Heap.SameBut.update s.heap a (Obj.putSet es1 t2)
  split
  · have pm := relayAll_perm t2 es1 (SetTable.grown es1.size)
    have hf3 := relayAll_fits t2 es1 (SetTable.grown es1.size)
    have hr3 := relayAll_ris t2 es1 (SetTable.grown es1.size)
    have hl3 := relayAll_led t2 es1 (SetTable.grown es1.size)
    generalize relayAll t2 es1 (SetTable.grown es1.size) = Z at pm hf3 hr3 hl3 ⊢
    obtain ⟨es2, t3, gave⟩ := Z
    dsimp only at pm hf3 hr3 hl3 ⊢
    have hsz : es2.size = es1.size := by rw [← Array.length_toList, pm.length_eq, Array.length_toList]
    have hb2 : es2.size < scanBound := by rw [hsz]; exact hb1
    refine wpAny_bind (hg _ _ _ ?_)
    refine wpAny_bind (wpAny_storeSet_of ho1 rfl ?_ (fits_of_scanBound hb2))
    have ho2 := storeT_at (es' := es2) (t' := t3) ho1 rfl
    refine wpAny_pure (hR _ (sb1.trans (Heap.SameBut.update _ a _)) ?_)
    exact ⟨_, es2, _, t3, ho2, hex, rfl, fun e he => g1 e (pm.mem_iff.mp he), (pm.map keyT).nodup_iff.mpr nd1, fun k => (m1 k).trans (pm.map keyT).mem_iff.symm, hb2, hf3, hsz, hr3,
      hl.imp id fun z => by rw [hl3]; exact z⟩
  · exact wpAny_pure (hR _ sb1 ⟨_, es1, _, t2, ho1, hex, rfl, g1, nd1, m1, hb1, hf2, rfl, hr, hl⟩)

theorem setT_add_hashed {k : Str} {tk : Tok} {Q : Bool → Shared → Prop} (R : SetT w s.heap a S n) (room : n + 1 < scanBound)
    (hQ : ∀ h', Heap.SameBut a s.heap h' → SetT w h' a (fun j => S j || decide (j = k)) (if S k = true then n else n + 1) → Q (!S k) { s with heap := h' }) :
    wpAny (model P w) A (setAddHashed a (.str k tk) ((strKind P w).hash k)) Q E s := by
  obtain ⟨o, es, ep, t, ho, hex, hd, g, nd, hm, hb, hf, hn, hr, hl⟩ := R
  have hkey : (strKind P w).is k (.str k tk) = true := strK_is k tk
  have hsc : (Value.str k tk).scannable = true := rfl
  have hel : ElemsOf (strKind P w) es.toList := goodT_elems g
  unfold setAddHashed setAddHashedIn
  refine wpAny_holding (wpAny_bind (wpAny_setState_of ho hd hf ?_))
  dsimp only
  rw [byScan_of hsc hb hel]
  simp only [↓reduceIte]
  unfold setAddByScan
  refine wpAny_bind ?_
  refine wpAny_bind (wpAny_rule ?_)
  refine wpAny_bind (wpAny_setScan_of hkey ho hd hf hel ?_)
  cases hfi : List.findIdx? (fun e => (strKind P w).is k e.2) es.toList with
  | some j =>
    dsimp only
    obtain ⟨hj, pj, _⟩ := List.findIdx?_eq_some_iff_getElem.mp hfi
    have hSk : S k = true := (hm k).2 ((goodT_mem (P := P) (w := w) g k).2 ⟨es.toList[j], List.getElem_mem hj, pj⟩)
    refine wpAny_pure (wpAny_pure ?_)
    have q := hQ s.heap (Heap.SameBut.refl a s.heap) ⟨o, es, ep, t, ho, hex, hd, g, nd, fun i => by
      rw [Bool.or_eq_true, decide_eq_true_eq, ← hm i]
      exact ⟨fun z => z.elim id (fun e => e ▸ hSk), .inl⟩, hb, hf, by rw [if_pos hSk]; exact hn, hr, hl⟩
    rw [hSk] at q
    exact q
  | none =>
    dsimp only
    have hnk : k ∉ es.toList.map keyT := fun z => by
      obtain ⟨e, he, q⟩ := (goodT_mem (P := P) (w := w) g k).1 z
      have c := List.findIdx?_eq_none_iff.mp hfi e he
      rw [q] at c
      cases c
    have hSk : S k = false := by
      cases q : S k with
      | false => rfl
      | true => exact absurd ((hm k).1 q) hnk
    have hgw : ∀ (b : Bool) {s₁ : Shared} {Q' : Unit → Shared → Prop}, Q' () s₁ → wpAny (model P w) A (match b with | true => rule "set.scan.the-table-gave-way" | false => pure ()) Q' E s₁ :=
      fun b s₁ Q' q => by cases b <;> first | exact wpAny_pure q | exact wpAny_rule q
    have pm := layNew_perm t es ((strKind P w).hash k) (.str k tk)
    have hf1 := layNew_fits t es ((strKind P w).hash k) (.str k tk)
    have hr1 := layNew_ris t es ((strKind P w).hash k) (.str k tk) hr
    have hl1 := layNew_led t es ((strKind P w).hash k) (.str k tk)
    generalize layNew t es ((strKind P w).hash k) (.str k tk) = Z at pm hf1 hr1 hl1 ⊢
    obtain ⟨es1, t1, wasDummy, gave⟩ := Z
    dsimp only at pm hf1 hr1 hl1 ⊢
    rw [Array.toList_push] at pm
    have pc : es1.toList.Perm (((strKind P w).hash k, Value.str k tk) :: es.toList) := pm.trans (List.perm_append_singleton _ _)
    have pk : (es1.toList.map keyT).Perm (k :: es.toList.map keyT) := pc.map keyT
    have g1 : ∀ e ∈ es1.toList, GoodT w e := fun e he => by
      rcases List.mem_cons.mp (pc.mem_iff.mp he) with z | z
      · rw [z]; exact ⟨k, tk, rfl, rfl⟩
      · exact g e z
    have nd1 : (es1.toList.map keyT).Nodup := pk.nodup_iff.mpr (List.nodup_cons.mpr ⟨hnk, nd⟩)
    have m1 : ∀ i, (S i || decide (i = k)) = true ↔ i ∈ es1.toList.map keyT := fun i => by
      rw [Bool.or_eq_true, decide_eq_true_eq, hm i, pk.mem_iff, List.mem_cons]
      exact Or.comm
    have hsz : es1.size = n + 1 := by rw [← Array.length_toList, pc.length_eq, List.length_cons, Array.length_toList, hn]
    have hb1 : es1.size < scanBound := by rw [hsz]; exact room
    have hled : w.params.followText "set-order" = true ∨ t1.led = true := hl.imp id fun z => by rw [hl1]; exact z
    have fin : ∀ h', Heap.SameBut a s.heap h' → SetT w h' a (fun j => S j || decide (j = k)) es1.size → Q true { s with heap := h' } := fun h' sb r => by
      have q := hQ h' sb
      rw [hSk] at q
      rw [hsz] at r
      exact q r
    refine wpAny_bind (hgw _ ?_)
    split
    · refine wpAny_bind ?_
      rw [hashByValue_scannable 8 hsc]
      refine wpAny_pure ?_
      refine setT_add_tail ?_ ho hex hd g1 nd1 m1 hb1 ?_ ?_ ?_ ?_
      · intro b s₁ Q' q; cases b <;> first | exact wpAny_pure q | exact wpAny_rule q
      · first | (split <;> first | exact hf1 | exact SetTable.fits_plain_off hf1) | exact hf1
      · first | (split <;> exact hr1) | exact hr1
      · first | (split <;> exact hled) | exact hled
      · intro h' sb r; dsimp only; exact wpAny_pure (fin h' sb r)
    · refine wpAny_bind (wpAny_pure ?_)
      simp only [↓reduceIte]
      refine setT_add_tail ?_ ho hex hd g1 nd1 m1 hb1 hf1 hr1 hled ?_
      · intro b s₁ Q' q; cases b <;> first | exact wpAny_pure q | exact wpAny_rule q
      · intro h' sb r; dsimp only; exact wpAny_pure (fin h' sb r)

/-- found.add(k) -/
theorem setT_add {k : Str} {tk : Tok} {Q : Value → Shared → Prop} (R : SetT w s.heap a S n) (room : n + 1 < scanBound)
    (hQ : ∀ h', Heap.SameBut a s.heap h' → SetT w h' a (fun j => S j || decide (j = k)) (if S k = true then n else n + 1) → Q .none { s with heap := h', toks := s.toks + 1 }) :
    wpAny (model P w) A (call (.builtin "set.add") [.ref a, .str k tk]) Q E s := by
  have hS : s.heap.SetOf (strKind P w) a S n := R.setOf
  refine wpAny_call_entry F.slot_set_add hS.typeIs F.entry_set_add ?_ (F.args_set_add_2 _ _)
  unfold Builtin.«set.add» Builtin.Frozenset.oneOther
  simp only [List.isEmpty_nil, bind_assoc]
  unfold Builtin.Frozenset.addrOf setAdd
  refine wpAny_bind (wpAny_pure ?_)
  try dsimp only
  refine wpAny_bind (wpAny_pure ?_)
  try dsimp only
  refine wpAny_bind ?_
  refine wpAny_holding ?_
  refine wpAny_bind ((strKind P w).pyHash (strK_is k tk) ?_)
  refine setT_add_hashed (s := { s with toks := s.toks + 1 }) R room fun h' sb r => ?_
  show wpAny _ _ (ret Value.none) _ _ _
  exact wpAny_pure ⟨_, rfl, hQ h' sb r⟩

end
section
variable {P : Program} {w : World} {A : Around} {E : Value → Shared → Prop} {s : Shared}
/-! ### a new set -/
theorem setT_fresh {h : Heap} (w : World) : SetT w (h.push { cls := .type "set", dict := none, data := .set #[] 0 (.fresh 0 0 (!w.params.followText "set-order")) }) h.objs.size (fun _ => false) 0 :=
  ⟨_, #[], 0, _, Heap.get?_push_size _ rfl, ⟨rfl, rfl, rfl⟩, rfl, (fun e he => by simp at he), (by simp), (fun k => by simp), (by decide), (by rfl), rfl, List.Pairwise.nil, by
    show _ ∨ (!w.params.followText "set-order") = true
    cases w.params.followText "set-order"
    · exact .inr rfl
    · exact .inl rfl⟩
end
/-- the set of truth values at a -/
def SetTO (w : World) (a : Addr) (S : Str → Bool) (n : Nat) : HO := .ext fun h => SetT w h a S n
theorem setTO_new {w : World} {P : Program} {H : Hp} {h : Heap} {a : Addr} {S : Str → Bool} {n : Nat} (R : SetT w h a S n) : ObjOk P w H h a (SetTO w a S n) := by
  have ⟨o, _, _, _, ho, _⟩ := R
  exact ⟨R, ⟨o, ho⟩, fun h1 h2 p k => SetT.at p k⟩
section
variable {X : Cx}
theorem setTO_get {pins : List (Addr × Obj)} {σ : L2.St} {H : Hp} {s : Shared} {a : Addr} {S : Str → Bool} {n : Nat} (I : Inv X pins σ H s) (ha : H a = some (SetTO X.w a S n)) : SetT X.w s.heap a S n := (I.hok a _ ha).1
/-- a text added -/
theorem addT_ok {pins : List (Addr × Obj)} {σ : L2.St} {H : Hp} {s : Shared} {E : Value → Shared → Prop} {D : Addr} {S : Str → Bool} {n : Nat} {y : Str} {ty : Tok} {Q : Value → Shared → Prop} (I : Inv X pins σ H s) (hD : H D = some (SetTO X.w D S n)) (room : n + 1 < scanBound)
    (h : ∀ s', Inv X pins σ (upd H D (SetTO X.w D (fun j => S j || decide (j = y)) (if S y = true then n else n + 1))) s' → Q .none s') : wpAny (model X.prog X.w) X.A (call (.builtin "set.add") [.ref D, .str y ty]) Q E s := by
  have R := setTO_get I hD
  refine setT_add R room fun h' sb new => ?_
  have he : ∃ u, h'.get? D = some u := by
    have ⟨o, _, _, _, ho, _⟩ := new
    exact ⟨o, ho⟩
  exact h _ (I.write (e := D) (t' := s.toks + 1) (by rw [hD]; trivial) (.inl rfl) (fun b u hb hu => (sb.2 b hb).trans hu) he (setTO_new new))
end
section
variable {X : Cx}
def tScT (w : World) (wi : TI) (g : TG) (tt : TT) (te : TE) (vs : List Nat) : TE := fun σ H Q => wi σ H fun J H1 => ∀ D, H1 D = none → ∃ W : Nat → Nat → Hp → Prop, (∃ m, W 0 m (upd H1 D (SetTO w D (fun _ => false) 0))) ∧ ∀ i m H, W i m H →
  (J.stop i H ∧ Q (.ref D) H) ∨ (J.go i H ∧ ∃ Nx : Hp → Prop, (∀ H', Nx H' → ∃ m', m' < m ∧ W (i + 1) m' H') ∧ ∀ x H', J.yld i H x H' → g x (wipe σ vs) H' fun σ2 H2 => wipe σ2 vs = wipe σ vs ∧ tt σ2 H2 fun b H3 =>
    if b = true then te σ2 H3 fun y H4 => ∃ (c : Str) (S : Str → Bool) (n : Nat), y = .str c ∧ H4 D = some (SetTO w D S n) ∧ n + 1 < scanBound ∧ Nx (upd H4 D (SetTO w D (fun j => S j || decide (j = c)) (if S c = true then n else n + 1))) else Nx H3)
theorem sc_coreT {pins : List (Addr × Obj)} {s : Shared} {σ : L2.St} {H : Hp} {Q : VK} {elt tg iter : Expr} {ifs : List Expr} {scope : Scope} {own : List (PySem.Str × Nat)} {pos pos' : Pos} {wi : TI} {g : TG} {tt : TT} {te : TE} {use : Option (Value → Sem Unit)} {Qf : Value → Shared → Prop}
    (hc : X.calm = true) (hN : X.N.Nodup) (I : Inv X pins σ H s) (hi : PI X tg iter wi) (ok : BlkOk X.N X.env.scope scope own)
    (hg : ∀ (s : Shared) (H : Hp) (C : Addr) (cl : List (PySem.Str × Addr)) (fp : List Addr), PG (X.blk s H scope (compEnvC scope cl C X.env) fp) tg g) (ht : ∀ (s : Shared) (H : Hp) (C : Addr) (cl : List (PySem.Str × Addr)) (fp : List Addr), PTs (X.blk s H scope (compEnvC scope cl C X.env) fp) ifs tt)
    (he : ∀ (s : Shared) (H : Hp) (C : Addr) (cl : List (PySem.Str × Addr)) (fp : List Addr), PE (X.blk s H scope (compEnvC scope cl C X.env) fp) elt te) (hs : ∀ x, foldedSetIterable iter X.env x = pure x)
    (h : tScT X.w wi g tt te (own.map (·.2)) σ H Q)
    (hRR : ∀ D C s' m H', Inv X pins σ H' s' → Q (.ref D) H' → s'.heap.Ns C m → FpOk X pins H' C → compPost (model X.prog X.w) X.A X.xe use Qf (.ref D) C (.ok .next) s') :
    wpAny (model X.prog X.w) X.A (comprehension (.SetComp elt [⟨tg, iter, ifs, 0⟩] scope pos) scope X.env pos' (newSet (.type "set")) false (eval iter X.env) use) Qf X.xe s := by
  have hfree : ∀ y ∈ scope.names, y.2 = .free → ∃ c, X.env.cells.lookup y.1 = some c := fun y hy e => by
    rcases ok.free y hy e with k | k
    · exact I.ok.has _ (.inl k)
    · exact I.ok.has _ (.inr k)
  refine wpAny_comprehension_free (use := use) rfl hs (closure_ok hfree) ok.kind (fun y hy e => by rw [ok.uniq y hy, e])
    (thn (hi.run pins s σ H _ I h) fun xv s1 hx => thn hx fun itv s2 h2 => ?_)
  obtain ⟨it, fp, tn, J, H2, e, I2, T, st2, f2, q⟩ := h2
  subst e
  refine newSet_ok (newEnv_comp ?_)
  generalize hD : s2.heap.objs.size = D
  have hDn : H2 D = none := I2.hok.fresh (Nat.le_of_eq hD)
  obtain ⟨W, ⟨m0, w0⟩, turn⟩ := q D hDn
  -- the new list
  generalize hs3 : ({ s2 with heap := s2.heap.push { cls := .type "set", dict := none, data := .set #[] 0 (.fresh 0 0 (!X.w.params.followText "set-order")) } } : Shared) = s3
  have I3 : Inv X pins σ (upd H2 D (SetTO X.w D (fun _ => false) 0)) s3 := by
    rw [← hs3]
    refine I2.laid (t' := s2.toks) (fun b o e => Heap.get?_push_of_some _ e) (Nat.le_of_eq hD) ?_
    rw [← hD]
    exact setTO_new (setT_fresh X.w)
  have h3 : s3.heap = s2.heap.push { cls := .type "set", dict := none, data := .set #[] 0 (.fresh 0 0 (!X.w.params.followText "set-order")) } := by rw [← hs3]
  have sz : ∀ b ∈ fp, b < s2.heap.objs.size := fun b hb => by
    obtain ⟨o, e, _⟩ := T.obj _ _ st2 b hb
    exact Heap.lt_size e
  have f3 : ∀ b ∈ fp, FpOk X pins (upd H2 D (SetTO X.w D (fun _ => false) 0)) b ∧ b < s3.heap.objs.size := fun b hb => by
    have hlt := sz b hb
    refine ⟨⟨?_, (f2 b hb).2⟩, by rw [h3, Heap.size_push]; exact Nat.lt_succ_of_lt hlt⟩
    rw [upd_ne (by rw [← hD]; exact Nat.ne_of_lt hlt)]
    exact (f2 b hb).1
  have st3 : tn 0 s3.heap := T.keep _ _ _ st2 fun b _ o e => by rw [h3]; exact Heap.get?_push_of_some _ e
  have I4 := block_start I3 ok hN f3
  have pg := hg s3 (upd H2 D (SetTO X.w D (fun _ => false) 0)) s3.heap.objs.size (cellsFrom (s3.heap.objs.size + 1) scope.names (cloFrom X.env.cells scope.names [])) fp
  have pt := ht s3 (upd H2 D (SetTO X.w D (fun _ => false) 0)) s3.heap.objs.size (cellsFrom (s3.heap.objs.size + 1) scope.names (cloFrom X.env.cells scope.names [])) fp
  have pe := he s3 (upd H2 D (SetTO X.w D (fun _ => false) 0)) s3.heap.objs.size (cellsFrom (s3.heap.objs.size + 1) scope.names (cloFrom X.env.cells scope.names [])) fp
  show codeAny _ _ (.compStart (.SetComp elt [⟨tg, iter, ifs, 0⟩] scope pos) 0 (.ref it) (.ref D) (compEnvC scope (cellsFrom (s3.heap.objs.size + 1) scope.names (cloFrom X.env.cells scope.names [])) s3.heap.objs.size X.env)) (compPost (model X.prog X.w) X.A X.xe use Qf (.ref D) s3.heap.objs.size) { s3 with heap := pushCells (s3.heap.push { cls := .type "dict", data := .dict #[] }) scope.names }
  have nfp : ∀ b ∈ fp, (upd H2 D (SetTO X.w D (fun _ => false) 0)) b = none := fun b hb => (f3 b hb).1.1
  generalize hce : compEnvC scope (cellsFrom (s3.heap.objs.size + 1) scope.names (cloFrom X.env.cells scope.names [])) s3.heap.objs.size X.env = ce at I4 pg pt pe ⊢
  have cL : ce.locals = s3.heap.objs.size := by subst hce; rfl
  generalize hH3 : upd H2 D (SetTO X.w D (fun _ => false) 0) = H3 at I3 I4 pg pt pe w0 nfp f3
  generalize hs4 : ({ s3 with heap := pushCells (s3.heap.push { cls := .type "dict", data := .dict #[] }) scope.names } : Shared) = s4 at I4 ⊢
  have st4 : tn 0 s4.heap := T.keep _ _ _ st3 fun b _ o e => by rw [← hs4]; exact pushCells_keeps _ _ _ _ (Heap.get?_push_of_some _ e)
  have stat : ∀ {σ' : L2.St} {H' : Hp} {s' : Shared}, Inv (X.blk s3 H3 scope ce fp) [] σ' H' s' → (∀ b ∈ fp, H' b = none) → ∀ b ∈ fp, FpOk (X.blk s3 H3 scope ce fp) [] H' b := fun {σ' H' s'} I' hn b hb =>
    ⟨hn b hb, (I'.ok.exf b hb).1, I'.ok.exfs b hb, .inl hb, fun x c e => (I'.ok.exf b hb).2 x c e, fun p hp => absurd (show p ∈ ([] : List (Addr × Obj)) ++ [] from hp) (by simp)⟩
  have loop : codeAny (model X.prog X.w) X.A (.compLoop (.SetComp elt [⟨tg, iter, ifs, 0⟩] scope pos) 0 (.ref it) (.ref D) ce) (compPost (model X.prog X.w) X.A X.xe use Qf (.ref D) s3.heap.objs.size) s4 := by
    refine compLoopS_any (fun n s' => ∃ i H', Inv (X.blk s3 H3 scope ce fp) [] (wipe σ (own.map (·.2))) H' s' ∧ tn i s'.heap ∧ (∀ b ∈ fp, H' b = none) ∧ W i n H') ?_ m0 ⟨0, H3, I4, st4, nfp, w0⟩
    rintro n s5 ⟨i, H5, I5, st5, n5, w5⟩
    rcases turn i n H5 w5 with ⟨stop, qq⟩ | ⟨go, Nx, hNx, step⟩
    · have td := T.done (X.blk s3 H3 scope ce fp) rfl rfl rfl hc i [] s5 _ H5 (fun _ _ => False) I5 (stat I5 n5) st5 stop
      refine thnF td fun r s6 ⟨hr, I6⟩ => ?_
      subst hr
      -- back in the def's context
      have I7 : Inv X pins σ H5 s6 := I3.call' (ch := fp) I6.os I6.base I6.hok I6.bare fun b hb => ⟨(f3 b hb).1.2.2.2.1, (f3 b hb).1.2.1, (f3 b hb).1.2.2.2.2.1, (f3 b hb).1.2.2.2.2.2⟩
      have nC : H5 s3.heap.objs.size = none := by
        have z : H5 ce.locals = none := I6.free
        rw [cL] at z
        exact z
      obtain ⟨m, hn, _⟩ := I6.loc
      have hn : s6.heap.Ns ce.locals m := hn
      rw [cL] at hn
      exact hRR D s3.heap.objs.size s6 m H5 I7 qq hn (I3.fpOk (Nat.le_refl _) nC)
    · have ti := T.item (X.blk s3 H3 scope ce fp) rfl rfl rfl hc i [] s5 _ H5 (fun _ _ => False) I5 (stat I5 n5) st5 go
      refine thnF ti fun r s6 ⟨u, hr, h6⟩ => ?_
      subst hr
      refine thnF h6 fun _ s7 ⟨x, H7, I7, r7, y7, st7, n7⟩ => ?_
      have I7' := I7.pinned (stat I7 n7) (T.obj _ _ st7)
      refine thnF (pg.run _ s7 _ H7 x u _ I7' r7 (step x H7 y7)) fun _ s8 ⟨σ8, H8, I8, hw8, q8⟩ => ?_
      refine thnF (pt.run _ s8 σ8 H8 _ I8 q8) fun b s9 ⟨H9, I9, q9⟩ => ?_
      -- the turn's end
      have fin : ∀ {s' : Shared} {H' : Hp}, Inv (X.blk s3 H3 scope ce fp) ([] ++ pinsAt fp s7.heap) σ8 H' s' → Nx H' → ∃ m, m < n ∧ ∃ i H', Inv (X.blk s3 H3 scope ce fp) [] (wipe σ (own.map (·.2))) H' s' ∧ tn i s'.heap ∧ (∀ b ∈ fp, H' b = none) ∧ W i m H' := fun {s' H'} I' nx => by
        obtain ⟨m', hm, w'⟩ := hNx H' nx
        have pin' : ∀ b ∈ fp, ∀ o, s7.heap.get? b = some o → s'.heap.get? b = some o ∧ H' b = none := fun b hb o e =>
          let z := I'.pin (b, o) (List.mem_append_right _ (List.mem_append_right _ (mem_pinsAt hb e)))
          ⟨z.1, z.2.1⟩
        have hl : (wipe σ (own.map (·.2))).length = σ8.length := by rw [← hw8, wipe_length]
        refine ⟨m', hm, i + 1, H', (I'.unpinned (pins := [])).weak hl (fun j v e => ?_), T.keep _ _ _ st7 fun b hb o e => (pin' b hb o e).1, fun b hb => ?_, w'⟩
        · rw [← hw8] at e
          exact (wipe_some e).1
        · obtain ⟨o, e, _⟩ := T.obj _ _ st7 b hb
          exact (pin' b hb o e).2
      cases b with
      | false =>
        simp only [Bool.false_eq_true, if_false] at q9 ⊢
        exact fin I9 q9
      | true =>
        simp only [if_true] at q9 ⊢
        refine thnF (pe.run _ s9 σ8 H9 _ I9 q9) fun z s10 ⟨yv, H10, I10, r10, cb, S0, n0, ey, hD10, hz10, nx⟩ => ?_
        subst ey
        obtain ⟨tz, ez⟩ := (show ∃ t, z = Value.str cb t from r10)
        subst ez
        exact addT_ok (X := X.blk s3 H3 scope ce fp) I10 hD10 hz10 fun s11 I11 => fin I11 nx
  exact codeAny_compStart_set loop (T.self X.A 0 _ _ _ st4 loop)
/-- as a value -/
theorem pe_scT {elt tg iter : Expr} {ifs : List Expr} {scope : Scope} {own : List (PySem.Str × Nat)} {pos : Pos} {wi : TI} {g : TG} {tt : TT} {te : TE} (hc : X.calm = true) (hN : X.N.Nodup) (hi : PI X tg iter wi) (ok : BlkOk X.N X.env.scope scope own)
    (hg : ∀ (s : Shared) (H : Hp) (C : Addr) (cl : List (PySem.Str × Addr)) (fp : List Addr), PG (X.blk s H scope (compEnvC scope cl C X.env) fp) tg g) (ht : ∀ (s : Shared) (H : Hp) (C : Addr) (cl : List (PySem.Str × Addr)) (fp : List Addr), PTs (X.blk s H scope (compEnvC scope cl C X.env) fp) ifs tt)
    (he : ∀ (s : Shared) (H : Hp) (C : Addr) (cl : List (PySem.Str × Addr)) (fp : List Addr), PE (X.blk s H scope (compEnvC scope cl C X.env) fp) elt te) (hs : ∀ x, foldedSetIterable iter X.env x = pure x := by intro _; rfl) :
    PE X (.SetComp elt [⟨tg, iter, ifs, 0⟩] scope pos) (tScT X.w wi g tt te (own.map (·.2))) := by
  refine ⟨fun pins s σ H Q I h => ?_⟩
  rw [eval_SetComp]
  refine sc_coreT hc hN I hi ok hg ht he hs h fun D C s' m H' I' q hn f => ⟨m, hn, fun h'' sb => ?_⟩
  obtain ⟨f0, f1, f2, f3, f4, f5⟩ := f
  exact ⟨.ref D, H', I'.turned (t' := s'.toks) (fun b o hb e => (sb.2 b hb).trans e) f0 f1 f3 f4 f5, rfl, q⟩
end
/-- over any walk -/
theorem sc_it {w0 : World} {J : It} {n : Nat} {G : Hp → Prop} {Y : Nat → Hp → V → Hp → Prop} (w : Walk J n G Y) {g : TG} {tt : TT} {te : TE} {vs : List Nat} {σ : L2.St} {H1 : Hp} {D : Addr} {Qd : Hp → Prop} (Pv : Nat → Hp → Prop) (h0 : Pv 0 (upd H1 D (SetTO w0 D (fun _ => false) 0))) (hG : ∀ i H, i ≤ n → Pv i H → G H)
    (hs : ∀ i x H H', i < n → Pv i H → Y i H x H' → g x (wipe σ vs) H' fun σ2 H2 => wipe σ2 vs = wipe σ vs ∧ tt σ2 H2 fun b H3 =>
      if b = true then te σ2 H3 fun y H4 => ∃ (c : Str) (S : Str → Bool) (n : Nat), y = .str c ∧ H4 D = some (SetTO w0 D S n) ∧ n + 1 < scanBound ∧ Pv (i + 1) (upd H4 D (SetTO w0 D (fun j => S j || decide (j = c)) (if S c = true then n else n + 1))) else Pv (i + 1) H3) (hd : ∀ H, Pv n H → Qd H) :
    ∃ W : Nat → Nat → Hp → Prop, (∃ m, W 0 m (upd H1 D (SetTO w0 D (fun _ => false) 0))) ∧ ∀ i m H, W i m H →
      (J.stop i H ∧ Qd H) ∨ (J.go i H ∧ ∃ Nx : Hp → Prop, (∀ H', Nx H' → ∃ m', m' < m ∧ W (i + 1) m' H') ∧ ∀ x H', J.yld i H x H' → g x (wipe σ vs) H' fun σ2 H2 => wipe σ2 vs = wipe σ vs ∧ tt σ2 H2 fun b H3 =>
        if b = true then te σ2 H3 fun y H4 => ∃ (c : Str) (S : Str → Bool) (n : Nat), y = .str c ∧ H4 D = some (SetTO w0 D S n) ∧ n + 1 < scanBound ∧ Nx (upd H4 D (SetTO w0 D (fun j => S j || decide (j = c)) (if S c = true then n else n + 1))) else Nx H3) := by
  refine ⟨fun i m H => m = n - i ∧ i ≤ n ∧ Pv i H, ⟨n, by simp, Nat.zero_le _, h0⟩, ?_⟩
  rintro i m H ⟨rfl, hi, p⟩
  by_cases hlt : i < n
  · exact .inr ⟨w.goes i H hlt (hG i H hi p), Pv (i + 1), fun H' p' => ⟨n - (i + 1), by omega, rfl, hlt, p'⟩, fun x H' y => hs i x H H' hlt p (w.yields i H x H' hlt (hG i H hi p) y)⟩
  · obtain rfl : i = n := by omega
    exact .inl ⟨w.stops H (hG i H hi p), hd H p⟩
/-! ### sorted(a set of texts) -/
def codesOf (v : Value) : List Nat := match v with
  | .str x _ => x.cps.toList
  | _ => []
theorem codes_each : ∀ {vs : List Value}, (∀ v ∈ vs, ∃ x t, v = .str x t) → PySem.W.EachIs (fun v x => RelV (strV x) v) vs (vs.map codesOf)
  | [], _ => .nil
  | v :: vs, h => by
    refine .cons ?_ (codes_each fun u hu => h u (List.mem_cons_of_mem _ hu))
    obtain ⟨x, t, rfl⟩ := h v List.mem_cons_self
    exact ⟨t, by show Value.str x t = .str (K84.S x.cps.toList) t; rw [S_of]⟩
theorem srt_strict {l : List Wd} (h : l.Nodup) : (srt l).Pairwise (· < ·) := by
  have h1 := srt_pw l
  have h2 := srt_nodup h
  refine (h1.and h2).imp fun ⟨a, b⟩ => ?_
  apply Classical.byContradiction
  intro h
  exact b (List.le_antisymm (of_decide_eq_true a) (List.not_lt.mp h))
def rSortedSetT (w : World) : List V → Hp → VK → Prop := fun vs H Q => ∃ (a : Addr) (M : Str → Bool) (n : Nat), vs = [V.ref a] ∧ H a = some (SetTO w a M n) ∧
  ∀ ys : List Wd, ys.Pairwise (· < ·) → (∀ k, k ∈ ys ↔ M (K84.S k) = true) → ∀ p, H p = none → Q (.ref p) (upd H p (.lst (ys.map strV)))
theorem cr_sortedSet {X : Cx} (hc : X.calm = true) (hu : X.A.units + 64 < cLine) : CallR X (.builtin "sorted") (rSortedSetT X.w) := by
  intro pins s σ H vs us Q I r h
  obtain ⟨a, M, n, rfl, ha, q⟩ := h
  rw [Vals.ref1 r]
  obtain ⟨o, es, ep, t, ho, hex, hd, g, nd, hm, hb, hf, hn, hr, hl⟩ := setTO_get I ha
  have hnl : n ≤ sizeLine := by rw [← hn]; exact fits_of_scanBound hb
  refine sorted_gathered (R := fun v x => RelV (strV x) v) (enc := fun x => .str (K84.S x)) (n := n) hnl (fun _ _ => rfl) (fun b => ⟨fun z => (nomatch z), fun _ z => nomatch z⟩) (fun b => by show PyData.depth (.str (K84.S b)) ≤ 8; simp [PyData.depth]) hu (fun h v b ⟨t, e⟩ => by subst e; exact Reads.str ..)
    (fun Q' hQ => collect_set (A := X.A.in1) (I.ok.hd hc) ⟨o, ho, hex.1, hd⟩ hf hb hr hl fun s1 out k1 hz g1 o1 pm => ?_)
  have hall : ∀ v ∈ out, ∃ x t, v = .str x t := fun v hv => by
    obtain ⟨e, he, rfl⟩ := List.mem_map.mp (pm.mem_iff.mp hv)
    obtain ⟨k, tk, h1, _⟩ := g e he
    exact ⟨k, tk, h1⟩
  have pk : (out.map codesOf).Perm ((es.toList.map keyT).map fun x => x.cps.toList) := by
    have q1 := pm.map codesOf
    rw [List.map_map] at q1 ⊢
    refine q1.trans (List.Perm.of_eq (List.map_congr_left fun e he => ?_))
    obtain ⟨k, tk, h1, _⟩ := g e he
    show codesOf e.2 = (keyT e).cps.toList
    unfold keyT
    rw [h1]
    rfl
  have nd2 : (out.map codesOf).Nodup := by
    refine pk.nodup_iff.mpr ?_
    unfold List.Nodup
    rw [List.pairwise_map]
    exact nd.imp fun {a b} hne e => hne (by rw [← S_of a, e, S_of])
  have hmem : ∀ k : Wd, k ∈ srt (out.map codesOf) ↔ M (K84.S k) = true := fun k => by
    rw [mem_srt, pk.mem_iff, hm (K84.S k), List.mem_map]
    constructor
    · rintro ⟨x, hx, rfl⟩
      rw [S_of]
      exact hx
    · intro h
      exact ⟨_, h, rfl⟩
  refine hQ s1 out (out.map codesOf) k1 hz g1 o1 (codes_each hall) (by rw [List.length_map, pm.length_eq, List.length_map, Array.length_toList]; exact hn) fun s2 p out2 c k2 g2 o2 hp hg hE => ?_
  have eo : PySem.W.dataLe false (fun x => PyData.str (K84.S x)) = lsle := by
    rw [PySem.W.dataLe_str]
    funext a b
    rfl
  rw [eo] at hE
  exact laid_sorted (ys := (srt (out.map codesOf)).map strV) I k2 g2 o2 hp hg (each_vals (fun _ _ h => h) hE) (by rw [List.length_map, srt_length, List.length_map, pm.length_eq, List.length_map, Array.length_toList, hn]; exact hnl) (fun hpn => q _ (srt_strict nd2) hmem p hpn)
end K84
set_option maxHeartbeats 4000000
namespace K84
open PySem PySem.Spec PyProof.Rows L2
/-! ### the layers of all_orders: dicts whose keys are (made, used), used a tuple itself; each value True -/
abbrev Le := List Nat × List Nat
def nk (e : Le) : NestedKey := .tup [.text (S e.1), .tup (e.2.map fun i : Nat => NestedKey.num (i : Int))]
theorem nk_inj {a b : Le} (h : nk a = nk b) : a = b := by
  unfold nk at h
  injection h with h
  injection h with h1 h2
  injection h2 with h2 _
  injection h1 with h1
  injection h2 with h2
  have e1 := S_inj h1
  have e2 : a.2 = b.2 := by
    have inj : ∀ (l m : List Nat), (l.map fun i : Nat => NestedKey.num (i : Int)) = m.map (fun i : Nat => NestedKey.num (i : Int)) → l = m := by
      intro l
      induction l with
      | nil =>
        intro m h
        cases m with
        | nil => rfl
        | cons x m => cases h
      | cons y l ih =>
        intro m h
        cases m with
        | nil => cases h
        | cons x m =>
          rw [List.map_cons, List.map_cons] at h
          injection h with h3 h4
          injection h3 with h3
          rw [ih m h4, show y = x by omega]
    exact inj _ _ h2
  exact Prod.ext e1 e2
def entL (L : List (Le × Addr)) : List (NestedKey × Addr × Value) := L.map fun e => (nk e.1, e.2, Value.bool true)
def LayR (P : Program) (w : World) (h : Heap) (d : Addr) (L : List (Le × Addr)) : Prop :=
  (d == sysModules) = false ∧ L.length ≤ sizeLine ∧ (L.map (·.1)).Nodup ∧ ∃ o es ep, h.get? d = some o ∧ o.ExactDict ∧ o.data = .dict es ep ∧ es.toList = (entL L).map (entryOfKey (nestedKind P w))
def layO (P : Program) (w : World) (d : Addr) (L : List (Le × Addr)) : HO := .ext fun h => LayR P w h d L
theorem layO_ok {P : Program} {w : World} {H : Hp} {h : Heap} {d : Addr} {L : List (Le × Addr)} (R : LayR P w h d L) : ObjOk P w H h d (layO P w d L) := by
  obtain ⟨a1, a2, a3, o, es, ep, ho, r⟩ := id R
  exact ⟨R, ⟨o, ho⟩, fun h1 h2 ⟨b1, b2, b3, o', es', ep', ho', r'⟩ k => ⟨b1, b2, b3, o', es', ep', k o' ho', r'⟩⟩
/-- the tuple at q is the key e -/
def KeyAt (H : Hp) (e : Le) (q : Addr) : Prop := ∃ u, H q = some (.tup [.str (S e.1), .ref u]) ∧ H u = some (.tup (e.2.map fun i : Nat => V.int (i : Nat)))
theorem KeyAt.mono {H H' : Hp} {e : Le} {q : Addr} (s : Same H H') (h : KeyAt H e q) : KeyAt H' e q := by
  obtain ⟨u, h1, h2⟩ := h
  exact ⟨u, s _ _ h1, s _ _ h2⟩
theorem nums_are {h : Heap} : ∀ {l : List Nat} {us : List Value}, Vals (l.map fun i : Nat => V.int (i : Nat)) us → NestedAll h (l.map fun i : Nat => NestedKey.num (i : Int)) us
  | [], _, r => by cases r; exact .nil
  | i :: l, _, r => by
    rw [List.map_cons] at r
    cases r with
    | cons r1 r2 =>
      obtain ⟨t, rfl⟩ := r1
      exact .cons (.int _ _) (nums_are r2)
theorem nk_depth (e : Le) : (nk e).depth ≤ 8 := by
  have hz : ∀ l : List Nat, NestedKey.depthAll (l.map fun i : Nat => NestedKey.num (i : Int)) = 0 := by
    intro l
    induction l with
    | nil => rfl
    | cons a l ih =>
      show max 0 _ = 0
      rw [ih]
      rfl
  show max 0 (max (NestedKey.depthAll (e.2.map fun i : Nat => NestedKey.num (i : Int)) + 1) 0) + 1 ≤ 8
  rw [hz]
  decide
theorem key_is {P : Program} {w : World} {H : Hp} {h : Heap} {e : Le} {q : Addr} (ok : HOk P w H h) (k : KeyAt H e q) : (nestedKind P w).is h (nk e) q := by
  obtain ⟨u, h1, h2⟩ := k
  obtain ⟨_, its, rv, o, ho, hcl, n, hd⟩ := (show ObjOk P w H h q (.tup [.str (S e.1), .ref u]) from ok q _ h1)
  obtain ⟨_, its2, rv2, o2, ho2, hcl2, n2, hd2⟩ := (show ObjOk P w H h u (.tup (e.2.map fun i : Nat => V.int (i : Nat))) from ok u _ h2)
  refine ⟨?_, nk_depth e⟩
  cases rv with
  | cons r1 r2 =>
    cases r2 with
    | cons r2 r3 =>
      cases r3
      obtain ⟨t, rfl⟩ := r1
      cases r2
      exact .tup ho hcl hd (.cons (.text _ _) (.cons (.tup ho2 hcl2 hd2 (nums_are rv2)) .nil))
def putL (L : List (Le × Addr)) (e : Le) (q : Addr) : List (Le × Addr) := if e ∈ L.map (·.1) then L else L ++ [(e, q)]
theorem putL_len {L : List (Le × Addr)} {e : Le} {q : Addr} : (putL L e q).length ≤ L.length + 1 := by
  unfold putL
  split
  · omega
  · rw [List.length_append]; exact Nat.le_refl _
theorem putL_keys {L : List (Le × Addr)} {e : Le} {q : Addr} : (putL L e q).map (·.1) = if e ∈ L.map (·.1) then L.map (·.1) else L.map (·.1) ++ [e] := by
  unfold putL
  split
  · rfl
  · rw [List.map_append] <;> rfl
theorem putL_all {H : Hp} {L : List (Le × Addr)} {e : Le} {q : Addr} (h : ∀ x ∈ L, KeyAt H x.1 x.2) (k : KeyAt H e q) : ∀ x ∈ putL L e q, KeyAt H x.1 x.2 := by
  intro x hx
  unfold putL at hx
  split at hx
  · exact h x hx
  · rcases List.mem_append.mp hx with hx | hx
    · exact h x hx
    · rw [List.mem_singleton.mp hx]
      exact k
theorem keys_entL {L : List (Le × Addr)} : (entL L).map (·.1) = (L.map (·.1)).map nk := by
  unfold entL
  rw [List.map_map, List.map_map] <;> rfl
theorem nodup_entL {L : List (Le × Addr)} (h : (L.map (·.1)).Nodup) : ((entL L).map (·.1)).Nodup := by
  rw [keys_entL]
  unfold List.Nodup
  rw [List.pairwise_map]
  exact h.imp fun hne e => hne (nk_inj e)
theorem mem_entL {L : List (Le × Addr)} {e : Le} : nk e ∈ (entL L).map (·.1) ↔ e ∈ L.map (·.1) := by
  rw [keys_entL, List.mem_map]
  constructor
  · rintro ⟨a, ha, h⟩
    rw [← nk_inj h]
    exact ha
  · intro h
    exact ⟨e, h, rfl⟩
theorem put_entL {L : List (Le × Addr)} {e : Le} {q : Addr} (hn : (L.map (·.1)).Nodup) : storedH (entL L) (nk e) q (.bool true) = entL (putL L e q) := by
  unfold putL
  by_cases h : e ∈ L.map (·.1)
  · rw [if_pos h]
    unfold storedH
    have hm := mem_entL.mpr h
    have h1 : (atKey (entL L) (nk e)).isSome = true := by
      unfold atKey
      rw [Option.isSome_map, List.find?_isSome]
      obtain ⟨x, hx, hk⟩ := List.mem_map.mp hm
      exact ⟨x, hx, decide_eq_true hk⟩
    rw [if_pos h1]
    have : ∀ M : List (Le × Addr), (entL M).map (putAt (nk e) (.bool true)) = entL M := by
      intro M
      unfold entL
      rw [List.map_map]
      refine List.map_congr_left fun x _ => ?_
      show putAt (nk e) (.bool true) (nk x.1, x.2, Value.bool true) = _
      unfold putAt
      split <;> rfl
    exact this L
  · rw [if_neg h]
    have h1 : atKey (entL L) (nk e) = none := by
      unfold atKey
      rw [Option.map_eq_none_iff, List.find?_eq_none]
      intro x hx hk
      exact h (mem_entL.mp (List.mem_map.mpr ⟨x, hx, of_decide_eq_true hk⟩))
    rw [storedH_new h1]
    unfold entL
    rw [List.map_append]
    rfl
section
variable {X : Cx}
/-- the dict with its keys known -/
theorem lay_dict {pins : List (Addr × Obj)} {σ : L2.St} {H : Hp} {s : Shared} {d : Addr} {L : List (Le × Addr)} (I : Inv X pins σ H s) (hd : H d = some (layO X.prog X.w d L)) (hk : ∀ x ∈ L, KeyAt H x.1 x.2) :
    (d == sysModules) = false ∧ L.length ≤ sizeLine ∧ (L.map (·.1)).Nodup ∧ s.heap.DictOfH (nestedKind X.prog X.w) d (entL L) := by
  obtain ⟨⟨a1, a2, a3, o, es, ep, ho, hx, hdt, he⟩, _, _⟩ := I.hok d _ hd
  refine ⟨a1, a2, a3, o, es, ep, ho, hx, hdt, he, fun x hx => ?_, nodup_entL a3⟩
  obtain ⟨y, hy, rfl⟩ := List.mem_map.mp hx
  exact key_is I.hok (hk y hy)
theorem lay_of {h : Heap} {d : Addr} {L : List (Le × Addr)} {P : Program} {w : World} (a1 : (d == sysModules) = false) (a2 : L.length ≤ sizeLine) (a3 : (L.map (·.1)).Nodup) (D : h.DictOfH (nestedKind P w) d (entL L)) : LayR P w h d L := by
  obtain ⟨o, es, ep, ho, hx, hdt, he, _, _⟩ := D
  exact ⟨a1, a2, a3, o, es, ep, ho, hx, hdt, he⟩
theorem putL_nodup {L : List (Le × Addr)} {e : Le} {q : Addr} (h : (L.map (·.1)).Nodup) : ((putL L e q).map (·.1)).Nodup := by
  rw [putL_keys]
  split
  · exact h
  · rename_i hn
    exact List.nodup_append.mpr ⟨h, by simp, fun a ha b hb z => by rw [List.mem_singleton.mp hb] at z; exact hn (z ▸ ha)⟩
/-- {}, to be a layer -/
def tDNewN (P : Program) (w : World) : TE := fun _ H Q => ∀ p, H p = none → Q (.ref p) (upd H p (layO P w p []))
theorem pe_dnewN {pos : Pos} : PE X (.Dict [] [] pos) (tDNewN X.prog X.w) := ⟨fun pins s σ H Q I h => by
  refine wpAny_Dict_empty ⟨.ref s.heap.objs.size, _, I.laid (a := s.heap.objs.size) (o := layO X.prog X.w s.heap.objs.size []) (t' := s.toks) (fun _ _ q => Heap.get?_push_of_some _ q) (Nat.le_refl _) (layO_ok ?_), rfl, h _ (I.hok.fresh (Nat.le_refl _))⟩
  exact lay_of (beq_eq_false_iff_ne.mpr (Ne.symm (Nat.ne_of_lt I.big))) (Nat.zero_le _) List.nodup_nil (Heap.DictOfH.new s.heap)⟩
/-- d[e] = True -/
def sDPutN (P : Program) (w : World) (td ty tv : TE) : TS := fun D σ H => tv σ H fun v H1 => td σ H1 fun x H2 => ty σ H2 fun y H3 => ∃ (d q : Addr) (L : List (Le × Addr)) (e : Le), v = .bl true ∧ x = .ref d ∧ y = .ref q ∧
  H3 d = some (layO P w d L) ∧ (∀ x ∈ L, KeyAt H3 x.1 x.2) ∧ KeyAt H3 e q ∧ L.length < sizeLine ∧ D.nx σ (upd H3 d (layO P w d (putL L e q)))
theorem ps_dputN {o i value : Expr} {pos pos' : Pos} {td ty tv : TE} (hu : X.A.units + 64 < cLine) (ho : PE X o td) (hi : PE X i ty) (hv : PE X value tv) (hs : swapsWith value (some (.Subscript o i pos')) pos.line X.env = pure false := by rfl) :
    PS X (.Assign [.Subscript o i pos'] value pos) (sDPutN X.prog X.w td ty tv) := by
  refine ⟨fun pins s σ H D I h => ?_⟩
  refine wpAny_Assign_Subscript (thn (hv.run pins s σ H _ I h) fun r s1 ⟨v, H1, I1, rv, q1⟩ => thn (ho.run pins s1 σ H1 _ I1 q1) fun u s2 ⟨x, H2, I2, rx, q2⟩ => thn (hi.run pins s2 σ H2 _ I2 q2) fun iv s3 ⟨y, H3, I3, ry, d, q, L, e, ev, ex, ey, hd, hk, ke, hl, q3⟩ => ?_) hs
  subst ev ex ey
  obtain rfl : r = Value.bool true := rv
  obtain rfl : u = Value.ref d := rx
  obtain rfl : iv = Value.ref q := ry
  obtain ⟨a1, a2, a3, D3⟩ := lay_dict I3 hd hk
  refine wpAny_setItem_heap (hsz := by unfold entL; rw [List.length_map]; exact a2) (show X.A.in1.units + 8 < cLine from by show X.A.units + 1 + 8 < cLine; omega) (key_is I3.hok ke) D3 fun h' D' sb => ?_
  rw [put_entL a3] at D'
  refine ⟨σ, _, ?_, q3⟩
  have he : ∃ u, h'.get? d = some u := let ⟨o, _, _, ho, _⟩ := D'; ⟨o, ho⟩
  have hl2 := putL_len (L := L) (e := e) (q := q)
  exact I3.write (e := d) (by rw [hd]; trivial) (.inl rfl) (fun b u hb hu => (sb.2 b hb).trans hu) he (layO_ok (lay_of a1 (by omega) (putL_nodup a3) D'))
/-- {e: True} -/
def tDispN (P : Program) (w : World) (tk tv : TE) : TE := fun σ H Q => ∀ p, H p = none → tk σ (upd H p (layO P w p [])) fun y H1 => tv σ H1 fun v H2 => ∃ (q : Addr) (e : Le), y = .ref q ∧ v = .bl true ∧ KeyAt H2 e q ∧ H2 p = some (layO P w p []) ∧ Q (.ref p) (upd H2 p (layO P w p [(e, q)]))
theorem pe_dispN {k v : Expr} {tk tv : TE} {pos : Pos} (hu : X.A.units + 64 < cLine) (hk : PE X k tk) (hv : PE X v tv) : PE X (.Dict [some k] [v] pos) (tDispN X.prog X.w tk tv) := by
  refine ⟨fun pins s σ H Q I q => ?_⟩
  have hs : (evalEachOpt [some k] X.env).zip ((evalEach [v] X.env).map fun v => do let x ← v; standAt pos; pure x) = (pairTrees [some k] [v] X.env pos).map fun p => (some p.1, p.2) := rfl
  rw [arm_eval_Dict, hs, dictDisplay_pairs _ (by show [_] ≠ []; simp) (by show 1 < 17; decide)]
  have hn := I.hok.fresh (Nat.le_refl s.heap.objs.size)
  have hb : (s.heap.objs.size == sysModules) = false := beq_eq_false_iff_ne.mpr (Ne.symm (Nat.ne_of_lt I.big))
  have I1 := I.laid (a := s.heap.objs.size) (o := layO X.prog X.w s.heap.objs.size []) (h' := s.heap.push { cls := .type "dict", data := .dict #[] }) (t' := s.toks) (fun _ _ q => Heap.get?_push_of_some _ q) (Nat.le_refl _) (layO_ok (lay_of hb (Nat.zero_le _) List.nodup_nil (Heap.DictOfH.new s.heap)))
  refine wpAny_bind (wpAny_standAt (wpAny_bind (wpAny_subDictH (knd := nestedKind X.prog X.w) (Q := fun d s' => wpAny (model X.prog X.w) X.A (pure (Value.ref d)) (EP X pins σ Q) X.xe s') (show X.A.units + 8 < cLine by omega) (by show 1 ≤ 15; decide) ?_)))
  refine pairTrees_cons_walk (thn (hk.run pins _ σ _ _ I1 (q _ hn)) fun u s1 ⟨x, H1, I2, rx, q1⟩ => thn (hv.run pins s1 σ H1 _ I2 q1) fun w2 s2 ⟨y, H2, I3, ry, a, e, ex, ey, ka, e2, q2⟩ => pairTrees_nil_walk ?_)
  subst ex ey
  cases rx
  cases ry
  obtain ⟨a1, a2, a3, D3⟩ := lay_dict I3 e2 (fun x hx => nomatch hx)
  refine ⟨[(nk e, a, .bool true)], ⟨rfl, rfl, key_is I3.hok ka, trivial⟩, D3, fun h' tk D' sb => wpAny_pure ⟨.ref s.heap.objs.size, _, ?_, rfl, q2⟩⟩
  have he : ∃ u, h'.get? s.heap.objs.size = some u := let ⟨o, _, _, ho, _⟩ := D'; ⟨o, ho⟩
  exact I3.write (e := s.heap.objs.size) (by rw [e2]; trivial) (.inl rfl) (fun b u hb hu => (sb.2 b hb).trans hu) he (layO_ok (lay_of (L := [(e, a)]) hb (by show 1 ≤ sizeLine; decide) (by simp) D'))
/-- the keys of the locked layer at d -/
def ItN (P : Program) (w : World) (d : Addr) (o : Obj) (L : List (Le × Addr)) : It :=
  ⟨fun i H => H d = some (.frz o (layO P w d L)) ∧ i < L.length, fun i H x H' => H' = H ∧ ∃ e q, L[i]? = some (e, q) ∧ x = .ref q, fun i H => H d = some (.frz o (layO P w d L)) ∧ L.length ≤ i⟩
theorem walk_N {P : Program} {w : World} {d : Addr} {o : Obj} {L : List (Le × Addr)} : Walk (ItN P w d o L) L.length (fun H => H d = some (.frz o (layO P w d L))) (fun i H x H' => H' = H ∧ ∃ e q, L[i]? = some (e, q) ∧ x = .ref q) :=
  ⟨fun _ _ hi q => ⟨q, hi⟩, fun _ q => ⟨q, Nat.le_refl _⟩, fun _ _ _ _ _ _ y => y⟩
theorem frzN {pins : List (Addr × Obj)} {σ : L2.St} {H : Hp} {s : Shared} {d : Addr} {o : Obj} {L : List (Le × Addr)} (I : Inv X pins σ H s) (h : H d = some (.frz o (layO X.prog X.w d L))) :
    (d == sysModules) = false ∧ s.heap.get? d = some o ∧ o.ExactDict ∧ ∃ (es : Array DictEntry) (ep : Nat), o.data = .dict es ep ∧ es.size = L.length ∧
      ∀ (i : Nat) (e : Le) (q : Addr), L[i]? = some (e, q) → ∃ en : DictEntry, es[i]? = some en ∧ en.key = .ref q := by
  obtain ⟨hd, ⟨a1, a2, a3, o', es, ep, ho, hx, hdt, he⟩, _⟩ := I.hok d _ h
  rw [hd] at ho
  cases ho
  refine ⟨a1, hd, hx, es, ep, hdt, ?_, fun i e q hi => ?_⟩
  · rw [size_of_entries he]
    unfold entL
    rw [List.length_map]
  · have z := entry_at he i
    unfold entL at z
    rw [List.getElem?_map, hi] at z
    exact ⟨_, z, rfl⟩
theorem turn_keysN {tg : Expr} {K : PySem.W.Frag} {P : Program} {w : World} {d : Addr} {o : Obj} {L : List (Le × Addr)} {es : Array DictEntry} {ep : Nat} (it : Addr) (hod : o.data = .dict es ep) : Turn P w K tg (ItN P w d o L) [it] it (fun i h => h.IsKeyIter it d i L.length ep) where
  mem := by simp
  obj := fun i h st b hb => by
    have e : b = it := by simpa using hb
    subst e
    obtain ⟨oi, e, c, dd⟩ := st
    exact ⟨oi, e, fun v z => by rw [dd] at z; cases z⟩
  keep := fun i h h' st k => st.at fun oi e => k it (by simp) oi e
  item := by
    intro X hP hw hK hc i pins s σ H E I hf st hg
    subst hP hw hK
    obtain ⟨hd, hi⟩ := hg
    obtain ⟨f0, f1, f2, f3, f4, f5⟩ := hf it (by simp)
    obtain ⟨hs, hgd, hx, es', ep', hdt, hsz, ent⟩ := frzN I hd
    obtain ⟨rfl, rfl⟩ := dict_ep hod hdt
    obtain ⟨⟨e, q⟩, hL⟩ : ∃ p, L[i]? = some p := ⟨L[i], List.getElem?_eq_getElem hi⟩
    obtain ⟨en, hen, hkey⟩ := ent i e q hL
    refine next_key_item st hgd hdt hsz hen fun h' st' sb => ?_
    have I1 : Inv X pins σ H { s with heap := h' } := I.turned (t' := s.toks) (fun b ob hb e => (sb.2 b hb).trans e) f0 f1 f3 f4 f5
    obtain ⟨oi, eo, c, dd⟩ := id st'
    exact ⟨en.key, rfl, go_of (s := { s with heap := h' }) eo c dd (by decide) ⟨.ref q, H, I1, hkey, ⟨rfl, e, q, hL, rfl⟩, st', fun b hb => (hf b hb).1⟩⟩
  done := by
    intro X hP hw hK hc i pins s σ H E I hf st hg
    subst hP hw hK
    obtain ⟨hd, hi⟩ := hg
    obtain ⟨f0, f1, f2, f3, f4, f5⟩ := hf it (by simp)
    obtain ⟨hs, hgd, hx, es', ep', hdt, hsz, ent⟩ := frzN I hd
    obtain ⟨rfl, rfl⟩ := dict_ep hod hdt
    exact next_key_end (I.ok.hd hc) st hgd hdt hsz hi fun h' eb => ⟨rfl, I.turned (t' := s.toks) (fun b ob hb e => eb b ob hb e) f0 f1 f3 f4 f5⟩
  self := fun A i s Q E st h => by
    refine wpAny_pyIter_slot st.typeIs F.slot_dict_keyiterator_iter (wpAny_call_entry F.slot_dict_keyiterator_iter st.typeIs F.entry_dict_keyiterator_iter ?_ (F.args_dict_keyiterator_iter_1 _))
    show wpAny _ _ (ret (.ref it)) _ _ s
    exact wpAny_pure ⟨_, rfl, "dict_keyiterator", _, st.typeIs, F.slot_dict_keyiterator_next.lookup, h⟩
def iKeysN (P : Program) (w : World) (td : TE) : TI := fun σ H R => td σ H fun x H1 => ∃ d o L, x = .ref d ∧ H1 d = some (.frz o (layO P w d L)) ∧ R (ItN P w d o L) H1
theorem pi_keysN {tg e : Expr} {td : TE} (he : PE X e td) : PI X tg e (iKeysN X.prog X.w td) := by
  refine ⟨fun pins s σ H R I h => ?_⟩
  refine thn (he.run pins s σ H _ I h) fun u s1 ⟨x, H1, I1, rx, d, o, L, ex, hd, q⟩ => ?_
  subst ex
  obtain rfl : u = Value.ref d := rx
  obtain ⟨hs, hgd, hx, es, ep, hdt, hsz, ent⟩ := frzN I1 hd
  refine iter_keys hs hgd hx hdt (pi_one (tk := s1.toks) I1 _ (turn_keysN _ hdt) ⟨_, Heap.get?_push_size _ rfl, rfl, ?_⟩ q)
  rw [hsz] <;> rfl
end
end K84
namespace K84
open PySem
/-! ### orders of a code -/
inductive Vd (n : Nat) (bs : List (Nat × Nat)) : List Nat → Prop
  | nil : Vd n bs []
  | snoc {p : List Nat} {x : Nat} : Vd n bs p → x < n → x ∉ p → (∀ q ∈ bs, q.2 = x → q.1 ∈ p) → Vd n bs (p ++ [x])
def rd (c : Wd) (p : List Nat) : Wd := p.map fun i => c[i]?.getD 0
def IsOrds (c : Wd) (bs : List (Nat × Nat)) (ys : List Wd) : Prop := ys.Pairwise (· < ·) ∧ ∀ s, s ∈ ys ↔ ∃ p, Vd c.length bs p ∧ p.length = c.length ∧ s = rd c p
theorem nd_len {α : Type} [DecidableEq α] : ∀ {l m : List α}, l.Nodup → (∀ x ∈ l, x ∈ m) → l.length ≤ m.length
  | [], m, _, _ => Nat.zero_le _
  | x :: l, m, h, hs => by
    obtain ⟨h1, h2⟩ := List.nodup_cons.mp h
    have hx := hs x List.mem_cons_self
    have ih := nd_len (l := l) (m := m.erase x) h2 fun y hy => (List.mem_erase_of_ne fun (e : y = x) => h1 (e ▸ hy)).mpr (hs y (List.mem_cons_of_mem _ hy))
    rw [List.length_erase_of_mem hx] at ih
    have hp := List.length_pos_of_mem hx
    rw [List.length_cons]
    omega
theorem nd_perm {α : Type} [DecidableEq α] : ∀ {l m : List α}, l.Nodup → (∀ x ∈ l, x ∈ m) → m.length ≤ l.length → l.Perm m
  | [], m, _, _, hl => by
    rw [List.length_eq_zero_iff.mp (Nat.le_zero.mp hl)]
  | x :: l, m, h, hs, hl => by
    obtain ⟨h1, h2⟩ := List.nodup_cons.mp h
    have hx := hs x List.mem_cons_self
    have hp := List.length_pos_of_mem hx
    have ih := nd_perm (l := l) (m := m.erase x) h2 (fun y hy => (List.mem_erase_of_ne fun (e : y = x) => h1 (e ▸ hy)).mpr (hs y (List.mem_cons_of_mem _ hy))) (by rw [List.length_erase_of_mem hx]; rw [List.length_cons] at hl; omega)
    exact (ih.cons x).trans (List.perm_cons_erase hx).symm
theorem strict_nd {a : List Wd} (ha : a.Pairwise (· < ·)) : a.Nodup := by
  unfold List.Nodup
  refine ha.imp fun {x y} h e => ?_
  rw [e] at h
  exact absurd h (List.lt_irrefl _)
theorem strict_eq {a b : List Wd} (ha : a.Pairwise (· < ·)) (hb : b.Pairwise (· < ·)) (h : ∀ s, s ∈ a ↔ s ∈ b) : a = b := by
  have hp : a.Perm b := nd_perm (strict_nd ha) (fun s hs => (h s).mp hs) (nd_len (strict_nd hb) fun s hs => (h s).mpr hs)
  refine List.Perm.eq_of_pairwise (le := fun a b => a < b) (fun x y _ _ h1 h2 => ?_) ha hb hp
  exact absurd (List.lt_trans h1 h2) (List.lt_irrefl _)
theorem IsOrds.unique {c : Wd} {bs : List (Nat × Nat)} {a b : List Wd} (ha : IsOrds c bs a) (hb : IsOrds c bs b) : a = b := strict_eq ha.1 hb.1 fun s => (ha.2 s).trans (hb.2 s).symm
theorem Vd.nd {n : Nat} {bs : List (Nat × Nat)} {p : List Nat} (h : Vd n bs p) : p.Nodup ∧ ∀ x ∈ p, x < n := by
  induction h with
  | nil => exact ⟨List.nodup_nil, fun x hx => by cases hx⟩
  | snoc h hx hn hb ih =>
    refine ⟨List.nodup_append.mpr ⟨ih.1, by simp, fun a ha b hb z => ?_⟩, fun y hy => ?_⟩
    · rw [List.mem_singleton.mp hb] at z
      exact hn (z ▸ ha)
    · rcases List.mem_append.mp hy with hy | hy
      · exact ih.2 y hy
      · rw [List.mem_singleton.mp hy]
        exact hx
/-! ### the layers -/
def sortN (l : List Nat) : List Nat := l.mergeSort fun a b => decide (a ≤ b)
theorem sortN_perm (l : List Nat) : (sortN l).Perm l := List.mergeSort_perm l _
theorem sortN_congr {a b : List Nat} (h : a.Perm b) : sortN a = sortN b := by
  have pw : ∀ l : List Nat, (sortN l).Pairwise (fun a b => decide (a ≤ b) = true) := fun l => List.pairwise_mergeSort (fun a b c h1 h2 => by simp at *; omega) (fun a b => by simp; omega) l
  exact List.Perm.eq_of_pairwise (le := fun a b => decide (a ≤ b) = true) (fun x y _ _ h1 h2 => by simp at h1 h2; omega) (pw a) (pw b) ((sortN_perm a).trans (h.trans (sortN_perm b).symm))
theorem sortN_snoc (l : List Nat) (x : Nat) : sortN (sortN l ++ [x]) = sortN (l ++ [x]) := sortN_congr ((sortN_perm l).append_right [x])
theorem mem_sortN {l : List Nat} {x : Nat} : x ∈ sortN l ↔ x ∈ l := (sortN_perm l).mem_iff
abbrev Lk := List (List Nat × List Nat)
def putE (l : Lk) (e : List Nat × List Nat) : Lk := if e ∈ l then l else l ++ [e]
theorem mem_putE {l : Lk} {e x : List Nat × List Nat} : x ∈ putE l e ↔ x ∈ l ∨ x = e := by
  unfold putE
  split
  · rename_i h
    exact ⟨.inl, fun z => z.elim id fun z => z ▸ h⟩
  · rw [List.mem_append, List.mem_singleton]
def okE (bs : List (Nat × Nat)) (u : List Nat) (x : Nat) : Bool := decide (x ∉ u) && bs.all fun q => decide (q.2 = x → q.1 ∈ u)
def nextE (c : Wd) (e : List Nat × List Nat) (x : Nat) : List Nat × List Nat := (e.1 ++ [c[x]?.getD 0], sortN (e.2 ++ [x]))
def stepE (c : Wd) (bs : List (Nat × Nat)) (e : List Nat × List Nat) (l : Lk) (x : Nat) : Lk := if okE bs e.2 x = true then putE l (nextE c e x) else l
def stepL (c : Wd) (bs : List (Nat × Nat)) (l : Lk) (e : List Nat × List Nat) : Lk := (List.range c.length).foldl (stepE c bs e) l
def lay (c : Wd) (bs : List (Nat × Nat)) : Nat → Lk
  | 0 => [([], [])]
  | t + 1 => (lay c bs t).foldl (stepL c bs) []
theorem mem_stepE {c : Wd} {bs : List (Nat × Nat)} {e y : List Nat × List Nat} : ∀ (xs : List Nat) (l : Lk), y ∈ xs.foldl (stepE c bs e) l ↔ y ∈ l ∨ ∃ x ∈ xs, okE bs e.2 x = true ∧ y = nextE c e x
  | [], l => ⟨.inl, fun z => z.elim id fun ⟨x, hx, _⟩ => by cases hx⟩
  | a :: xs, l => by
    show y ∈ xs.foldl (stepE c bs e) (stepE c bs e l a) ↔ _
    rw [mem_stepE xs]
    have h1 : y ∈ stepE c bs e l a ↔ y ∈ l ∨ (okE bs e.2 a = true ∧ y = nextE c e a) := by
      unfold stepE
      split
      · rename_i h
        rw [mem_putE]
        exact ⟨fun z => z.imp id fun z => ⟨h, z⟩, fun z => z.imp id fun z => z.2⟩
      · rename_i h
        exact ⟨.inl, fun z => z.elim id fun z => absurd z.1 h⟩
    rw [h1]
    constructor
    · rintro ((h | h) | ⟨x, hx, h⟩)
      · exact .inl h
      · exact .inr ⟨a, List.mem_cons_self, h⟩
      · exact .inr ⟨x, List.mem_cons_of_mem _ hx, h⟩
    · rintro (h | ⟨x, hx, h⟩)
      · exact .inl (.inl h)
      · rcases List.mem_cons.mp hx with rfl | hx
        · exact .inl (.inr h)
        · exact .inr ⟨x, hx, h⟩
theorem mem_stepL {c : Wd} {bs : List (Nat × Nat)} {y : List Nat × List Nat} : ∀ (es : Lk) (l : Lk), y ∈ es.foldl (stepL c bs) l ↔ y ∈ l ∨ ∃ e ∈ es, ∃ x < c.length, okE bs e.2 x = true ∧ y = nextE c e x
  | [], l => ⟨.inl, fun z => z.elim id fun ⟨x, hx, _⟩ => by cases hx⟩
  | a :: es, l => by
    show y ∈ es.foldl (stepL c bs) (stepL c bs l a) ↔ _
    rw [mem_stepL es]
    unfold stepL
    rw [mem_stepE]
    constructor
    · rintro ((h | ⟨x, hx, h⟩) | ⟨e, he, h⟩)
      · exact .inl h
      · exact .inr ⟨a, List.mem_cons_self, x, List.mem_range.mp hx, h⟩
      · exact .inr ⟨e, List.mem_cons_of_mem _ he, h⟩
    · rintro (h | ⟨e, he, x, hx, h⟩)
      · exact .inl (.inl h)
      · rcases List.mem_cons.mp he with rfl | he
        · exact .inl (.inr ⟨x, List.mem_range.mpr hx, h⟩)
        · exact .inr ⟨e, he, x, hx, h⟩
theorem okE_iff {bs : List (Nat × Nat)} {p : List Nat} {x : Nat} : okE bs (sortN p) x = true ↔ x ∉ p ∧ ∀ q ∈ bs, q.2 = x → q.1 ∈ p := by
  unfold okE
  rw [Bool.and_eq_true, decide_eq_true_eq, List.all_eq_true, mem_sortN]
  constructor
  · rintro ⟨h1, h2⟩
    exact ⟨h1, fun q hq e => mem_sortN.mp (of_decide_eq_true (h2 q hq) e)⟩
  · rintro ⟨h1, h2⟩
    exact ⟨h1, fun q hq => decide_eq_true fun e => mem_sortN.mpr (h2 q hq e)⟩
theorem mem_lay {c : Wd} {bs : List (Nat × Nat)} : ∀ {t : Nat} {y : List Nat × List Nat}, y ∈ lay c bs t ↔ ∃ p, Vd c.length bs p ∧ p.length = t ∧ y = (rd c p, sortN p)
  | 0, y => by
    show y ∈ [([], [])] ↔ _
    rw [List.mem_singleton]
    constructor
    · rintro rfl
      exact ⟨[], .nil, rfl, by simp [rd, sortN]⟩
    · rintro ⟨p, _, hl, rfl⟩
      rw [List.length_eq_zero_iff.mp hl]
      simp [rd, sortN]
  | t + 1, y => by
    show y ∈ (lay c bs t).foldl (stepL c bs) [] ↔ _
    rw [mem_stepL]
    constructor
    · rintro (h | ⟨e, he, x, hx, h1, rfl⟩)
      · cases h
      · obtain ⟨p, hp, hl, rfl⟩ := mem_lay.mp he
        obtain ⟨k1, k2⟩ := okE_iff.mp h1
        refine ⟨p ++ [x], hp.snoc hx k1 k2, by rw [List.length_append, hl] <;> rfl, ?_⟩
        unfold nextE rd
        rw [sortN_snoc, List.map_append]
        rfl
    · rintro ⟨p, hp, hl, rfl⟩
      refine .inr ?_
      cases hp with
      | nil => cases hl
      | @snoc p x h hx hn hb =>
        refine ⟨(rd c p, sortN p), mem_lay.mpr ⟨p, h, by rw [List.length_append] at hl; exact Nat.succ.inj hl, rfl⟩, x, hx, okE_iff.mpr ⟨hn, hb⟩, ?_⟩
        unfold nextE rd
        rw [sortN_snoc, List.map_append]
        rfl
theorem putE_len {l : Lk} {e : List Nat × List Nat} : (putE l e).length ≤ l.length + 1 := by
  unfold putE
  split
  · omega
  · rw [List.length_append]; exact Nat.le_refl _
theorem fold_len {α : Type} {f : Lk → α → Lk} {k : Nat} (h : ∀ l a, (f l a).length ≤ l.length + k) : ∀ (xs : List α) (l : Lk), (xs.foldl f l).length ≤ l.length + k * xs.length
  | [], l => Nat.le_refl _
  | x :: xs, l => by
    have h1 := fold_len h xs (f l x)
    have h2 := h l x
    show (xs.foldl f (f l x)).length ≤ _
    rw [List.length_cons, Nat.mul_add]
    omega
theorem stepE_len {c : Wd} {bs : List (Nat × Nat)} {e : List Nat × List Nat} (l : Lk) (x : Nat) : (stepE c bs e l x).length ≤ l.length + 1 := by
  unfold stepE
  split
  · exact putE_len
  · omega
theorem stepL_len {c : Wd} {bs : List (Nat × Nat)} (l : Lk) (e : List Nat × List Nat) : (stepL c bs l e).length ≤ l.length + c.length := by
  have := fold_len (k := 1) (f := stepE c bs e) (fun l x => stepE_len l x) (List.range c.length) l
  rw [List.length_range] at this
  unfold stepL
  omega
theorem lay_len {c : Wd} {bs : List (Nat × Nat)} (hc : c.length ≤ 7) : ∀ t, (lay c bs t).length ≤ 7 ^ t
  | 0 => Nat.le_refl _
  | t + 1 => by
    have h := fold_len (k := c.length) (f := stepL c bs) (fun l e => stepL_len l e) (lay c bs t) []
    have ih := lay_len (bs := bs) hc t
    show ((lay c bs t).foldl (stepL c bs) []).length ≤ _
    have h2 : c.length * (lay c bs t).length ≤ 7 * 7 ^ t := Nat.mul_le_mul hc ih
    rw [Nat.pow_succ, Nat.mul_comm]
    simp only [List.length_nil] at h
    omega
/-! ### how many arrangements there are -/
def arr (L : Wd) : Nat → Wd → List Wd
  | 0, _ => [[]]
  | k + 1, c => (L.filter fun x => decide (x ∈ c)).flatMap fun x => (arr L k (c.erase x)).map (x :: ·)
theorem mem_arr {L : Wd} : ∀ {k : Nat} {c m : Wd}, c.length = k → (∀ x ∈ c, x ∈ L) → m.Perm c → m ∈ arr L k c
  | 0, c, m, hl, _, hp => by
    rw [List.length_eq_zero_iff.mp hl] at hp
    rw [hp.eq_nil]
    exact List.mem_singleton.mpr rfl
  | k + 1, c, m, hl, hL, hp => by
    cases m with
    | nil => rw [← hp.length_eq] at hl; cases hl
    | cons x m =>
      have hx : x ∈ c := hp.mem_iff.mp List.mem_cons_self
      refine List.mem_flatMap.mpr ⟨x, List.mem_filter.mpr ⟨hL x hx, decide_eq_true hx⟩, List.mem_map.mpr ⟨m, mem_arr ?_ (fun y hy => hL y (List.mem_of_mem_erase hy)) ?_, rfl⟩⟩
      · rw [List.length_erase_of_mem hx, hl] <;> rfl
      · have := (List.cons_perm_iff_perm_erase.mp hp).2
        exact this
def bnd : Nat → Nat
  | 0 => 1
  | k + 1 => min (k + 1) 5 * bnd k
theorem arr_len {L : Wd} (hn : L.Nodup) (h5 : L.length ≤ 5) : ∀ {k : Nat} {c : Wd}, c.length = k → (arr L k c).length ≤ bnd k
  | 0, _, _ => Nat.le_refl _
  | k + 1, c, hl => by
    show ((L.filter _).flatMap _).length ≤ _
    have h1 : (L.filter fun x => decide (x ∈ c)).length ≤ min (k + 1) 5 := by
      refine Nat.le_min.mpr ⟨?_, Nat.le_trans (List.length_filter_le _ _) h5⟩
      rw [← hl]
      exact nd_len (hn.filter _) fun x hx => of_decide_eq_true (List.mem_filter.mp hx).2
    have h2 : ∀ xs : List Nat, (∀ x ∈ xs, x ∈ c) → (xs.flatMap fun x => (arr L k (c.erase x)).map (x :: ·)).length ≤ xs.length * bnd k := by
      intro xs
      induction xs with
      | nil => intro _; simp
      | cons a xs ih =>
        intro h
        rw [List.flatMap_cons, List.length_append, List.length_map, List.length_cons, Nat.add_mul, Nat.one_mul]
        have h3 := arr_len hn h5 (k := k) (c := c.erase a) (by rw [List.length_erase_of_mem (h a List.mem_cons_self), hl] <;> rfl)
        have h4 := ih fun x hx => h x (List.mem_cons_of_mem _ hx)
        omega
    refine Nat.le_trans (h2 _ fun x hx => of_decide_eq_true (List.mem_filter.mp hx).2) ?_
    exact Nat.mul_le_mul_right _ h1
theorem few_orders {L c : Wd} {ms : List Wd} (hn : L.Nodup) (h5 : L.length ≤ 5) (hL : ∀ x ∈ c, x ∈ L) (hc : c.length ≤ 7) (nd : ms.Nodup) (hm : ∀ m ∈ ms, m.Perm c) : ms.length ≤ 3000 := by
  have h1 : ms.length ≤ (arr L c.length c).length := nd_len nd fun m hm' => mem_arr rfl hL (hm m hm')
  have h2 := arr_len hn h5 (k := c.length) (c := c) rfl
  have h3 : bnd c.length ≤ 3000 := by
    generalize c.length = k at hc
    have : k = 0 ∨ k = 1 ∨ k = 2 ∨ k = 3 ∨ k = 4 ∨ k = 5 ∨ k = 6 ∨ k = 7 := by omega
    rcases this with h | h | h | h | h | h | h | h <;> (subst h; decide)
  omega
theorem rd_perm {c : Wd} {bs : List (Nat × Nat)} {p : List Nat} (h : Vd c.length bs p) (hl : p.length = c.length) : (rd c p).Perm c := by
  obtain ⟨h1, h2⟩ := h.nd
  have hp : p.Perm (List.range c.length) := nd_perm h1 (fun x hx => List.mem_range.mpr (h2 x hx)) (by rw [List.length_range, hl]; exact Nat.le_refl _)
  refine (hp.map _).trans (List.Perm.of_eq ?_)
  apply List.ext_getElem
  · rw [List.length_map, List.length_range]
  · intro i h3 h4
    rw [List.getElem_map, List.getElem_range, List.getElem?_eq_getElem h4]
    rfl
end K84
set_option maxHeartbeats 4000000
namespace K84
open PySem PySem.Spec PyProof.Rows L2
local macro_rules | `(tactic| walk_at "ix") => `(tactic| first | exact atI_nat (j := 0) rfl | exact atI_nat (j := 1) rfl | exact atI_nat (j := 2) rfl | exact atI_nat (j := 3) rfl | exact atI_nat (j := 4) rfl)
local macro_rules | `(tactic| walk_at "rd") => `(tactic| repeat (first
  | refine ⟨_, rfl, ?_⟩
  | refine ⟨rfl, ?_⟩
  | refine ⟨_, _, rfl, ?_⟩
  | refine ⟨_, _, rfl, rfl, ?_⟩
  | refine ⟨_, _, _, rfl, ?_⟩
  | refine ⟨_, _, _, _, rfl, ?_⟩
  | refine ⟨_, _, _, _, rfl, rfl, (by assumption), (by walk_at "ix"), ?_⟩
  | refine ⟨_, _, _, rfl, rfl, (by assumption), ?_⟩
  | refine ⟨.inl ⟨rfl, _, sqL_of (by assumption)⟩, ?_⟩
  | refine ⟨_, _, _, _, _, rfl, (by assumption), (by assumption), (by assumption), (by assumption), ?_⟩
  | refine ⟨_, _, _, _, _, rfl, .ty _, Tg.ty (by assumption), kit_ty (by first | exact kInt _ | exact kBool _ | exact kStr _ | exact kTup _ | exact kLst _ | exact kDct _), ?_⟩))
theorem TgAll.two {K : PySem.W.Frag} {H : Hp} {xs : List V} {d1 d2 : Th} (h : TgAll K H xs [d1, d2]) : ∃ x y, xs = [x, y] ∧ Tg K H x d1 ∧ Tg K H y d2 := by
  cases h with
  | cons h1 h2 =>
    cases h2 with
    | cons h2 h3 =>
      cases h3
      exact ⟨_, _, rfl, h1, h2⟩
theorem two_of {α : Type} : ∀ {l : List α}, l.length = 2 → ∃ a b, l = [a, b]
  | [a, b], _ => ⟨a, b, rfl⟩
theorem before_len {n : Nat} : ∀ {ds : List Th}, ds.length ≠ 2 → (Th.tup ds).before n = false
  | [], _ => rfl
  | [_], _ => rfl
  | [_, _], h => absurd rfl h
  | _ :: _ :: _ :: _, _ => rfl
theorem before_int {n : Nat} {i : Int} {d : Th} : (Th.tup [.int i, d]).before n = ((Th.int i).within 0 ((n : Int) - 1) && d.within (i + 1) ((n : Int) - 1)) := rfl
theorem before_not {n : Nat} {d1 d2 : Th} (h : d1.within 0 ((n : Int) - 1) = false) : (Th.tup [d1, d2]).before n = false := by
  cases d1 with
  | int i => rw [before_int, h, Bool.false_and]
  | _ => rfl
theorem within_int {d : Th} {lo hi : Int} (h : d.within lo hi = true) : ∃ i, d = .int i := by
  cases d with
  | int i => exact ⟨i, rfl⟩
  | _ => cases h
def sp_is_before (K : PySem.W.Frag) : Sp := sp2 fun a b H Q _ => ∃ (d : Th) (n : Nat), Tg K H a d ∧ b = .int (n : Nat) ∧ Q (.bl (d.before n)) H
/- is_before: thing=0 many=1; cells []; calls ['is_within', 'is_pair']; builtins [] -/
abbrev s_is_before : Stmt := top 41
theorem sc_is_before : FnScope ["thing", "many"] ["thing", "many"] (defScope s_is_before) := ⟨rfl, rfl, rfl, by decide +kernel, rfl, by decide +kernel, by decide +kernel⟩
theorem ok_is_before {P : Program} {w : World} {K : PySem.W.Frag} {mg : Str → Option Value} {base : Heap} (D : Df K mg "is_before" s_is_before) (T : Tx K mg) (c_is_within : Cl CX0 P w K mg base 2 "is_within" (sp_is_within K)) (c_is_pair : Cl CX0 P w K mg base 1 "is_pair" (sp_is_pair K)) :
    Cl CX0 P w K mg base 3 "is_before" (sp_is_before K) := by
  refine D.ok2 (k := 2) sc_is_before (fun _ _ _ _ _ _ us hl => match us, hl with | [_, _], _ => rfl) (fun f cdv A outer s H a b Q E hr h => ⟨_, PSs.nox ((pss_one (ps_ret (pe_and (pe_cl c_is_pair hr (by decide) pass0 (pa_cons (pv 0) pa_nil)) (pe_and (pe_cl c_is_within hr (by decide) pass0 (pa_cons (pe_ix ix_tup (pv 0) pe_int (fun _ _ => rfl)) (pa_cons pe_int (pa_cons (pe_op op_sub (pv 1) pe_int) pa_nil)))) (pe_one (pe_cl c_is_within hr (by decide) pass0 (pa_cons (pe_ix ix_tup (pv 0) pe_int (fun _ _ => rfl)) (pa_cons (pe_op op_add (pe_ix ix_tup (pv 0) pe_int (fun _ _ => rfl)) pe_int) (pa_cons (pe_op op_sub (pv 1) pe_int) pa_nil)))))))))), ?_⟩)
  obtain ⟨d, n, g, rfl, q⟩ := h
  refine ⟨_, rfl, _, rfl, d, g, _, rfl, ?_⟩
  by_cases hp : d.pair? = true
  · rw [hp]
    refine iteT ?_
    have hd : ∃ d1 d2, d = .tup [d1, d2] := by
      cases d with
      | tup l =>
        obtain ⟨d1, d2, rfl⟩ := two_of (of_decide_eq_true hp)
        exact ⟨d1, d2, rfl⟩
      | _ => cases hp
    obtain ⟨d1, d2, rfl⟩ := hd
    have hg : ∃ p x y, a = .ref p ∧ SqT K H p [x, y] ∧ Tg K H x d1 ∧ Tg K H y d2 := by
      cases g with
      | @tup p xs ds h1 h2 =>
        obtain ⟨x, y, rfl, g1, g2⟩ := h2.two
        exact ⟨p, x, y, rfl, h1, g1, g2⟩
    obtain ⟨p, x, y, rfl, h1, g1, g2⟩ := hg
    refine ⟨_, rfl, p, _, 0, x, rfl, rfl, h1, atI_nat (j := 0) rfl, ?_⟩
    refine ⟨_, rfl, n, 1, rfl, rfl, ?_⟩
    refine ⟨_, _, _, rfl, d1, 0, (n : Int) - 1, g1, rfl, rfl, _, rfl, ?_⟩
    refine ifB (fun e => ?_) (fun e => ?_)
    · obtain ⟨i, rfl⟩ := within_int e
      cases g1
      rw [before_int, e, Bool.true_and] at q
      refine ⟨_, rfl, p, _, 1, y, rfl, rfl, h1, atI_nat (j := 1) rfl, ?_⟩
      refine ⟨_, rfl, p, _, 0, _, rfl, rfl, h1, atI_nat (j := 0) rfl, ?_⟩
      refine ⟨i, 1, rfl, rfl, ?_⟩
      refine ⟨_, rfl, n, 1, rfl, rfl, ?_⟩
      exact ⟨_, _, _, rfl, d2, i + 1, (n : Int) - 1, g2, rfl, rfl, q⟩
    · rw [before_not e] at q
      exact q
  · have hp2 : d.pair? = false := by
      cases h : d.pair? with
      | false => rfl
      | true => exact absurd h hp
    rw [hp2]
    refine iteF ?_
    have e : d.before n = false := by
      cases d with
      | tup l => exact before_len (of_decide_eq_false hp2)
      | _ => rfl
    rw [e] at q
    exact q
/-- befores as they ought to be for so many rows -/
def bOk (n : Nat) : Th → Bool
  | .lst l => l.all (·.before n)
  | .tup l => l.all (·.before n)
  | _ => false
def sp_check_befores (K : PySem.W.Frag) : Sp := sp2 fun a b H Q E => ∃ (c : Wd) (d : Th), a = .str (S c) ∧ c.length ≤ 1000 ∧ Tg K H b d ∧ (∀ l, d ≠ .tup l) ∧ (∀ l, d = .lst l → l.length ≤ 1000) ∧
  (bOk c.length d = true → ∀ H', Same H H' → Q .non H') ∧ (bOk c.length d = false → ∀ H', Same H H' → E (.ref (He.ga K "NoBefores")) none H')
/- check_befores: code=0 thing=1 item=2; cells ['code']; calls ['is_before', 'is_listed']; builtins ['all', 'len'] -/
abbrev s_check_befores : Stmt := top 42
theorem sc_check_befores : FnScope ["code", "thing", "item"] ["code", "thing"] (defScope s_check_befores) := ⟨rfl, rfl, rfl, by decide +kernel, rfl, by decide +kernel, by decide +kernel⟩
theorem ok_check_befores {P : Program} {w : World} {K : PySem.W.Frag} {mg : Str → Option Value} {base : Heap} (D : Df K mg "check_befores" s_check_befores) (T : Tx K mg) (c_is_before : Cl CX0 P w K mg base 3 "is_before" (sp_is_before K)) (c_is_listed : Cl CX0 P w K mg base 1 "is_listed" (sp_is_listed K)) :
    Cl (L2.CX P w) P w K mg base 4 "check_befores" (sp_check_befores K) := by
  refine D.ok2 (k := 3) sc_check_befores (fun _ _ _ _ _ _ us hl => match us, hl with | [_, _], _ => rfl) (fun f cdv A outer s H a b Q E hr h => ⟨_, (pss_one (ps_if (PW.pt (pw_or (pt_not (pt_val (pe_cl c_is_listed hr (by decide) pass0 (pa_cons (pv 1) pa_nil)))) (pw_or1 (pt_not (pt_val (pe_callB (cr_all rfl) (by rfl) T.all (by decide +kernel) (pa_cons (pe_lc (own := [("item", 2)]) rfl sc_check_befores.nd (pi_list (pv 1)) (blkOk_by (own := [("item", 2)]) (N := ["code", "thing", "item"]) (sc := defScope s_check_befores) (by decide +kernel)) (fun _ _ _ _ _ => (pg_name (i := 2) sc_check_befores.nd rfl (Or.inl rfl))) (fun _ _ _ _ _ => pts_nil) (fun _ _ _ _ _ => (pe_cl c_is_before hr (by decide) pass0 (pa_cons (pv 2) (pa_cons (pe_callB call_len_str (by rfl) T.len (by decide +kernel) (pa_cons (pv 0) pa_nil)) pa_nil))))) pa_nil))))))) (pss_one (ps_raise rfl (takes_of rfl rfl rfl rfl) (pmk_x T.x_NoBefores rfl))) pss_nil)), ?_⟩)
  obtain ⟨c, d, rfl, hc, g, hnt, hbd, q1, q2⟩ := h
  refine ⟨_, rfl, _, rfl, d, g, fun H1 s1 => ?_⟩
  refine ⟨_, rfl, ?_⟩
  by_cases hl : ∃ l, d = .lst l
  · obtain ⟨ds, rfl⟩ := hl
    have hb := hbd ds rfl
    refine iteF ?_
    cases g with
    | @lst p xs _ hp ht =>
    have hlen := ht.length
    refine ⟨_, rfl, p, rfl, ⟨xs, s1.seq hp⟩, fun D hD => ?_⟩
    refine lc_it (walk_list (xs := xs)) (AccP H1 D fun i acc _ => acc = ((ds.take i).map (·.before c.length)).map V.bl) (AccP.start hD rfl) (fun j H3 _ h => ?_) ?_ ?_
    · obtain ⟨acc, G, e2, hG, k1, k2, e3⟩ := h
      exact k2.seq (k1.seq (s1.seq hp))
    · rintro j v H3 H4 hj ⟨acc, G, e3, hG, s4, s5, rfl⟩ ⟨rfl, hv⟩
      obtain ⟨dj, hdj, gj⟩ := ht.at hv
      refine ⟨rfl, _, rfl, _, rfl, _, rfl, szle (by rw [S_length]; omega), ?_⟩
      refine ⟨_, _, rfl, dj, c.length, gj.mono (s1.trans (s4.trans s5)), by rw [S_length], ?_⟩
      refine AccP.push e3 hG s4 s5 (by rw [List.length_map, List.length_map, List.length_take]; exact szlt (by omega)) ?_
      show _ = ((ds.take (j + 1)).map (·.before c.length)).map V.bl
      rw [take_map_snoc hdj, List.map_append] <;> rfl
    · rintro H3 ⟨acc, G, e3, hG, s4, s5, rfl⟩
      rw [hlen, List.take_length] at e3
      refine ⟨D, _, rfl, sqL_of e3, ?_⟩
      have s13 := s1.trans (s4.trans s5)
      have e5 : (ds.map (·.before c.length)).all id = bOk c.length (.lst ds) := by
        rw [List.all_map]
        rfl
      rw [e5]
      refine ⟨_, rfl, ?_⟩
      cases hbk : bOk c.length (.lst ds) with
      | true => exact iteF (q1 hbk H3 s13)
      | false => exact iteT (q2 hbk H3 s13)
  · have e1 : d.listed = false := by
      cases d with
      | lst l => exact absurd ⟨l, rfl⟩ hl
      | tup l => exact absurd rfl (hnt l)
      | _ => rfl
    have e2 : bOk c.length d = false := by
      cases d with
      | lst l => exact absurd ⟨l, rfl⟩ hl
      | tup l => exact absurd rfl (hnt l)
      | _ => rfl
    rw [e1]
    exact iteT (iteT (q2 e2 H1 s1))
def sp_check_ordered (K : PySem.W.Frag) : Sp := sp2 fun a b H Q E => ∃ (r : Wd) (d : Th), a = .str (S r) ∧ Tg K H b d ∧ (∀ c, d = .str (S c) → c.length ≤ 1000) ∧
  (∀ c, d = .str (S c) → (∀ x ∈ c, x ∈ r) → c.length ≤ 7 → Q .non H) ∧ ((∀ c, d = .str (S c) → (∀ x ∈ c, x ∈ r) → c.length ≤ 7 → False) → E (.ref (He.ga K "NoCode")) none H)
theorem over_is {d : Th} {r : Wd} (h : d.over r = true) : ∃ c, d = .str (S c) ∧ ∀ x ∈ c, x ∈ r := by
  cases d with
  | str s =>
    refine ⟨s.cps.toList, by rw [S_of], fun x hx => ?_⟩
    have h2 : (s.cps.toList.all fun c => decide (c ∈ r)) = true := h
    exact of_decide_eq_true (List.all_eq_true.mp h2 x hx)
  | _ => cases h
/- check_ordered: rows=0 code=1; cells []; calls ['is_code']; builtins ['len'] -/
abbrev s_check_ordered : Stmt := top 43
theorem sc_check_ordered : FnScope ["rows", "code"] ["rows", "code"] (defScope s_check_ordered) := ⟨rfl, rfl, rfl, by decide +kernel, rfl, by decide +kernel, by decide +kernel⟩
theorem ok_check_ordered {P : Program} {w : World} {K : PySem.W.Frag} {mg : Str → Option Value} {base : Heap} (D : Df K mg "check_ordered" s_check_ordered) (T : Tx K mg) (c_is_code : Cl CX0 P w K mg base 2 "is_code" (sp_is_code K)) :
    Cl (L2.CX P w) P w K mg base 3 "check_ordered" (sp_check_ordered K) := by
  refine D.ok2 (k := 2) sc_check_ordered (fun _ _ _ _ _ _ us hl => match us, hl with | [_, _], _ => rfl) (fun f cdv A outer s H a b Q E hr h => ⟨_, (pss_one (ps_if (PW.pt (pw_or (pt_not (pt_val (pe_cl c_is_code hr (by decide) pass0 (pa_cons (pv 0) (pa_cons (pv 1) pa_nil))))) (pw_or1 (pt_cmpR op_gt (pe_callB call_len_str (by rfl) T.len (by decide +kernel) (pa_cons (pv 1) pa_nil)) (pe_gcv rfl T.c_MOST_ORDERED) (nomark _))))) (pss_one (ps_raise rfl (takes_of rfl rfl rfl rfl) (pmk_x T.x_NoCode rfl))) pss_nil)), ?_⟩)
  obtain ⟨r, d, rfl, g, hsz, q1, q2⟩ := h
  refine ⟨_, rfl, _, rfl, _, _, rfl, r, d, rfl, g, _, rfl, ?_⟩
  refine ifB (fun e => ?_) (fun e => ?_)
  · have e2 : d.over r = false := by
      cases h : d.over r with
      | false => rfl
      | true => rw [h] at e; cases e
    refine iteT (q2 fun c ec hc _ => ?_)
    rw [ec, over_yes hc] at e2
    cases e2
  · have e2 : d.over r = true := by
      cases h : d.over r with
      | true => rfl
      | false => rw [h] at e; cases e
    obtain ⟨c, rfl, hc⟩ := over_is e2
    cases g
    have h1 := hsz c rfl
    refine ⟨_, rfl, _, rfl, szle (by rw [S_length]; omega), _, _, rfl, rfl, _, rfl, ?_⟩
    rw [S_length]
    refine ifB (fun e => ?_) (fun e => ?_)
    · have e3 := of_decide_eq_true e
      refine q2 fun c2 ec hc2 h7 => ?_
      have := S_inj (Th.str.inj ec)
      subst this
      omega
    · have e3 := of_decide_eq_false e
      exact q1 c rfl hc (by omega)
def bTh (q : Nat × Nat) : Th := .tup [.int q.1, .int q.2]
theorem bOk_is {n : Nat} : ∀ {ds : List Th}, bOk n (.lst ds) = true → ∃ bs : List (Nat × Nat), ds = bs.map bTh ∧ ∀ q ∈ bs, q.1 < q.2 ∧ q.2 < n
  | [], _ => ⟨[], rfl, fun q hq => by cases hq⟩
  | d :: ds, h => by
    have h2 : (d.before n && ds.all (·.before n)) = true := h
    rw [Bool.and_eq_true] at h2
    obtain ⟨bs, rfl, hb⟩ := bOk_is (ds := ds) h2.2
    have hd : ∃ q : Nat × Nat, d = bTh q ∧ q.1 < q.2 ∧ q.2 < n := by
      have h3 := h2.1
      cases d with
      | tup l =>
        by_cases hl : l.length = 2
        · obtain ⟨d1, d2, rfl⟩ := two_of hl
          cases hw : d1.within 0 ((n : Int) - 1) with
          | false => rw [before_not hw] at h3; cases h3
          | true =>
            obtain ⟨i, rfl⟩ := within_int hw
            rw [before_int, hw, Bool.true_and] at h3
            obtain ⟨j, rfl⟩ := within_int h3
            have w1 : (decide (0 ≤ i) && decide (i ≤ (n : Int) - 1)) = true := hw
            have w2 : (decide (i + 1 ≤ j) && decide (j ≤ (n : Int) - 1)) = true := h3
            rw [Bool.and_eq_true, decide_eq_true_eq, decide_eq_true_eq] at w1 w2
            refine ⟨(i.toNat, j.toNat), ?_, by show i.toNat < j.toNat; omega, by show j.toNat < n; omega⟩
            show Th.tup [.int i, .int j] = .tup [.int (i.toNat : Int), .int (j.toNat : Int)]
            rw [Int.toNat_of_nonneg w1.1, Int.toNat_of_nonneg (by omega)]
        · rw [before_len hl] at h3
          cases h3
      | _ => cases h3
    obtain ⟨q, rfl, hq⟩ := hd
    exact ⟨q :: bs, rfl, fun y hy => (List.mem_cons.mp hy).elim (fun e => e ▸ hq) (hb y)⟩
def sp_all_orders (K : PySem.W.Frag) : Sp := sp2 fun a b H Q _ => ∃ (c L : Wd) (bs : List (Nat × Nat)), a = .str (S c) ∧ c.length ≤ 7 ∧ L.Nodup ∧ L.length ≤ 5 ∧ (∀ x ∈ c, x ∈ L) ∧ Tg K H b (.lst (bs.map bTh)) ∧ bs.length ≤ 1000 ∧
  (∀ q ∈ bs, q.1 < q.2 ∧ q.2 < c.length) ∧ ∀ ys, IsOrds c bs ys → NewL K H Q (ys.map strV)
theorem pg_two {X : Cx} {K : PySem.W.Frag} {e1 e2 : Expr} {t1 t2 : TG} {k : Nat} {pos : Pos} (hK : X.K = K) (hc : X.calm = true) (h1 : PG X e1 t1) (h2 : PG X e2 t2)
    (hn : (assignEach [e1, e2] X.env).length = 2 := by rfl) (hst : (assignEach [e1, e2] X.env).findIdx? (·.1) = none := by rfl)
    (s1 : (assignEach [e1, e2] X.env).map (·.2) = assign e1 X.env :: (assignEach [e2] X.env).map (·.2) := by rfl) (s2 : (assignEach [e2] X.env).map (·.2) = assign e2 X.env :: (assignEach [] X.env).map (·.2) := by rfl) : PG X (.Tuple [e1, e2] k pos) (gTup K 2 (gCons t1 (gCons t2 gNil))) := by
  subst hK
  exact pg_tup hc (pgs_cons h1 (pgs_cons h2 pgs_nil s2) s1) hn hst
/-! ### readings of lists of places -/
def nV (i : Nat) : V := .int (i : Nat)
theorem inV_nat {x : Nat} {l : List Nat} : inV (nV x) (l.map nV) = decide (x ∈ l) := by
  unfold inV
  induction l with
  | nil => rfl
  | cons a l ih =>
    rw [List.map_cons, List.any_cons, ih]
    have e : eqV (nV a) (nV x) = decide (x = a) := by
      unfold nV eqV
      by_cases h : x = a
      · subst h; simp
      · have : ¬ ((a : Int) = (x : Int)) := by omega
        simp [h, this]
    rw [e, Bool.eq_iff_iff]
    simp [List.mem_cons]
theorem flat_nat {l : List Nat} : (l.map nV).all flatV = true := by
  rw [List.all_map, List.all_eq_true]
  exact fun _ _ => rfl
def aheadL (bs : List (Nat × Nat)) (x : Nat) : List Nat := (bs.filter fun q => decide (q.2 = x)).map (·.1)
theorem okE_all {bs : List (Nat × Nat)} {u : List Nat} {x : Nat} : okE bs u x = (decide (x ∉ u) && (aheadL bs x).all fun o => decide (o ∈ u)) := by
  unfold okE aheadL
  congr 1
  rw [List.all_map, List.all_filter]
  congr 1
  funext q
  by_cases h : q.2 = x
  · simp [h]
  · simp [h]
theorem tg_bTh {K : PySem.W.Frag} {H : Hp} {v : V} {q : Nat × Nat} (g : Tg K H v (bTh q)) : ∃ p, v = .ref p ∧ SqT K H p [nV q.1, nV q.2] := by
  cases g with
  | @tup p xs ds h1 h2 =>
    obtain ⟨x, y, rfl, g1, g2⟩ := h2.two
    cases g1
    cases g2
    exact ⟨p, rfl, h1⟩
/-- the lists of those ahead, by place -/
def LisV (K : PySem.W.Frag) (H : Hp) (v : V) (l : List Nat) : Prop := ∃ p, v = .ref p ∧ SqL K H p (l.map nV)
theorem LisV.mono {K : PySem.W.Frag} {H H' : Hp} {v : V} {l : List Nat} (s : Same H H') (h : LisV K H v l) : LisV K H' v l := by
  obtain ⟨p, e, h⟩ := h
  exact ⟨p, e, s.seq h⟩
def AheadOk (K : PySem.W.Frag) (H : Hp) (ap : Addr) (bs : List (Nat × Nat)) (n : Nat) : Prop := ∃ xs, SqL K H ap xs ∧ Each (LisV K H) xs ((List.range n).map (aheadL bs))
theorem AheadOk.mono {K : PySem.W.Frag} {H H' : Hp} {ap : Addr} {bs : List (Nat × Nat)} {n : Nat} (s : Same H H') (h : AheadOk K H ap bs n) : AheadOk K H' ap bs n := by
  obtain ⟨xs, h1, h2⟩ := h
  exact ⟨xs, s.seq h1, h2.mono fun v l => LisV.mono s⟩
theorem sort_cast (l : List Nat) : (l.map fun n : Nat => (n : Int)).mergeSort (fun a b => decide (a ≤ b)) = (sortN l).map fun n : Nat => (n : Int) := by
  unfold sortN
  rw [List.map_mergeSort (s := fun a b : Int => decide (a ≤ b))]
  intro a _ b _
  simp
theorem nV_map (l : List Nat) : l.map nV = (l.map fun n : Nat => (n : Int)).map V.int := by
  rw [List.map_map] <;> rfl
def LayI (K : PySem.W.Frag) (P : Program) (w : World) (ap : Addr) (bs : List (Nat × Nat)) (c : Wd) (d : Addr) (t : Nat) (H0 H' : Hp) : Prop :=
  ∃ L G, G d = none ∧ Same H0 G ∧ Same G H' ∧ H' d = some (layO P w d L) ∧ L.map (·.1) = lay c bs t ∧ (∀ x ∈ L, KeyAt G x.1 x.2) ∧ AheadOk K G ap bs c.length
def LatI (P : Program) (w : World) (d : Addr) (od : Obj) (L : List (Le × Addr)) (lp : Addr) (G0 : Hp) (X : Lk) (H' : Hp) : Prop :=
  ∃ L2 G, G d = none ∧ G lp = none ∧ Same G0 G ∧ Same G H' ∧ H' d = some (.frz od (layO P w d L)) ∧ H' lp = some (layO P w lp L2) ∧ L2.map (·.1) = X ∧ ∀ x ∈ L2, KeyAt G x.1 x.2
theorem LatI.new {P : Program} {w : World} {d lp T : Addr} {od : Obj} {L : List (Le × Addr)} {G0 H' : Hp} {X : Lk} {o : HO} (h : LatI P w d od L lp G0 X H') (hT : H' T = none) : LatI P w d od L lp G0 X (upd H' T o) := by
  obtain ⟨L2, G, h1, h2, h3, h4, h5, h6, h7, h8⟩ := h
  exact ⟨L2, G, h1, h2, h3, h4.new hT, same_new hT _ _ h5, same_new hT _ _ h6, h7, h8⟩
theorem LatI.same {P : Program} {w : World} {d lp : Addr} {od : Obj} {L : List (Le × Addr)} {G0 H' H2 : Hp} {X : Lk} (h : LatI P w d od L lp G0 X H') (s : Same H' H2) : LatI P w d od L lp G0 X H2 := by
  obtain ⟨L2, G, h1, h2, h3, h4, h5, h6, h7, h8⟩ := h
  exact ⟨L2, G, h1, h2, h3, h4.trans s, s _ _ h5, s _ _ h6, h7, h8⟩
theorem LatI.old {P : Program} {w : World} {d lp : Addr} {od : Obj} {L : List (Le × Addr)} {G0 H' : Hp} {X : Lk} (h : LatI P w d od L lp G0 X H') : Same G0 H' := by
  obtain ⟨L2, G, h1, h2, h3, h4, _⟩ := h
  exact h3.trans h4
/-- a key stored -/
theorem LatI.put {P : Program} {w : World} {d lp q : Addr} {od : Obj} {L : List (Le × Addr)} {G0 H' : Hp} {X : Lk} {e : Le} (h : LatI P w d od L lp G0 X H') (hdl : d ≠ lp) (hX : X.length < sizeLine) (ke : KeyAt H' e q) :
    ∃ L2, H' lp = some (layO P w lp L2) ∧ (∀ x ∈ L2, KeyAt H' x.1 x.2) ∧ L2.length < sizeLine ∧ LatI P w d od L lp G0 (putE X e) (upd H' lp (layO P w lp (putL L2 e q))) := by
  obtain ⟨L2, G, h1, h2, h3, h4, h5, h6, h7, h8⟩ := h
  have hk : ∀ x ∈ L2, KeyAt H' x.1 x.2 := fun x hx => (h8 x hx).mono h4
  have sG : Same G (wo (wo H' d) lp) := wo_to (wo_to h4 h1) h2
  have up : ∀ {e : Le} {q : Addr}, KeyAt H' e q → KeyAt (wo (wo H' d) lp) e q := fun {e q} ⟨u, k1, k2⟩ => by
    have a1 : q ≠ d := fun z => by rw [z, h5] at k1; cases k1
    have a2 : q ≠ lp := fun z => by rw [z, h6] at k1; cases k1
    have a3 : u ≠ d := fun z => by rw [z, h5] at k2; cases k2
    have a4 : u ≠ lp := fun z => by rw [z, h6] at k2; cases k2
    exact ⟨u, by rw [wo_ne a2, wo_ne a1]; exact k1, by rw [wo_ne a4, wo_ne a3]; exact k2⟩
  refine ⟨L2, h6, hk, ?_, putL L2 e q, wo (wo H' d) lp, ?_, wo_at, h3.trans sG, _root_.L2.Same.mut (wo_same.trans wo_same) wo_at, ?_, upd_same, ?_, ?_⟩
  · rw [← h7, List.length_map] at hX
    exact hX
  · rw [wo_ne hdl]
    exact wo_at
  · rw [upd_ne hdl]
    exact h5
  · rw [putL_keys, h7]
    rfl
  · exact putL_all (fun x hx => up (hk x hx)) (up ke)
theorem keyAt_new {Hs : Hp} {tp kq : Addr} {e : Le} {xs1 xs2 : List V} (htk : tp ≠ kq) (e1 : xs1 = [.str (S e.1), .ref tp]) (e2 : xs2 = e.2.map nV) : KeyAt (upd (upd Hs tp (.tup xs2)) kq (.tup xs1)) e kq :=
  ⟨tp, by rw [upd_same, e1], by rw [upd_ne htk, upd_same, e2] <;> rfl⟩
/-- the block of the outer list of ahead -/
abbrev sci_all_orders : Scope := { kind := .function, names := [(".0", .local), ("place", .cell), ("befores", .cell)], isGenerator := false, isCoroutine := false }
/- all_orders: code=0 befores=1 ahead=2 layer=3 turn=4 later=5 made=6 used=7 place=8 row=9 pair=10 other=11; cells ['befores', 'used']; calls []; builtins ['sorted', 'range', 'len', 'enumerate', 'all', 'tuple'] -/
abbrev s_all_orders : Stmt := top 44
theorem sc_all_orders : FnScope ["code", "befores", "ahead", "layer", "turn", "later", "made", "used", "place", "row", "pair", "other"] ["code", "befores"] (defScope s_all_orders) := ⟨rfl, rfl, rfl, by decide +kernel, rfl, by decide +kernel, by decide +kernel⟩
theorem ok_all_orders {P : Program} {w : World} {K : PySem.W.Frag} {mg : Str → Option Value} {base : Heap} (D : Df K mg "all_orders" s_all_orders) (T : Tx K mg)  :
    Cl CX0 P w K mg base 1 "all_orders" (sp_all_orders K) := by
  refine D.ok2 (k := 0) sc_all_orders (fun _ _ _ _ _ _ us hl => match us, hl with | [_, _], _ => rfl) (fun f cdv A outer s H a b Q E hr h => ⟨_, PSs.nox ((pss_cons (ps_setLc (i := 2) (own := [("place", 8)]) rfl sc_all_orders.nd rfl rfl (sw_true rfl rfl rfl (by decide +kernel)) (pi_range1 (by rfl) T.range (pa_cons (pe_callB call_len_str (by rfl) T.len (by decide +kernel) (pa_cons (pv 0) pa_nil)) pa_nil)) (blkOk_by (own := [("place", 8)]) (N := ["code", "befores", "ahead", "layer", "turn", "later", "made", "used", "place", "row", "pair", "other"]) (sc := defScope s_all_orders) (by decide +kernel)) (fun _ _ _ _ _ => (pg_name (i := 8) sc_all_orders.nd rfl (Or.inr rfl))) (fun _ _ _ _ _ => pts_nil) (fun _ _ _ _ _ => (pe_lc (own := [("pair", 10)]) rfl sc_all_orders.nd (piK (t' := iList K _) (pi_list (pv 1)) rfl) (blkOk_by (own := [("pair", 10)]) (N := ["code", "befores", "ahead", "layer", "turn", "later", "made", "used", "place", "row", "pair", "other"]) (sc := sci_all_orders) (by decide +kernel)) (fun _ _ _ _ _ => (pg_name (i := 10) sc_all_orders.nd rfl (Or.inl rfl))) (fun _ _ _ _ _ => (pts_one (pt_cmpR op_eq (pe_ix (r := rIxT K) ix_tup (pv 10) pe_int (fun _ _ => rfl)) (pv 8) (nomark _)))) (fun _ _ _ _ _ => (pe_ix (r := rIxT K) ix_tup (pv 10) pe_int (fun _ _ => rfl))))))
      (pss_cons (ps_set (i := 3) sc_all_orders.nd rfl (Or.inl rfl) (pe_dispN hr.units (pe_tup (pa_cons pe_str (pa_cons (pe_tup pa_nil) pa_nil))) pe_bl))
      (pss_cons (ps_for PassesOwn.never rfl (pi_range1 (by rfl) T.range (pa_cons (pe_callB call_len_str (by rfl) T.len (by decide +kernel) (pa_cons (pv 0) pa_nil)) pa_nil)) (pg_name (i := 4) sc_all_orders.nd rfl (Or.inl rfl)) (pss_cons (ps_set (i := 5) sc_all_orders.nd rfl (Or.inl rfl) pe_dnewN)
      (pss_cons (ps_lock (ps_for PassesOwn.never rfl (pi_keysN (pv 3)) (pg_tup rfl (pgs_cons (pg_name (i := 6) sc_all_orders.nd rfl (Or.inl rfl)) (pgs_cons (pg_name (i := 7) sc_all_orders.nd rfl (Or.inr rfl)) pgs_nil))) (pss_one (ps_for PassesOwn.never rfl (pi_enumS (by rfl) T.enumerate (pa_cons (pv 0) pa_nil)) (pg_tup rfl (pgs_cons (pg_name (i := 8) sc_all_orders.nd rfl (Or.inl rfl)) (pgs_cons (pg_name (i := 9) sc_all_orders.nd rfl (Or.inl rfl)) pgs_nil))) (pss_one (ps_if (PW.pt (pw_and (pt_cmpR op_notIn_seq (pv 8) (pv 7) rfl) (pw_and1 (pt_val (pe_callB (cr_all rfl) (by rfl) T.all (by decide +kernel) (pa_cons (pe_lc (own := [("other", 11)]) rfl sc_all_orders.nd (pi_list (pe_ix ix_list (pv 2) (pv 8) (fun _ _ => rfl))) (blkOk_by (own := [("other", 11)]) (N := ["code", "befores", "ahead", "layer", "turn", "later", "made", "used", "place", "row", "pair", "other"]) (sc := defScope s_all_orders) (by decide +kernel)) (fun _ _ _ _ _ => (pg_name (i := 11) sc_all_orders.nd rfl (Or.inl rfl))) (fun _ _ _ _ _ => pts_nil) (fun _ _ _ _ _ => (pe_cmpR (r := rIn K false) op_in_seq (pv 11) (pv 7) rfl))) pa_nil)))))) (pss_one (ps_dputN (hr.units) (pv 5) (pe_tup (pa_cons (pe_op op_add_str (pv 6) (pv 9)) (pa_cons (pe_callTy call_tuple_of (by rfl) T.tuple_ (by decide +kernel) (pa_cons (pe_callB (cr_sortedTI hr.units) (by rfl) T.sorted (by decide +kernel) (pa_cons (pe_op op_catA (pv 7) (pe_tup (pa_cons (pv 8) pa_nil))) pa_nil)) pa_nil)) pa_nil))) pe_bl)) pss_nil))))))
      (pss_one (ps_set (i := 3) sc_all_orders.nd rfl (Or.inl rfl) (pv 5))))))
      (pss_one (ps_ret (pe_callB (cr_sortedSet rfl hr.units) (by rfl) T.sorted (by decide +kernel) (pa_cons (pe_lock (pe_scT (own := [("made", 6), ("used", 7)]) rfl sc_all_orders.nd (pi_keysN (pv 3)) (blkOk_by (own := [("made", 6), ("used", 7)]) (N := ["code", "befores", "ahead", "layer", "turn", "later", "made", "used", "place", "row", "pair", "other"]) (sc := defScope s_all_orders) (by decide +kernel)) (fun _ _ _ _ _ => (pg_two (K := K) rfl rfl (pg_name (i := 6) sc_all_orders.nd rfl (Or.inl rfl)) (pg_name (i := 7) sc_all_orders.nd rfl (Or.inl rfl)))) (fun _ _ _ _ _ => pts_nil) (fun _ _ _ _ _ => (pv 6)))) pa_nil)))))))), ?_⟩)
  obtain ⟨c, L, bs, rfl, hc, hLn, hL5, hcL, g, hbl, hbs, q⟩ := h
  obtain ⟨bp, bxs, rfl, hbp, hbT⟩ : ∃ bp bxs, b = .ref bp ∧ SqL K H bp bxs ∧ TgAll K H bxs (bs.map bTh) := by
    cases g with
    | @lst p xs ds h1 h2 => exact ⟨p, xs, rfl, h1, h2⟩
  have hsz : (S c).length ≤ sizeLine := szle (by rw [S_length]; omega)
  have hbl2 := hbT.length
  rw [List.length_map] at hbl2
  refine ⟨_, rfl, _, rfl, hsz, ?_⟩
  refine ⟨_, rfl, by rw [S_length]; omega, by rw [S_length]; omega, fun D hD => ?_⟩
  refine lc_it walk_range (AccP H D fun i acc G => Each (LisV K G) acc (((List.range c.length).take i).map (aheadL bs))) (AccP.start hD Each.nil) (fun _ _ _ _ => trivial) ?_ ?_
  · rintro i v H3 H4 hi ⟨acc, G, e3, hG, s4, s5, hE⟩ ⟨rfl, rfl⟩
    rw [S_length] at hi
    have hi2 : i < c.length := by omega
    refine ⟨rfl, _, rfl, bp, rfl, ⟨_, s5.seq (s4.seq hbp)⟩, fun D2 hD2 => ?_⟩
    have hDD : D2 ≠ D := fun z => by rw [z, e3] at hD2; cases hD2
    refine lc_it (walk_list (xs := bxs)) (AccP H4 D2 fun j acc2 _ => acc2 = (aheadL (bs.take j) i).map nV) (AccP.start hD2 rfl) (fun j H5 _ h => ?_) ?_ ?_
    · obtain ⟨acc2, G2, k1, k2, k3, k4, k5⟩ := h
      exact k4.seq (k3.seq (s5.seq (s4.seq hbp)))
    · rintro j v H5 H6 hj ⟨acc2, G2, k1, k2, k3, k4, rfl⟩ ⟨rfl, hv⟩
      obtain ⟨d2, hd2, gd⟩ := hbT.at hv
      rw [List.getElem?_map] at hd2
      obtain ⟨q2, hq2, rfl⟩ := Option.map_eq_some_iff.mp hd2
      obtain ⟨pp, rfl, hpp⟩ := tg_bTh gd
      have hpp2 := k4.seqT (k3.seqT (s5.seqT (s4.seqT hpp)))
      refine ⟨rfl, _, rfl, pp, _, 1, nV q2.2, rfl, rfl, hpp2, atI_nat (j := 1) rfl, _, rfl, rfl, _, rfl, ?_⟩
      have estep : aheadL (bs.take (j + 1)) i = aheadL (bs.take j) i ++ (if q2.2 = i then [q2.1] else []) := by
        unfold aheadL
        rw [List.take_add_one, hq2, List.filter_append, List.map_append]
        by_cases h : q2.2 = i <;> simp [h]
      have edec : decide (nV q2.2 = V.int (0 + (i : Nat))) = decide (q2.2 = i) := by
        unfold nV
        refine decide_eq_decide.mpr ⟨fun z => ?_, fun z => by rw [z, Int.zero_add]⟩
        have := V.int.inj z
        omega
      rw [edec]
      refine ifB (fun e => ?_) (fun e => ?_)
      · refine ⟨_, rfl, pp, _, 0, nV q2.1, rfl, rfl, hpp2, atI_nat (j := 0) rfl, ?_⟩
        have hlen : ((aheadL (bs.take j) i).map nV).length ≤ 1000 := by
          unfold aheadL
          rw [List.length_map, List.length_map]
          refine Nat.le_trans (List.length_filter_le _ _) ?_
          rw [List.length_take]
          omega
        refine AccP.push k1 k2 k3 k4 (szlt (by omega)) ?_
        show _ = (aheadL (bs.take (j + 1)) i).map nV
        rw [estep, if_pos (of_decide_eq_true e), List.map_append] <;> rfl
      · refine ⟨_, G2, k1, k2, k3, k4, ?_⟩
        show _ = (aheadL (bs.take (j + 1)) i).map nV
        rw [estep, if_neg (of_decide_eq_false e), List.append_nil]
    · rintro H5 ⟨acc2, G2, k1, k2, k3, k4, rfl⟩
      have e5 : H5 D = some (.lst acc) := k4 _ _ (k3 _ _ e3)
      have sG : Same G (wo H5 D) := wo_to ((s5.trans k3).trans k4) hG
      have hlen : acc.length < sizeLine := by
        rw [hE.1, List.length_map, List.length_take]
        exact szlt (by omega)
      refine AccP.push e5 wo_at (s4.trans sG) wo_same hlen ?_
      show Each (LisV K (wo H5 D)) (acc ++ [V.ref D2]) (((List.range c.length).take (i + 1)).map (aheadL bs))
      rw [take_map_snoc (List.getElem?_range hi2)]
      refine (hE.mono fun v l => LisV.mono sG).snoc ⟨D2, rfl, sqL_of ?_⟩
      rw [wo_ne hDD, k1, hbl2, List.take_length]
  · rintro H1 ⟨acc, G, e3, hG, s4, s5, hE⟩
    rw [S_length] at hE
    have eT : (List.range c.length).take ((c.length : Nat) : Int).toNat = List.range c.length := by
      rw [Int.toNat_natCast]
      exact List.take_of_length_le (by rw [List.length_range]; exact Nat.le_refl _)
    rw [eT] at hE
    have hA1 : AheadOk K H1 D bs c.length := ⟨acc, sqL_of e3, hE.mono fun v l => LisV.mono s5⟩
    have s01 := s4.trans s5
    generalize H1 = H1 at hA1 s01
    clear e3 hG s4 s5 hE
    intro d0 hd0
    refine ⟨by show 0 ≤ sizeLine; exact Nat.zero_le _, fun u0 hu0 => ?_⟩
    refine ⟨by show 2 ≤ sizeLine; decide, fun q0 hq0 => ?_⟩
    have n1 : d0 ≠ u0 := fun z => by rw [← z, upd_same] at hu0; cases hu0
    have n2 : u0 ≠ q0 := fun z => by rw [← z, upd_same] at hq0; cases hq0
    have n3 : d0 ≠ q0 := fun z => by rw [← z, upd_ne n1, upd_same] at hq0; cases hq0
    have eS : (Str.ofString "" : Str) = S [] := by decide +kernel
    refine ⟨q0, ([], []), rfl, rfl, ⟨u0, by rw [upd_same, eS], (upd_ne n2).trans upd_same⟩, by rw [upd_ne n3, upd_ne n1, upd_same], ?_⟩
    have sz0 : Same H1 (upd (upd (upd H1 d0 (layO P w d0 [])) u0 (.tup [])) q0 (.tup [.str (Str.ofString ""), .ref u0])) := ((same_new hd0).new hu0).new hq0
    have hK0 : KeyAt (upd (upd (upd H1 d0 (layO P w d0 [])) u0 (.tup [])) q0 (.tup [.str (Str.ofString ""), .ref u0])) ([], []) q0 := ⟨u0, by rw [upd_same, eS], (upd_ne n2).trans upd_same⟩
    show _
    refine ⟨_, rfl, _, rfl, hsz, ?_⟩
    refine ⟨_, rfl, by rw [S_length]; omega, by rw [S_length]; omega, ?_⟩
    refine for_range (fun t σ H' => ∃ d z4 z5 z6 z7 z8 z9 z10 z11, σ = [some (.str (S c)), some (.ref bp), some (.ref D), some (.ref d), z4, z5, z6, z7, z8, z9, z10, z11] ∧ LayI K P w D bs c d t H H')
      ⟨d0, _, _, _, _, _, _, _, _, rfl, [(([], []), q0)], wo (upd (upd (upd H1 d0 (layO P w d0 [])) u0 (.tup [])) q0 (.tup [.str (Str.ofString ""), .ref u0])) d0, wo_at, s01.trans (wo_to sz0 hd0), wo_upd, upd_same, rfl, ?_, hA1.mono (wo_to sz0 hd0)⟩ ?_ ?_
    · intro x hx
      rw [List.mem_singleton.mp hx]
      obtain ⟨u, k1, k2⟩ := hK0
      have e1 : u = u0 := by
        rw [upd_same] at k1
        injection k1 with k1
        injection k1 with k1
        injection k1 with _ k1
        injection k1 with k1
        injection k1 with k1
        exact k1.symm
      subst e1
      exact ⟨u, by rw [wo_ne (Ne.symm n3)]; exact k1, by rw [wo_ne (Ne.symm n1)]; exact k2⟩
    · rintro t σ H2 ht ⟨d, z4, z5, z6, z7, z8, z9, z10, z11, rfl, LL, G, g1, g2, g3, g4, g5, g6, g7⟩
      rw [S_length] at ht
      have ht7 : t < 7 := by omega
      intro lp hlp
      have hdl : d ≠ lp := fun z => by rw [← z, g4] at hlp; cases hlp
      refine ⟨d, _, (upd_ne hdl).trans g4, by trivial, fun od => ?_⟩
      have hGl : G lp = none := none_of g3 hlp
      have hLL : LL.length ≤ 7 ^ t := by
        have := lay_len (bs := bs) hc t
        rw [← g5, List.length_map] at this
        exact this
      refine ⟨_, rfl, d, od, LL, rfl, upd_same, ?_⟩
      refine for_it walk_N (fun k σ H' => (∃ z6 z7 z8 z9 z10 z11, σ = [some (.str (S c)), some (.ref bp), some (.ref D), some (.ref d), some (.int (0 + (t : Nat))), some (.ref lp), z6, z7, z8, z9, z10, z11]) ∧ LatI P w d od LL lp G (((LL.take k).map (·.1)).foldl (stepL c bs) []) H')
        ⟨⟨_, _, _, _, _, _, rfl⟩, [], G, g1, hGl, L2.Same.refl _, ?_, upd_same, (upd_ne (Ne.symm hdl)).trans upd_same, rfl, fun x hx => by cases hx⟩ (fun k σ H' _ h => ?_) ?_ ?_
      · intro b o eb
        have h1 : b ≠ d := fun z => by rw [z, g1] at eb; cases eb
        have h2 : b ≠ lp := fun z => by rw [z, hGl] at eb; cases eb
        rw [upd_ne h1, upd_ne h2]
        exact g3 _ _ eb
      · obtain ⟨_, L2, G2, _, _, _, _, h5, _⟩ := h
        exact h5
      · rintro k v σ H3 H4 hk ⟨⟨z6, z7, z8, z9, z10, z11, rfl⟩, hI⟩ ⟨rfl, e, qk, hL, rfl⟩
        obtain ⟨uk, hq1, hq2⟩ := g6 _ (List.mem_of_getElem? hL)
        have hxl : (((LL.take k).map (·.1)).foldl (stepL c bs) []).length ≤ c.length * 7 ^ t := by
          have h := fold_len (k := c.length) (f := stepL c bs) (fun l e => stepL_len l e) ((LL.take k).map (·.1)) []
          rw [List.length_map, List.length_take] at h
          simp only [List.length_nil, Nat.zero_add] at h
          refine Nat.le_trans h (Nat.mul_le_mul_left _ ?_)
          omega
        generalize hX0 : ((LL.take k).map (·.1)).foldl (stepL c bs) [] = X0 at hI hxl
        refine ⟨qk, _, rfl, sqT_of (hI.old _ _ hq1), rfl, ?_⟩
        refine ⟨_, _, rfl, _, _, rfl, rfl, ?_⟩
        refine ⟨_, rfl, S c, rfl, ?_⟩
        refine for_it walk_P (fun x σ H' => (∃ z8 z9 z10 z11, σ = [some (.str (S c)), some (.ref bp), some (.ref D), some (.ref d), some (.int (0 + (t : Nat))), some (.ref lp), some (.str (S e.1)), some (.ref uk), z8, z9, z10, z11]) ∧ LatI P w d od LL lp G ((List.range x).foldl (stepE c bs e) X0) H')
          ⟨⟨_, _, _, _, rfl⟩, hI⟩ (fun _ _ _ _ _ => trivial) ?_ ?_
        · rintro x v σ H5 H6 hx ⟨⟨z8, z9, z10, z11, rfl⟩, hJ⟩ ⟨T1, y1, y2, rfl, hT1, rfl, hy1, hy2⟩
          cases hy1
          obtain ⟨ch, hch, rfl⟩ := Option.map_eq_some_iff.mp hy2
          have hch2 : c[x]? = some ch := by
            have := hch
            rw [← Array.getElem?_toList] at this
            exact this
          have hxc : x < c.length := (List.getElem?_eq_some_iff.mp hch2).1
          have hfold : (List.range (x + 1)).foldl (stepE c bs e) X0 = stepE c bs e ((List.range x).foldl (stepE c bs e) X0) x := by
            rw [List.range_succ, List.foldl_append] <;> rfl
          have hXl : ((List.range x).foldl (stepE c bs e) X0).length < sizeLine := by
            have h := fold_len (k := 1) (f := stepE c bs e) (fun l x => stepE_len l x) (List.range x) X0
            rw [List.length_range] at h
            have h7 : c.length * 7 ^ t ≤ 7 * 7 ^ 6 := Nat.mul_le_mul hc (Nat.pow_le_pow_right (by decide) (by omega))
            have h8 : (7 : Nat) * 7 ^ 6 = 823543 := by decide
            rw [sizeLine_eq]
            omega
          generalize hX1 : (List.range x).foldl (stepE c bs e) X0 = X1 at hJ hfold hXl
          have hJ1 := hJ.new (o := .tup [.int (x : Nat), .str ⟨#[ch]⟩]) hT1
          have hu1 := sqT_of (K := K) (hJ1.old _ _ hq2)
          refine ⟨T1, _, rfl, sqT_of upd_same, rfl, ?_⟩
          refine ⟨_, _, rfl, _, _, rfl, rfl, ?_⟩
          refine ⟨_, rfl, _, rfl, uk, e.2.map nV, rfl, .inr hu1, rfl, flat_nat, _, rfl, ?_⟩
          refine ifB (fun t1 => ?_) (fun t1 => ?_)
          · have t2 : (!inV (nV x) (e.2.map nV)) = true := t1
            rw [inV_nat] at t2
            obtain ⟨xsA, a1, a2⟩ := g7.mono hJ1.old
            obtain ⟨va, hva, pl, rfl, hpl⟩ := a2.at (q := aheadL bs x) (by rw [List.getElem?_map, List.getElem?_range hxc] <;> rfl)
            refine ⟨_, rfl, _, rfl, D, xsA, _, _, rfl, rfl, a1, atI_nat hva, pl, rfl, ⟨_, hpl⟩, fun D3 hD3 => ?_⟩
            refine lc_it (walk_list (xs := (aheadL bs x).map nV)) (AccP _ D3 fun j acc _ => acc = (((aheadL bs x).take j).map fun o => decide (o ∈ e.2)).map V.bl) (AccP.start hD3 rfl) (fun j H7 _ h => ?_) ?_ ?_
            · obtain ⟨acc, G2, k1, k2, k3, k4, k5⟩ := h
              exact k4.seq (k3.seq hpl)
            · rintro j v H7 H8 hj ⟨acc, G2, k1, k2, k3, k4, rfl⟩ ⟨rfl, hv⟩
              rw [List.getElem?_map] at hv
              obtain ⟨o, ho, rfl⟩ := Option.map_eq_some_iff.mp hv
              refine ⟨rfl, _, rfl, _, rfl, uk, e.2.map nV, rfl, .inr (k4.seqT (k3.seqT hu1)), rfl, flat_nat, ?_⟩
              rw [List.length_map] at hj
              have hal : (aheadL bs x).length ≤ 1000 := by
                unfold aheadL
                rw [List.length_map]
                exact Nat.le_trans (List.length_filter_le _ _) hbl
              refine AccP.push k1 k2 k3 k4 (by rw [List.length_map, List.length_map, List.length_take]; exact szlt (by omega)) ?_
              show _ ++ [V.bl (inV (nV o) (e.2.map nV))] = (((aheadL bs x).take (j + 1)).map fun o => decide (o ∈ e.2)).map V.bl
              rw [inV_nat, take_map_snoc ho, List.map_append] <;> rfl
            · rintro H7 ⟨acc, G2, k1, k2, k3, k4, rfl⟩
              rw [List.length_map, List.take_length] at k1
              refine ⟨D3, _, rfl, sqL_of k1, _, rfl, ?_⟩
              have eok : okE bs e.2 x = (((aheadL bs x).map fun o => decide (o ∈ e.2)).all id) := by
                rw [okE_all, List.all_map]
                have h9 : decide (x ∉ e.2) = true := by simpa using t2
                rw [h9, Bool.true_and]
                rfl
              rw [← eok]
              have hJ2 := hJ1.same (k3.trans k4)
              have hu2 := k4.seqT (k3.seqT hu1)
              refine ifB (fun hok => ?_) (fun hok => ?_)
              · have hel : (S e.1).length + (⟨#[ch]⟩ : Str).length ≤ sizeLine := by
                  obtain ⟨pp, hpp, hpl2, he⟩ := mem_lay.mp (show e ∈ lay c bs t by rw [← g5]; exact List.mem_map.mpr ⟨_, List.mem_of_getElem? hL, rfl⟩)
                  rw [he, S_length]
                  unfold rd
                  rw [List.length_map, hpl2]
                  exact szle (by show t + 1 ≤ _; omega)
                refine ⟨_, rfl, _, rfl, _, rfl, _, _, rfl, rfl, hel, ?_⟩
                refine ⟨_, rfl, _, rfl, by show 1 ≤ sizeLine; decide, fun p1 hp1 => ?_⟩
                have hJ2' := hJ2.new (o := .tup [.int (x : Nat)]) hp1
                have hu3 := (same_new (o := .tup [.int (x : Nat)]) hp1).seqT hu2
                have hue : e.2.length ≤ 7 := by
                  obtain ⟨pp, hpp, hpl2, he⟩ := mem_lay.mp (show e ∈ lay c bs t by rw [← g5]; exact List.mem_map.mpr ⟨_, List.mem_of_getElem? hL, rfl⟩)
                  rw [he]
                  show (sortN pp).length ≤ 7
                  rw [(sortN_perm pp).length_eq, hpl2]
                  omega
                refine ⟨uk, p1, e.2.map nV, [nV x], rfl, rfl, hu3, sqT_of upd_same, by rw [List.length_map]; exact szle (by show e.2.length + 1 ≤ _; omega), fun hz => ?_, fun _ z => (nomatch z), fun hne _ rp hrp => ?_⟩
                · have hS := sqT_of (K := K) (H := upd H7 p1 (.tup [.int (x : Nat)])) (a := p1) (xs := ((e.2 ++ [x]).map fun n : Nat => (n : Int)).map V.int) (by rw [← nV_map, upd_same, List.map_append, hz] <;> rfl)
                  refine ⟨p1, _, rfl, hS, fun sp hsp => ?_⟩
                  have hJ3 := hJ2'.new (o := .lst ((((e.2 ++ [x]).map fun n : Nat => (n : Int)).mergeSort fun a b => decide (a ≤ b)).map V.int)) hsp
                  refine ⟨sp, _, rfl, .inl ⟨sqL_of upd_same, fun tp htp => ?_⟩⟩
                  have hJ4 := hJ3.new (o := .tup ((((e.2 ++ [x]).map fun n : Nat => (n : Int)).mergeSort fun a b => decide (a ≤ b)).map V.int)) htp
                  refine ⟨by show 2 ≤ sizeLine; decide, fun kq hkq => ?_⟩
                  have hJ5 := hJ4.new (o := .tup [.str (S e.1 ++ ⟨#[ch]⟩), .ref tp]) hkq
                  have htk : tp ≠ kq := fun z => by rw [← z, upd_same] at hkq; cases hkq
                  have ek1 : ([.str (S e.1 ++ ⟨#[ch]⟩), .ref tp] : List V) = [.str (S (nextE c e x).1), .ref tp] := by
                    show _ = [V.str (S (e.1 ++ [c[x]?.getD 0])), .ref tp]
                    rw [hch2, ← S_app]
                    rfl
                  have ek2 : ((((e.2 ++ [x]).map fun n : Nat => (n : Int)).mergeSort fun a b => decide (a ≤ b)).map V.int) = (nextE c e x).2.map nV := by
                    rw [sort_cast, ← nV_map]
                    rfl
                  obtain ⟨L2, p1, p2, p3, p4⟩ := hJ5.put hdl hXl (keyAt_new htk ek1 ek2)
                  refine ⟨lp, kq, L2, nextE c e x, rfl, rfl, rfl, p1, p2, keyAt_new htk ek1 ek2, p3, ⟨_, _, _, _, rfl⟩, ?_⟩
                  rw [hfold]
                  unfold stepE
                  rw [if_pos hok]
                  exact p4
                · have hJ2'' := hJ2'.new (o := .tup (e.2.map nV ++ [nV x])) hrp
                  have hS := sqT_of (K := K) (H := upd (upd H7 p1 (.tup [.int (x : Nat)])) rp (.tup (e.2.map nV ++ [nV x]))) (a := rp) (xs := ((e.2 ++ [x]).map fun n : Nat => (n : Int)).map V.int) (by rw [← nV_map, upd_same, List.map_append] <;> rfl)
                  refine ⟨rp, _, rfl, hS, fun sp hsp => ?_⟩
                  have hJ3 := hJ2''.new (o := .lst ((((e.2 ++ [x]).map fun n : Nat => (n : Int)).mergeSort fun a b => decide (a ≤ b)).map V.int)) hsp
                  refine ⟨sp, _, rfl, .inl ⟨sqL_of upd_same, fun tp htp => ?_⟩⟩
                  have hJ4 := hJ3.new (o := .tup ((((e.2 ++ [x]).map fun n : Nat => (n : Int)).mergeSort fun a b => decide (a ≤ b)).map V.int)) htp
                  refine ⟨by show 2 ≤ sizeLine; decide, fun kq hkq => ?_⟩
                  have hJ5 := hJ4.new (o := .tup [.str (S e.1 ++ ⟨#[ch]⟩), .ref tp]) hkq
                  have htk : tp ≠ kq := fun z => by rw [← z, upd_same] at hkq; cases hkq
                  have ek1 : ([.str (S e.1 ++ ⟨#[ch]⟩), .ref tp] : List V) = [.str (S (nextE c e x).1), .ref tp] := by
                    show _ = [V.str (S (e.1 ++ [c[x]?.getD 0])), .ref tp]
                    rw [hch2, ← S_app]
                    rfl
                  have ek2 : ((((e.2 ++ [x]).map fun n : Nat => (n : Int)).mergeSort fun a b => decide (a ≤ b)).map V.int) = (nextE c e x).2.map nV := by
                    rw [sort_cast, ← nV_map]
                    rfl
                  obtain ⟨L2, p1, p2, p3, p4⟩ := hJ5.put hdl hXl (keyAt_new htk ek1 ek2)
                  refine ⟨lp, kq, L2, nextE c e x, rfl, rfl, rfl, p1, p2, keyAt_new htk ek1 ek2, p3, ⟨_, _, _, _, rfl⟩, ?_⟩
                  rw [hfold]
                  unfold stepE
                  rw [if_pos hok]
                  exact p4
              · refine ⟨⟨_, _, _, _, rfl⟩, ?_⟩
                rw [hfold]
                unfold stepE
                rw [if_neg (by rw [hok]; exact Bool.false_ne_true)]
                exact hJ2
          · have t2 : (!inV (nV x) (e.2.map nV)) = false := t1
            rw [inV_nat] at t2
            have hok : okE bs e.2 x = false := by
              unfold okE
              have h9 : decide (x ∉ e.2) = false := by simpa using t2
              rw [h9, Bool.false_and]
            refine ⟨⟨_, _, _, _, rfl⟩, ?_⟩
            rw [hfold]
            unfold stepE
            rw [if_neg (by rw [hok]; exact Bool.false_ne_true)]
            exact hJ1
        · rintro σ H5 ⟨⟨z8, z9, z10, z11, rfl⟩, hJ⟩
          have es : (S c).cps.size = c.length := by show c.toArray.size = _; simp
          rw [es] at hJ
          refine ⟨⟨_, _, _, _, _, _, rfl⟩, ?_⟩
          rw [List.take_add_one, hL, List.map_append, List.foldl_append, hX0]
          exact hJ
      · rintro σ H3 ⟨⟨z6, z7, z8, z9, z10, z11, rfl⟩, L2, G2, h1, h2, h3, h4, h5, h6, h7, h8⟩
        refine ⟨h5, _, rfl, lp, _, _, _, _, _, _, _, _, rfl, L2, G2, h2, g2.trans h3, _root_.L2.Same.mut h4 h1, (upd_ne (Ne.symm hdl)).trans h6, ?_, h8, g7.mono h3⟩
        rw [h7, List.take_length, g5]
        rfl
    · rintro σ H2 ⟨d, z4, z5, z6, z7, z8, z9, z10, z11, rfl, LL, G, g1, g2, g3, g4, g5, g6, g7⟩
      have en : (((S c).length : Nat) : Int).toNat = c.length := by rw [S_length, Int.toNat_natCast]
      rw [en] at g5
      refine ⟨d, _, g4, by trivial, fun od => ?_⟩
      have s0 : Same G (upd H2 d (.frz od (layO P w d LL))) := _root_.L2.Same.mut g3 g1
      refine ⟨_, rfl, d, od, LL, rfl, upd_same, fun Ds hDs => ?_⟩
      have hdD : d ≠ Ds := fun z => by rw [← z, upd_same] at hDs; cases hDs
      have hGD : G Ds = none := none_of s0 hDs
      refine sc_it walk_N (fun i H' => ∃ G', G' Ds = none ∧ G' d = none ∧ Same G G' ∧ Same G' H' ∧ H' d = some (.frz od (layO P w d LL)) ∧ ∃ (Mm : Str → Bool) (nn : Nat) (ms : List Wd), H' Ds = some (SetTO w Ds Mm nn) ∧ ms.Nodup ∧ nn = ms.length ∧ (∀ k : Wd, Mm (S k) = true ↔ k ∈ ms) ∧ ∀ m, m ∈ ms ↔ ∃ y ∈ (LL.take i).map (·.1), y.1 = m)
        ⟨G, hGD, g1, _root_.L2.Same.refl _, s0.new hDs, (upd_ne hdD).trans upd_same, _, _, [], upd_same, List.nodup_nil, rfl, fun k => ⟨fun z => (nomatch z), fun z => (nomatch z)⟩, fun m => ⟨fun z => (nomatch z), fun ⟨y, hy, _⟩ => (nomatch hy)⟩⟩ (fun i H' _ h => ?_) ?_ ?_
      · obtain ⟨G', _, _, _, _, h, _⟩ := h
        exact h
      · rintro i v H3 H4 hi ⟨G', k1, k2, k3, k4, k5, Mm, nn, ms, m1, m2, m3, m4, m5⟩ ⟨rfl, e, qk, hL, rfl⟩
        obtain ⟨uk, hq1, hq2⟩ := g6 _ (List.mem_of_getElem? hL)
        refine ⟨qk, _, rfl, sqT_of (k4 _ _ (k3 _ _ hq1)), rfl, ?_⟩
        refine ⟨_, _, rfl, _, _, rfl, rfl, ?_⟩
        refine ⟨rfl, _, rfl, ?_⟩
        have hperm : ∀ m ∈ ms, m.Perm c := fun m hm => by
          obtain ⟨y, hy, rfl⟩ := (m5 m).mp hm
          have hy2 : y ∈ lay c bs c.length := by
            rw [← g5]
            obtain ⟨z, hz, rfl⟩ := List.mem_map.mp hy
            exact List.mem_map.mpr ⟨z, List.mem_of_mem_take hz, rfl⟩
          obtain ⟨pp, hpp, hpl, rfl⟩ := mem_lay.mp hy2
          exact rd_perm hpp hpl
        have hfew := few_orders hLn hL5 hcL hc m2 hperm
        have hex : (LL.take (i + 1)).map (·.1) = (LL.take i).map (·.1) ++ [e] := by
          rw [List.take_add_one, hL, List.map_append] <;> rfl
        refine ⟨S e.1, Mm, nn, rfl, m1, by show nn + 1 < 4096; omega, G', k1, k2, k3, _root_.L2.Same.mut k4 k1, (upd_ne hdD).trans k5, ?_⟩
        by_cases hin : e.1 ∈ ms
        · have hM := (m4 e.1).mpr hin
          refine ⟨_, _, ms, upd_same, m2, by rw [if_pos hM]; exact m3, fun k => ?_, fun m => ?_⟩
          · rw [Bool.or_eq_true, m4 k, decide_eq_true_eq]
            exact ⟨fun z => z.elim id fun z => S_inj z ▸ hin, .inl⟩
          · rw [m5 m, hex]
            constructor
            · rintro ⟨y, hy, h⟩
              exact ⟨y, List.mem_append_left _ hy, h⟩
            · rintro ⟨y, hy, h⟩
              rcases List.mem_append.mp hy with hy | hy
              · exact ⟨y, hy, h⟩
              · rw [List.mem_singleton.mp hy] at h
                exact (m5 m).mp (h ▸ hin)
        · have hM : Mm (S e.1) = false := by
            cases h : Mm (S e.1) with
            | false => rfl
            | true => exact absurd ((m4 e.1).mp h) hin
          refine ⟨_, _, ms ++ [e.1], upd_same, List.nodup_append.mpr ⟨m2, by simp, fun a ha b hb z => ?_⟩, by rw [if_neg (by rw [hM]; exact Bool.false_ne_true), m3, List.length_append] <;> rfl, fun k => ?_, fun m => ?_⟩
          · rw [List.mem_singleton.mp hb] at z
            exact hin (z ▸ ha)
          · rw [Bool.or_eq_true, m4 k, decide_eq_true_eq, List.mem_append, List.mem_singleton]
            exact ⟨fun z => z.imp id S_inj, fun z => z.imp id (congrArg S)⟩
          · rw [List.mem_append, List.mem_singleton, m5 m, hex]
            constructor
            · rintro (⟨y, hy, h⟩ | h)
              · exact ⟨y, List.mem_append_left _ hy, h⟩
              · exact ⟨e, List.mem_append_right _ (List.mem_singleton.mpr rfl), h.symm⟩
            · rintro ⟨y, hy, h⟩
              rcases List.mem_append.mp hy with hy | hy
              · exact .inl ⟨y, hy, h⟩
              · rw [List.mem_singleton.mp hy] at h
                exact .inr h.symm
      · rintro H3 ⟨G', k1, k2, k3, k4, k5, Mm, nn, ms, m1, m2, m3, m4, m5⟩
        refine ⟨k5, Ds, Mm, nn, rfl, (upd_ne (Ne.symm hdD)).trans m1, fun ys hys hmem pf hpf => ?_⟩
        have hfin : IsOrds c bs ys := by
          refine ⟨hys, fun sq => ?_⟩
          rw [hmem sq, m4 sq, m5 sq, List.take_length, g5]
          constructor
          · rintro ⟨y, hy, rfl⟩
            obtain ⟨pp, hpp, hpl, rfl⟩ := mem_lay.mp hy
            exact ⟨pp, hpp, hpl, rfl⟩
          · rintro ⟨pp, hpp, hpl, rfl⟩
            exact ⟨_, mem_lay.mpr ⟨pp, hpp, hpl, rfl⟩, rfl⟩
        have sHG : Same H (upd H3 d (layO P w d LL)) := (g2.trans k3).trans (_root_.L2.Same.mut k4 k2)
        exact q ys hfin pf _ (sHG.new hpf) (none_of sHG hpf) upd_same
end K84
namespace K84
open PySem
theorem vd_range {n : Nat} {bs : List (Nat × Nat)} (h : ∀ q ∈ bs, q.1 < q.2 ∧ q.2 < n) : ∀ m ≤ n, Vd n bs (List.range m)
  | 0, _ => .nil
  | m + 1, hm => by
    rw [List.range_succ]
    refine (vd_range h m (by omega)).snoc (by omega) (fun z => by have := List.mem_range.mp z; omega) fun q hq e => List.mem_range.mpr ?_
    have := (h q hq).1
    omega
theorem ords_ne {c : Wd} {bs : List (Nat × Nat)} {ys : List Wd} (h : ∀ q ∈ bs, q.1 < q.2 ∧ q.2 < c.length) (hy : IsOrds c bs ys) : ys ≠ [] := by
  intro e
  have := (hy.2 (rd c (List.range c.length))).mpr ⟨_, vd_range h _ (Nat.le_refl _), List.length_range, rfl⟩
  rw [e] at this
  cases this
theorem ords_perm {c : Wd} {bs : List (Nat × Nat)} {ys : List Wd} (hy : IsOrds c bs ys) {y : Wd} (h : y ∈ ys) : y.Perm c := by
  obtain ⟨p, hp, hl, rfl⟩ := (hy.2 y).mp h
  exact rd_perm hp hl
/-- the cheapest: the first of the least -/
def chs (tb : Wd → Fq) (w : Nat) (best : Option (Fq × Wd)) (o : Wd) : Option (Fq × Wd) := match best with
  | none => some (prc tb w o, o)
  | some b => if fless (prc tb w o) b.1 = true then some (prc tb w o, o) else some b
def chp (tb : Wd → Fq) (w : Nat) (ys : List Wd) : Option (Fq × Wd) := ys.foldl (chs tb w) none
theorem chp_snoc {tb : Wd → Fq} {w : Nat} {ys : List Wd} {o : Wd} : chp tb w (ys ++ [o]) = chs tb w (chp tb w ys) o := by
  unfold chp
  rw [List.foldl_append]
  rfl
theorem chp_mem {tb : Wd → Fq} {w : Nat} (ys : List Wd) : ∀ b, chp tb w ys = some b → b.2 ∈ ys ∧ b.1 = prc tb w b.2 := by
  have H : ∀ (zs ys : List Wd) (b0 : Option (Fq × Wd)), (∀ b, b0 = some b → b.2 ∈ zs ∧ b.1 = prc tb w b.2) → ∀ b, ys.foldl (chs tb w) b0 = some b → b.2 ∈ zs ++ ys ∧ b.1 = prc tb w b.2 := by
    intro zs ys
    induction ys generalizing zs with
    | nil =>
      intro b0 h b e
      rw [List.append_nil]
      exact h b e
    | cons o ys ih =>
      intro b0 h b e
      have e2 : zs ++ o :: ys = (zs ++ [o]) ++ ys := by simp
      rw [e2]
      refine ih (zs ++ [o]) (chs tb w b0 o) (fun b hb => ?_) b e
      unfold chs at hb
      cases b0 with
      | none =>
        cases hb
        exact ⟨List.mem_append_right _ (List.mem_singleton.mpr rfl), rfl⟩
      | some b1 =>
        dsimp only at hb
        split at hb
        · cases hb
          exact ⟨List.mem_append_right _ (List.mem_singleton.mpr rfl), rfl⟩
        · cases hb
          obtain ⟨h1, h2⟩ := h b rfl
          exact ⟨List.mem_append_left _ h1, h2⟩
  intro b e
  have := H [] ys none (fun b h => by cases h) b e
  exact this
theorem chp_some {tb : Wd → Fq} {w : Nat} {ys : List Wd} (h : ys ≠ []) : ∃ b, chp tb w ys = some b := by
  have H : ∀ (ys : List Wd) (b0 : Fq × Wd), ∃ b, ys.foldl (chs tb w) (some b0) = some b := by
    intro ys
    induction ys with
    | nil => exact fun b0 => ⟨b0, rfl⟩
    | cons o ys ih =>
      intro b0
      show ∃ b, ys.foldl (chs tb w) (chs tb w (some b0) o) = some b
      unfold chs
      dsimp only
      split
      · exact ih _
      · exact ih _
  cases ys with
  | nil => exact absurd rfl h
  | cons o ys => exact H ys _
end K84
set_option maxHeartbeats 4000000
namespace K84
open PySem PySem.Spec PyProof.Rows L2
local macro_rules | `(tactic| walk_at "ix") => `(tactic| first | exact atI_nat (j := 0) rfl | exact atI_nat (j := 1) rfl | exact atI_nat (j := 2) rfl | exact atI_nat (j := 3) rfl | exact atI_nat (j := 4) rfl)
local macro_rules | `(tactic| walk_at "rd") => `(tactic| repeat (first
  | refine ⟨_, rfl, ?_⟩
  | refine ⟨rfl, ?_⟩
  | refine ⟨_, _, rfl, ?_⟩
  | refine ⟨_, _, rfl, rfl, ?_⟩
  | refine ⟨_, _, _, rfl, ?_⟩
  | refine ⟨_, _, _, _, rfl, ?_⟩
  | refine ⟨_, _, _, _, rfl, rfl, (by assumption), (by walk_at "ix"), ?_⟩
  | refine ⟨_, _, _, rfl, rfl, (by assumption), ?_⟩
  | refine ⟨.inl ⟨rfl, _, sqL_of (by assumption)⟩, ?_⟩
  | refine ⟨_, _, _, _, _, rfl, (by assumption), (by assumption), (by assumption), (by assumption), ?_⟩
  | refine ⟨_, _, _, _, _, rfl, .ty _, Tg.ty (by assumption), kit_ty (by first | exact kInt _ | exact kBool _ | exact kStr _ | exact kTup _ | exact kLst _ | exact kDct _), ?_⟩))
/-- the code is right: of these letters, not too long -/
def cOk (r : Wd) : Th → Bool
  | .str s => (s.cps.toList.all fun c => decide (c ∈ r)) && decide (s.cps.toList.length ≤ 7)
  | _ => false
theorem cOk_is {r : Wd} {d : Th} (h : cOk r d = true) : ∃ c, d = .str (S c) ∧ (∀ x ∈ c, x ∈ r) ∧ c.length ≤ 7 := by
  cases d with
  | str s =>
    have h2 : ((s.cps.toList.all fun c => decide (c ∈ r)) && decide (s.cps.toList.length ≤ 7)) = true := h
    rw [Bool.and_eq_true, List.all_eq_true, decide_eq_true_eq] at h2
    exact ⟨s.cps.toList, by rw [S_of], fun x hx => of_decide_eq_true (h2.1 x hx), h2.2⟩
  | _ => cases h
theorem cOk_of {r c : Wd} (h1 : ∀ x ∈ c, x ∈ r) (h2 : c.length ≤ 7) : cOk r (.str (S c)) = true := by
  show ((c.all fun x => decide (x ∈ r)) && decide (c.length ≤ 7)) = true
  rw [Bool.and_eq_true, List.all_eq_true, decide_eq_true_eq]
  exact ⟨fun x hx => decide_eq_true (h1 x hx), h2⟩
/-- things that are not too large -/
structure Few (d e : Th) : Prop where
  c : ∀ c, d = .str (S c) → c.length ≤ 9
  nt : ∀ l, e ≠ .tup l
  l : ∀ l, e = .lst l → l.length ≤ 1000
def sp_check_like_rows (K : PySem.W.Frag) : Sp := sp2 fun a b H Q E => ∃ (r r' : Wd) (ans w m : Nat) (M : Mv) (tb : Wd → Fq), MaO K H a r ans M ∧ PrO K H b r' w tb m ∧ (r = r' → Q .non H) ∧ (r ≠ r' → E (.ref (He.ga K "OtherRows")) none H)
/- check_like_rows: one=0 other=1; cells []; calls []; builtins [] -/
abbrev s_check_like_rows : Stmt := top 30
theorem sc_check_like_rows : FnScope ["one", "other"] ["one", "other"] (defScope s_check_like_rows) := ⟨rfl, rfl, rfl, by decide +kernel, rfl, by decide +kernel, by decide +kernel⟩
theorem ok_check_like_rows {P : Program} {w : World} {K : PySem.W.Frag} {mg : Str → Option Value} {base : Heap} (D : Df K mg "check_like_rows" s_check_like_rows) (T : Tx K mg)  :
    Cl (L2.CX P w) P w K mg base 1 "check_like_rows" (sp_check_like_rows K) := by
  refine D.ok2 (k := 0) sc_check_like_rows (fun _ _ _ _ _ _ us hl => match us, hl with | [_, _], _ => rfl) (fun f cdv A outer s H a b Q E hr h => ⟨_, (pss_one (ps_if (pt_cmpR op_ne (pe_fld (pv 0) (by rfl)) (pe_fld (pv 1) (by rfl)) (nomark _)) (pss_one (ps_raise rfl (takes_of rfl rfl rfl rfl) (pmk_x T.x_OtherRows rfl))) pss_nil)), ?_⟩)
  obtain ⟨r, r', ans, w, m, M, tb, hM, hP, q1, q2⟩ := h
  obtain ⟨oa, C, dx, fs, kt, kvs, rfl, o1, o2, o3, o4, o5, o6, _⟩ := hM
  obtain ⟨pa, C2, dx2, fs2, ta, rfl, p1, p2, p3, p4, p5, p6, _⟩ := hP
  refine ⟨_, rfl, oa, C, dx, fs, _, rfl, o1, o2, o3, o6, ?_⟩
  refine ⟨_, rfl, pa, C2, dx2, fs2, _, rfl, p1, p2, p3, p6, ?_⟩
  refine ⟨rfl, _, rfl, ?_⟩
  by_cases e : r = r'
  · refine ifF ?_ (q1 e)
    rw [e, decide_eq_true rfl] <;> rfl
  · refine ifT ?_ (q2 e)
    rw [decide_eq_false fun z => e (S_inj (V.str.inj z))] <;> rfl
/-- the three ends: refused for the code, for the befores, done -/
def Ends3 (K : PySem.W.Frag) (H : Hp) (E : XK) (r : Wd) (d e : Th) (done : Prop) : Prop :=
  (cOk r d = false → ∀ H', Same H H' → E (.ref (He.ga K "NoCode")) none H') ∧ (∀ c, d = .str (S c) → cOk r d = true → bOk c.length e = false → ∀ H', Same H H' → E (.ref (He.ga K "NoBefores")) none H') ∧
  (∀ c, d = .str (S c) → cOk r d = true → bOk c.length e = true → done)
def sp_orders (K : PySem.W.Frag) : Sp := sp2 fun a b H Q E => ∃ (d e : Th), Tg K H a d ∧ Tg K H b e ∧ Few d e ∧ (∀ c, d = .str (S c) → cOk small d = true → ∃ L : Wd, L.Nodup ∧ L.length ≤ 5 ∧ ∀ x ∈ c, x ∈ L) ∧
  Ends3 K H E small d e (∀ v H', Same H H' → Q v H')
/- orders: code=0 befores=1; cells []; calls ['all_orders', 'check_befores', 'is_any_code']; builtins ['len'] -/
abbrev s_orders : Stmt := top 45
theorem sc_orders : FnScope ["code", "befores"] ["code", "befores"] (defScope s_orders) := ⟨rfl, rfl, rfl, by decide +kernel, rfl, by decide +kernel, by decide +kernel⟩
theorem ok_orders {P : Program} {w : World} {K : PySem.W.Frag} {mg : Str → Option Value} {base : Heap} (D : Df K mg "orders" s_orders) (T : Tx K mg) (c_all_orders : Cl CX0 P w K mg base 1 "all_orders" (sp_all_orders K)) (c_check_befores : Cl (L2.CX P w) P w K mg base 4 "check_befores" (sp_check_befores K)) (c_is_any_code : Cl CX0 P w K mg base 2 "is_any_code" (sp_is_any_code K)) :
    Cl (L2.CX P w) P w K mg base 5 "orders" (sp_orders K) := by
  refine D.ok2 (k := 4) sc_orders (fun _ _ _ _ _ _ us hl => match us, hl with | [_, _], _ => rfl) (fun f cdv A outer s H a b Q E hr h => ⟨_, (pss_cons (ps_if (PW.pt (pw_or (pt_not (pt_val (pe_cl c_is_any_code hr (by decide) pass0 (pa_cons (pv 0) pa_nil)))) (pw_or1 (pt_cmpR op_gt (pe_callB call_len_str (by rfl) T.len (by decide +kernel) (pa_cons (pv 0) pa_nil)) (pe_gcv rfl T.c_MOST_ORDERED) (nomark _))))) (pss_one (ps_raise rfl (takes_of rfl rfl rfl rfl) (pmk_x T.x_NoCode rfl))) pss_nil)
      (pss_cons (ps_expr (pe_cl c_check_befores hr (by decide) (passX (takes_of rfl rfl rfl rfl)) (pa_cons (pv 0) (pa_cons (pv 1) pa_nil))))
      (pss_one (ps_ret (pe_cl c_all_orders hr (by decide) pass0 (pa_cons (pv 0) (pa_cons (pv 1) pa_nil))))))), ?_⟩)
  obtain ⟨d, e, g, ge, hF, hL, q1, q2, q3⟩ := h
  refine ⟨_, rfl, _, rfl, d, g, _, rfl, ?_⟩
  refine ifB (fun t => ?_) (fun t => ?_)
  · have t2 : d.over small = false := by
      cases h : d.over small with
      | false => rfl
      | true => rw [h] at t; cases t
    refine iteT (q1 ?_ H (L2.Same.refl H))
    cases h : cOk small d with
    | false => rfl
    | true =>
      obtain ⟨c, rfl, hc, _⟩ := cOk_is h
      rw [over_yes hc] at t2
      cases t2
  · have t2 : d.over small = true := by
      cases h : d.over small with
      | true => rfl
      | false => rw [h] at t; cases t
    obtain ⟨c, rfl, hc⟩ := over_is t2
    cases g
    have h9 := hF.c c rfl
    refine ⟨_, rfl, _, rfl, szle (by rw [S_length]; omega), _, _, rfl, rfl, _, rfl, ?_⟩
    rw [S_length]
    refine ifB (fun u => ?_) (fun u => ?_)
    · have u2 := of_decide_eq_true u
      refine q1 ?_ H (L2.Same.refl H)
      cases h : cOk small (.str (S c)) with
      | false => rfl
      | true =>
        obtain ⟨c2, ec, _, h7⟩ := cOk_is h
        have := S_inj (Th.str.inj ec)
        subst this
        omega
    · have u2 := of_decide_eq_false u
      have h7 : c.length ≤ 7 := by omega
      have hk := cOk_of hc h7
      refine ⟨_, rfl, _, rfl, _, _, rfl, c, e, rfl, by omega, ge, hF.nt, hF.l, fun hb H1 s1 => ?_, fun hb H1 s1 => q2 c rfl hk hb H1 s1⟩
      obtain ⟨L, l1, l2, l3⟩ := hL c rfl hk
      have hel : ∃ ds, e = .lst ds := by
        cases e with
        | lst l => exact ⟨l, rfl⟩
        | tup l => exact absurd rfl (hF.nt l)
        | _ => cases hb
      obtain ⟨ds, rfl⟩ := hel
      obtain ⟨bs, rfl, hbs⟩ := bOk_is hb
      have hlb := hF.l _ rfl
      rw [List.length_map] at hlb
      exact ⟨_, rfl, _, rfl, _, _, rfl, c, L, bs, rfl, h7, l1, l2, l3, ge.mono s1, hlb, hbs, fun ys _ p H2 s2 _ _ => q3 c rfl hk hb _ H2 (s1.trans s2)⟩
def sp_worst (K : PySem.W.Frag) : Sp := sp2 fun a b H Q E => ∃ (r : Wd) (ans : Nat) (M : Mv) (d : Th), MaO K H a r ans M ∧ Tg K H b d ∧ MvOk M r ans ∧ RowsOk r ∧ (∀ c, d = .str (S c) → c.length ≤ 9) ∧
  (d.over r = false → E (.ref (He.ga K "NoCode")) none H) ∧ (d.over r = true → ∀ v H', Same H H' → Q v H')
/- worst: machine=0 code=1; cells []; calls ['worst_of', 'is_code']; builtins [] -/
abbrev s_worst : Stmt := top 47
theorem sc_worst : FnScope ["machine", "code"] ["machine", "code"] (defScope s_worst) := ⟨rfl, rfl, rfl, by decide +kernel, rfl, by decide +kernel, by decide +kernel⟩
theorem ok_worst {P : Program} {w : World} {K : PySem.W.Frag} {mg : Str → Option Value} {base : Heap} (D : Df K mg "worst" s_worst) (T : Tx K mg) (c_worst_of : Cl CX0 P w K mg base 1 "worst_of" (sp_worst_of K)) (c_is_code : Cl CX0 P w K mg base 2 "is_code" (sp_is_code K)) :
    Cl (L2.CX P w) P w K mg base 3 "worst" (sp_worst K) := by
  refine D.ok2 (k := 2) sc_worst (fun _ _ _ _ _ _ us hl => match us, hl with | [_, _], _ => rfl) (fun f cdv A outer s H a b Q E hr h => ⟨_, (pss_cons (ps_if (pt_not (pt_val (pe_cl c_is_code hr (by decide) pass0 (pa_cons (pe_fld (pv 0) (by rfl)) (pa_cons (pv 1) pa_nil))))) (pss_one (ps_raise rfl (takes_of rfl rfl rfl rfl) (pmk_x T.x_NoCode rfl))) pss_nil)
      (pss_one (ps_ret (pe_cl c_worst_of hr (by decide) pass0 (pa_cons (pv 0) (pa_cons (pv 1) pa_nil)))))), ?_⟩)
  obtain ⟨r, ans, M, d, hM, g, hMk, hrr, h9, q1, q2⟩ := h
  obtain ⟨oa, C, dx, fs, kt, kvs, rfl, o1, o2, o3, o4, o5, o6, _⟩ := id hM
  refine ⟨_, rfl, oa, C, dx, fs, _, rfl, o1, o2, o3, o6, ?_⟩
  refine ⟨_, rfl, _, _, rfl, r, d, rfl, g, _, rfl, ?_⟩
  refine ifB (fun t => ?_) (fun t => ?_)
  · refine q1 ?_
    cases h : d.over r with
    | false => rfl
    | true => rw [h] at t; cases t
  · have t2 : d.over r = true := by
      cases h : d.over r with
      | true => rfl
      | false => rw [h] at t; cases t
    obtain ⟨c, rfl, hc⟩ := over_is t2
    cases g
    exact ⟨_, rfl, _, rfl, _, _, rfl, r, c, ans, M, hM, rfl, hMk, hrr, hc, h9 c rfl, fun H' s => q2 t2 _ H' s⟩
theorem bOk_lst {n : Nat} {d e : Th} (hF : Few d e) (hb : bOk n e = true) : ∃ bs : List (Nat × Nat), e = .lst (bs.map bTh) ∧ bs.length ≤ 1000 ∧ ∀ q ∈ bs, q.1 < q.2 ∧ q.2 < n := by
  have hel : ∃ ds, e = .lst ds := by
    cases e with
    | lst l => exact ⟨l, rfl⟩
    | tup l => exact absurd rfl (hF.nt l)
    | _ => cases hb
  obtain ⟨ds, rfl⟩ := hel
  obtain ⟨bs, rfl, hbs⟩ := bOk_is hb
  have hlb := hF.l _ rfl
  rw [List.length_map] at hlb
  exact ⟨bs, rfl, hlb, hbs⟩
theorem check_far {r : Wd} {d : Th} (h : ∀ c, d = .str (S c) → (∀ x ∈ c, x ∈ r) → c.length ≤ 7 → False) : cOk r d = false := by
  cases h2 : cOk r d with
  | false => rfl
  | true =>
    obtain ⟨c, e, h3, h4⟩ := cOk_is h2
    exact (h c e h3 h4).elim
def sp_quickest (K : PySem.W.Frag) : Sp := sp3 fun a b c0 H Q E => ∃ (r : Wd) (ans : Nat) (M : Mv) (d e : Th), MaO K H a r ans M ∧ Tg K H b d ∧ Tg K H c0 e ∧ MvOk M r ans ∧ RowsOk r ∧ Few d e ∧
  (cOk r d = false → ∀ H', Same H H' → E (.ref (He.ga K "NoCode")) none H') ∧ (∀ c, d = .str (S c) → cOk r d = true → bOk c.length e = false → ∀ H', Same H H' → E (.ref (He.ga K "NoBefores")) none H') ∧
  (∀ c bs ys, d = .str (S c) → e = .lst (bs.map bTh) → (∀ x ∈ c, x ∈ r) → c.length ≤ 7 → (∀ q ∈ bs, q.1 < q.2 ∧ q.2 < c.length) → IsOrds c bs ys → ∀ v H' m, Same H H' → PairV K H' v m → (∃ y ∈ ys, m.1 = wst M r y) → (∀ y ∈ ys, m.1 ≤ wst M r y) → Q v H')
/- quickest: machine=0 code=1 befores=2 order=3; cells ['machine']; calls ['all_orders', 'worst_of', 'check_befores', 'check_ordered']; builtins ['min'] -/
abbrev s_quickest : Stmt := top 48
theorem sc_quickest : FnScope ["machine", "code", "befores", "order"] ["machine", "code", "befores"] (defScope s_quickest) := ⟨rfl, rfl, rfl, by decide +kernel, rfl, by decide +kernel, by decide +kernel⟩
theorem ok_quickest {P : Program} {w : World} {K : PySem.W.Frag} {mg : Str → Option Value} {base : Heap} (D : Df K mg "quickest" s_quickest) (T : Tx K mg) (c_all_orders : Cl CX0 P w K mg base 1 "all_orders" (sp_all_orders K)) (c_worst_of : Cl CX0 P w K mg base 1 "worst_of" (sp_worst_of K)) (c_check_befores : Cl (L2.CX P w) P w K mg base 4 "check_befores" (sp_check_befores K)) (c_check_ordered : Cl (L2.CX P w) P w K mg base 3 "check_ordered" (sp_check_ordered K)) :
    Cl (L2.CX P w) P w K mg base 5 "quickest" (sp_quickest K) := by
  refine D.ok3 (k := 4) sc_quickest (fun _ _ _ _ _ _ us hl => match us, hl with | [_, _, _], _ => rfl) (fun f cdv A outer s H a b c Q E hr h => ⟨_, (pss_cons (ps_expr (pe_cl c_check_ordered hr (by decide) (passX (takes_of rfl rfl rfl rfl)) (pa_cons (pe_fld (pv 0) (by rfl)) (pa_cons (pv 1) pa_nil))))
      (pss_cons (ps_expr (pe_cl c_check_befores hr (by decide) (passX (takes_of rfl rfl rfl rfl)) (pa_cons (pv 1) (pa_cons (pv 2) pa_nil))))
      (pss_one (ps_ret (pe_callB (cr_minT rfl hr.units) (by rfl) T.min (by decide +kernel) (pa_cons (pe_lc (own := [("order", 3)]) rfl sc_quickest.nd (pi_list (pe_cl c_all_orders hr (by decide) pass0 (pa_cons (pv 1) (pa_cons (pv 2) pa_nil)))) (blkOk_by (own := [("order", 3)]) (N := ["machine", "code", "befores", "order"]) (sc := defScope s_quickest) (by decide +kernel)) (fun _ _ _ _ _ => (pg_name (i := 3) sc_quickest.nd rfl (Or.inl rfl))) (fun _ _ _ _ _ => pts_nil) (fun _ _ _ _ _ => (pe_tup (pa_cons (pe_cl c_worst_of hr (by decide) pass0 (pa_cons (pv 0) (pa_cons (pv 3) pa_nil))) (pa_cons (pv 3) pa_nil))))) pa_nil)))))), ?_⟩)
  obtain ⟨r, ans, M, d, e, hM, g, ge, hMk, hrr, hF, q1, q2, q3⟩ := h
  obtain ⟨oa, C, dx, fs, kt, kvs, rfl, o1, o2, o3, o4, o5, o6, _⟩ := id hM
  refine ⟨_, rfl, oa, C, dx, fs, _, rfl, o1, o2, o3, o6, ?_⟩
  refine ⟨_, rfl, _, _, rfl, r, d, rfl, g, fun c ec => by have := hF.c c ec; omega, fun c ec hc h7 => ?_, fun hf => q1 (check_far hf) H (L2.Same.refl H)⟩
  subst ec
  cases g
  have hk := cOk_of hc h7
  refine ⟨_, rfl, _, rfl, _, _, rfl, c, e, rfl, by omega, ge, hF.nt, hF.l, fun hb H1 s1 => ?_, fun hb H1 s1 => q2 c rfl hk hb H1 s1⟩
  obtain ⟨bs, rfl, hlb, hbs⟩ := bOk_lst hF hb
  refine ⟨_, rfl, _, rfl, _, _, rfl, c, r, bs, rfl, h7, hrr.nd, by have := hrr.le; omega, hc, ge.mono s1, hlb, hbs, fun ys hys yp H2 s2 hyp eyp => ?_⟩
  have hne := ords_ne hbs hys
  refine ⟨yp, rfl, ⟨_, sqL_of eyp⟩, fun D hD => ?_⟩
  have hyr : ∀ y ∈ ys, (∀ x ∈ y, x ∈ r) ∧ y.length ≤ 7 := fun y hy => by
    have hp := ords_perm hys hy
    exact ⟨fun x hx => hc x (hp.mem_iff.mp hx), by rw [hp.length_eq]; exact h7⟩
  have hyl : ys.length ≤ 3000 := few_orders (L := r) hrr.nd (by have := hrr.le; omega) hc h7 (strict_nd hys.1) (fun m hm => ords_perm hys hm)
  refine lc_it (walk_list (xs := ys.map strV)) (AccP H2 D fun i acc G => Each (PairV K G) acc ((ys.take i).map fun y => (wst M r y, y))) (AccP.start hD Each.nil) (fun j H3 _ h => ?_) ?_ ?_
  · obtain ⟨acc, G, e2, hG, k1, k2, e3⟩ := h
    exact k2.seq (k1.seq (sqL_of eyp))
  · rintro j v H3 H4 hj ⟨acc, G, e3, hG, s4, s5, hE⟩ ⟨rfl, hv⟩
    rw [List.getElem?_map] at hv
    obtain ⟨y, hy, rfl⟩ := Option.map_eq_some_iff.mp hv
    obtain ⟨y1, y2⟩ := hyr y (List.mem_of_getElem? hy)
    refine ⟨rfl, _, rfl, _, rfl, _, _, rfl, r, y, ans, M, hM.mono (s1.trans (s2.trans (s4.trans s5))), rfl, hMk, hrr, y1, by omega, fun H5 s6 => ?_⟩
    refine ⟨_, rfl, by show 2 ≤ sizeLine; decide, fun pp hpp => ?_⟩
    have e5 := s6 _ _ e3
    have hpD : pp ≠ D := fun z => by rw [z, e5] at hpp; cases hpp
    have hGp : G pp = none := none_of (s5.trans s6) hpp
    have hlen : acc.length < sizeLine := by
      rw [hE.1, List.length_map, List.length_take]
      exact szlt (by omega)
    refine AccP.push ((upd_ne (Ne.symm hpD)).trans e5) (G := upd G pp (.tup [.int (wst M r y), strV y])) ((upd_ne (Ne.symm hpD)).trans hG) (s4.new hGp) ?_ hlen ?_
    · intro b o eb
      by_cases hb : b = pp
      · rw [hb, upd_same] at eb ⊢
        exact eb
      · rw [upd_ne hb] at eb ⊢
        exact s6 _ _ (s5 _ _ eb)
    · show Each (PairV K _) (acc ++ [V.ref pp]) ((ys.take (j + 1)).map fun y => (wst M r y, y))
      rw [take_map_snoc hy]
      exact (hE.mono fun v m ⟨b, eb, hb⟩ => ⟨b, eb, same_new hGp _ _ hb⟩).snoc ⟨pp, rfl, upd_same⟩
  · rintro H3 ⟨acc, G, e3, hG, s4, s5, hE⟩
    rw [List.length_map, List.take_length] at hE
    have s03 := s1.trans (s2.trans (s4.trans s5))
    refine ⟨D, acc, _, rfl, e3, hE.mono fun v m ⟨b, eb, hb⟩ => ⟨b, eb, s5 _ _ hb⟩, fun z => hne (List.map_eq_nil_iff.mp z), fun v m hm hle hP => ?_⟩
    obtain ⟨y, hy, rfl⟩ := List.mem_map.mp hm
    exact q3 c bs ys rfl rfl hc h7 hbs hys v H3 _ s03 hP ⟨y, hy, rfl⟩ fun z hz => hle _ (List.mem_map.mpr ⟨z, hz, rfl⟩)
def BestV (K : PySem.W.Frag) (H : Hp) (v : V) (b : Fq × Wd) : Prop := ∃ p fv, v = .ref p ∧ SqT K H p [fv, strV b.2] ∧ FrV K H fv b.1
theorem BestV.mono {K : PySem.W.Frag} {H H' : Hp} {v : V} {b : Fq × Wd} (s : Same H H') (h : BestV K H v b) : BestV K H' v b := by
  obtain ⟨p, fv, e, h1, h2⟩ := h
  exact ⟨p, fv, e, s.seqT h1, h2.mono s⟩
def BestO (K : PySem.W.Frag) (H : Hp) (v : V) : Option (Fq × Wd) → Prop
  | none => v = .non
  | some b => BestV K H v b
theorem BestO.mono {K : PySem.W.Frag} {H H' : Hp} {v : V} : ∀ {b : Option (Fq × Wd)}, Same H H' → BestO K H v b → BestO K H' v b
  | none, _, h => h
  | some _, s, h => BestV.mono s h
theorem prc_fb {tb : Wd → Fq} {r c : Wd} {w m : Nat} (h : ∀ n ∈ st r w, FB m (tb n)) (hc : ∀ x ∈ c, x ∈ r) (hl : c.length ≤ 7) (hm : m ≤ 200) : FB 1408 (prc tb w c) := by
  have h1 := fsum_fb (m := m) (l := (stq w c).map tb) fun q hq => by
    obtain ⟨x, hx, rfl⟩ := List.mem_map.mp hq
    exact h x (stq_mem hc hx)
  refine h1.mono ?_
  rw [List.length_map, stq_length]
  have k1 : (m + 1) * c.length ≤ 201 * 7 := Nat.mul_le_mul (by omega) hl
  omega
def sp_cheapest (K : PySem.W.Frag) : Sp := sp3 fun a b c0 H Q E => ∃ (r : Wd) (w m : Nat) (tb : Wd → Fq) (d e : Th), PrO K H a r w tb m ∧ 1 ≤ w ∧ m ≤ 200 ∧ Tg K H b d ∧ Tg K H c0 e ∧ RowsOk r ∧ Few d e ∧
  (cOk r d = false → ∀ H', Same H H' → E (.ref (He.ga K "NoCode")) none H') ∧ (∀ c, d = .str (S c) → cOk r d = true → bOk c.length e = false → ∀ H', Same H H' → E (.ref (He.ga K "NoBefores")) none H') ∧
  (∀ c bs ys, d = .str (S c) → e = .lst (bs.map bTh) → (∀ x ∈ c, x ∈ r) → c.length ≤ 7 → (∀ q ∈ bs, q.1 < q.2 ∧ q.2 < c.length) → IsOrds c bs ys → ∀ v H' best, Same H H' → chp tb w ys = some best → BestV K H' v best → Q v H')
/- cheapest: prices=0 code=1 befores=2 best=3 order=4 cost=5; cells []; calls ['all_orders', 'is_less', 'price', 'check_befores', 'check_ordered']; builtins [] -/
abbrev s_cheapest : Stmt := top 49
theorem sc_cheapest : FnScope ["prices", "code", "befores", "best", "order", "cost"] ["prices", "code", "befores"] (defScope s_cheapest) := ⟨rfl, rfl, rfl, by decide +kernel, rfl, by decide +kernel, by decide +kernel⟩
theorem ok_cheapest {P : Program} {w : World} {K : PySem.W.Frag} {mg : Str → Option Value} {base : Heap} (D : Df K mg "cheapest" s_cheapest) (T : Tx K mg) (c_all_orders : Cl CX0 P w K mg base 1 "all_orders" (sp_all_orders K)) (c_is_less : Cl CX0 P w K mg base 1 "is_less" (sp_is_less K)) (c_price : Cl (L2.CX P w) P w K mg base 6 "price" (sp_price K)) (c_check_befores : Cl (L2.CX P w) P w K mg base 4 "check_befores" (sp_check_befores K)) (c_check_ordered : Cl (L2.CX P w) P w K mg base 3 "check_ordered" (sp_check_ordered K)) :
    Cl (L2.CX P w) P w K mg base 7 "cheapest" (sp_cheapest K) := by
  refine D.ok3 (k := 6) sc_cheapest (fun _ _ _ _ _ _ us hl => match us, hl with | [_, _, _], _ => rfl) (fun f cdv A outer s H a b c Q E hr h => ⟨_, (pss_cons (ps_expr (pe_cl c_check_ordered hr (by decide) (passX (takes_of rfl rfl rfl rfl)) (pa_cons (pe_fld (pv 0) (by rfl)) (pa_cons (pv 1) pa_nil))))
      (pss_cons (ps_expr (pe_cl c_check_befores hr (by decide) (passX (takes_of rfl rfl rfl rfl)) (pa_cons (pv 1) (pa_cons (pv 2) pa_nil))))
      (pss_cons (ps_set (i := 3) sc_cheapest.nd rfl (Or.inl rfl) pe_non)
      (pss_cons (ps_for (passes_of rfl) rfl (pi_list (pe_cl c_all_orders hr (by decide) pass0 (pa_cons (pv 1) (pa_cons (pv 2) pa_nil)))) (pg_name (i := 4) sc_cheapest.nd rfl (Or.inl rfl)) (pss_cons (ps_set (i := 5) sc_cheapest.nd rfl (Or.inl rfl) (pe_cl c_price hr (by decide) (passX (takes_of rfl rfl rfl rfl)) (pa_cons (pv 0) (pa_cons (pv 4) pa_nil))))
      (pss_one (ps_if (PW.pt (pw_or (pt_cmpR op_isN (pv 3) pe_non (nomark _)) (pw_or1 (pt_val (pe_cl c_is_less hr (by decide) pass0 (pa_cons (pv 5) (pa_cons (pe_ix ix_tup (pv 3) pe_int (fun _ _ => rfl)) pa_nil))))))) (pss_one (ps_set (i := 3) sc_cheapest.nd rfl (Or.inl rfl) (pe_tup (pa_cons (pv 5) (pa_cons (pv 4) pa_nil))))) pss_nil))))
      (pss_one (ps_ret (pv 3))))))), ?_⟩)
  obtain ⟨r, w, m, tb, d, e, hP, hw, hm, g, ge, hrr, hF, q1, q2, q3⟩ := h
  obtain ⟨oa, C, dx, fs, ta, rfl, o1, o2, o3, o4, o5, o6, o7, o8, o9⟩ := id hP
  refine ⟨_, rfl, oa, C, dx, fs, _, rfl, o1, o2, o3, o6, ?_⟩
  refine ⟨_, rfl, _, _, rfl, r, d, rfl, g, fun c ec => by have := hF.c c ec; omega, fun c ec hc h7 => ?_, fun hf => q1 (check_far hf) H (L2.Same.refl H)⟩
  subst ec
  cases g
  have hk := cOk_of hc h7
  refine ⟨_, rfl, _, rfl, _, _, rfl, c, e, rfl, by omega, ge, hF.nt, hF.l, fun hb H1 s1 => ?_, fun hb H1 s1 => q2 c rfl hk hb H1 s1⟩
  obtain ⟨bs, rfl, hlb, hbs⟩ := bOk_lst hF hb
  refine ⟨_, rfl, _, rfl, _, _, rfl, c, r, bs, rfl, h7, hrr.nd, by have := hrr.le; omega, hc, ge.mono s1, hlb, hbs, fun ys hys yp H2 s2 hyp eyp => ?_⟩
  have hne := ords_ne hbs hys
  have hyr : ∀ y ∈ ys, (∀ x ∈ y, x ∈ r) ∧ y.length ≤ 7 := fun y hy => by
    have hp := ords_perm hys hy
    exact ⟨fun x hx => hc x (hp.mem_iff.mp hx), by rw [hp.length_eq]; exact h7⟩
  refine ⟨yp, rfl, ⟨_, sqL_of eyp⟩, ?_⟩
  refine for_list (xs := ys.map strV) (fun i σ H' => Same H2 H' ∧ ∃ v z5 z6, σ = [some (.ref oa), some (.str (S c)), some _, some v, z5, z6] ∧ BestO K H' v (chp tb w (ys.take i))) ⟨L2.Same.refl _, .non, _, _, rfl, rfl⟩ (fun i σ H' _ h => h.1.seq (sqL_of eyp)) ?_ ?_
  · rintro i v σ H3 hv ⟨s3, u, z5, z6, rfl, hB⟩
    rw [List.getElem?_map] at hv
    obtain ⟨y, hy, rfl⟩ := Option.map_eq_some_iff.mp hv
    obtain ⟨y1, y2⟩ := hyr y (List.mem_of_getElem? hy)
    have hP3 := hP.mono (s1.trans (s2.trans s3))
    refine ⟨_, rfl, _, rfl, _, _, rfl, y, r, w, m, tb, rfl, hP3, hw, y1, by omega, hm, fun cv H4 s4 hcv => ?_⟩
    have hB4 := hB.mono s4
    have et : chp tb w (ys.take (i + 1)) = chs tb w (chp tb w (ys.take i)) y := by
      rw [List.take_add_one, hy]
      exact chp_snoc
    cases hbest : chp tb w (ys.take i) with
    | none =>
      rw [hbest] at hB4
      have eu : u = .non := hB4
      subst eu
      refine ⟨_, rfl, rfl, _, rfl, ?_⟩
      refine ifT (by decide) (iteT ?_)
      refine ⟨_, rfl, _, rfl, by show 2 ≤ sizeLine; decide, fun np hnp => ?_⟩
      refine ⟨s3.trans (s4.new hnp), _, _, _, rfl, ?_⟩
      rw [et, hbest]
      exact ⟨np, cv, rfl, sqT_of upd_same, hcv.mono (same_new hnp)⟩
    | some b =>
      rw [hbest] at hB4
      obtain ⟨bp, bf, rfl, hb1, hb2⟩ := id hB4
      obtain ⟨bm1, bm2⟩ := chp_mem _ _ hbest
      obtain ⟨z1, z2⟩ := hyr b.2 (List.mem_of_mem_take bm1)
      refine ⟨_, rfl, rfl, _, rfl, ?_⟩
      refine ifF (decide_eq_false fun z => (nomatch z)) ?_
      refine ⟨_, rfl, _, rfl, bp, _, 0, bf, rfl, rfl, hb1, atI_nat (j := 0) rfl, ?_⟩
      have f1 := prc_fb (fun n hn => (o9.ok n hn).1) y1 y2 hm
      have f2 : FB 1408 b.1 := by
        rw [bm2]
        exact prc_fb (fun n hn => (o9.ok n hn).1) z1 z2 hm
      refine ⟨_, _, rfl, prc tb w y, b.1, 1408, 1408, hcv, hb2, f1, f2, by decide, _, rfl, ?_⟩
      refine ifB (fun hl => ?_) (fun hl => ?_)
      · refine ⟨_, rfl, _, rfl, by show 2 ≤ sizeLine; decide, fun np hnp => ?_⟩
        refine ⟨s3.trans (s4.new hnp), _, _, _, rfl, ?_⟩
        rw [et, hbest]
        unfold chs
        dsimp only
        rw [if_pos hl]
        exact ⟨np, cv, rfl, sqT_of upd_same, hcv.mono (same_new hnp)⟩
      · refine ⟨s3.trans s4, _, _, _, rfl, ?_⟩
        rw [et, hbest]
        unfold chs
        dsimp only
        rw [if_neg (by rw [hl]; exact Bool.false_ne_true)]
        exact hB4
  · rintro σ H3 ⟨s3, u, z5, z6, rfl, hB⟩
    obtain ⟨best, hbest⟩ := chp_some (tb := tb) (w := w) hne
    rw [List.length_map, List.take_length, hbest] at hB
    exact ⟨_, rfl, q3 c bs ys rfl rfl hc h7 hbs hys _ H3 best (s1.trans (s2.trans s3)) hbest hB⟩
def sp_waste (K : PySem.W.Frag) : Sp := sp4 fun a p b c0 H Q E => ∃ (r r' : Wd) (ans w m : Nat) (M : Mv) (tb : Wd → Fq) (d e : Th), MaO K H a r ans M ∧ PrO K H p r' w tb m ∧ 1 ≤ w ∧ m ≤ 200 ∧ Tg K H b d ∧ Tg K H c0 e ∧ MvOk M r ans ∧ RowsOk r ∧ Few d e ∧
  (r ≠ r' → E (.ref (He.ga K "OtherRows")) none H) ∧ (r = r' → cOk r d = false → ∀ H', Same H H' → E (.ref (He.ga K "NoCode")) none H') ∧ (r = r' → ∀ c, d = .str (S c) → cOk r d = true → bOk c.length e = false → ∀ H', Same H H' → E (.ref (He.ga K "NoBefores")) none H') ∧
  (r = r' → ∀ c bs ys, d = .str (S c) → e = .lst (bs.map bTh) → (∀ x ∈ c, x ∈ r) → c.length ≤ 7 → (∀ q ∈ bs, q.1 < q.2 ∧ q.2 < c.length) → IsOrds c bs ys → ∀ H' best k, Same H H' → chp tb w ys = some best → (∃ y ∈ ys, k = wst M r y) → (∀ y ∈ ys, k ≤ wst M r y) → Q (.int (wst M r best.2 - k)) H')
/- waste: machine=0 prices=1 code=2 befores=3 least=4; cells []; calls ['worst_of', 'cheapest', 'quickest', 'check_like_rows']; builtins [] -/
abbrev s_waste : Stmt := top 50
theorem sc_waste : FnScope ["machine", "prices", "code", "befores", "least"] ["machine", "prices", "code", "befores"] (defScope s_waste) := ⟨rfl, rfl, rfl, by decide +kernel, rfl, by decide +kernel, by decide +kernel⟩
theorem ok_waste {P : Program} {w : World} {K : PySem.W.Frag} {mg : Str → Option Value} {base : Heap} (D : Df K mg "waste" s_waste) (T : Tx K mg) (c_worst_of : Cl CX0 P w K mg base 1 "worst_of" (sp_worst_of K)) (c_cheapest : Cl (L2.CX P w) P w K mg base 7 "cheapest" (sp_cheapest K)) (c_quickest : Cl (L2.CX P w) P w K mg base 5 "quickest" (sp_quickest K)) (c_check_like_rows : Cl (L2.CX P w) P w K mg base 1 "check_like_rows" (sp_check_like_rows K)) :
    Cl (L2.CX P w) P w K mg base 8 "waste" (sp_waste K) := by
  refine D.ok4 (k := 7) sc_waste (fun _ _ _ _ _ _ us hl => match us, hl with | [_, _, _, _], _ => rfl) (fun f cdv A outer s H a b c d Q E hr h => ⟨_, (pss_cons (ps_expr (pe_cl c_check_like_rows hr (by decide) (passX (takes_of rfl rfl rfl rfl)) (pa_cons (pv 0) (pa_cons (pv 1) pa_nil))))
      (pss_cons (ps_set (i := 4) sc_waste.nd rfl (Or.inl rfl) (pe_ix ix_tup (pe_cl c_quickest hr (by decide) (passX (takes_of rfl rfl rfl rfl)) (pa_cons (pv 0) (pa_cons (pv 2) (pa_cons (pv 3) pa_nil)))) pe_int (fun _ _ => rfl)))
      (pss_one (ps_ret (pe_op op_sub (pe_cl c_worst_of hr (by decide) pass0 (pa_cons (pv 0) (pa_cons (pe_ix ix_tup (pe_cl c_cheapest hr (by decide) (passX (takes_of rfl rfl rfl rfl)) (pa_cons (pv 1) (pa_cons (pv 2) (pa_cons (pv 3) pa_nil)))) pe_int (fun _ _ => rfl)) pa_nil))) (pv 4)))))), ?_⟩)
  obtain ⟨r, r', ans, w, m, M, tb, d, e, hM, hP, hw, hm, g, ge, hMk, hrr, hF, q0, q1, q2, q3⟩ := h
  refine ⟨_, rfl, _, rfl, _, _, rfl, r, r', ans, w, m, M, tb, hM, hP, fun er => ?_, fun er => q0 er⟩
  subst er
  refine ⟨_, rfl, _, rfl, _, rfl, _, _, _, rfl, r, ans, M, d, e, hM, g, ge, hMk, hrr, hF, fun h H' s => q1 rfl h H' s, fun c h1 h2 h3 H' s => q2 rfl c h1 h2 h3 H' s, fun c bs ys ec ee hc h7 hbs hys v H1 k s1 hk hk1 hk2 => ?_⟩
  obtain ⟨vp, rfl, hvp⟩ := hk
  refine ⟨vp, _, 0, _, rfl, rfl, sqT_of hvp, atI_nat (j := 0) rfl, ?_⟩
  refine ⟨_, rfl, _, rfl, _, rfl, _, rfl, _, _, _, rfl, r, w, m, tb, d, e, hP.mono s1, hw, hm, g.mono s1, ge.mono s1, hrr, hF, fun h H' s => q1 rfl h H' (s1.trans s), fun c h1 h2 h3 H' s => q2 rfl c h1 h2 h3 H' (s1.trans s), fun c2 bs2 ys2 ec2 ee2 hc2 h72 hbs2 hys2 v2 H2 best s2 hbest hB => ?_⟩
  obtain ⟨bp, bf, rfl, hb1, hb2⟩ := id hB
  obtain ⟨bm1, bm2⟩ := chp_mem _ _ hbest
  have hp2 := ords_perm hys2 bm1
  refine ⟨bp, _, 1, _, rfl, rfl, hb1, atI_nat (j := 1) rfl, ?_⟩
  refine ⟨_, _, rfl, r, best.2, ans, M, hM.mono (s1.trans s2), rfl, hMk, hrr, fun x hx => hc2 x (hp2.mem_iff.mp hx), by rw [hp2.length_eq]; omega, fun H3 s3 => ?_⟩
  subst ec
  subst ee
  have e1 := S_inj (Th.str.inj ec2)
  subst e1
  have hbb : ∀ {l1 l2 : List (Nat × Nat)}, l1.map bTh = l2.map bTh → l1 = l2 := by
    intro l1
    induction l1 with
    | nil =>
      intro l2 h
      cases l2 with
      | nil => rfl
      | cons a l => cases h
    | cons a l1 ih =>
      intro l2 h
      cases l2 with
      | nil => cases h
      | cons b l2 =>
        rw [List.map_cons, List.map_cons] at h
        injection h with h1 h2
        unfold bTh at h1
        injection h1 with h1
        injection h1 with h3 h4
        injection h4 with h4
        injection h3 with h3
        injection h4 with h4
        rw [ih h2, show a = b from Prod.ext (by omega) (by omega)]
  have e2 := hbb (Th.lst.inj ee2)
  subst e2
  have e3 := hys2.unique hys
  subst e3
  refine ⟨_, rfl, _, _, rfl, rfl, ?_⟩
  exact q3 rfl c bs _ rfl rfl hc h7 hbs hys H3 best _ (s1.trans (s2.trans s3)) hbest hk1 hk2
end K84
set_option maxHeartbeats 4000000
namespace K84
open PySem PySem.Spec PyProof.Rows L2
local macro_rules | `(tactic| walk_at "ix") => `(tactic| first | exact atI_nat (j := 0) rfl | exact atI_nat (j := 1) rfl | exact atI_nat (j := 2) rfl | exact atI_nat (j := 3) rfl | exact atI_nat (j := 4) rfl)
local macro_rules | `(tactic| walk_at "rd") => `(tactic| repeat (first
  | refine ⟨_, rfl, ?_⟩
  | refine ⟨rfl, ?_⟩
  | refine ⟨_, _, rfl, ?_⟩
  | refine ⟨_, _, rfl, rfl, ?_⟩
  | refine ⟨_, _, _, rfl, ?_⟩
  | refine ⟨_, _, _, _, rfl, ?_⟩
  | refine ⟨_, _, _, _, rfl, rfl, (by assumption), (by walk_at "ix"), ?_⟩
  | refine ⟨_, _, _, rfl, rfl, (by assumption), ?_⟩
  | refine ⟨.inl ⟨rfl, _, sqL_of (by assumption)⟩, ?_⟩
  | refine ⟨_, _, _, _, _, rfl, (by assumption), (by assumption), (by assumption), (by assumption), ?_⟩
  | refine ⟨_, _, _, _, _, rfl, .ty _, Tg.ty (by assumption), kit_ty (by first | exact kInt _ | exact kBool _ | exact kStr _ | exact kTup _ | exact kLst _ | exact kDct _), ?_⟩))
def sp_l_lowest (K : PySem.W.Frag) : Sp := sp2 fun a b H Q _ => ∃ (t d : Int) (n : Nat), a = .int t ∧ b = .int d ∧ 0 < d ∧ t.natAbs < 2 ^ n ∧ d.natAbs < 2 ^ n ∧ n ≤ 1501 ∧ ∀ v H', Same H H' → FrV K H' v (low t d) → Q v H'
/- _law_lowest: _law_top=0 _law_bottom=1 _law_one=2 _law_other=3 _law_k=4 _law_rest=5; cells []; calls []; builtins ['range', 'int', 'abs'] -/
abbrev s_l_lowest : Stmt := top 65
theorem sc_l_lowest : FnScope ["_law_top", "_law_bottom", "_law_one", "_law_other", "_law_k", "_law_rest"] ["_law_top", "_law_bottom"] (defScope s_l_lowest) := ⟨rfl, rfl, rfl, by decide +kernel, rfl, by decide +kernel, by decide +kernel⟩
theorem ok_l_lowest {P : Program} {w : World} {K : PySem.W.Frag} {mg : Str → Option Value} {base : Heap} (D : Df K mg "_law_lowest" s_l_lowest) (T : Tx K mg)  :
    Cl CX0 P w K mg base 1 "_law_lowest" (sp_l_lowest K) := by
  refine D.ok2 (k := 0) sc_l_lowest (fun _ _ _ _ _ _ us hl => match us, hl with | [_, _], _ => rfl) (fun f cdv A outer s H a b Q E hr h => ⟨_, PSs.nox ((pss_cons (ps_set (i := 2) sc_l_lowest.nd rfl (Or.inl rfl) (pe_callB call_abs (by rfl) T.abs (by decide +kernel) (pa_cons (pv 0) pa_nil)))
      (pss_cons (ps_set (i := 3) sc_l_lowest.nd rfl (Or.inl rfl) (pv 1))
      (pss_cons (ps_for PassesOwn.never rfl (pi_range1 (by rfl) T.range (pa_cons pe_int pa_nil)) (pg_name (i := 4) sc_l_lowest.nd rfl (Or.inl rfl)) (pss_cons (ps_if (pt_cmpR op_eq (pv 2) pe_int (nomark _)) (pss_one ps_break) pss_nil)
      (pss_cons (ps_set (i := 5) sc_l_lowest.nd rfl (Or.inl rfl) (pe_op op_mod (pe_callTy call_int1 (by rfl) T.int_ (by decide +kernel) (pa_cons (pv 3) pa_nil)) (pv 2)))
      (pss_cons (ps_set (i := 3) sc_l_lowest.nd rfl (Or.inl rfl) (pv 2))
      (pss_one (ps_set (i := 2) sc_l_lowest.nd rfl (Or.inl rfl) (pv 5)))))))
      (pss_one (ps_ret (pe_tup (pa_cons (pe_op op_fdivW (pv 0) (pv 3)) (pa_cons (pe_op op_fdivW (pv 1) (pv 3)) pa_nil))))))))), ?_⟩)
  obtain ⟨t, d, n, rfl, rfl, hd, ht, hb, hn, q⟩ := h
  have hn0 : 0 < n := by
    rcases Nat.eq_zero_or_pos n with z | z
    · subst z
      simp at hb
      omega
    · exact z
  have h2n : 2 ^ n ≤ 2 ^ 1501 := Nat.pow_le_pow_right (by decide) hn
  walk_at "rd"
  refine ⟨by decide, by decide, ?_⟩
  have et : (if t < 0 then -t else t) = ((t.natAbs : Nat) : Int) := by split <;> omega
  have ed : d = ((d.natAbs : Nat) : Int) := by omega
  refine for_range (fun i σ H' => H' = H ∧ ∃ x y : Nat, ∃ z4 z5, σ = [some (.int t), some (.int d), some (.int (y : Nat)), some (.int (x : Nat)), z4, z5] ∧ Nat.gcd y x = Nat.gcd t.natAbs d.natAbs ∧ Eu (2 ^ n) i x y ∧ (i = 0 → y < 2 ^ n)) ⟨rfl, d.natAbs, t.natAbs, none, none, ?_, rfl, .inl rfl, fun _ => ht⟩ ?_ ?_
  · rw [← et, ← ed]
    rfl
  · rintro i σ H' hi ⟨rfl, x, y, z4, z5, rfl, hg, hE, hy⟩
    walk_at "rd"
    refine ifB (fun e => ?_) (fun e => ?_)
    · have hy0 : y = 0 := by
        have := V.int.inj (of_decide_eq_true e)
        omega
      have hg2 : ((x : Nat) : Int) = ((Int.gcd t d : Nat) : Int) := by
        have : x = Nat.gcd t.natAbs d.natAbs := by rw [← hg, hy0, Nat.gcd_zero_left]
        rw [this] <;> rfl
      have hgp := gcd_pos (t := t) hd
      have hgb : ((Int.gcd t d : Nat) : Int).natAbs < 2 ^ n := by
        have hle : Int.gcd t d ≤ d.natAbs := Nat.le_of_dvd (by omega) (Nat.gcd_dvd_right t.natAbs d.natAbs)
        rw [Int.natAbs_natCast]
        exact Nat.lt_of_le_of_lt hle hb
      rw [hg2]
      walk_at "rd"
      refine ⟨wide_div hgp hgb hn0 (by omega), ?_⟩
      walk_at "rd"
      refine ⟨wide_div hgp hgb hn0 (by omega), (by show 2 ≤ sizeLine; decide), fun p hp => ?_⟩
      exact q _ _ (same_new hp) FrV.new
    · have hy0 : 0 < y := by
        rcases Nat.eq_zero_or_pos y with z | z
        · subst z
          exact absurd rfl (of_decide_eq_false e)
        · exact z
      walk_at "rd"
      refine .inl ⟨_, rfl, ?_⟩
      walk_at "rd"
      refine ⟨by show (0 : Int) < y; omega, ?_⟩
      walk_at "rd"
      rw [Int.natAbs_natCast]
      refine ⟨?_, hE.next hy0 hy, fun z => by omega⟩
      rw [Nat.gcd_comm, gcd_step, Nat.gcd_comm, hg]
  · rintro σ H' ⟨rfl, x, y, z4, z5, rfl, hg, hE, hy⟩
    have hy0 : y = 0 := hE.done h2n
    have hg2 : ((x : Nat) : Int) = ((Int.gcd t d : Nat) : Int) := by
      have : x = Nat.gcd t.natAbs d.natAbs := by rw [← hg, hy0, Nat.gcd_zero_left]
      rw [this] <;> rfl
    have hgp := gcd_pos (t := t) hd
    have hgb : ((Int.gcd t d : Nat) : Int).natAbs < 2 ^ n := by
      have hle : Int.gcd t d ≤ d.natAbs := Nat.le_of_dvd (by omega) (Nat.gcd_dvd_right t.natAbs d.natAbs)
      rw [Int.natAbs_natCast]
      exact Nat.lt_of_le_of_lt hle hb
    rw [hg2]
    walk_at "rd"
    refine ⟨wide_div hgp hgb hn0 (by omega), ?_⟩
    walk_at "rd"
    refine ⟨wide_div hgp hgb hn0 (by omega), (by show 2 ≤ sizeLine; decide), fun p hp => ?_⟩
    exact q _ _ (same_new hp) FrV.new
def sp_l_plus (K : PySem.W.Frag) : Sp := sp2 fun a b H Q _ => ∃ (p r : Fq) (n m : Nat), FrV K H a p ∧ FrV K H b r ∧ FB n p ∧ FB m r ∧ n + m + 1 ≤ 1501 ∧ ∀ v H', Same H H' → FrV K H' v (fplus p r) → Q v H'
/- _law_plus: _law_one=0 _law_other=1; cells []; calls ['_law_lowest']; builtins [] -/
abbrev s_l_plus : Stmt := top 66
theorem sc_l_plus : FnScope ["_law_one", "_law_other"] ["_law_one", "_law_other"] (defScope s_l_plus) := ⟨rfl, rfl, rfl, by decide +kernel, rfl, by decide +kernel, by decide +kernel⟩
theorem ok_l_plus {P : Program} {w : World} {K : PySem.W.Frag} {mg : Str → Option Value} {base : Heap} (D : Df K mg "_law_plus" s_l_plus) (T : Tx K mg) (c_l_lowest : Cl CX0 P w K mg base 1 "_law_lowest" (sp_l_lowest K)) :
    Cl CX0 P w K mg base 2 "_law_plus" (sp_l_plus K) := by
  refine D.ok2 (k := 1) sc_l_plus (fun _ _ _ _ _ _ us hl => match us, hl with | [_, _], _ => rfl) (fun f cdv A outer s H a b Q E hr h => ⟨_, PSs.nox ((pss_one (ps_ret (pe_cl c_l_lowest hr (by decide) pass0 (pa_cons (pe_op op_add (pe_op op_mulW (pe_ix ix_tup (pv 0) pe_int (fun _ _ => rfl)) (pe_ix ix_tup (pv 1) pe_int (fun _ _ => rfl))) (pe_op op_mulW (pe_ix ix_tup (pv 1) pe_int (fun _ _ => rfl)) (pe_ix ix_tup (pv 0) pe_int (fun _ _ => rfl)))) (pa_cons (pe_op op_mulW (pe_ix ix_tup (pv 0) pe_int (fun _ _ => rfl)) (pe_ix ix_tup (pv 1) pe_int (fun _ _ => rfl))) pa_nil)))))), ?_⟩)
  obtain ⟨p, r, n, m, ⟨x, rfl, hx⟩, ⟨y, rfl, hy⟩, hp, hr2, hnm, q⟩ := h
  have hn0 := hp.pos
  have hm0 := hr2.pos
  obtain ⟨c1, c2, c3⟩ := cross_bits hp hr2
  walk_at "rd"
  refine ⟨wide_mul hp.1 hr2.2.2 (by omega) (by omega) (by omega), ?_⟩
  walk_at "rd"
  refine ⟨wide_mul hr2.1 hp.2.2 (by omega) (by omega) (by omega), ?_⟩
  walk_at "rd"
  refine ⟨wide_mul hp.2.2 hr2.2.2 (by omega) (by omega) (by omega), ?_⟩
  exact ⟨_, _, rfl, _, _, n + m + 1, rfl, rfl, c2, c1, c3, hnm, fun v H' s hv => q v H' s hv⟩
def sp_l_less (K : PySem.W.Frag) : Sp := sp2 fun a b H Q _ => ∃ (p r : Fq) (n m : Nat), FrV K H a p ∧ FrV K H b r ∧ FB n p ∧ FB m r ∧ n + m ≤ 9000 ∧ Q (.bl (fless p r)) H
/- _law_less: _law_one=0 _law_other=1; cells []; calls []; builtins [] -/
abbrev s_l_less : Stmt := top 67
theorem sc_l_less : FnScope ["_law_one", "_law_other"] ["_law_one", "_law_other"] (defScope s_l_less) := ⟨rfl, rfl, rfl, by decide +kernel, rfl, by decide +kernel, by decide +kernel⟩
theorem ok_l_less {P : Program} {w : World} {K : PySem.W.Frag} {mg : Str → Option Value} {base : Heap} (D : Df K mg "_law_less" s_l_less) (T : Tx K mg)  :
    Cl CX0 P w K mg base 1 "_law_less" (sp_l_less K) := by
  refine D.ok2 (k := 0) sc_l_less (fun _ _ _ _ _ _ us hl => match us, hl with | [_, _], _ => rfl) (fun f cdv A outer s H a b Q E hr h => ⟨_, PSs.nox ((pss_one (ps_ret (pe_cmpR op_lt (pe_op op_mulW (pe_ix ix_tup (pv 0) pe_int (fun _ _ => rfl)) (pe_ix ix_tup (pv 1) pe_int (fun _ _ => rfl))) (pe_op op_mulW (pe_ix ix_tup (pv 1) pe_int (fun _ _ => rfl)) (pe_ix ix_tup (pv 0) pe_int (fun _ _ => rfl))) (nomark _))))), ?_⟩)
  obtain ⟨p, r, n, m, ⟨x, rfl, hx⟩, ⟨y, rfl, hy⟩, hp, hr2, hnm, q⟩ := h
  have hn0 := hp.pos
  have hm0 := hr2.pos
  walk_at "rd"
  refine ⟨wide_mul hp.1 hr2.2.2 (by omega) (by omega) (by omega), ?_⟩
  walk_at "rd"
  refine ⟨wide_mul hr2.1 hp.2.2 (by omega) (by omega) (by omega), ?_⟩
  walk_at "rd"
  exact q
def sp_l_stretches (K : PySem.W.Frag) : Sp := sp2 fun a b H Q _ => ∃ (c : Wd) (w : Nat), a = .str (S c) ∧ b = .int w ∧ 1 ≤ w ∧ c.length ≤ 1000 ∧ NewL K H Q ((stq w c).map strV)
/- _law_stretches: _law_code_here=0 _law_width=1 _law_found=2 _law_k=3; cells []; calls []; builtins ['range', 'len'] -/
abbrev s_l_stretches : Stmt := top 71
theorem sc_l_stretches : FnScope ["_law_code_here", "_law_width", "_law_found", "_law_k"] ["_law_code_here", "_law_width"] (defScope s_l_stretches) := ⟨rfl, rfl, rfl, by decide +kernel, rfl, by decide +kernel, by decide +kernel⟩
theorem ok_l_stretches {P : Program} {w : World} {K : PySem.W.Frag} {mg : Str → Option Value} {base : Heap} (D : Df K mg "_law_stretches" s_l_stretches) (T : Tx K mg)  :
    Cl CX0 P w K mg base 1 "_law_stretches" (sp_l_stretches K) := by
  refine D.ok2 (k := 0) sc_l_stretches (fun _ _ _ _ _ _ us hl => match us, hl with | [_, _], _ => rfl) (fun f cdv A outer s H a b Q E hr h => ⟨_, PSs.nox ((pss_cons (ps_set (i := 2) sc_l_stretches.nd rfl (Or.inl rfl) (pe_lst pa_nil))
      (pss_cons (ps_for PassesOwn.never rfl (pi_range1 (by rfl) T.range (pa_cons (pe_callB call_len_str (by rfl) T.len (by decide +kernel) (pa_cons (pv 0) pa_nil)) pa_nil)) (pg_name (i := 3) sc_l_stretches.nd rfl (Or.inl rfl)) (pss_one (ps_if (pt_cmpR op_lt (pe_op op_add (pv 3) pe_int) (pv 1) (nomark _)) (pss_one (ps_expr (pe_bm PySem.F.plainAttrs_list PySem.F.slot_list_append PySem.F.type_list_append mt_append (pv 2) (pa_cons (pe_op op_add_str pe_str (pe_slice sl_str (pv 0) po_none (po_some (pe_op op_add (pv 3) pe_int)))) pa_nil)))) (pss_one (ps_expr (pe_bm PySem.F.plainAttrs_list PySem.F.slot_list_append PySem.F.type_list_append mt_append (pv 2) (pa_cons (pe_slice sl_str (pv 0) (po_some (pe_op op_sub (pe_op op_add (pv 3) pe_int) (pv 1))) (po_some (pe_op op_add (pv 3) pe_int))) pa_nil)))))))
      (pss_one (ps_ret (pv 2)))))), ?_⟩)
  obtain ⟨c, w, rfl, rfl, hw, hc, q⟩ := h
  refine ⟨Nat.zero_le _, fun p hp => ?_⟩
  have hsz : (S c).length ≤ sizeLine := szle (by rw [S_length]; omega)
  refine ⟨_, rfl, _, rfl, hsz, ?_⟩
  refine ⟨_, rfl, by rw [S_length]; omega, by rw [S_length]; omega, ?_⟩
  refine for_range (fun i σ H' => (∃ z, σ = [some (.str (S c)), some (.int w), some (.ref p), z]) ∧ AccP H p (fun i acc _ => acc = ((stq w c).take i).map strV) i H') ⟨⟨_, rfl⟩, AccP.start hp rfl⟩ ?_ ?_
  · rintro i σ H' hi ⟨⟨z, rfl⟩, acc, G, e, hG, s1, s2, rfl⟩
    rw [S_length] at hi
    have hi2 : i < c.length := by omega
    have hlen : (((stq w c).take i).map strV).length < sizeLine := by
      rw [List.length_map, List.length_take]
      exact szlt (by omega)
    walk_at "rd"
    refine ifB (fun t => ?_) (fun t => ?_)
    · have t2 := of_decide_eq_true t
      walk_at "rd"
      refine ⟨hsz, ?_⟩
      have e2 : (0 + (i : Int) + 1) = ((i + 1 : Nat) : Int) := by omega
      rw [e2, cut_to (by omega)]
      walk_at "rd"
      refine ⟨szle (by rw [S_length, List.length_take]; show 1 + _ ≤ _; omega), ?_⟩
      walk_at "rd"
      refine ⟨hlen, ⟨_, rfl⟩, _, G, upd_same, hG, s1, L2.Same.mut s2 hG, ?_⟩
      show _ = ((stq w c).take (i + 1)).map strV
      rw [take_map_snoc (stq_get hi2), if_neg (by omega)]
      have e3 : (Str.ofString "^" : Str) = S [caret] := by decide +kernel
      rw [e3, S_app]
      rfl
    · have t2 := of_decide_eq_false t
      walk_at "rd"
      refine ⟨hsz, ?_⟩
      have e1 : (0 + (i : Int) + 1 - (w : Int)) = ((i + 1 - w : Nat) : Int) := by omega
      have e2 : (0 + (i : Int) + 1) = ((i + 1 : Nat) : Int) := by omega
      rw [e1, e2, cut_mid (by omega) (by omega)]
      walk_at "rd"
      refine ⟨hlen, ⟨_, rfl⟩, _, G, upd_same, hG, s1, L2.Same.mut s2 hG, ?_⟩
      show _ = ((stq w c).take (i + 1)).map strV
      rw [take_map_snoc (stq_get hi2), if_pos (by omega)]
      have e3 : i + 1 - (i + 1 - w) = w := by omega
      rw [e3]
      rfl
  · rintro σ H' ⟨⟨z, rfl⟩, acc, G, e, hG, s1, s2, rfl⟩
    refine ⟨_, rfl, q p H' (s1.trans s2) hp ?_⟩
    rw [e, S_length]
    have e4 : ((c.length : Nat) : Int).toNat = c.length := by omega
    rw [e4, List.take_of_length_le (by rw [stq_length]; exact Nat.le_refl _)]
end K84
set_option maxHeartbeats 4000000
namespace K84
open PySem PySem.Spec PyProof.Rows L2
local macro_rules | `(tactic| walk_at "ix") => `(tactic| first | exact atI_nat (j := 0) rfl | exact atI_nat (j := 1) rfl | exact atI_nat (j := 2) rfl | exact atI_nat (j := 3) rfl | exact atI_nat (j := 4) rfl)
local macro_rules | `(tactic| walk_at "rd") => `(tactic| repeat (first
  | refine ⟨_, rfl, ?_⟩
  | refine ⟨rfl, ?_⟩
  | refine ⟨_, _, rfl, ?_⟩
  | refine ⟨_, _, rfl, rfl, ?_⟩
  | refine ⟨_, _, _, rfl, ?_⟩
  | refine ⟨_, _, _, _, rfl, ?_⟩
  | refine ⟨_, _, _, _, rfl, rfl, (by assumption), (by walk_at "ix"), ?_⟩
  | refine ⟨_, _, _, rfl, rfl, (by assumption), ?_⟩
  | refine ⟨.inl ⟨rfl, _, sqL_of (by assumption)⟩, ?_⟩
  | refine ⟨_, _, _, _, _, rfl, (by assumption), (by assumption), (by assumption), (by assumption), ?_⟩
  | refine ⟨_, _, _, _, _, rfl, .ty _, Tg.ty (by assumption), kit_ty (by first | exact kInt _ | exact kBool _ | exact kStr _ | exact kTup _ | exact kLst _ | exact kDct _), ?_⟩))
def sp_l_is_int (K : PySem.W.Frag) : Sp := sp3 fun a b c H Q _ => ∃ d lo hi, Tg K H a d ∧ b = .int lo ∧ c = .int hi ∧ Q (.bl (d.within lo hi)) H
/- _law_is_int: _law_thing=0 _law_least=1 _law_most=2; cells []; calls []; builtins ['isinstance', 'bool', 'int'] -/
abbrev s_l_is_int : Stmt := top 76
theorem sc_l_is_int : FnScope ["_law_thing", "_law_least", "_law_most"] ["_law_thing", "_law_least", "_law_most"] (defScope s_l_is_int) := ⟨rfl, rfl, rfl, by decide +kernel, rfl, by decide +kernel, by decide +kernel⟩
theorem ok_l_is_int {P : Program} {w : World} {K : PySem.W.Frag} {mg : Str → Option Value} {base : Heap} (D : Df K mg "_law_is_int" s_l_is_int) (T : Tx K mg)  :
    Cl CX0 P w K mg base 1 "_law_is_int" (sp_l_is_int K) := by
  refine D.ok3 (k := 0) sc_l_is_int (fun _ _ _ _ _ _ us hl => match us, hl with | [_, _, _], _ => rfl) (fun f cdv A outer s H a b c Q E hr h => ⟨_, PSs.nox ((pss_one (ps_ret (pe_and (pe_callB call_isi (by rfl) T.isinstance (by decide +kernel) (pa_cons (pv 0) (pa_cons (pe_bltn (v := .ty "int") (by rfl) T.int_ (by decide +kernel) rfl) pa_nil))) (pe_and (pe_not (pe_callB call_isi (by rfl) T.isinstance (by decide +kernel) (pa_cons (pv 0) (pa_cons (pe_bltn (v := .ty "bool") (by rfl) T.bool_ (by decide +kernel) rfl) pa_nil)))) (pe_and (pe_cmpR op_le (pv 1) (pv 0) (nomark _)) (pe_one (pe_cmpR op_le (pv 0) (pv 2) (nomark _))))))))), ?_⟩)
  obtain ⟨d, lo, hi, g, rfl, rfl, q⟩ := h
  walk_at "rd"
  cases d with
  | int i =>
    obtain rfl : a = .int i := by cases g; rfl
    refine iteT ?_
    walk_at "rd"
    refine ifB (fun e => ?_) (fun e => ?_)
    · walk_at "rd"
      have e2 : (Th.int i).within lo hi = decide (i ≤ hi) := by
        show (decide (lo ≤ i) && decide (i ≤ hi)) = _
        rw [e, Bool.true_and]
      rw [e2] at q
      exact q
    · have e2 : (Th.int i).within lo hi = false := by
        show (decide (lo ≤ i) && decide (i ≤ hi)) = _
        rw [e, Bool.false_and]
      rw [e2] at q
      exact q
  | bl b =>
    refine iteT ?_
    walk_at "rd"
    exact iteF q
  | _ => exact iteF q
def sp_l_is_code (K : PySem.W.Frag) : Sp := sp2 fun a b H Q _ => ∃ rows d, a = .str (S rows) ∧ Tg K H b d ∧ (∀ c, d = .str (S c) → c.length ≤ 1000) ∧ ∀ H', Same H H' → Q (.bl (d.over rows)) H'
/- _law_is_code: _law_rows_here=0 _law_thing=1 _law_row=2; cells ['_law_rows_here']; calls []; builtins ['len', 'isinstance', 'str'] -/
abbrev s_l_is_code : Stmt := top 77
theorem sc_l_is_code : FnScope ["_law_rows_here", "_law_thing", "_law_row"] ["_law_rows_here", "_law_thing"] (defScope s_l_is_code) := ⟨rfl, rfl, rfl, by decide +kernel, rfl, by decide +kernel, by decide +kernel⟩
theorem ok_l_is_code {P : Program} {w : World} {K : PySem.W.Frag} {mg : Str → Option Value} {base : Heap} (D : Df K mg "_law_is_code" s_l_is_code) (T : Tx K mg)  :
    Cl CX0 P w K mg base 1 "_law_is_code" (sp_l_is_code K) := by
  refine D.ok2 (k := 0) sc_l_is_code (fun _ _ _ _ _ _ us hl => match us, hl with | [_, _], _ => rfl) (fun f cdv A outer s H a b Q E hr h => ⟨_, PSs.nox ((pss_one (ps_ret (pe_and (pe_callB call_isi (by rfl) T.isinstance (by decide +kernel) (pa_cons (pv 1) (pa_cons (pe_bltn (v := .ty "str") (by rfl) T.str_ (by decide +kernel) rfl) pa_nil))) (pe_one (pe_cmpR op_eq (pe_callB call_len_seq (by rfl) T.len (by decide +kernel) (pa_cons (pe_lc (own := [("_law_row", 2)]) rfl sc_l_is_code.nd (pi_str (pv 1)) (blkOk_by (own := [("_law_row", 2)]) (N := ["_law_rows_here", "_law_thing", "_law_row"]) (sc := defScope s_l_is_code) (by decide +kernel)) (fun _ _ _ _ _ => (pg_name (i := 2) sc_l_is_code.nd rfl (Or.inl rfl))) (fun _ _ _ _ _ => (pts_one (pt_cmpR op_notIn_sign (pv 2) (pv 0) rfl))) (fun _ _ _ _ _ => (pv 2))) pa_nil)) pe_int (nomark _))))))), ?_⟩)
  obtain ⟨rows, d, rfl, g, hsz, q⟩ := h
  walk_at "rd"
  by_cases hs : ∃ x, d = .str x
  · obtain ⟨x, rfl⟩ := hs
    cases g
    have hx : x.cps.toList.length ≤ 1000 := hsz x.cps.toList (by rw [S_of])
    have hx2 : x.cps.size ≤ 1000 := by rwa [Array.length_toList] at hx
    refine iteT ?_
    refine ⟨_, rfl, x, rfl, fun D hD => ?_⟩
    refine lc_it walk_str (AccP H D fun i acc _ => acc = ((x.cps.toList.take i).filter fun c => decide (c ∉ rows)).map fun c => strV [c]) (AccP.start hD rfl) (fun _ _ _ _ => trivial) ?_ ?_
    · rintro i v H3 H4 hi ⟨acc, G, e3, hG, s4, s5, rfl⟩ ⟨rfl, c, hc, rfl⟩
      have hc2 : x.cps.toList[i]? = some c := by rw [Array.getElem?_toList]; exact hc
      have estep : ((x.cps.toList.take (i + 1)).filter fun c => decide (c ∉ rows)) = ((x.cps.toList.take i).filter fun c => decide (c ∉ rows)) ++ (if c ∉ rows then [c] else []) := by
        rw [List.take_add_one, hc2, List.filter_append]
        by_cases h : c ∈ rows <;> simp [h]
      walk_at "rd"
      refine ifB (fun e => ?_) (fun e => ?_)
      · have hn : c ∉ rows := fun z => by
          rw [S_list, decide_eq_true z] at e
          cases e
        walk_at "rd"
        refine AccP.push e3 hG s4 s5 ?_ ?_
        · rw [List.length_map]
          refine szlt (Nat.lt_of_le_of_lt (List.length_filter_le _ _) ?_)
          rw [List.length_take]
          omega
        · show _ = ((x.cps.toList.take (i + 1)).filter fun c => decide (c ∉ rows)).map fun c => strV [c]
          rw [estep, if_pos hn, List.map_append]
          rfl
      · have hn : c ∈ rows := by
          apply Classical.byContradiction
          intro z
          rw [S_list, decide_eq_false z] at e
          cases e
        refine ⟨_, G, e3, hG, s4, s5, ?_⟩
        show _ = ((x.cps.toList.take (i + 1)).filter fun c => decide (c ∉ rows)).map fun c => strV [c]
        rw [estep, if_neg (fun z => z hn), List.append_nil]
    · rintro H3 ⟨acc, G, e3, hG, s4, s5, rfl⟩
      refine ⟨D, _, rfl, .inl (sqL_of e3), ?_⟩
      walk_at "rd"
      have et : x.cps.toList.take x.cps.size = x.cps.toList := List.take_of_length_le (by rw [Array.length_toList]; exact Nat.le_refl _)
      have e5 : decide (V.int ((((x.cps.toList.take x.cps.size).filter fun c => decide (c ∉ rows)).map fun c => strV [c]).length : Nat) = V.int 0) = (Th.str x).over rows := by
        rw [et, List.length_map]
        show _ = x.cps.toList.all fun c => decide (c ∈ rows)
        rw [Bool.eq_iff_iff, decide_eq_true_eq, List.all_eq_true]
        constructor
        · intro h c hc
          have h0 : (x.cps.toList.filter fun c => decide (c ∉ rows)).length = 0 := by have := V.int.inj h; omega
          have h1 := List.length_eq_zero_iff.mp h0
          refine decide_eq_true ?_
          apply Classical.byContradiction
          intro hn
          have : c ∈ x.cps.toList.filter fun c => decide (c ∉ rows) := List.mem_filter.mpr ⟨hc, decide_eq_true hn⟩
          rw [h1] at this
          cases this
        · intro h
          have h1 : (x.cps.toList.filter fun c => decide (c ∉ rows)) = [] := List.filter_eq_nil_iff.mpr fun c hc => by
            have := of_decide_eq_true (h c hc)
            simp [this]
          rw [h1] <;> rfl
      show Q _ H3
      rw [e5]
      exact q H3 (s4.trans s5)
  · have e1 : d.isStr = false := by
      cases d with
      | str x => exact absurd ⟨x, rfl⟩ hs
      | _ => rfl
    have e2 : d.over rows = false := by
      cases d with
      | str x => exact absurd ⟨x, rfl⟩ hs
      | _ => rfl
    rw [e1]
    refine iteF ?_
    have := q H (L2.Same.refl H)
    rw [e2] at this
    exact this
def sp_l_are_befores (K : PySem.W.Frag) : Sp := sp2 fun a b H Q _ => ∃ (c : Wd) (d : Th), a = .str (S c) ∧ c.length ≤ 1000 ∧ Tg K H b d ∧ (∀ l, d ≠ .tup l) ∧ (∀ l, d = .lst l → l.length ≤ 1000) ∧ ∀ H', Same H H' → Q (.bl (bOk c.length d)) H'
/- _law_are_befores: _law_code_here=0 _law_thing=1 _law_pair=2; cells []; calls ['_law_is_int']; builtins ['len', 'isinstance', 'tuple', 'list'] -/
abbrev s_l_are_befores : Stmt := top 84
theorem sc_l_are_befores : FnScope ["_law_code_here", "_law_thing", "_law_pair"] ["_law_code_here", "_law_thing"] (defScope s_l_are_befores) := ⟨rfl, rfl, rfl, by decide +kernel, rfl, by decide +kernel, by decide +kernel⟩
theorem ok_l_are_befores {P : Program} {w : World} {K : PySem.W.Frag} {mg : Str → Option Value} {base : Heap} (D : Df K mg "_law_are_befores" s_l_are_befores) (T : Tx K mg) (c_l_is_int : Cl CX0 P w K mg base 1 "_law_is_int" (sp_l_is_int K)) :
    Cl CX0 P w K mg base 2 "_law_are_befores" (sp_l_are_befores K) := by
  refine D.ok2 (k := 1) sc_l_are_befores (fun _ _ _ _ _ _ us hl => match us, hl with | [_, _], _ => rfl) (fun f cdv A outer s H a b Q E hr h => ⟨_, PSs.nox ((pss_cons (ps_if (pt_not (pt_val (pe_callB call_isiT (by rfl) T.isinstance (by decide +kernel) (pa_cons (pv 1) (pa_cons (pe_tup (pa_cons (pe_bltn (v := .ty "list") (by rfl) T.list_ (by decide +kernel) rfl) (pa_cons (pe_bltn (v := .ty "tuple") (by rfl) T.tuple_ (by decide +kernel) rfl) pa_nil))) pa_nil))))) (pss_one (ps_ret pe_bl)) pss_nil)
      (pss_cons (ps_for PassesOwn.never rfl (pi_list (pv 1)) (pg_name (i := 2) sc_l_are_befores.nd rfl (Or.inl rfl)) (pss_cons (ps_if (PW.pt (pw_or (pt_not (pt_val (pe_callB call_isi (by rfl) T.isinstance (by decide +kernel) (pa_cons (pv 2) (pa_cons (pe_bltn (v := .ty "tuple") (by rfl) T.tuple_ (by decide +kernel) rfl) pa_nil))))) (pw_or (pt_cmpR op_ne (pe_callB call_len_seq (by rfl) T.len (by decide +kernel) (pa_cons (pv 2) pa_nil)) pe_int (nomark _)) (pw_or1 (pt_not (pt_val (pe_cl c_l_is_int hr (by decide) pass0 (pa_cons (pe_ix ix_tup (pv 2) pe_int (fun _ _ => rfl)) (pa_cons pe_int (pa_cons (pe_op op_sub (pe_callB call_len_str (by rfl) T.len (by decide +kernel) (pa_cons (pv 0) pa_nil)) pe_int) pa_nil)))))))))) (pss_one (ps_ret pe_bl)) pss_nil)
      (pss_one (ps_if (pt_not (pt_val (pe_cl c_l_is_int hr (by decide) pass0 (pa_cons (pe_ix ix_tup (pv 2) pe_int (fun _ _ => rfl)) (pa_cons (pe_op op_add (pe_ix ix_tup (pv 2) pe_int (fun _ _ => rfl)) pe_int) (pa_cons (pe_op op_sub (pe_callB call_len_str (by rfl) T.len (by decide +kernel) (pa_cons (pv 0) pa_nil)) pe_int) pa_nil)))))) (pss_one (ps_ret pe_bl)) pss_nil))))
      (pss_one (ps_ret pe_bl))))), ?_⟩)
  obtain ⟨c, d, rfl, hc, g, hnt, hbd, q⟩ := h
  walk_at "rd"
  refine ⟨(by show 2 ≤ sizeLine; decide), fun tp htp => ?_⟩
  have s1 := same_new (o := .tup [.ty "list", .ty "tuple"]) htp
  refine ⟨_, tp, _, _, [.type "list", .type "tuple"], _, rfl, upd_same, .cons (.ty "list") (.cons (.ty "tuple") .nil), (g.mono s1).ty, kAny2 (kLst d) (kTup d), ?_⟩
  by_cases hl : ∃ l, d = .lst l
  · obtain ⟨ds, rfl⟩ := hl
    have hb := hbd ds rfl
    obtain ⟨p, xs, rfl, hp, ht⟩ : ∃ p xs, b = .ref p ∧ SqL K H p xs ∧ TgAll K H xs ds := by
      cases g with
      | @lst p xs _ hp ht => exact ⟨p, xs, rfl, hp, ht⟩
    have hlen := ht.length
    refine ⟨_, rfl, iteF ?_⟩
    refine ⟨_, rfl, p, rfl, ⟨_, s1.seq hp⟩, ?_⟩
    refine for_list (xs := xs) (fun i σ H' => H' = upd H tp (.tup [.ty "list", .ty "tuple"]) ∧ (∃ z, σ = [some (.str (S c)), some (.ref p), z]) ∧ (ds.take i).all (·.before c.length) = true) ⟨rfl, ⟨_, rfl⟩, rfl⟩ (fun i σ H' _ h => by rw [h.1]; exact s1.seq hp) ?_ ?_
    · rintro i v σ H' hv ⟨rfl, ⟨z, rfl⟩, ha⟩
      obtain ⟨di, hdi, gi⟩ := ht.at hv
      have gi2 := gi.mono s1
      have hfalse : di.before c.length = false → bOk c.length (.lst ds) = false := fun h => by
        show ds.all (·.before c.length) = false
        rw [List.all_eq_false]
        exact ⟨di, List.mem_of_getElem? hdi, by rw [h]; exact Bool.false_ne_true⟩
      have bad : di.before c.length = false → Q (.bl false) (upd H tp (.tup [.ty "list", .ty "tuple"])) := fun h => by
        have := q _ s1
        rwa [hfalse h] at this
      clear g gi
      walk_at "rd"
      by_cases ht2 : ∃ l, di = .tup l
      · obtain ⟨l, rfl⟩ := ht2
        obtain ⟨p2, xs2, rfl, hp2, hx2⟩ : ∃ p2 xs2, v = .ref p2 ∧ SqT K (upd H tp (.tup [.ty "list", .ty "tuple"])) p2 xs2 ∧ TgAll K (upd H tp (.tup [.ty "list", .ty "tuple"])) xs2 l := by
          cases gi2 with
          | @tup p xs _ hp ht => exact ⟨p, xs, rfl, hp, ht⟩
        clear gi2
        refine iteF ?_
        refine ⟨_, rfl, p2, xs2, rfl, .inr hp2, ?_⟩
        walk_at "rd"
        rw [hx2.length]
        by_cases hl2 : l.length = 2
        · refine ifF (by rw [hl2]; decide) ?_
          obtain ⟨d1, d2, rfl⟩ := two_of hl2
          obtain ⟨x, y, rfl, g1, g2⟩ := hx2.two
          refine ⟨_, rfl, p2, _, 0, x, rfl, rfl, hp2, atI_nat (j := 0) rfl, ?_⟩
          refine ⟨_, rfl, _, rfl, szle (by rw [S_length]; omega), ?_⟩
          rw [S_length]
          refine ⟨_, _, rfl, rfl, _, _, _, rfl, d1, 0, (c.length : Int) - 1, g1, rfl, rfl, _, rfl, ?_⟩
          cases hw : d1.within 0 ((c.length : Int) - 1) with
          | false => exact iteT (bad (before_not hw))
          | true =>
            refine iteF ?_
            obtain ⟨i1, rfl⟩ := within_int hw
            cases g1
            refine ⟨_, rfl, p2, _, 1, y, rfl, rfl, hp2, atI_nat (j := 1) rfl, ?_⟩
            refine ⟨_, rfl, p2, _, 0, _, rfl, rfl, hp2, atI_nat (j := 0) rfl, _, _, rfl, rfl, ?_⟩
            refine ⟨_, rfl, _, rfl, szle (by rw [S_length]; omega), ?_⟩
            rw [S_length]
            refine ⟨_, _, rfl, rfl, _, _, _, rfl, d2, i1 + 1, (c.length : Int) - 1, g2, rfl, rfl, _, rfl, ?_⟩
            cases hw2 : d2.within (i1 + 1) ((c.length : Int) - 1) with
            | false => exact iteT (bad (by rw [before_int, hw, hw2] <;> rfl))
            | true =>
              refine iteF ?_
              refine ⟨rfl, ⟨_, rfl⟩, ?_⟩
              rw [List.take_add_one, hdi, List.all_append, ha, Bool.true_and]
              show ((Th.tup [.int i1, d2]).before c.length && true) = true
              rw [before_int, hw, hw2] <;> rfl
        · refine ifT (by rw [decide_eq_false fun z => hl2 (by have := V.int.inj z; omega)] <;> rfl) ?_
          exact bad (before_len hl2)
      · have e1 : di.isTup = false := by
          cases di with
          | tup l => exact absurd ⟨l, rfl⟩ ht2
          | _ => rfl
        have e2 : di.before c.length = false := by
          cases di with
          | tup l => exact absurd ⟨l, rfl⟩ ht2
          | _ => rfl
        rw [e1]
        exact iteT (bad e2)
    · rintro σ H' ⟨rfl, ⟨z, rfl⟩, ha⟩
      rw [hlen, List.take_length] at ha
      have := q _ s1
      have e : bOk c.length (.lst ds) = true := ha
      rw [e] at this
      exact this
  · have e1 : (d.isLst || d.isTup) = false := by
      cases d with
      | lst l => exact absurd ⟨l, rfl⟩ hl
      | tup l => exact absurd rfl (hnt l)
      | _ => rfl
    have e2 : bOk c.length d = false := by
      cases d with
      | lst l => exact absurd ⟨l, rfl⟩ hl
      | tup l => exact absurd rfl (hnt l)
      | _ => rfl
    rw [e1]
    have := q _ s1
    rw [e2] at this
    exact ⟨_, rfl, iteT this⟩
end K84
set_option maxHeartbeats 4000000
namespace K84
open PySem PySem.Spec PyProof.Rows L2
local macro_rules | `(tactic| walk_at "ix") => `(tactic| first | exact atI_nat (j := 0) rfl | exact atI_nat (j := 1) rfl | exact atI_nat (j := 2) rfl | exact atI_nat (j := 3) rfl | exact atI_nat (j := 4) rfl)
local macro_rules | `(tactic| walk_at "rd") => `(tactic| repeat (first
  | refine ⟨_, rfl, ?_⟩
  | refine ⟨rfl, ?_⟩
  | refine ⟨_, _, rfl, ?_⟩
  | refine ⟨_, _, rfl, rfl, ?_⟩
  | refine ⟨_, _, _, rfl, ?_⟩
  | refine ⟨_, _, _, _, rfl, ?_⟩
  | refine ⟨_, _, _, _, rfl, rfl, (by assumption), (by walk_at "ix"), ?_⟩
  | refine ⟨_, _, _, rfl, rfl, (by assumption), ?_⟩
  | refine ⟨.inl ⟨rfl, _, sqL_of (by assumption)⟩, ?_⟩
  | refine ⟨_, _, _, _, _, rfl, (by assumption), (by assumption), (by assumption), (by assumption), ?_⟩
  | refine ⟨_, _, _, _, _, rfl, .ty _, Tg.ty (by assumption), kit_ty (by first | exact kInt _ | exact kBool _ | exact kStr _ | exact kTup _ | exact kLst _ | exact kDct _), ?_⟩))
theorem flat_take_len {r : Wd} {i j : Nat} (h : r.length ≤ 3) (hn : i ≤ 1) : (((codes r i).take j).flatMap fun c => r.map fun x => c ++ [x]).length ≤ 27 := codes_sz h (by omega) j
def fnd (r : Wd) (w i : Nat) : List Wd := if i < w then extra r i else extra r (w - 1) ++ codes r w
def sp_l_all_stretches (K : PySem.W.Frag) : Sp := sp2 fun a b H Q _ => ∃ (r : Wd) (w : Nat), a = .str (S r) ∧ b = .int w ∧ r.length ≤ 3 ∧ 1 ≤ w ∧ w ≤ 2 ∧ NewL K H Q ((st r w).map strV)
/- _law_all_stretches: _law_rows_here=0 _law_width=1 _law_words=2 _law_found=3 _law_size=4 _law_longer=5 _law_word=6 _law_row=7; cells ['_law_size', '_law_width', '_law_word']; calls []; builtins ['sorted', 'range', 'int'] -/
abbrev s_l_all_stretches : Stmt := top 69
theorem sc_l_all_stretches : FnScope ["_law_rows_here", "_law_width", "_law_words", "_law_found", "_law_size", "_law_longer", "_law_word", "_law_row"] ["_law_rows_here", "_law_width"] (defScope s_l_all_stretches) := ⟨rfl, rfl, rfl, by decide +kernel, rfl, by decide +kernel, by decide +kernel⟩
theorem ok_l_all_stretches {P : Program} {w : World} {K : PySem.W.Frag} {mg : Str → Option Value} {base : Heap} (D : Df K mg "_law_all_stretches" s_l_all_stretches) (T : Tx K mg)  :
    Cl CX0 P w K mg base 1 "_law_all_stretches" (sp_l_all_stretches K) := by
  refine D.ok2 (k := 0) sc_l_all_stretches (fun _ _ _ _ _ _ us hl => match us, hl with | [_, _], _ => rfl) (fun f cdv A outer s H a b Q E hr h => ⟨_, PSs.nox ((pss_cons (ps_set (i := 2) sc_l_all_stretches.nd rfl (Or.inl rfl) (pe_lst (pa_cons pe_str pa_nil)))
      (pss_cons (ps_set (i := 3) sc_l_all_stretches.nd rfl (Or.inl rfl) (pe_lst pa_nil))
      (pss_cons (ps_for PassesOwn.never rfl (pi_range2 (by rfl) T.range (pa_cons pe_int (pa_cons (pe_op op_add (pv 1) pe_int) pa_nil))) (pg_name (i := 4) sc_l_all_stretches.nd rfl (Or.inr rfl)) (pss_cons (ps_set (i := 5) sc_l_all_stretches.nd rfl (Or.inl rfl) (pe_lst pa_nil))
      (pss_cons (ps_for PassesOwn.never rfl (pi_list (pv 2)) (pg_name (i := 6) sc_l_all_stretches.nd rfl (Or.inr rfl)) (pss_one (ps_set (i := 5) sc_l_all_stretches.nd rfl (Or.inl rfl) (pe_op op_cat (pv 5) (pe_lc (own := [("_law_row", 7)]) rfl sc_l_all_stretches.nd (pi_str (pv 0)) (blkOk_by (own := [("_law_row", 7)]) (N := ["_law_rows_here", "_law_width", "_law_words", "_law_found", "_law_size", "_law_longer", "_law_word", "_law_row"]) (sc := defScope s_l_all_stretches) (by decide +kernel)) (fun _ _ _ _ _ => (pg_name (i := 7) sc_l_all_stretches.nd rfl (Or.inl rfl))) (fun _ _ _ _ _ => pts_nil) (fun _ _ _ _ _ => (pe_op op_add_str (pv 6) (pv 7))))))))
      (pss_cons (ps_set (i := 2) sc_l_all_stretches.nd rfl (Or.inl rfl) (pv 5))
      (pss_one (ps_set (i := 3) sc_l_all_stretches.nd rfl (Or.inl rfl) (pe_op op_cat (pv 3) (pe_lc (own := [("_law_word", 6)]) rfl sc_l_all_stretches.nd (pi_list (pv 2)) (blkOk_by (own := [("_law_word", 6)]) (N := ["_law_rows_here", "_law_width", "_law_words", "_law_found", "_law_size", "_law_longer", "_law_word", "_law_row"]) (sc := defScope s_l_all_stretches) (by decide +kernel)) (fun _ _ _ _ _ => (pg_name (i := 6) sc_l_all_stretches.nd rfl (Or.inl rfl))) (fun _ _ _ _ _ => pts_nil) (fun _ _ _ _ _ => (pe_ix (r := rIxL K) ix_list (pe_lst (pa_cons (pe_op op_add_str pe_str (pv 6)) (pa_cons (pv 6) pa_nil))) (pe_callTy call_int1 (by rfl) T.int_ (by decide +kernel) (pa_cons (pe_cmpR op_eq (pv 4) (pv 1) (nomark _)) pa_nil)) (fun _ _ => rfl)))))))))))
      (pss_one (ps_ret (pe_callB (cr_sortedSA hr.units) (by rfl) T.sorted (by decide +kernel) (pa_cons (pv 3) pa_nil)))))))), ?_⟩)
  obtain ⟨r, w, rfl, rfl, hr3, hw, hw2, q⟩ := h
  refine ⟨by show 1 ≤ sizeLine; decide, fun wp hwp => ?_⟩
  refine ⟨Nat.zero_le _, fun fp hfp => ?_⟩
  have hwf : wp ≠ fp := fun z => by rw [← z, upd_same] at hfp; cases hfp
  have eS : (Str.ofString "" : Str) = S [] := by decide +kernel
  walk_at "rd"
  refine ⟨⟨by decide, by decide, by omega, by omega⟩, ?_⟩
  refine for_range (fun i σ H' => Same H H' ∧ ∃ wp fp z4 z5 z6 z7, σ = [some (.str (S r)), some (.int w), some (.ref wp), some (.ref fp), z4, z5, z6, z7] ∧ H' wp = some (.lst ((codes r i).map strV)) ∧ H' fp = some (.lst ((fnd r w i).map strV)))
    ⟨(same_new hwp).new hfp, wp, fp, _, _, _, _, rfl, ?_, ?_⟩ ?_ ?_
  · rw [upd_ne hwf, upd_same, eS]
    rfl
  · rw [upd_same]
    unfold fnd
    rw [if_pos (by omega)]
    rfl
  · rintro i σ H1 hi ⟨s1, wp, fp, z4, z5, z6, z7, rfl, ew, ef⟩
    have hi1 : i ≤ 1 := by omega
    refine ⟨Nat.zero_le _, fun l0 hl0 => ?_⟩
    have s2 := same_new (o := .lst []) hl0
    refine ⟨_, rfl, wp, rfl, ⟨_, sqL_of (s2 _ _ ew)⟩, ?_⟩
    refine for_list (xs := (codes r i).map strV) (fun j σ H' => Same H1 H' ∧ ∃ lp z6 z7, σ = [some (.str (S r)), some (.int w), some (.ref wp), some (.ref fp), some (.int (1 + (i : Nat))), some (.ref lp), z6, z7] ∧ H' lp = some (.lst ((((codes r i).take j).flatMap fun c => r.map fun x => c ++ [x]).map strV)))
      ⟨s2, l0, _, _, rfl, upd_same⟩ (fun j σ H' _ h => sqL_of (h.1 _ _ ew)) ?_ ?_
    · rintro j v σ H2 hv ⟨s3, lp, z6, z7, rfl, el⟩
      rw [List.getElem?_map] at hv
      obtain ⟨c, hc, rfl⟩ := Option.map_eq_some_iff.mp hv
      obtain ⟨cl, _⟩ := mem_codes.mp (List.mem_of_getElem? hc)
      refine ⟨_, rfl, _, rfl, S r, rfl, fun D hD => ?_⟩
      refine lc_it walk_str (AccP H2 D fun k acc _ => acc = (((r.take k).map fun x => c ++ [x]).map strV)) (AccP.start hD rfl) (fun _ _ _ _ => trivial) ?_ ?_
      · rintro k v H3 H4 hk ⟨acc, G, e3, hG, s4, s5, rfl⟩ ⟨rfl, a, ha, rfl⟩
        have ha2 : r[k]? = some a := by
          have := ha
          rw [← Array.getElem?_toList] at this
          exact this
        walk_at "rd"
        refine ⟨szle (by rw [S_length]; show c.length + 1 ≤ _; omega), ?_⟩
        refine AccP.push e3 hG s4 s5 (by rw [List.length_map, List.length_map, List.length_take]; exact szlt (by omega)) ?_
        show _ = ((r.take (k + 1)).map fun x => c ++ [x]).map strV
        rw [S_codes, S_app, take_map_snoc ha2, List.map_append]
        rfl
      · rintro H3 ⟨acc, G, e3, hG, s4, s5, rfl⟩
        have er : r.take (S r).cps.size = r := List.take_of_length_le (by show r.length ≤ r.toArray.size; simp)
        rw [er] at e3
        have s6 := s4.trans s5
        have k1 := codes_sz hr3 (show i ≤ 2 by omega) j
        refine ⟨lp, D, _, _, rfl, rfl, s6 _ _ el, e3, by rw [List.length_map, List.length_map, List.length_map]; exact szle (by omega), fun np hnp => ?_⟩
        refine ⟨(s3.trans s6).new hnp, np, _, _, rfl, ?_⟩
        rw [upd_same, flat_take hc, List.map_append]
    · rintro σ H2 ⟨s3, lp, z6, z7, rfl, el⟩
      rw [List.length_map, List.take_length] at el
      have el2 : H2 lp = some (.lst ((codes r (i + 1)).map strV)) := el
      have hfw := codes_few (r := r) (n := i + 1) hr3 (by omega)
      refine ⟨_, rfl, _, rfl, _, rfl, lp, rfl, ⟨_, sqL_of el2⟩, fun D hD => ?_⟩
      refine lc_it (walk_list (xs := (codes r (i + 1)).map strV)) (AccP H2 D fun k acc _ => acc = (((codes r (i + 1)).take k).map fun c => strV (if i + 1 = w then c else caret :: c))) (AccP.start hD rfl) (fun j H3 _ h => ?_) ?_ ?_
      · obtain ⟨acc, G, e3, hG, s4, s5, _⟩ := h
        exact s5.seq (s4.seq (sqL_of el2))
      · rintro k v H3 H4 hk ⟨acc, G, e3, hG, s4, s5, rfl⟩ ⟨rfl, hv⟩
        rw [List.getElem?_map] at hv
        obtain ⟨c, hc, rfl⟩ := Option.map_eq_some_iff.mp hv
        obtain ⟨cl, _⟩ := mem_codes.mp (List.mem_of_getElem? hc)
        walk_at "rd"
        refine ⟨szle (by rw [S_length]; show 1 + c.length ≤ _; omega), ?_⟩
        walk_at "rd"
        refine ⟨by show 2 ≤ sizeLine; decide, fun pp hpp => ?_⟩
        have hpD : pp ≠ D := fun z => by rw [z, e3] at hpp; cases hpp
        refine ⟨_, rfl, _, rfl, rfl, .inr ⟨_, rfl, ?_⟩⟩
        have e9 : (Str.ofString "^" : Str) = S [caret] := by decide +kernel
        have hlen : ((((codes r (i + 1)).take k).map fun c => strV (if i + 1 = w then c else caret :: c))).length < sizeLine := by
          rw [List.length_map, List.length_take]
          exact szlt (by omega)
        have hstep : (((codes r (i + 1)).take (k + 1)).map fun c => strV (if i + 1 = w then c else caret :: c)) = (((codes r (i + 1)).take k).map fun c => strV (if i + 1 = w then c else caret :: c)) ++ [strV (if i + 1 = w then c else caret :: c)] := take_map_snoc hc
        by_cases hiw : i + 1 = w
        · have ed : decide (V.int (1 + (i : Nat)) = V.int (w : Nat)) = true := decide_eq_true (by congr 1; omega)
          refine ⟨pp, _, _, strV c, rfl, rfl, sqL_of upd_same, ?_, ?_⟩
          · rw [ed]
            exact atI_nat (j := 1) rfl
          · refine AccP.push ((upd_ne (Ne.symm hpD)).trans e3) hG s4 (s5.new hpp) hlen ?_
            show _ = ((codes r (i + 1)).take (k + 1)).map fun c => strV (if i + 1 = w then c else caret :: c)
            rw [hstep, if_pos hiw]
        · have ed : decide (V.int (1 + (i : Nat)) = V.int (w : Nat)) = false := decide_eq_false fun z => hiw (by have := V.int.inj z; omega)
          refine ⟨pp, _, _, .str (Str.ofString "^" ++ S c), rfl, rfl, sqL_of upd_same, ?_, ?_⟩
          · rw [ed]
            exact atI_nat (j := 0) rfl
          · refine AccP.push ((upd_ne (Ne.symm hpD)).trans e3) hG s4 (s5.new hpp) hlen ?_
            show _ = ((codes r (i + 1)).take (k + 1)).map fun c => strV (if i + 1 = w then c else caret :: c)
            rw [hstep, if_neg hiw, e9, S_app]
            rfl
      · rintro H3 ⟨acc, G, e3, hG, s4, s5, rfl⟩
        rw [List.length_map, List.take_length] at e3
        have s6 := s3.trans (s4.trans s5)
        have hff : (fnd r w i).length ≤ 27 + 27 := by
          unfold fnd
          rw [if_pos (by omega)]
          have h1 : extra r i = [] ∨ i = 1 := by
            rcases Nat.eq_zero_or_pos i with z | z
            · subst z; exact .inl rfl
            · exact .inr (by omega)
          rcases h1 with h1 | h1
          · rw [h1]; exact Nat.zero_le _
          · subst h1
            rw [extra_succ, List.length_append, List.length_map]
            have := codes_few (r := r) (n := 0 + 1) hr3 (by omega)
            show 0 + _ ≤ _
            omega
        refine ⟨fp, D, _, _, rfl, rfl, s6 _ _ ef, e3, by rw [List.length_map, List.length_map]; exact szle (by omega), fun np hnp => ?_⟩
        refine ⟨(s1.trans s6).new hnp, lp, np, _, _, _, _, rfl, ?_, ?_⟩
        · rw [upd_ne (ne_of_none ((s4.trans s5) _ _ el2) hnp)]
          exact (s4.trans s5) _ _ el2
        · rw [upd_same]
          congr 2
          unfold fnd
          rw [if_pos (show i < w by omega)]
          by_cases hiw : i + 1 = w
          · rw [if_neg (by omega), List.map_append]
            congr 1
            · rw [show w - 1 = i by omega]
            · simp [hiw]
          · rw [if_pos (by omega), extra_succ, List.map_append]
            congr 1
            rw [List.map_map]
            simp [hiw]
  · rintro σ H1 ⟨s1, wp, fp, z4, z5, z6, z7, rfl, ew, ef⟩
    have ewn : ((w : Int) + 1 - 1).toNat = w := by omega
    rw [ewn] at ef
    refine ⟨_, rfl, fp, _, rfl, sqL_of ef, fun b hb => ?_⟩
    have := q b (upd H1 b (.lst ((srt (fnd r w w)).map strV))) (s1.new hb) (none_of s1 hb)
    unfold fnd at this
    rw [if_neg (Nat.lt_irrefl w), st_law] at this
    unfold fnd
    rw [if_neg (Nat.lt_irrefl w), st_law]
    exact this upd_same
end K84
namespace K84
open PySem
/-! ### all orders of the places, by insertion -/
def ins (n : Nat) (row : List Nat) : List (List Nat) := (List.range (row.length + 1)).map fun at_ => row.take at_ ++ [n] ++ row.drop at_
def plc : Nat → List (List Nat)
  | 0 => [[]]
  | n + 1 => (plc n).flatMap (ins n)
theorem ins_len {n : Nat} {row p : List Nat} (h : p ∈ ins n row) : p.Perm (n :: row) := by
  obtain ⟨k, _, rfl⟩ := List.mem_map.mp h
  have e : row = row.take k ++ row.drop k := (List.take_append_drop k row).symm
  have h1 : (row.take k ++ [n] ++ row.drop k).Perm ([n] ++ row.take k ++ row.drop k) := List.perm_append_comm.append_right _
  refine h1.trans ?_
  rw [List.append_assoc, List.take_append_drop]
  exact List.Perm.refl _
theorem plc_perm : ∀ {n : Nat} {p : List Nat}, p ∈ plc n → p.Perm (List.range n)
  | 0, p, h => by rw [List.mem_singleton.mp h]; exact List.Perm.refl _
  | n + 1, p, h => by
    obtain ⟨row, hr, hp⟩ := List.mem_flatMap.mp h
    rw [List.range_succ]
    exact (ins_len hp).trans (((plc_perm hr).cons n).trans (List.perm_append_comm (l₁ := [n])))
theorem mem_plc : ∀ {n : Nat} {p : List Nat}, p.Perm (List.range n) → p ∈ plc n
  | 0, p, h => List.mem_singleton.mpr h.eq_nil
  | n + 1, p, h => by
    have hn : n ∈ p := h.mem_iff.mpr (List.mem_range.mpr (Nat.lt_succ_self n))
    obtain ⟨a, b, rfl⟩ := List.append_of_mem hn
    refine List.mem_flatMap.mpr ⟨a ++ b, mem_plc ?_, List.mem_map.mpr ⟨a.length, List.mem_range.mpr (by rw [List.length_append]; omega), ?_⟩⟩
    · have h1 : (n :: (a ++ b)).Perm (n :: List.range n) := by
        refine List.perm_middle.symm.trans (h.trans ?_)
        rw [List.range_succ]
        exact List.perm_append_comm (l₂ := [n])
      exact h1.cons_inv
    · simp
theorem ins_length {n : Nat} {row : List Nat} : (ins n row).length = row.length + 1 := by
  unfold ins
  rw [List.length_map, List.length_range]
theorem plc_len : ∀ n, n ≤ 7 → (plc n).length ≤ 7 ^ n
  | 0, _ => Nat.le_refl _
  | n + 1, h => by
    have ih := plc_len n (by omega)
    have hf : ∀ l : List (List Nat), (∀ row ∈ l, row.length ≤ 6) → (l.flatMap (ins n)).length ≤ l.length * 7 := by
      intro l
      induction l with
      | nil => intro _; simp
      | cons a l ih2 =>
        intro hl
        rw [List.flatMap_cons, List.length_append, ins_length, List.length_cons, Nat.add_mul]
        have h1 := hl a List.mem_cons_self
        have h2 := ih2 fun r hr => hl r (List.mem_cons_of_mem _ hr)
        omega
    have h3 := hf (plc n) fun row hr => by
      rw [(plc_perm hr).length_eq, List.length_range]
      omega
    rw [Nat.pow_succ]
    exact Nat.le_trans h3 (Nat.mul_le_mul_right _ ih)
/-! ### an order keeps the pairs: by the places' indices -/
def keeps (bs : List (Nat × Nat)) (p : List Nat) : Bool := bs.all fun q => decide (p.idxOf q.1 ≤ p.idxOf q.2)
theorem idxOf_app {a : List Nat} {x y : Nat} (h : y ∈ a) : (a ++ [x]).idxOf y = a.idxOf y := by
  rw [List.idxOf_append]
  rw [if_pos h]
theorem vd_keeps {n : Nat} {bs : List (Nat × Nat)} : ∀ {p : List Nat}, Vd n bs p → ∀ q ∈ bs, q.2 ∈ p → q.1 ∈ p ∧ p.idxOf q.1 ≤ p.idxOf q.2 := by
  intro p h
  induction h with
  | nil => intro q _ hq; cases hq
  | @snoc p x h hx hn hb ih =>
    intro q hq h2
    by_cases hp : q.2 ∈ p
    · obtain ⟨i1, i2⟩ := ih q hq hp
      exact ⟨List.mem_append_left _ i1, by rw [idxOf_app i1, idxOf_app hp]; exact i2⟩
    · rcases List.mem_append.mp h2 with h2 | h2
      · exact absurd h2 hp
      · have e := List.mem_singleton.mp h2
        have h1 := hb q hq e
        refine ⟨List.mem_append_left _ h1, ?_⟩
        rw [idxOf_app h1, List.idxOf_append, if_neg hp]
        have := List.idxOf_lt_length_of_mem h1
        omega
theorem keeps_vd {n : Nat} {bs : List (Nat × Nat)} : ∀ {k : Nat} {p : List Nat}, p.length = k → p.Nodup → (∀ x ∈ p, x < n) → (∀ q ∈ bs, q.1 ≠ q.2 ∧ (q.2 ∈ p → q.1 ∈ p ∧ p.idxOf q.1 ≤ p.idxOf q.2)) → Vd n bs p
  | 0, p, hl, _, _, _ => by rw [List.length_eq_zero_iff.mp hl]; exact .nil
  | k + 1, p, hl, hn, hx, hq => by
    have hne : p ≠ [] := by
      rintro rfl
      cases hl
    have ep := (List.dropLast_concat_getLast hne).symm
    generalize p.dropLast = a at ep
    generalize p.getLast hne = x at ep
    subst ep
    obtain ⟨n1, n2, n3⟩ := List.nodup_append.mp hn
    have hxa : x ∉ a := fun z => n3 x z x (List.mem_singleton.mpr rfl) rfl
    have idx : ∀ y ∈ a, (a ++ [x]).idxOf y < a.length := fun y hy => by rw [idxOf_app hy]; exact List.idxOf_lt_length_of_mem hy
    have idl : (a ++ [x]).idxOf x = a.length := by
      rw [List.idxOf_append, if_neg hxa]
      simp
    refine (keeps_vd (k := k) (by rw [List.length_append] at hl; exact Nat.succ.inj hl) n1 (fun y hy => hx y (List.mem_append_left _ hy)) fun q hb => ⟨(hq q hb).1, fun h2 => ?_⟩).snoc (hx x (List.mem_append_right _ (List.mem_singleton.mpr rfl))) hxa fun q hb e => ?_
    · obtain ⟨h3, h4⟩ := (hq q hb).2 (List.mem_append_left _ h2)
      have h5 : q.1 ∈ a := by
        rcases List.mem_append.mp h3 with h3 | h3
        · exact h3
        · have := List.mem_singleton.mp h3
          rw [this, idl] at h4
          have := idx q.2 h2
          omega
      exact ⟨h5, by rw [idxOf_app h5, idxOf_app h2] at h4; exact h4⟩
    · obtain ⟨h3, h4⟩ := (hq q hb).2 (List.mem_append_right _ (by rw [e]; exact List.mem_singleton.mpr rfl))
      rcases List.mem_append.mp h3 with h3 | h3
      · exact h3
      · exact absurd ((List.mem_singleton.mp h3).trans e.symm) (hq q hb).1
/-- the law's orders are those of the layers -/
theorem law_orders {c : Wd} {bs : List (Nat × Nat)} (hbs : ∀ q ∈ bs, q.1 < q.2 ∧ q.2 < c.length) {s : Wd} : (∃ p ∈ plc c.length, keeps bs p = true ∧ s = rd c p) ↔ ∃ p, Vd c.length bs p ∧ p.length = c.length ∧ s = rd c p := by
  constructor
  · rintro ⟨p, hp, hk, rfl⟩
    have h1 := plc_perm hp
    refine ⟨p, keeps_vd rfl (h1.nodup_iff.mpr List.nodup_range) (fun x hx => List.mem_range.mp (h1.mem_iff.mp hx)) fun q hq => ⟨by have := (hbs q hq).1; omega, fun _ => ⟨h1.mem_iff.mpr (List.mem_range.mpr ?_), ?_⟩⟩, by rw [h1.length_eq, List.length_range], rfl⟩
    · have := hbs q hq
      omega
    · unfold keeps at hk
      exact of_decide_eq_true (List.all_eq_true.mp hk q hq)
  · rintro ⟨p, hv, hl, rfl⟩
    obtain ⟨h1, h2⟩ := hv.nd
    have hp : p.Perm (List.range c.length) := nd_perm h1 (fun x hx => List.mem_range.mpr (h2 x hx)) (by rw [List.length_range, hl]; exact Nat.le_refl _)
    refine ⟨p, mem_plc hp, ?_, rfl⟩
    unfold keeps
    rw [List.all_eq_true]
    intro q hq
    exact decide_eq_true ((vd_keeps hv q hq (hp.mem_iff.mpr (List.mem_range.mpr (hbs q hq).2))).2)
end K84
set_option maxHeartbeats 4000000
namespace K84
open PySem PySem.Spec PyProof.Rows L2
local macro_rules | `(tactic| walk_at "ix") => `(tactic| first | exact atI_nat (j := 0) rfl | exact atI_nat (j := 1) rfl | exact atI_nat (j := 2) rfl | exact atI_nat (j := 3) rfl | exact atI_nat (j := 4) rfl)
local macro_rules | `(tactic| walk_at "rd") => `(tactic| repeat (first
  | refine ⟨_, rfl, ?_⟩
  | refine ⟨rfl, ?_⟩
  | refine ⟨_, _, rfl, ?_⟩
  | refine ⟨_, _, rfl, rfl, ?_⟩
  | refine ⟨_, _, _, rfl, ?_⟩
  | refine ⟨_, _, _, _, rfl, ?_⟩
  | refine ⟨_, _, _, _, rfl, rfl, (by assumption), (by walk_at "ix"), ?_⟩
  | refine ⟨_, _, _, rfl, rfl, (by assumption), ?_⟩
  | refine ⟨.inl ⟨rfl, _, sqL_of (by assumption)⟩, ?_⟩
  | refine ⟨_, _, _, _, _, rfl, (by assumption), (by assumption), (by assumption), (by assumption), ?_⟩
  | refine ⟨_, _, _, _, _, rfl, .ty _, Tg.ty (by assumption), kit_ty (by first | exact kInt _ | exact kBool _ | exact kStr _ | exact kTup _ | exact kLst _ | exact kDct _), ?_⟩))
theorem cutV_to {l : List V} {k : Nat} (h : k ≤ l.length) : cutV l none (some (0 + (k : Int))) = l.take k := by
  rw [Int.zero_add]
  unfold cutV
  rw [sIx_some h]
  show (l.drop 0).take (k - 0) = _
  rfl
theorem cutV_from {l : List V} {k : Nat} (h : k ≤ l.length) : cutV l (some (0 + (k : Int))) none = l.drop k := by
  rw [Int.zero_add]
  unfold cutV
  rw [sIx_some h]
  show (l.drop k).take (l.length - k) = _
  rw [List.take_of_length_le (by rw [List.length_drop]; exact Nat.le_refl _)]
def sp_l_all_places (K : PySem.W.Frag) : Sp := sp1 fun a H Q _ => ∃ n : Nat, a = .int n ∧ n ≤ 7 ∧ ∀ p xs H', Same H H' → H' p = some (.lst xs) → Each (LisV K H') xs (plc n) → Q (.ref p) H'
/- _law_all_places: _law_many=0 _law_found=1 _law_place=2 _law_longer=3 _law_row=4 _law_at=5; cells []; calls []; builtins ['range', 'len'] -/
abbrev s_l_all_places : Stmt := top 78
theorem sc_l_all_places : FnScope ["_law_many", "_law_found", "_law_place", "_law_longer", "_law_row", "_law_at"] ["_law_many"] (defScope s_l_all_places) := ⟨rfl, rfl, rfl, by decide +kernel, rfl, by decide +kernel, by decide +kernel⟩
theorem ok_l_all_places {P : Program} {w : World} {K : PySem.W.Frag} {mg : Str → Option Value} {base : Heap} (D : Df K mg "_law_all_places" s_l_all_places) (T : Tx K mg)  :
    Cl CX0 P w K mg base 1 "_law_all_places" (sp_l_all_places K) := by
  refine D.ok1 (k := 0) sc_l_all_places (fun _ _ _ _ _ _ us hl => match us, hl with | [_], _ => rfl) (fun f cdv A outer s H a Q E hr h => ⟨_, PSs.nox ((pss_cons (ps_set (i := 1) sc_l_all_places.nd rfl (Or.inl rfl) (pe_lst (pa_cons (pe_lst pa_nil) pa_nil)))
      (pss_cons (ps_for PassesOwn.never rfl (pi_range1 (by rfl) T.range (pa_cons (pv 0) pa_nil)) (pg_name (i := 2) sc_l_all_places.nd rfl (Or.inl rfl)) (pss_cons (ps_set (i := 3) sc_l_all_places.nd rfl (Or.inl rfl) (pe_lst pa_nil))
      (pss_cons (ps_for PassesOwn.never rfl (pi_list (pv 1)) (pg_name (i := 4) sc_l_all_places.nd rfl (Or.inl rfl)) (pss_one (ps_for PassesOwn.never rfl (pi_range1 (by rfl) T.range (pa_cons (pe_op op_add (pe_callB call_len_seq (by rfl) T.len (by decide +kernel) (pa_cons (pv 4) pa_nil)) pe_int) pa_nil)) (pg_name (i := 5) sc_l_all_places.nd rfl (Or.inl rfl)) (pss_one (ps_expr (pe_bm PySem.F.plainAttrs_list PySem.F.slot_list_append PySem.F.type_list_append mt_append (pv 3) (pa_cons (pe_op op_cat (pe_op op_cat (pe_slice sl_list (pv 4) po_none (po_some (pv 5))) (pe_lst (pa_cons (pv 2) pa_nil))) (pe_slice sl_list (pv 4) (po_some (pv 5)) po_none)) pa_nil)))))))
      (pss_one (ps_set (i := 1) sc_l_all_places.nd rfl (Or.inl rfl) (pv 3))))))
      (pss_one (ps_ret (pv 1)))))), ?_⟩)
  obtain ⟨n, rfl, hn, q⟩ := h
  refine ⟨Nat.zero_le _, fun ep hep => ?_⟩
  refine ⟨by show 1 ≤ sizeLine; decide, fun fp hfp => ?_⟩
  refine ⟨_, rfl, _, rfl, by omega, by omega, ?_⟩
  refine for_range (fun i σ H' => Same H H' ∧ ∃ fp xs z2 z3 z4 z5, σ = [some (.int n), some (.ref fp), z2, z3, z4, z5] ∧ H' fp = some (.lst xs) ∧ Each (LisV K H') xs (plc i))
    ⟨(same_new hep).new hfp, fp, _, _, _, _, _, rfl, upd_same, Each.nil.snoc ⟨ep, rfl, sqL_of ?_⟩⟩ ?_ ?_
  · have hne : ep ≠ fp := fun z => by rw [← z, upd_same] at hfp; cases hfp
    exact (upd_ne hne).trans upd_same
  · rintro i σ H1 hi ⟨s1, fp, xs, z2, z3, z4, z5, rfl, ef, hE⟩
    have hi7 : i < 7 := by omega
    refine ⟨Nat.zero_le _, fun lp hlp => ?_⟩
    refine ⟨_, rfl, fp, rfl, ⟨_, sqL_of (same_new hlp _ _ ef)⟩, ?_⟩
    refine for_list (xs := xs) (fun j σ H' => (∃ z4 z5, σ = [some (.int n), some (.ref fp), some (.int (0 + (i : Nat))), some (.ref lp), z4, z5]) ∧ AccP H1 lp (fun j acc G => Each (LisV K G) acc (((plc i).take j).flatMap (ins i))) j H') ⟨⟨_, _, rfl⟩, AccP.start hlp Each.nil⟩ (fun j σ H' _ h => ?_) ?_ ?_
    · obtain ⟨acc, G, e, hG, k1, k2, _⟩ := h.2
      exact sqL_of (k2 _ _ (k1 _ _ ef))
    · rintro j v σ H2 hv ⟨⟨z4, z5, rfl⟩, acc, G, e, hG, k1, k2, hA⟩
      obtain ⟨row, hrow, rp, rfl, hrp⟩ := hE.get hv
      have hrl : row.length = i := by rw [(plc_perm (List.mem_of_getElem? hrow)).length_eq, List.length_range]
      have hrp2 := k2.seq (k1.seq hrp)
      refine ⟨_, rfl, rp, _, rfl, .inl hrp2, _, _, rfl, rfl, ?_⟩
      rw [List.length_map]
      refine ⟨_, rfl, by omega, by omega, ?_⟩
      have hjl : ((plc i).take j).length ≤ 7 ^ 6 := by
        rw [List.length_take]
        have h1 := plc_len i (by omega)
        have h2 : 7 ^ i ≤ 7 ^ 6 := Nat.pow_le_pow_right (by decide) (by omega)
        omega
      have hfl : (((plc i).take j).flatMap (ins i)).length ≤ 7 ^ 7 := by
        have hf : ∀ l : List (List Nat), (∀ row ∈ l, row.length ≤ 6) → (l.flatMap (ins i)).length ≤ l.length * 7 := by
          intro l
          induction l with
          | nil => intro _; simp
          | cons a l ih2 =>
            intro hl
            rw [List.flatMap_cons, List.length_append, ins_length, List.length_cons, Nat.add_mul]
            have h1 := hl a List.mem_cons_self
            have h2 := ih2 fun r hr => hl r (List.mem_cons_of_mem _ hr)
            omega
        have := hf ((plc i).take j) fun r hr => by
          rw [(plc_perm (List.mem_of_mem_take hr)).length_eq, List.length_range]
          omega
        omega
      refine for_range (fun k σ H' => (∃ z5, σ = [some (.int n), some (.ref fp), some (.int (0 + (i : Nat))), some (.ref lp), some (.ref rp), z5]) ∧ AccP H1 lp (fun k acc G => Each (LisV K G) acc (((plc i).take j).flatMap (ins i) ++ (ins i row).take k)) k H') ⟨⟨_, rfl⟩, acc, G, e, hG, k1, k2, by simpa using hA⟩ ?_ ?_
      · rintro k σ H3 hk ⟨⟨z5, rfl⟩, acc, G, e, hG, k1, k2, hA⟩
        have hki : k ≤ row.length := by omega
        have hkm : k ≤ (row.map nV).length := by rw [List.length_map]; exact hki
        have hal : acc.length ≤ 7 ^ 7 + 8 := by
          rw [hA.1, List.length_append, List.length_take]
          omega
        refine ⟨_, rfl, .inl ⟨rfl, _, sqL_of e⟩, ?_⟩
        refine ⟨_, rfl, _, rfl, _, rfl, rp, _, rfl, k2.seq (k1.seq hrp), fun p1 hp1 => ?_⟩
        refine ⟨_, rfl, by show 1 ≤ sizeLine; decide, fun p2 hp2 => ?_⟩
        have n12 : p1 ≠ p2 := fun z => by rw [← z, upd_same] at hp2; cases hp2
        refine ⟨p1, p2, _, _, rfl, rfl, (upd_ne n12).trans upd_same, upd_same, ?_, fun p3 hp3 => ?_⟩
        · rw [cutV_to hkm, List.length_take]
          exact szle (by show min k _ + 1 ≤ _; omega)
        have s3 := ((same_new (o := .lst (cutV (row.map nV) none (some (0 + (k : Int))))) hp1).new (o := .lst [.int (0 + (i : Nat))]) hp2).new (o := .lst (cutV (row.map nV) none (some (0 + (k : Int))) ++ [.int (0 + (i : Nat))])) hp3
        refine ⟨_, rfl, _, rfl, _, rfl, rp, _, rfl, s3.seq (k2.seq (k1.seq hrp)), fun p4 hp4 => ?_⟩
        have n34 : p3 ≠ p4 := fun z => by rw [← z, upd_same] at hp4; cases hp4
        refine ⟨p3, p4, _, _, rfl, rfl, (upd_ne n34).trans upd_same, upd_same, ?_, fun p5 hp5 => ?_⟩
        · rw [cutV_to hkm, cutV_from hkm, List.length_append, List.length_take, List.length_drop, List.length_map]
          exact szle (by show min k _ + 1 + _ ≤ _; omega)
        have s4 := s3.new (o := .lst (cutV (row.map nV) (some (0 + (k : Int))) none)) hp4
        have s5 := s4.new (o := .lst ((cutV (row.map nV) none (some (0 + (k : Int))) ++ [.int (0 + (i : Nat))]) ++ cutV (row.map nV) (some (0 + (k : Int))) none)) hp5
        have e5 := s5 _ _ e
        have n5 : p5 ≠ lp := fun z => by rw [z] at hp5; rw [s4 _ _ e] at hp5; cases hp5
        have sG : Same G (wo _ lp) := wo_to (k2.trans s5) hG
        refine ⟨lp, acc, _, rfl, rfl, e5, Nat.lt_of_le_of_lt hal (by rw [sizeLine_eq]; decide), ⟨_, rfl⟩, _, wo _ lp, upd_same, wo_at, k1.trans sG, wo_upd, ?_⟩
        show Each (LisV K _) _ (((plc i).take j).flatMap (ins i) ++ (ins i row).take (k + 1))
        have hgk : (ins i row)[k]? = some (row.take k ++ [i] ++ row.drop k) := by
          unfold ins
          rw [List.getElem?_map, List.getElem?_range (by omega)] <;> rfl
        rw [List.take_add_one, hgk, ← List.append_assoc]
        refine (hA.mono fun v l => LisV.mono sG).snoc ⟨p5, rfl, sqL_of ?_⟩
        rw [wo_ne n5, upd_same, cutV_to hkm, cutV_from hkm, ← List.map_take, ← List.map_drop, List.map_append, List.map_append, Int.zero_add]
        rfl
      · rintro σ H3 ⟨⟨z5, rfl⟩, acc, G, e, hG, k1, k2, hA⟩
        refine ⟨⟨_, _, rfl⟩, acc, G, e, hG, k1, k2, ?_⟩
        show Each (LisV K G) acc (((plc i).take (j + 1)).flatMap (ins i))
        rw [flat_take hrow]
        have : (ins i row).take (((row.length : Nat) : Int) + 1).toNat = ins i row := List.take_of_length_le (by rw [ins_length]; omega)
        rw [this] at hA
        exact hA
    · rintro σ H2 ⟨⟨z4, z5, rfl⟩, acc, G, e, hG, k1, k2, hA⟩
      rw [hE.1, List.take_length] at hA
      exact ⟨_, rfl, s1.trans (k1.trans k2), lp, acc, _, _, _, _, rfl, e, hA.mono fun v l => LisV.mono k2⟩
  · rintro σ H1 ⟨s1, fp, xs, z2, z3, z4, z5, rfl, ef, hE⟩
    exact ⟨_, rfl, q fp xs H1 s1 ef hE⟩
theorem glue_S : ∀ (m : List Nat) (a : Array Nat), ((m.map fun x => S [x]).foldl (fun acc p => acc ++ (S []).cps ++ p.cps) a).toList = a.toList ++ m
  | [], a => by simp
  | x :: m, a => by
    rw [List.map_cons, List.foldl_cons, glue_S m]
    show (a ++ #[] ++ #[x]).toList ++ m = _
    simp
theorem join_S (l : List Nat) : Txt.join (Str.ofString "") (l.map fun x => S [x]) = S l := by
  have e : (Str.ofString "" : Str) = S [] := by decide +kernel
  rw [e]
  cases l with
  | nil => rfl
  | cons x l =>
    have h := glue_S l #[x]
    rw [← S_of (Txt.join (S []) ((x :: l).map fun x => S [x]))]
    congr 1
def kvT (ks : List Wd) : List (L2.Key × V) := ks.map fun n => (Sum.inr (S n), V.bl true)
theorem putK_kvT {ks : List Wd} {n : Wd} : putK (kvT ks) (Sum.inr (S n)) (.bl true) = kvT (if n ∈ ks then ks else ks ++ [n]) := by
  by_cases h : n ∈ ks
  · rw [if_pos h]
    unfold putK
    have h1 : ((kvT ks).any fun kv => decide (kv.1 = (Sum.inr (S n) : L2.Key))) = true := by
      rw [List.any_eq_true]
      exact ⟨_, List.mem_map.mpr ⟨n, h, rfl⟩, decide_eq_true rfl⟩
    rw [if_pos h1]
    unfold kvT
    rw [List.map_map]
    refine List.map_congr_left fun x _ => ?_
    show (if (Sum.inr (S x) : L2.Key) = Sum.inr (S n) then ((Sum.inr (S x) : L2.Key), V.bl true) else (Sum.inr (S x), V.bl true)) = _
    split <;> rfl
  · rw [if_neg h]
    exact putK_map h rfl
theorem idx_cast {p : List Nat} {x : Nat} : (p.map fun n : Nat => (n : Int)).idxOf (x : Int) = p.idxOf x := by
  induction p with
  | nil => rfl
  | cons a p ih =>
    rw [List.map_cons, List.idxOf_cons, List.idxOf_cons, ih]
    have e : (((a : Nat) : Int) == (x : Int)) = (a == x) := by
      rw [Bool.eq_iff_iff]
      simp
      omega
    rw [e]
def badL (bs : List (Nat × Nat)) (p : List Nat) : List (Nat × Nat) := bs.filter fun q => decide (p.idxOf q.2 < p.idxOf q.1)
theorem bad_keeps {bs : List (Nat × Nat)} {p : List Nat} : decide (V.int ((badL bs p).length : Nat) = V.int 0) = keeps bs p := by
  rw [Bool.eq_iff_iff, decide_eq_true_eq]
  unfold keeps badL
  rw [List.all_eq_true]
  constructor
  · intro h q hq
    have h0 : (bs.filter fun q => decide (p.idxOf q.2 < p.idxOf q.1)) = [] := List.length_eq_zero_iff.mp (by have := V.int.inj h; omega)
    have := List.filter_eq_nil_iff.mp h0 q hq
    exact decide_eq_true (by simpa using this)
  · intro h
    have h0 : (bs.filter fun q => decide (p.idxOf q.2 < p.idxOf q.1)) = [] := List.filter_eq_nil_iff.mpr fun q hq => by
      have := of_decide_eq_true (h q hq)
      simp
      omega
    rw [h0] <;> rfl
theorem sqL_wo {K : PySem.W.Frag} {H : Hp} {t p : Addr} {kvs : List (L2.Key × V)} {xs : List V} (e : H t = some (.dK kvs)) (hu : ∀ xs, HO.dK kvs ≠ .lst xs) (h : SqL K H p xs) : SqL K (wo H t) p xs := by
  rcases h with (h | ⟨q, h⟩) | h
  · exact .inl (.inl (by rw [wo_ne (fun z => by rw [z, e] at h; cases h)]; exact h))
  · exact .inl (.inr ⟨q, by rw [wo_ne (fun z => by rw [z, e] at h; cases h)]; exact h⟩)
  · exact .inr h
def sp_l_all_orders (K : PySem.W.Frag) : Sp := sp2 fun a b H Q _ => ∃ (c : Wd) (bs : List (Nat × Nat)), a = .str (S c) ∧ c.length ≤ 7 ∧ Tg K H b (.lst (bs.map bTh)) ∧ bs.length ≤ 1000 ∧ (∀ q ∈ bs, q.1 < q.2 ∧ q.2 < c.length) ∧ ∀ ys, IsOrds c bs ys → NewL K H Q (ys.map strV)
/- _law_all_orders: _law_code_here=0 _law_befores_here=1 _law_made=2 _law_row=3 _law_pair=4 _law_place=5; cells ['_law_code_here', '_law_row']; calls ['_law_all_places']; builtins ['sorted', 'list', 'len'] -/
abbrev s_l_all_orders : Stmt := top 79
theorem sc_l_all_orders : FnScope ["_law_code_here", "_law_befores_here", "_law_made", "_law_row", "_law_pair", "_law_place"] ["_law_code_here", "_law_befores_here"] (defScope s_l_all_orders) := ⟨rfl, rfl, rfl, by decide +kernel, rfl, by decide +kernel, by decide +kernel⟩
theorem ok_l_all_orders {P : Program} {w : World} {K : PySem.W.Frag} {mg : Str → Option Value} {base : Heap} (D : Df K mg "_law_all_orders" s_l_all_orders) (T : Tx K mg) (c_l_all_places : Cl CX0 P w K mg base 1 "_law_all_places" (sp_l_all_places K)) :
    Cl CX0 P w K mg base 2 "_law_all_orders" (sp_l_all_orders K) := by
  refine D.ok2 (k := 1) sc_l_all_orders (fun _ _ _ _ _ _ us hl => match us, hl with | [_, _], _ => rfl) (fun f cdv A outer s H a b Q E hr h => ⟨_, PSs.nox ((pss_cons (ps_set (i := 2) sc_l_all_orders.nd rfl (Or.inl rfl) pe_dnewK)
      (pss_cons (ps_for PassesOwn.never rfl (pi_list (pe_cl c_l_all_places hr (by decide) pass0 (pa_cons (pe_callB call_len_str (by rfl) T.len (by decide +kernel) (pa_cons (pv 0) pa_nil)) pa_nil))) (pg_name (i := 3) sc_l_all_orders.nd rfl (Or.inr rfl)) (pss_one (ps_if (pt_cmpR op_eq (pe_callB call_len_seq (by rfl) T.len (by decide +kernel) (pa_cons (pe_lc (own := [("_law_pair", 4)]) rfl sc_l_all_orders.nd (pi_list (pv 1)) (blkOk_by (own := [("_law_pair", 4)]) (N := ["_law_code_here", "_law_befores_here", "_law_made", "_law_row", "_law_pair", "_law_place"]) (sc := defScope s_l_all_orders) (by decide +kernel)) (fun _ _ _ _ _ => (pg_name (i := 4) sc_l_all_orders.nd rfl (Or.inl rfl))) (fun _ _ _ _ _ => (pts_one (pt_cmpR op_gt (peK (t' := tBM K _ (rIndexL K) _ _) (pe_bm PySem.F.plainAttrs_list PySem.F.slot_list_index PySem.F.type_list_index mt_indexL (pv 3) (pa_cons (pe_ix (r := rIxT K) ix_tup (pv 4) pe_int (fun _ _ => rfl)) pa_nil)) rfl) (peK (t' := tBM K _ (rIndexL K) _ _) (pe_bm PySem.F.plainAttrs_list PySem.F.slot_list_index PySem.F.type_list_index mt_indexL (pv 3) (pa_cons (pe_ix (r := rIxT K) ix_tup (pv 4) pe_int (fun _ _ => rfl)) pa_nil)) rfl) (nomark _)))) (fun _ _ _ _ _ => (pv 4))) pa_nil)) pe_int (nomark _)) (pss_one (ps_dput (hu_of hr) (pv 2) (pe_join pe_str (pe_lc (own := [("_law_place", 5)]) rfl sc_l_all_orders.nd (pi_list (pv 3)) (blkOk_by (own := [("_law_place", 5)]) (N := ["_law_code_here", "_law_befores_here", "_law_made", "_law_row", "_law_pair", "_law_place"]) (sc := defScope s_l_all_orders) (by decide +kernel)) (fun _ _ _ _ _ => (pg_name (i := 5) sc_l_all_orders.nd rfl (Or.inl rfl))) (fun _ _ _ _ _ => pts_nil) (fun _ _ _ _ _ => (pe_ix ix_str (pv 0) (pv 5) (fun _ _ => rfl))))) pe_bl rfl)) pss_nil)))
      (pss_one (ps_ret (pe_callB (cr_sortedSA hr.units) (by rfl) T.sorted (by decide +kernel) (pa_cons (pe_callTy (call_listD rfl) (by rfl) T.list_ (by decide +kernel) (pa_cons (pv 2) pa_nil)) pa_nil))))))), ?_⟩)
  obtain ⟨c, bs, rfl, hc, g, hbl, hbs, q⟩ := h
  obtain ⟨bp, bxs, rfl, hbp, hbT⟩ : ∃ bp bxs, b = .ref bp ∧ SqL K H bp bxs ∧ TgAll K H bxs (bs.map bTh) := by
    cases g with
    | @lst p xs ds h1 h2 => exact ⟨p, xs, rfl, h1, h2⟩
  have hbl2 := hbT.length
  rw [List.length_map] at hbl2
  have hsz : (S c).length ≤ sizeLine := szle (by rw [S_length]; omega)
  intro mp hmp
  refine ⟨_, rfl, _, rfl, hsz, ?_⟩
  rw [S_length]
  refine ⟨_, rfl, c.length, rfl, hc, fun pp pxs H1 s1 epp hE => ?_⟩
  have em1 := s1 _ _ (upd_same (H := H) (a := mp) (o := .dK []))
  have s01 := (same_new hmp).trans s1
  refine ⟨pp, rfl, ⟨_, sqL_of epp⟩, ?_⟩
  have hppm : pp ≠ mp := fun z => by rw [z, em1] at epp; cases epp
  refine for_list (xs := pxs) (fun j σ H' => (∃ z3 z4 z5, σ = [some (.str (S c)), some (.ref bp), some (.ref mp), z3, z4, z5]) ∧ Same (wo H1 mp) (wo H' mp) ∧ ∃ ks : List Wd, H' mp = some (.dK (kvT ks)) ∧ ks.Nodup ∧ ks.length ≤ j ∧ ∀ s, s ∈ ks ↔ ∃ p ∈ (plc c.length).take j, keeps bs p = true ∧ s = rd c p)
    ⟨⟨_, _, _, rfl⟩, L2.Same.refl _, [], em1, List.nodup_nil, Nat.le_refl _, fun s => ⟨fun z => (nomatch z), fun ⟨p, hp, _⟩ => (nomatch hp)⟩⟩ (fun j σ H' _ h => ?_) ?_ ?_
  · have := h.2.1 pp _ ((wo_ne hppm).trans epp)
    rw [wo_ne hppm] at this
    exact sqL_of this
  · rintro j v σ H2 hv ⟨⟨z3, z4, z5, rfl⟩, s2, ks, ek, hnd, hkl, hks⟩
    obtain ⟨p, hp, rp, rfl, hrp⟩ := hE.get hv
    have hpp := plc_perm (List.mem_of_getElem? hp)
    have hrpH : ∀ {H' : Hp}, Same (wo H1 mp) (wo H' mp) → SqL K H' rp (p.map nV) := fun s => wo_same.seq (s.seq (sqL_wo em1 (fun xs z => (nomatch z)) hrp))
    have hpl : p.length = c.length := by rw [hpp.length_eq, List.length_range]
    have hbH : ∀ {H' : Hp}, Same (wo H1 mp) (wo H' mp) → Same (wo H mp) H' := fun s => ((wo_mono s01).trans s).trans wo_same
    have hplc : (plc c.length).length ≤ 7 ^ 7 := Nat.le_trans (plc_len _ hc) (Nat.pow_le_pow_right (by decide) hc)
    have hjl : j < (plc c.length).length := (List.getElem?_eq_some_iff.mp hp).1
    have hbw : SqL K (wo H mp) bp bxs := by
      rcases hbp with (h | ⟨o, h⟩) | h
      · exact .inl (.inl (by rw [wo_ne (fun z => by rw [z, hmp] at h; cases h)]; exact h))
      · exact .inl (.inr ⟨o, by rw [wo_ne (fun z => by rw [z, hmp] at h; cases h)]; exact h⟩)
      · exact .inr h
    have hbTw : TgAll K (wo H mp) bxs (bs.map bTh) := hbT.mono (wo_to (L2.Same.refl H) hmp)
    refine ⟨_, rfl, bp, rfl, ⟨_, (hbH s2).seq hbw⟩, fun D hD => ?_⟩
    refine lc_it (walk_list (xs := bxs)) (AccP H2 D fun k acc _ => acc.length = (badL (bs.take k) p).length) (AccP.start hD rfl) (fun k H3 _ h => ?_) ?_ ?_
    · obtain ⟨acc, G, e3, hG, k1, k2, _⟩ := h
      exact k2.seq (k1.seq ((hbH s2).seq hbw))
    · rintro k v H3 H4 hk ⟨acc, G, e3, hG, k1, k2, hA⟩ ⟨rfl, hv⟩
      obtain ⟨d2, hd2, gd⟩ := hbTw.at hv
      rw [List.getElem?_map] at hd2
      obtain ⟨q2, hq2, rfl⟩ := Option.map_eq_some_iff.mp hd2
      obtain ⟨vp, rfl, hvp⟩ := tg_bTh gd
      have s24 := k1.trans k2
      have hvp2 := ((hbH s2).trans s24).seqT hvp
      have hrp4 := s24.seq (hrpH s2)
      have hq2m := hbs q2 (List.mem_of_getElem? hq2)
      have hin : ∀ x < c.length, (x : Int) ∈ p.map fun n : Nat => (n : Int) := fun x hx => List.mem_map.mpr ⟨x, hpp.mem_iff.mpr (List.mem_range.mpr hx), rfl⟩
      have hrp5 : SqL K H4 rp ((p.map fun n : Nat => (n : Int)).map V.int) := by rw [← nV_map]; exact hrp4
      have hbd : ∀ n ∈ p.map fun n : Nat => (n : Int), 0 ≤ n ∧ n < 1000 := fun n hn => by
        obtain ⟨x, hx, rfl⟩ := List.mem_map.mp hn
        have := List.mem_range.mp (hpp.mem_iff.mp hx)
        omega
      have hpl2 : (p.map fun n : Nat => (n : Int)).length ≤ 100 := by rw [List.length_map]; omega
      refine ⟨rfl, _, rfl, .inl ⟨rfl, _, hrp4⟩, ?_⟩
      refine ⟨_, rfl, vp, _, 0, _, rfl, rfl, hvp2, atI_nat (j := 0) rfl, ?_⟩
      refine ⟨rp, _, (q2.1 : Int), rfl, rfl, hrp5, hbd, hpl2, hin _ (by omega), ?_⟩
      rw [idx_cast]
      refine ⟨_, rfl, .inl ⟨rfl, _, hrp4⟩, ?_⟩
      refine ⟨_, rfl, vp, _, 1, _, rfl, rfl, hvp2, atI_nat (j := 1) rfl, ?_⟩
      refine ⟨rp, _, (q2.2 : Int), rfl, rfl, hrp5, hbd, hpl2, hin _ hq2m.2, ?_⟩
      rw [idx_cast]
      refine ⟨_, _, rfl, rfl, _, rfl, ?_⟩
      have estep : (badL (bs.take (k + 1)) p).length = (badL (bs.take k) p).length + (if p.idxOf q2.2 < p.idxOf q2.1 then 1 else 0) := by
        unfold badL
        rw [List.take_add_one, hq2, List.filter_append, List.length_append]
        by_cases h : p.idxOf q2.2 < p.idxOf q2.1 <;> simp [h]
      have hal : acc.length ≤ 1000 := by
        rw [hA]
        unfold badL
        refine Nat.le_trans (List.length_filter_le _ _) ?_
        rw [List.length_take]
        omega
      refine ifB (fun t => ?_) (fun t => ?_)
      · have t2 := of_decide_eq_true t
        refine ⟨_, rfl, AccP.push e3 hG k1 k2 (szlt (by omega)) ?_⟩
        show (acc ++ [V.ref vp]).length = (badL (bs.take (k + 1)) p).length
        rw [estep, if_pos (by omega), List.length_append, hA] <;> rfl
      · have t2 := of_decide_eq_false t
        refine ⟨acc, G, e3, hG, k1, k2, ?_⟩
        show acc.length = (badL (bs.take (k + 1)) p).length
        rw [estep, if_neg (by omega), hA] <;> rfl
    · rintro H3 ⟨acc, G, e3, hG, k1, k2, hA⟩
      rw [hbl2, List.take_length] at hA
      have s23 := k1.trans k2
      have s3 : Same (wo H1 mp) (wo H3 mp) := s2.trans (wo_mono s23)
      refine ⟨D, acc, rfl, .inl (sqL_of e3), ?_⟩
      rw [hA]
      refine ⟨rfl, _, rfl, ?_⟩
      rw [bad_keeps]
      refine ifB (fun t => ?_) (fun t => ?_)
      · have hrp3 := hrpH s3
        refine ⟨_, rfl, ⟨_, rfl⟩, _, rfl, rp, rfl, ⟨_, hrp3⟩, fun D2 hD2 => ?_⟩
        have hm2 : D2 ≠ mp := fun z => by rw [z, s23 _ _ ek] at hD2; cases hD2
        refine lc_it (walk_list (xs := p.map nV)) (AccP H3 D2 fun k acc _ => acc = ((rd c p).take k).map fun x => V.str (S [x])) (AccP.start hD2 rfl) (fun k H4 _ h => ?_) ?_ ?_
        · obtain ⟨acc, G, e4, hG, k3, k4, _⟩ := h
          exact k4.seq (k3.seq hrp3)
        · rintro k v H4 H5 hk ⟨acc, G, e4, hG, k3, k4, rfl⟩ ⟨rfl, hv⟩
          rw [List.getElem?_map] at hv
          obtain ⟨x, hx, rfl⟩ := Option.map_eq_some_iff.mp hv
          have hxc : x < c.length := List.mem_range.mp (hpp.mem_iff.mp (List.mem_of_getElem? hx))
          refine ⟨rfl, _, rfl, _, rfl, S c, _, c[x], rfl, rfl, hsz, atI_nat (by rw [S_list, List.getElem?_eq_getElem hxc]), ?_⟩
          have hrk : (rd c p)[k]? = some c[x] := by
            unfold rd
            rw [List.getElem?_map, hx, Option.map_some, List.getElem?_eq_getElem hxc] <;> rfl
          refine AccP.push e4 hG k3 k4 ?_ ?_
          · rw [List.length_map, List.length_take]
            unfold rd
            rw [List.length_map]
            exact szlt (by omega)
          · show _ = ((rd c p).take (k + 1)).map fun x => V.str (S [x])
            rw [take_map_snoc hrk]
            rfl
        · rintro H4 ⟨acc, G, e4, hG, k3, k4, rfl⟩
          have s34 := k3.trans k4
          have hrl : (rd c p).length = p.length := by unfold rd; rw [List.length_map]
          have et : (rd c p).take (p.map nV).length = rd c p := List.take_of_length_le (by rw [List.length_map, hrl]; exact Nat.le_refl _)
          rw [et] at e4
          refine ⟨_, D2, (rd c p).map fun x => S [x], rfl, rfl, .inl (sqL_of (by rw [e4, List.map_map]; rfl)), ?_, ?_⟩
          · have h1 : ∀ l : List Nat, ((l.map fun x => S [x]).map (·.length)).sum = l.length := by
              intro l
              induction l with
              | nil => rfl
              | cons a l ih =>
                rw [List.map_cons, List.map_cons, List.sum_cons, ih, List.length_cons, S_length]
                simp
                omega
            rw [h1, List.length_map, hrl, hpl]
            have e0 : (Str.ofString "" : Str).length = 0 := by decide +kernel
            rw [e0]
            omega
          · rw [join_S]
            have ek4 := s34 _ _ (s23 _ _ ek)
            refine ⟨mp, _, rfl, .inl ⟨_, Sum.inr (S (rd c p)), ek4, rfl, ?_, rfl⟩, ⟨_, _, _, rfl⟩, ?_, (if rd c p ∈ ks then ks else ks ++ [rd c p]), ?_, ?_, ?_, fun sx => ?_⟩
            · unfold kvT
              rw [List.length_map, sizeLine_eq]
              have h7 : (7 : Nat) ^ 7 = 823543 := by decide
              omega
            · rw [wo_eq]
              exact s3.trans (wo_mono s34)
            · rw [upd_same, putK_kvT]
            · split
              · exact hnd
              · rename_i hn
                exact List.nodup_append.mpr ⟨hnd, by simp, fun a ha b hb z => by rw [List.mem_singleton.mp hb] at z; exact hn (z ▸ ha)⟩
            · split
              · omega
              · rw [List.length_append]
                show ks.length + 1 ≤ _
                omega
            · rw [List.take_add_one, hp]
              have hm : sx ∈ (if rd c p ∈ ks then ks else ks ++ [rd c p]) ↔ sx ∈ ks ∨ sx = rd c p := by
                split
                · rename_i hn
                  exact ⟨.inl, fun z => z.elim id fun z => z ▸ hn⟩
                · rw [List.mem_append, List.mem_singleton]
              rw [hm, hks]
              constructor
              · rintro (⟨p2, h1, h2⟩ | h)
                · exact ⟨p2, List.mem_append_left _ h1, h2⟩
                · exact ⟨p, List.mem_append_right _ (by simp), t, h⟩
              · rintro ⟨p2, h1, h2, h3⟩
                rcases List.mem_append.mp h1 with h1 | h1
                · exact .inl ⟨p2, h1, h2, h3⟩
                · have : p2 = p := by simpa using h1
                  subst this
                  exact .inr h3
      · refine ⟨⟨_, _, _, rfl⟩, s3, ks, s23 _ _ ek, hnd, by omega, fun sx => ?_⟩
        rw [hks, List.take_add_one, hp]
        constructor
        · rintro ⟨p2, h1, h2⟩
          exact ⟨p2, List.mem_append_left _ h1, h2⟩
        · rintro ⟨p2, h1, h2, h3⟩
          rcases List.mem_append.mp h1 with h1 | h1
          · exact ⟨p2, h1, h2, h3⟩
          · have : p2 = p := by simpa using h1
            subst this
            rw [t] at h2
            cases h2
  · rintro σ H2 ⟨⟨z3, z4, z5, rfl⟩, s2, ks, ek, hnd, hkl, hks⟩
    have hplc : (plc c.length).length ≤ 7 ^ 7 := Nat.le_trans (plc_len _ hc) (Nat.pow_le_pow_right (by decide) hc)
    rw [hE.1, List.take_length] at hks
    refine ⟨_, rfl, mp, _, rfl, .inl ek, fun lp hlp => ?_⟩
    refine ⟨lp, ks, rfl, sqL_of ?_, fun b hb => ?_⟩
    · rw [upd_same]
      unfold kvT
      rw [List.map_map]
      rfl
    have hord : IsOrds c bs (srt ks) := ⟨srt_strict hnd, fun sx => by rw [mem_srt, hks, law_orders hbs]⟩
    have sH2 : Same H H2 := fun b o eb => by
      have hb : b ≠ mp := fun z => by rw [z, hmp] at eb; cases eb
      have := s2 b o (by rw [wo_ne hb]; exact s01 _ _ eb)
      rwa [wo_ne hb] at this
    have sHl := sH2.new (o := .lst ((kvT ks).map fun kv => kV kv.1)) hlp
    exact q _ hord b _ (sHl.new hb) (none_of sHl hb) upd_same
end K84
set_option maxHeartbeats 4000000
namespace K84
open PySem PySem.Spec PyProof.Rows L2
local macro_rules | `(tactic| walk_at "ix") => `(tactic| first | exact atI_nat (j := 0) rfl | exact atI_nat (j := 1) rfl | exact atI_nat (j := 2) rfl | exact atI_nat (j := 3) rfl | exact atI_nat (j := 4) rfl)
local macro_rules | `(tactic| walk_at "rd") => `(tactic| repeat (first
  | refine ⟨_, rfl, ?_⟩
  | refine ⟨rfl, ?_⟩
  | refine ⟨_, _, rfl, ?_⟩
  | refine ⟨_, _, rfl, rfl, ?_⟩
  | refine ⟨_, _, _, rfl, ?_⟩
  | refine ⟨_, _, _, _, rfl, ?_⟩
  | refine ⟨_, _, _, _, rfl, rfl, (by assumption), (by walk_at "ix"), ?_⟩
  | refine ⟨_, _, _, rfl, rfl, (by assumption), ?_⟩
  | refine ⟨.inl ⟨rfl, _, sqL_of (by assumption)⟩, ?_⟩
  | refine ⟨_, _, _, _, _, rfl, (by assumption), (by assumption), (by assumption), (by assumption), ?_⟩
  | refine ⟨_, _, _, _, _, rfl, .ty _, Tg.ty (by assumption), kit_ty (by first | exact kInt _ | exact kBool _ | exact kStr _ | exact kTup _ | exact kLst _ | exact kDct _), ?_⟩))
/-! ### spans: the lowest and the highest time by standing -/
def SpV (K : PySem.W.Frag) (H : Hp) (kvs : List (L2.Key × V)) (R : As) : Prop := kvs.map (·.1) = R.map (fun p => (Sum.inl p.1 : L2.Key)) ∧
  ∀ k, (getA R k = none → valV kvs (Sum.inl k) = none) ∧ ∀ t, getA R k = some t → ∃ lo p, valV kvs (Sum.inl k) = some (.ref p) ∧ SqT K H p [.int lo, .int t]
theorem SpV.mono {K : PySem.W.Frag} {H H' : Hp} {kvs : List (L2.Key × V)} {R : As} (s : Same H H') (h : SpV K H kvs R) : SpV K H' kvs R :=
  ⟨h.1, fun k => ⟨(h.2 k).1, fun t e => let ⟨lo, p, e1, e2⟩ := (h.2 k).2 t e; ⟨lo, p, e1, s.seqT e2⟩⟩⟩
theorem getA_put {R : As} {g t k : Int} : getA (putA R g t) k = if k = g then some t else getA R k := by
  have h1 := valV_enc (g := k) (l := putA R g t)
  rw [← putK_enc, valV_put, valV_enc] at h1
  by_cases e : k = g
  · subst e
    rw [if_pos rfl] at h1 ⊢
    cases h2 : getA (putA R k t) k with
    | none => rw [h2] at h1; cases h1
    | some x =>
      rw [h2] at h1
      injection h1 with h1
      injection h1 with h1
      rw [h1]
  · rw [if_neg (fun z => e (Sum.inl.inj z))] at h1
    rw [if_neg e]
    cases h2 : getA (putA R g t) k with
    | none =>
      cases h3 : getA R k with
      | none => rfl
      | some y => rw [h2, h3] at h1; cases h1
    | some x =>
      cases h3 : getA R k with
      | none => rw [h2, h3] at h1; cases h1
      | some y =>
        rw [h2, h3] at h1
        injection h1 with h1
        injection h1 with h1
        rw [h1]
theorem keys_putK {kvs : List (L2.Key × V)} {k : L2.Key} {v : V} : (putK kvs k v).map (·.1) = if ((kvs.map (·.1)).any fun x => decide (x = k)) = true then kvs.map (·.1) else kvs.map (·.1) ++ [k] := by
  have e : (kvs.any fun kv => decide (kv.1 = k)) = ((kvs.map (·.1)).any fun x => decide (x = k)) := by
    rw [List.any_map]
    rfl
  unfold putK
  rw [e]
  by_cases h : ((kvs.map (·.1)).any fun x => decide (x = k)) = true
  · rw [if_pos h, if_pos h, List.map_map]
    refine List.map_congr_left fun x _ => ?_
    show (if x.1 = k then (x.1, v) else x).1 = x.1
    split <;> rfl
  · rw [if_neg h, if_neg h, List.map_append] <;> rfl
theorem SpV.put {K : PySem.W.Frag} {H : Hp} {kvs : List (L2.Key × V)} {R : As} {g t lo : Int} {p : Addr} (h : SpV K H kvs R) (hp : SqT K H p [.int lo, .int t]) : SpV K H (putK kvs (Sum.inl g) (.ref p)) (putA R g t) := by
  refine ⟨?_, fun k => ?_⟩
  · have h2 := keys_putK (kvs := encA R) (k := Sum.inl g) (v := .int t)
    have e1 : (encA R).map (·.1) = R.map (fun p => (Sum.inl p.1 : L2.Key)) := by unfold encA; rw [List.map_map]; rfl
    have e2 : (encA (putA R g t)).map (·.1) = (putA R g t).map (fun p => (Sum.inl p.1 : L2.Key)) := by unfold encA; rw [List.map_map]; rfl
    rw [keys_putK, h.1, ← e2, ← putK_enc, h2, e1]
  · rw [getA_put, valV_put]
    by_cases e : k = g
    · subst e
      rw [if_pos rfl, if_pos rfl]
      exact ⟨fun z => (nomatch z), fun t2 e2 => by cases e2; exact ⟨lo, p, rfl, hp⟩⟩
    · rw [if_neg e, if_neg fun z => e (Sum.inl.inj z)]
      exact h.2 k
theorem SpV.len {K : PySem.W.Frag} {H : Hp} {kvs : List (L2.Key × V)} {R : As} (h : SpV K H kvs R) : kvs.length = R.length := by
  have := congrArg List.length h.1
  rwa [List.length_map, List.length_map] at this
theorem sqT_woK {K : PySem.W.Frag} {H : Hp} {t p : Addr} {kvs : List (L2.Key × V)} {xs : List V} (e : H t = some (.dK kvs)) (h : SqT K H p xs) : SqT K (wo H t) p xs := by
  rcases h with (h | ⟨q, h⟩) | h
  · exact .inl (.inl (by rw [wo_ne (fun z => by rw [z, e] at h; cases h)]; exact h))
  · exact .inl (.inr ⟨q, by rw [wo_ne (fun z => by rw [z, e] at h; cases h)]; exact h⟩)
  · exact .inr h
def SpA (K : PySem.W.Frag) (H1 : Hp) (lp : Addr) (X : As) (H' : Hp) : Prop := ∃ G kvs, G lp = none ∧ Same H1 G ∧ Same G H' ∧ H' lp = some (.dK kvs) ∧ SpV K G kvs X
theorem SpA.put {K : PySem.W.Frag} {H1 H' : Hp} {lp p : Addr} {X : As} {g t lo : Int} (h : SpA K H1 lp X H') (hp : SqT K H' p [.int lo, .int t]) : ∃ kvs, H' lp = some (.dK kvs) ∧ kvs.length = X.length ∧ SpA K H1 lp (putA X g t) (upd H' lp (.dK (putK kvs (Sum.inl g) (.ref p)))) := by
  obtain ⟨G, kvs, h1, h2, h3, h4, h5⟩ := h
  have sG : Same G (wo H' lp) := wo_to h3 h1
  exact ⟨kvs, h4, h5.len, wo H' lp, _, wo_at, h2.trans sG, wo_upd, upd_same, (h5.mono sG).put (sqT_woK h4 hp)⟩
theorem SpA.new {K : PySem.W.Frag} {H1 H' : Hp} {lp T : Addr} {X : As} {o : HO} (h : SpA K H1 lp X H') (hT : H' T = none) : SpA K H1 lp X (upd H' T o) := by
  obtain ⟨G, kvs, h1, h2, h3, h4, h5⟩ := h
  exact ⟨G, kvs, h1, h2, h3.new hT, same_new hT _ _ h4, h5⟩
theorem SpA.old {K : PySem.W.Frag} {H1 H' : Hp} {lp : Addr} {X : As} (h : SpA K H1 lp X H') : Same H1 H' := by
  obtain ⟨G, kvs, h1, h2, h3, _⟩ := h
  exact h2.trans h3
/-! ### the standings of a run are different -/
def NdA (R : As) : Prop := (R.map (·.1)).Nodup
theorem putA_nd {R : As} {g t : Int} (h : NdA R) : NdA (putA R g t) := by
  unfold NdA putA at *
  split
  · rw [List.map_map]
    have e : R.map ((·.1) ∘ fun p => if p.1 = g then (p.1, t) else p) = R.map (·.1) := List.map_congr_left fun p _ => by
      show (if p.1 = g then (p.1, t) else p).1 = p.1
      split <;> rfl
    rw [e]
    exact h
  · rename_i hn
    rw [List.map_append]
    refine List.nodup_append.mpr ⟨h, by simp, fun a ha b hb z => ?_⟩
    have e := List.mem_singleton.mp hb
    obtain ⟨p, hp, hp2⟩ := List.mem_map.mp ha
    refine hn (List.any_eq_true.mpr ⟨p, hp, decide_eq_true ?_⟩)
    rw [hp2, z, e]
theorem fold_nd {α : Type} {f : As → α → As} (h : ∀ l a, NdA l → NdA (f l a)) : ∀ (xs : List α) (l : As), NdA l → NdA (xs.foldl f l)
  | [], l, hl => hl
  | x :: xs, l, hl => fold_nd h xs (f l x) (h l x hl)
theorem runH_nd {M : Mv} {r : Wd} (c : Wd) : NdA (runH M r c) := by
  unfold runH
  refine fold_nd (fun l x _ => ?_) c _ (by unfold NdA; simp)
  unfold stepH
  refine fold_nd (fun l p hl => ?_) l [] (by unfold NdA; simp)
  unfold stepP
  exact fold_nd (fun l q hl => putA_nd hl) _ l hl
theorem getA_nd : ∀ {R : As} {k : Nat} {a t : Int}, NdA R → R[k]? = some (a, t) → getA R a = some t
  | [], _, _, _, _, e => by simp at e
  | p :: R, 0, a, t, _, e => by
    cases e
    unfold getA
    rw [List.find?_cons, decide_eq_true rfl] <;> rfl
  | p :: R, k + 1, a, t, h, e => by
    obtain ⟨h1, h2⟩ := List.nodup_cons.mp h
    have e2 : R[k]? = some (a, t) := e
    have hne : ¬ p.1 = a := fun z => h1 (List.mem_map.mpr ⟨_, List.mem_of_getElem? e2, z.symm⟩)
    have ih := getA_nd (R := R) h2 e2
    unfold getA at ih ⊢
    rw [List.find?_cons, decide_eq_false hne]
    exact ih
def sp_l_spans (K : PySem.W.Frag) : Sp := sp3 fun a b c0 H Q _ => ∃ (r c : Wd) (ans : Nat) (M : Mv), a = .str (S r) ∧ MvV K H b M ∧ c0 = .str (S c) ∧ MvOk M r ans ∧ RowsOk r ∧ (∀ x ∈ c, x ∈ r) ∧ c.length ≤ 7 ∧ ∀ lo p H', Same H H' → SqT K H' p [.int lo, .int (wst M r c)] → Q (.ref p) H'
/- _law_spans: _law_rows_here=0 _law_moves_here=1 _law_code_here=2 _law_here=3 _law_row=4 _law_later=5 _law_at=6 _law_move=7 _law_low=8 _law_high=9; cells ['_law_here']; calls []; builtins ['max', 'list', 'min'] -/
abbrev s_l_spans : Stmt := top 64
theorem sc_l_spans : FnScope ["_law_rows_here", "_law_moves_here", "_law_code_here", "_law_here", "_law_row", "_law_later", "_law_at", "_law_move", "_law_low", "_law_high"] ["_law_rows_here", "_law_moves_here", "_law_code_here"] (defScope s_l_spans) := ⟨rfl, rfl, rfl, by decide +kernel, rfl, by decide +kernel, by decide +kernel⟩
theorem ok_l_spans {P : Program} {w : World} {K : PySem.W.Frag} {mg : Str → Option Value} {base : Heap} (D : Df K mg "_law_spans" s_l_spans) (T : Tx K mg)  :
    Cl CX0 P w K mg base 1 "_law_spans" (sp_l_spans K) := by
  refine D.ok3 (k := 0) sc_l_spans (fun _ _ _ _ _ _ us hl => match us, hl with | [_, _, _], _ => rfl) (fun f cdv A outer s H a b c Q E hr h => ⟨_, PSs.nox ((pss_cons (ps_set (i := 3) sc_l_spans.nd rfl (Or.inr rfl) pe_dnewK)
      (pss_cons (ps_dput (hu_of hr) (pv 3) pe_int (pe_tup (pa_cons pe_int (pa_cons pe_int pa_nil))) rfl)
      (pss_cons (ps_for PassesOwn.never rfl (pi_str (pv 2)) (pg_name (i := 4) sc_l_spans.nd rfl (Or.inl rfl)) (pss_cons (ps_set (i := 5) sc_l_spans.nd rfl (Or.inl rfl) pe_dnewK)
      (pss_cons (ps_for PassesOwn.never rfl (pi_list (pe_callTy (call_listD rfl) (by rfl) T.list_ (by decide +kernel) (pa_cons (pv 3) pa_nil))) (pg_name (i := 6) sc_l_spans.nd rfl (Or.inl rfl)) (pss_one (ps_for PassesOwn.never rfl (pi_tup (pe_ix ix_tup (pe_ix ix_tup (pv 1) (pv 6) (fun _ _ => rfl)) (pe_bm PySem.F.plainAttrs_str PySem.F.slot_str_index PySem.F.type_str_index mt_indexS (pv 0) (pa_cons (pv 4) pa_nil)) (fun _ _ => rfl))) (pg_name (i := 7) sc_l_spans.nd rfl (Or.inl rfl)) (pss_cons (ps_set (i := 8) sc_l_spans.nd rfl (Or.inl rfl) (pe_op op_add (pe_ix ix_tup (pe_dget (hu_of hr) (pv 3) (pv 6) (fun _ _ => rfl)) pe_int (fun _ _ => rfl)) (pe_ix ix_tup (pv 7) pe_int (fun _ _ => rfl))))
      (pss_cons (ps_set (i := 9) sc_l_spans.nd rfl (Or.inl rfl) (pe_op op_add (pe_ix ix_tup (pe_dget (hu_of hr) (pv 3) (pv 6) (fun _ _ => rfl)) pe_int (fun _ _ => rfl)) (pe_ix ix_tup (pv 7) pe_int (fun _ _ => rfl))))
      (pss_cons (ps_if (pt_cmp (pc_din (hu_of hr) (pe_ix ix_tup (pv 7) pe_int (fun _ _ => rfl)) (pv 5))) (pss_cons (ps_set (i := 8) sc_l_spans.nd rfl (Or.inl rfl) (pe_callB (call_min2 rfl) (by rfl) T.min (by decide +kernel) (pa_cons (pv 8) (pa_cons (pe_ix ix_tup (pe_dget (hu_of hr) (pv 5) (pe_ix ix_tup (pv 7) pe_int (fun _ _ => rfl)) (fun _ _ => rfl)) pe_int (fun _ _ => rfl)) pa_nil))))
      (pss_one (ps_set (i := 9) sc_l_spans.nd rfl (Or.inl rfl) (pe_callB (call_max2 rfl) (by rfl) T.max (by decide +kernel) (pa_cons (pv 9) (pa_cons (pe_ix ix_tup (pe_dget (hu_of hr) (pv 5) (pe_ix ix_tup (pv 7) pe_int (fun _ _ => rfl)) (fun _ _ => rfl)) pe_int (fun _ _ => rfl)) pa_nil)))))) pss_nil)
      (pss_one (ps_dput (hu_of hr) (pv 5) (pe_ix ix_tup (pv 7) pe_int (fun _ _ => rfl)) (pe_tup (pa_cons (pv 8) (pa_cons (pv 9) pa_nil))) rfl))))))))
      (pss_one (ps_set (i := 3) sc_l_spans.nd rfl (Or.inr rfl) (pv 5))))))
      (pss_one (ps_ret (pe_tup (pa_cons (pe_callB (cr_min rfl) (by rfl) T.min (by decide +kernel) (pa_cons (pe_lc (own := [("_law_at", 6)]) rfl sc_l_spans.nd (pi_list (pe_callTy (call_listD rfl) (by rfl) T.list_ (by decide +kernel) (pa_cons (pv 3) pa_nil))) (blkOk_by (own := [("_law_at", 6)]) (N := ["_law_rows_here", "_law_moves_here", "_law_code_here", "_law_here", "_law_row", "_law_later", "_law_at", "_law_move", "_law_low", "_law_high"]) (sc := defScope s_l_spans) (by decide +kernel)) (fun _ _ _ _ _ => (pg_name (i := 6) sc_l_spans.nd rfl (Or.inl rfl))) (fun _ _ _ _ _ => pts_nil) (fun _ _ _ _ _ => (pe_ix (r := rIxT K) ix_tup (pe_dget (hu_of hr) (pv 3) (pv 6) (fun _ _ => rfl)) pe_int (fun _ _ => rfl)))) pa_nil)) (pa_cons (pe_callB (cr_max rfl) (by rfl) T.max (by decide +kernel) (pa_cons (pe_lc (own := [("_law_at", 6)]) rfl sc_l_spans.nd (pi_list (pe_callTy (call_listD rfl) (by rfl) T.list_ (by decide +kernel) (pa_cons (pv 3) pa_nil))) (blkOk_by (own := [("_law_at", 6)]) (N := ["_law_rows_here", "_law_moves_here", "_law_code_here", "_law_here", "_law_row", "_law_later", "_law_at", "_law_move", "_law_low", "_law_high"]) (sc := defScope s_l_spans) (by decide +kernel)) (fun _ _ _ _ _ => (pg_name (i := 6) sc_l_spans.nd rfl (Or.inl rfl))) (fun _ _ _ _ _ => pts_nil) (fun _ _ _ _ _ => (pe_ix (r := rIxT K) ix_tup (pe_dget (hu_of hr) (pv 3) (pv 6) (fun _ _ => rfl)) pe_int (fun _ _ => rfl)))) pa_nil)) pa_nil))))))))), ?_⟩)
  obtain ⟨r, c, ans, M, rfl, hV, rfl, hM, hrr, hc, hl, q⟩ := h
  obtain ⟨mp, mxs, rfl, hmp, hmE⟩ := id hV
  have m1 := hM.a1
  have m3 := hM.a3
  intro hp hhp
  refine ⟨by show 2 ≤ sizeLine; decide, fun zp hzp => ?_⟩
  have hzh : zp ≠ hp := fun z => by rw [z, upd_same] at hzp; cases hzp
  refine ⟨_, rfl, hp, _, rfl, .inl ⟨[], Sum.inl 0, (upd_ne (Ne.symm hzh)).trans upd_same, rfl, by decide, rfl⟩, ?_⟩
  refine ⟨_, rfl, S c, rfl, ?_⟩
  refine for_it walk_str (fun i σ H' => Same H H' ∧ ∃ d kvs z4 z5 z6 z7 z8 z9, σ = [some (.str (S r)), some (.ref mp), some (.str (S c)), some (.ref d), z4, z5, z6, z7, z8, z9] ∧ H' d = some (.dK kvs) ∧ SpV K H' kvs (runH M r (c.take i)))
    ⟨?_, hp, _, _, _, _, _, _, _, rfl, upd_same, ?_⟩ (fun _ _ _ _ _ => trivial) ?_ ?_
  · intro b o eb
    have hb : b ≠ hp := fun z => by rw [z, hhp] at eb; cases eb
    rw [upd_ne hb]
    exact ((same_new hhp).new hzp) _ _ eb
  · have h0 : SpV K (upd (upd H hp (.dK [])) zp (.tup [.int 0, .int 0])) [] [] := ⟨rfl, fun k => ⟨fun _ => rfl, fun t e => by cases e⟩⟩
    have h1 := h0.put (g := 0) (t := 0) (lo := 0) (p := zp) (sqT_of upd_same)
    have h2 : SpV K (wo (upd (upd H hp (.dK [])) zp (.tup [.int 0, .int 0])) hp) (putK [] (Sum.inl 0) (.ref zp)) [(0, 0)] := by
      refine ⟨h1.1, fun k => ⟨(h1.2 k).1, fun t e => ?_⟩⟩
      obtain ⟨lo, p, e1, e2⟩ := (h1.2 k).2 t e
      exact ⟨lo, p, e1, sqT_woK ((upd_ne (Ne.symm hzh)).trans upd_same) e2⟩
    exact h2.mono wo_upd
  · rintro i v σ H0 H1 hi ⟨s1, d, kvs, z4, z5, z6, z7, z8, z9, rfl, ed, hS⟩ ⟨rfl, ch, hch, rfl⟩
    have hch2 : c[i]? = some ch := by
      have := hch
      rw [← Array.getElem?_toList] at this
      exact this
    have hcr := hc ch (List.mem_of_getElem? hch2)
    have hj : r.idxOf ch < r.length := List.idxOf_lt_length_of_mem hcr
    have hjr : r[r.idxOf ch]? = some ch := by
      rw [List.getElem?_eq_getElem hj, List.getElem_idxOf hj]
    obtain ⟨hall, hne⟩ := runH_ok hM (fun y hy => hc y (List.mem_of_mem_take hy) : ∀ y ∈ c.take i, y ∈ r)
    have hlen : (runH M r (c.take i)).length ≤ 2187 := by
      refine Nat.le_trans (runH_len hM _) ?_
      exact Nat.le_trans (Nat.pow_le_pow_right (by decide) (show (c.take i).length ≤ 7 by rw [List.length_take]; omega)) (by decide)
    generalize hR : runH M r (c.take i) = R at hS hall hne hlen
    intro lp hlp
    have s2 := same_new (o := .dK []) hlp
    have hlpd : lp ≠ d := fun z => by rw [z, ed] at hlp; cases hlp
    refine ⟨_, rfl, d, _, rfl, .inl (s2 _ _ ed), fun kp hkp => ?_⟩
    have hnd : NdA R := hR ▸ runH_nd _
    have hkl : kp ≠ lp := fun z => by rw [z, upd_same] at hkp; cases hkp
    have sA : Same H1 (upd (upd H1 lp (.dK [])) kp (.lst (kvs.map fun kv => kV kv.1))) := s2.new hkp
    have elp : upd (upd H1 lp (.dK [])) kp (.lst (kvs.map fun kv => kV kv.1)) lp = some (.dK []) := (upd_ne (Ne.symm hkl)).trans upd_same
    have ekp : wo (upd (upd H1 lp (.dK [])) kp (.lst (kvs.map fun kv => kV kv.1))) lp kp = some (.lst (kvs.map fun kv => kV kv.1)) := (wo_ne hkl).trans upd_same
    have sB : Same H1 (wo (upd (upd H1 lp (.dK [])) kp (.lst (kvs.map fun kv => kV kv.1))) lp) := wo_to sA hlp
    have eB : wo (upd (upd H1 lp (.dK [])) kp (.lst (kvs.map fun kv => kV kv.1))) lp lp = none := wo_at
    have sC : Same (wo (upd (upd H1 lp (.dK [])) kp (.lst (kvs.map fun kv => kV kv.1))) lp) (upd (upd H1 lp (.dK [])) kp (.lst (kvs.map fun kv => kV kv.1))) := wo_same
    have kpS : SqL K (upd (upd H1 lp (.dK [])) kp (.lst (kvs.map fun kv => kV kv.1))) kp (kvs.map fun kv => kV kv.1) := sqL_of upd_same
    refine ⟨kp, rfl, ⟨_, kpS⟩, ?_⟩
    generalize wo (upd (upd H1 lp (.dK [])) kp (.lst (kvs.map fun kv => kV kv.1))) lp = Hb at ekp sB eB sC
    have hSb := hS.mono sB
    have hVb := hmE.mono fun v q h => h.mono (s1.trans sB) (fun v q h => h.mono (s1.trans sB) fun v q h => h.mono (s1.trans sB))
    refine for_list (xs := kvs.map fun kv => kV kv.1) (fun k σ H' => (∃ z6 z7 z8 z9, σ = [some (.str (S r)), some (.ref mp), some (.str (S c)), some (.ref d), some (.str ⟨#[ch]⟩), some (.ref lp), z6, z7, z8, z9]) ∧ SpA K Hb lp ((R.take k).foldl (stepP M (r.idxOf ch)) []) H')
      ⟨⟨_, _, _, _, rfl⟩, Hb, [], eB, L2.Same.refl _, sC, elp, rfl, fun k => ⟨fun _ => rfl, fun t e => by cases e⟩⟩ (fun k σ H' _ h => sqL_of (h.2.old _ _ ekp)) ?_ ?_
    · rintro k v σ H2 hv ⟨⟨z6, z7, z8, z9, rfl⟩, hA⟩
      have hkR : ∃ a tot, R[k]? = some (a, tot) ∧ v = .int a := by
        rw [List.getElem?_map] at hv
        obtain ⟨kv, hkv, rfl⟩ := Option.map_eq_some_iff.mp hv
        have e1 : (kvs.map (·.1))[k]? = some kv.1 := by rw [List.getElem?_map, hkv] <;> rfl
        rw [hSb.1, List.getElem?_map] at e1
        obtain ⟨p, hp, e2⟩ := Option.map_eq_some_iff.mp e1
        exact ⟨p.1, p.2, hp, by rw [← e2] <;> rfl⟩
      obtain ⟨a, tot, hat, rfl⟩ := hkR
      obtain ⟨a1, a2, a3⟩ : 0 ≤ a ∧ a ≤ (M.length : Int) - 1 ∧ 0 ≤ tot := hall _ (List.mem_of_getElem? hat)
      have hget := getA_nd hnd hat
      obtain ⟨lo0, p0, v1, v2⟩ := (hSb.2 a).2 tot hget
      have hkl3 : ((R.take k).foldl (stepP M (r.idxOf ch)) []).length ≤ 3 * 2187 := by
        have := foldl_len (k := 3) (f := stepP M (r.idxOf ch)) (fun l a => stepP_len hM) (R.take k) []
        rw [List.length_take] at this
        simp only [List.length_nil] at this
        have h3 : min k R.length ≤ 2187 := by omega
        omega
      generalize hL0 : (R.take k).foldl (stepP M (r.idxOf ch)) [] = L0 at hA hkl3
      obtain ⟨an, rfl⟩ : ∃ an : Nat, a = (an : Nat) := ⟨a.toNat, by omega⟩
      have hal : an < M.length := by omega
      obtain ⟨vL, hvL, pL, xsL, rfl, hpL, hE2⟩ := hVb.at (List.getElem?_eq_getElem hal)
      have hLl := hM.rows _ (List.getElem_mem hal)
      have hjL : r.idxOf ch < (M[an]).length := by rw [hLl]; exact hj
      obtain ⟨vl, hvl, pl, xsl, rfl, hpl, hE3⟩ := hE2.at (List.getElem?_eq_getElem hjL)
      have emv : mvAt M ((an : Nat) : Int) (r.idxOf ch) = (M[an])[r.idxOf ch] := by
        unfold mvAt
        rw [Int.toNat_natCast, List.getElem?_eq_getElem hal, Option.getD_some, List.getElem?_eq_getElem hjL, Option.getD_some]
      rw [← emv] at hE3
      have hb2 := hA.old
      refine ⟨_, rfl, _, rfl, mp, mxs, _, _, rfl, rfl, hb2.seqT (sB.seqT (s1.seqT hmp)), atI_nat hvL, ?_⟩
      refine ⟨_, rfl, rfl, _, rfl, r, ch, r.idxOf ch, rfl, rfl, hrr.nd, hjr, ?_⟩
      refine ⟨pL, xsL, _, _, rfl, rfl, hb2.seqT hpL, atI_nat hvl, ?_⟩
      refine ⟨pl, rfl, ⟨_, hb2.seqT hpl⟩, ?_⟩
      refine for_it walk_tup (fun m σ H' => (∃ z7 z8 z9, σ = [some (.str (S r)), some (.ref mp), some (.str (S c)), some (.ref d), some (.str ⟨#[ch]⟩), some (.ref lp), some (.int (an : Nat)), z7, z8, z9]) ∧ SpA K Hb lp (((mvAt M ((an : Nat) : Int) (r.idxOf ch)).take m).foldl (step1 tot) L0) H')
        ⟨⟨_, _, _, rfl⟩, hA⟩ (fun m σ H' _ h => h.2.old.seqT hpl) ?_ ?_
      · rintro m v σ H3 H4 hm ⟨⟨z7, z8, z9, rfl⟩, hB⟩ ⟨rfl, hv3⟩
        obtain ⟨q3, hq3, up, rfl, hup⟩ := hE3.get hv3
        obtain ⟨L, hLm, l, hlm, hq4⟩ := mvAt_mem (List.mem_of_getElem? hq3)
        obtain ⟨⟨b1, b2⟩, b3, b4⟩ := hM.ok L hLm l hlm q3 hq4
        have s3 := hB.old
        have hup3 := s3.seqT hup
        have hp03 := s3.seqT v2
        have gd : DGet H4 d (.int (an : Nat)) (some (.ref p0)) := .inl ⟨kvs, Sum.inl (an : Nat), .inl (s3 _ _ (sB _ _ ed)), rfl, v1.symm⟩
        have hl9 : (((mvAt M ((an : Nat) : Int) (r.idxOf ch)).take m).foldl (step1 tot) L0).length ≤ 3 * 2187 + 3 := by
          have h1 := foldl_len (k := 1) (f := step1 tot) (fun l a => step1_len) ((mvAt M ((an : Nat) : Int) (r.idxOf ch)).take m) L0
          have h2 := mvAt_le hM (i := ((an : Nat) : Int)) (j := r.idxOf ch)
          rw [List.length_take] at h1
          omega
        have estep : ((mvAt M ((an : Nat) : Int) (r.idxOf ch)).take (m + 1)).foldl (step1 tot) L0 = step1 tot (((mvAt M ((an : Nat) : Int) (r.idxOf ch)).take m).foldl (step1 tot) L0) q3 := by
          rw [List.take_add_one, hq3, List.foldl_append] <;> rfl
        generalize hL1 : ((mvAt M ((an : Nat) : Int) (r.idxOf ch)).take m).foldl (step1 tot) L0 = L1 at hB hl9 estep
        refine ⟨_, rfl, _, rfl, d, _, rfl, gd, p0, _, 0, _, rfl, rfl, hp03, atI_nat (j := 0) rfl, ?_⟩
        refine ⟨_, rfl, up, _, 0, _, rfl, rfl, hup3, atI_nat (j := 0) rfl, _, _, rfl, rfl, ?_⟩
        refine ⟨_, rfl, _, rfl, d, _, rfl, gd, p0, _, 1, _, rfl, rfl, hp03, atI_nat (j := 1) rfl, ?_⟩
        refine ⟨_, rfl, up, _, 0, _, rfl, rfl, hup3, atI_nat (j := 0) rfl, _, _, rfl, rfl, ?_⟩
        obtain ⟨G, kvs2, g1, g2, g3, g4, g5⟩ := id hB
        refine ⟨_, rfl, up, _, 1, _, rfl, rfl, hup3, atI_nat (j := 1) rfl, ?_⟩
        refine ⟨_, rfl, lp, valV kvs2 (Sum.inl q3.2), rfl, .inl ⟨kvs2, Sum.inl q3.2, .inl g4, rfl, rfl⟩, _, rfl, ?_⟩
        cases hgL : getA L1 q3.2 with
        | none =>
          rw [(g5.2 q3.2).1 hgL]
          refine iteF ?_
          refine ⟨_, rfl, _, rfl, by show 2 ≤ sizeLine; decide, fun tp htp => ?_⟩
          have hB2 := hB.new (o := .tup [.int (lo0 + q3.1), .int (tot + q3.1)]) htp
          obtain ⟨kvs3, k1, k2, k3⟩ := hB2.put (g := q3.2) (t := (tot + q3.1)) (lo := (lo0 + q3.1)) (p := tp) (sqT_of upd_same)
          refine ⟨_, rfl, _, rfl, up, _, 1, _, rfl, rfl, (same_new htp).seqT hup3, atI_nat (j := 1) rfl, ?_⟩
          refine ⟨lp, _, rfl, .inl ⟨kvs3, Sum.inl q3.2, k1, rfl, by rw [k2]; exact szlt (by omega), rfl⟩, ⟨_, _, _, rfl⟩, ?_⟩
          rw [estep]
          unfold step1
          rw [hgL]
          show SpA K Hb lp (putA L1 q3.2 (max 0 (tot + q3.1))) _
          rw [Int.max_eq_right (by omega)]
          exact k3
        | some t0 =>
          obtain ⟨lo1, p1, w1, w2⟩ := (g5.2 q3.2).2 t0 hgL
          rw [w1]
          refine iteT ?_
          have w3 := g3.seqT w2
          have gd2 : DGet H4 lp (.int q3.2) (some (.ref p1)) := .inl ⟨kvs2, Sum.inl q3.2, .inl g4, rfl, w1.symm⟩
          refine ⟨_, rfl, _, rfl, _, rfl, up, _, 1, _, rfl, rfl, hup3, atI_nat (j := 1) rfl, lp, _, rfl, gd2, p1, _, 0, _, rfl, rfl, w3, atI_nat (j := 0) rfl, _, _, rfl, ?_⟩
          refine ⟨_, rfl, _, rfl, _, rfl, up, _, 1, _, rfl, rfl, hup3, atI_nat (j := 1) rfl, lp, _, rfl, gd2, p1, _, 1, _, rfl, rfl, w3, atI_nat (j := 1) rfl, _, _, rfl, ?_⟩
          refine ⟨_, rfl, _, rfl, by show 2 ≤ sizeLine; decide, fun tp htp => ?_⟩
          have hB2 := hB.new (o := .tup [.int (if lo1 < lo0 + q3.1 then lo1 else lo0 + q3.1), .int (if t0 > tot + q3.1 then t0 else tot + q3.1)]) htp
          obtain ⟨kvs3, k1, k2, k3⟩ := hB2.put (g := q3.2) (t := (if t0 > tot + q3.1 then t0 else tot + q3.1)) (lo := (if lo1 < lo0 + q3.1 then lo1 else lo0 + q3.1)) (p := tp) (sqT_of upd_same)
          refine ⟨_, rfl, _, rfl, up, _, 1, _, rfl, rfl, (same_new htp).seqT hup3, atI_nat (j := 1) rfl, ?_⟩
          refine ⟨lp, _, rfl, .inl ⟨kvs3, Sum.inl q3.2, k1, rfl, by rw [k2]; exact szlt (by omega), rfl⟩, ⟨_, _, _, rfl⟩, ?_⟩
          rw [estep]
          unfold step1
          rw [hgL]
          show SpA K Hb lp (putA L1 q3.2 (max t0 (tot + q3.1))) _
          rw [show max t0 (tot + q3.1) = (if t0 > tot + q3.1 then t0 else tot + q3.1) by split <;> omega]
          exact k3
      · rintro σ H3 ⟨⟨z7, z8, z9, rfl⟩, hB⟩
        refine ⟨⟨_, _, _, _, rfl⟩, ?_⟩
        rw [hE3.1, List.take_length] at hB
        rw [List.take_add_one, hat, List.foldl_append, hL0]
        exact hB
    · rintro σ H2 ⟨⟨z6, z7, z8, z9, rfl⟩, hA⟩
      obtain ⟨G, kvs2, h1, h2, h3, h4, h5⟩ := hA
      refine ⟨_, rfl, s1.trans (sB.trans (h2.trans h3)), lp, kvs2, _, _, _, _, _, _, rfl, h4, ?_⟩
      rw [List.length_map, hSb.len, List.take_length] at h5
      rw [List.take_add_one, hch2]
      show SpV K H2 kvs2 (runH M r (c.take i ++ [ch]))
      rw [runH_snoc, hR]
      exact h5.mono h3
  · rintro σ H1 ⟨s1, d, kvs, z4, z5, z6, z7, z8, z9, rfl, ed, hS⟩
    have et : c.take (S c).cps.size = c := List.take_of_length_le (by show c.length ≤ c.toArray.size; simp)
    rw [et] at hS
    obtain ⟨hall, hne⟩ := runH_ok hM hc
    have hnd : NdA (runH M r c) := runH_nd _
    have hlen : (runH M r c).length ≤ 2187 := by
      refine Nat.le_trans (runH_len hM _) ?_
      exact Nat.le_trans (Nat.pow_le_pow_right (by decide) hl) (by decide)
    have hwst : wst M r c = ((runH M r c).map (·.2)).foldl max 0 := rfl
    generalize runH M r c = R at hS hall hne hlen hnd hwst
    have hkl := hS.len
    have item : ∀ {k : Nat} {v : V}, (kvs.map fun kv => kV kv.1)[k]? = some v → ∃ a tot lo p, R[k]? = some (a, tot) ∧ v = .int a ∧ valV kvs (Sum.inl a) = some (.ref p) ∧ SqT K H1 p [.int lo, .int tot] := fun {k v} hv => by
      rw [List.getElem?_map] at hv
      obtain ⟨kv, hkv, rfl⟩ := Option.map_eq_some_iff.mp hv
      have e1 : (kvs.map (·.1))[k]? = some kv.1 := by rw [List.getElem?_map, hkv] <;> rfl
      rw [hS.1, List.getElem?_map] at e1
      obtain ⟨⟨a, tot⟩, hp, e2⟩ := Option.map_eq_some_iff.mp e1
      obtain ⟨lo, p, w1, w2⟩ := (hS.2 a).2 tot (getA_nd hnd hp)
      exact ⟨a, tot, lo, p, hp, by rw [← e2] <;> rfl, w1, w2⟩
    refine ⟨_, rfl, d, kvs, rfl, .inl ed, fun kp hkp => ?_⟩
    have sk := same_new (o := .lst (kvs.map fun kv => kV kv.1)) hkp
    refine ⟨kp, rfl, ⟨_, sqL_of upd_same⟩, fun D hD => ?_⟩
    refine lc_it (walk_list (xs := kvs.map fun kv => kV kv.1)) (AccP _ D fun k acc _ => ∃ los : List Int, acc = los.map V.int ∧ los.length = k) (AccP.start hD ⟨[], rfl, rfl⟩) (fun k H3 _ h => ?_) ?_ ?_
    · obtain ⟨acc, G, e3, hG, k1, k2, _⟩ := h
      exact k2.seq (k1.seq (sqL_of upd_same))
    · rintro k v H3 H4 hk ⟨acc, G, e3, hG, k1, k2, los, rfl, hlk⟩ ⟨rfl, hv⟩
      obtain ⟨a, tot, lo, p, hR, rfl, w1, w2⟩ := item hv
      have s3 := sk.trans (k1.trans k2)
      refine ⟨rfl, _, rfl, _, rfl, d, _, rfl, .inl ⟨kvs, Sum.inl a, .inl (s3 _ _ ed), rfl, w1.symm⟩, p, _, 0, _, rfl, rfl, s3.seqT w2, atI_nat (j := 0) rfl, ?_⟩
      have hk2 : k < kvs.length := by rwa [List.length_map] at hk
      refine AccP.push e3 hG k1 k2 (by rw [List.length_map]; exact szlt (by omega)) ⟨los ++ [lo], by rw [List.map_append] <;> rfl, by rw [List.length_append, hlk] <;> rfl⟩
    · rintro H3 ⟨acc, G, e3, hG, k1, k2, los, rfl, hlk⟩
      have s3 := sk.trans (k1.trans k2)
      have hRp : 0 < R.length := List.length_pos_iff.mpr hne
      rw [List.length_map] at hlk
      refine ⟨D, los, rfl, sqL_of e3, by omega, fun mn _ _ => ?_⟩
      refine ⟨_, rfl, d, kvs, rfl, .inl (s3 _ _ ed), fun kp2 hkp2 => ?_⟩
      have sk2 := same_new (o := .lst (kvs.map fun kv => kV kv.1)) hkp2
      refine ⟨kp2, rfl, ⟨_, sqL_of upd_same⟩, fun D2 hD2 => ?_⟩
      refine lc_it (walk_list (xs := kvs.map fun kv => kV kv.1)) (AccP _ D2 fun k acc _ => acc = ((R.take k).map (·.2)).map V.int) (AccP.start hD2 rfl) (fun k H3 _ h => ?_) ?_ ?_
      · obtain ⟨acc, G, e3, hG, k1, k2, _⟩ := h
        exact k2.seq (k1.seq (sqL_of upd_same))
      · rintro k v H4 H5 hk ⟨acc, G, e4, hG, k3, k4, rfl⟩ ⟨rfl, hv⟩
        obtain ⟨a, tot, lo, p, hR, rfl, w1, w2⟩ := item hv
        have s4 := s3.trans (sk2.trans (k3.trans k4))
        refine ⟨rfl, _, rfl, _, rfl, d, _, rfl, .inl ⟨kvs, Sum.inl a, .inl (s4 _ _ ed), rfl, w1.symm⟩, p, _, 1, _, rfl, rfl, s4.seqT w2, atI_nat (j := 1) rfl, ?_⟩
        have hk2 : k < kvs.length := by rwa [List.length_map] at hk
        refine AccP.push e4 hG k3 k4 (by rw [List.length_map, List.length_map, List.length_take]; exact szlt (by omega)) ?_
        show _ = ((R.take (k + 1)).map (·.2)).map V.int
        rw [take_map_snoc hR, List.map_append] <;> rfl
      · rintro H4 ⟨acc, G, e4, hG, k3, k4, rfl⟩
        rw [List.length_map, hkl, List.take_length] at e4
        have s4 := s3.trans (sk2.trans (k3.trans k4))
        refine ⟨D2, R.map (·.2), rfl, sqL_of e4, by rw [List.length_map]; exact hRp, fun mx hm hle => ?_⟩
        refine ⟨by show 2 ≤ sizeLine; decide, fun rp hrp => ?_⟩
        have e9 : wst M r c = mx := hwst.trans (max_is (fun y hy => by
          obtain ⟨p, hp, rfl⟩ := List.mem_map.mp hy
          exact (hall p hp).2.2) hm hle)
        refine q mn rp _ (s1.trans (s4.new hrp)) (sqT_of ?_)
        rw [upd_same, e9]
end K84
set_option maxHeartbeats 4000000
namespace K84
open PySem PySem.Spec PyProof.Rows L2
local macro_rules | `(tactic| walk_at "ix") => `(tactic| first | exact atI_nat (j := 0) rfl | exact atI_nat (j := 1) rfl | exact atI_nat (j := 2) rfl | exact atI_nat (j := 3) rfl | exact atI_nat (j := 4) rfl)
local macro_rules | `(tactic| walk_at "rd") => `(tactic| repeat (first
  | refine ⟨_, rfl, ?_⟩
  | refine ⟨rfl, ?_⟩
  | refine ⟨_, _, rfl, ?_⟩
  | refine ⟨_, _, rfl, rfl, ?_⟩
  | refine ⟨_, _, _, rfl, ?_⟩
  | refine ⟨_, _, _, _, rfl, ?_⟩
  | refine ⟨_, _, _, _, rfl, rfl, (by assumption), (by walk_at "ix"), ?_⟩
  | refine ⟨_, _, _, rfl, rfl, (by assumption), ?_⟩
  | refine ⟨.inl ⟨rfl, _, sqL_of (by assumption)⟩, ?_⟩
  | refine ⟨_, _, _, _, _, rfl, (by assumption), (by assumption), (by assumption), (by assumption), ?_⟩
  | refine ⟨_, _, _, _, _, rfl, .ty _, Tg.ty (by assumption), kit_ty (by first | exact kInt _ | exact kBool _ | exact kStr _ | exact kTup _ | exact kLst _ | exact kDct _), ?_⟩))
theorem inV_int {x : Int} {l : List Int} : inV (V.int x) (l.map V.int) = decide (x ∈ l) := by
  unfold inV
  induction l with
  | nil => rfl
  | cons a l ih =>
    rw [List.map_cons, List.any_cons, ih]
    have e : eqV (V.int a) (V.int x) = decide (x = a) := by
      unfold eqV
      by_cases h : x = a
      · subst h; simp
      · have : ¬ (a = x) := fun z => h z.symm
        simp [h, this]
    rw [e, Bool.eq_iff_iff]
    simp [List.mem_cons]
theorem flat_int {l : List Int} : (l.map V.int).all flatV = true := by
  rw [List.all_map, List.all_eq_true]
  exact fun _ _ => rfl
structure RcOk (M : Mv) (fl : List Int) : Prop where
  nd : fl.Nodup
  rg : ∀ a ∈ fl, 0 ≤ a ∧ a ≤ (M.length : Int) - 1
  z : 0 ∈ fl
theorem RcOk.len {M : Mv} {fl : List Int} (h : RcOk M fl) : fl.length ≤ M.length := by
  have h1 : (fl.map Int.toNat).Nodup := by
    unfold List.Nodup
    rw [List.pairwise_map]
    refine List.Pairwise.imp_of_mem (fun {a b} ha hb hne e => hne ?_) h.nd
    have := h.rg a ha
    have := h.rg b hb
    omega
  have h2 := nd_len (m := List.range M.length) h1 fun x hx => by
    obtain ⟨a, ha, rfl⟩ := List.mem_map.mp hx
    have := h.rg a ha
    exact List.mem_range.mpr (by omega)
  rwa [List.length_map, List.length_range] at h2
/-- closed under the moves of the first k -/
def Clo (M : Mv) (fl : List Int) (k : Nat) : Prop := ∀ (i : Nat) (a : Int), i < k → fl[i]? = some a → ∀ L, M[a.toNat]? = some L → ∀ l ∈ L, ∀ q ∈ l, q.2 ∈ fl
def sp_l_reached (K : PySem.W.Frag) : Sp := sp1 fun a H Q _ => ∃ (M : Mv) (r : Wd) (ans : Nat), MvV K H a M ∧ MvOk M r ans ∧ ∀ p fl H', Same H H' → H' p = some (.lst (fl.map V.int)) → RcOk M fl → Clo M fl fl.length → Q (.ref p) H'
/- _law_reached: _law_moves_here=0 _law_found=1 _law_k=2 _law_line=3 _law_move=4; cells []; calls []; builtins ['range', 'len'] -/
abbrev s_l_reached : Stmt := top 75
theorem sc_l_reached : FnScope ["_law_moves_here", "_law_found", "_law_k", "_law_line", "_law_move"] ["_law_moves_here"] (defScope s_l_reached) := ⟨rfl, rfl, rfl, by decide +kernel, rfl, by decide +kernel, by decide +kernel⟩
theorem ok_l_reached {P : Program} {w : World} {K : PySem.W.Frag} {mg : Str → Option Value} {base : Heap} (D : Df K mg "_law_reached" s_l_reached) (T : Tx K mg)  :
    Cl CX0 P w K mg base 1 "_law_reached" (sp_l_reached K) := by
  refine D.ok1 (k := 0) sc_l_reached (fun _ _ _ _ _ _ us hl => match us, hl with | [_], _ => rfl) (fun f cdv A outer s H a Q E hr h => ⟨_, PSs.nox ((pss_cons (ps_set (i := 1) sc_l_reached.nd rfl (Or.inl rfl) (pe_lst (pa_cons pe_int pa_nil)))
      (pss_cons (ps_for PassesOwn.never rfl (pi_range1 (by rfl) T.range (pa_cons (pe_callB call_len_seq (by rfl) T.len (by decide +kernel) (pa_cons (pv 0) pa_nil)) pa_nil)) (pg_name (i := 2) sc_l_reached.nd rfl (Or.inl rfl)) (pss_one (ps_if (pt_cmpR op_lt (pv 2) (pe_callB call_len_seq (by rfl) T.len (by decide +kernel) (pa_cons (pv 1) pa_nil)) (nomark _)) (pss_one (ps_for PassesOwn.never rfl (pi_tup (pe_ix ix_tup (pv 0) (pe_ix ix_list (pv 1) (pv 2) (fun _ _ => rfl)) (fun _ _ => rfl))) (pg_name (i := 3) sc_l_reached.nd rfl (Or.inl rfl)) (pss_one (ps_for PassesOwn.never rfl (pi_tup (pv 3)) (pg_name (i := 4) sc_l_reached.nd rfl (Or.inl rfl)) (pss_one (ps_if (pt_cmpR op_notIn_seq (pe_ix ix_tup (pv 4) pe_int (fun _ _ => rfl)) (pv 1) rfl) (pss_one (ps_expr (pe_bm PySem.F.plainAttrs_list PySem.F.slot_list_append PySem.F.type_list_append mt_append (pv 1) (pa_cons (pe_ix ix_tup (pv 4) pe_int (fun _ _ => rfl)) pa_nil)))) pss_nil)))))) pss_nil)))
      (pss_one (ps_ret (pv 1)))))), ?_⟩)
  obtain ⟨M, r, ans, hV, hM, q⟩ := h
  obtain ⟨mp, mxs, rfl, hmp, hmE⟩ := id hV
  have m1 := hM.pos
  have m2 := hM.few
  refine ⟨by show 1 ≤ sizeLine; decide, fun fp hfp => ?_⟩
  have s1 := same_new (o := .lst [.int 0]) hfp
  refine ⟨_, rfl, mp, _, rfl, .inr (s1.seqT hmp), ?_⟩
  rw [hmE.1]
  refine ⟨_, rfl, by omega, by omega, ?_⟩
  refine for_range (fun k σ H' => Same H H' ∧ ∃ fl z2 z3 z4, σ = [some (.ref mp), some (.ref fp), z2, z3, z4] ∧ H' fp = some (.lst (fl.map V.int)) ∧ RcOk M fl ∧ Clo M fl k)
    ⟨s1, [0], _, _, _, rfl, upd_same, ⟨by simp, fun a ha => by rw [List.mem_singleton.mp ha]; omega, by simp⟩, fun i a hi => absurd hi (Nat.not_lt_zero _)⟩ ?_ ?_
  · rintro k σ H1 hk ⟨s1, fl, z2, z3, z4, rfl, ef, hO, hC⟩
    have hfl := hO.len
    refine ⟨_, rfl, _, rfl, fp, _, rfl, .inl (sqL_of ef), _, _, rfl, rfl, _, rfl, ?_⟩
    rw [List.length_map]
    refine ifB (fun t => ?_) (fun t => ?_)
    · have t2 := of_decide_eq_true t
      have hkf : k < fl.length := by omega
      have hgk : fl[k]? = some fl[k] := List.getElem?_eq_getElem hkf
      generalize fl[k] = a at hgk
      obtain ⟨a1, a2⟩ := hO.rg a (List.mem_of_getElem? hgk)
      obtain ⟨an, rfl⟩ : ∃ an : Nat, a = (an : Nat) := ⟨a.toNat, by omega⟩
      have hal : an < M.length := by omega
      obtain ⟨vL, hvL, pL, xsL, rfl, hpL, hE2⟩ := hmE.at (List.getElem?_eq_getElem hal)
      have hML : M[an]? = some M[an] := List.getElem?_eq_getElem hal
      generalize M[an] = L at hE2 hML
      have hatk : atI (fl.map V.int) (0 + (k : Int)) = some (V.int (an : Nat)) := by
        have e0 : (0 + (k : Int)) = ((k : Nat) : Int) := by omega
        rw [e0]
        exact atI_nat (by rw [List.getElem?_map, hgk] <;> rfl)
      refine ⟨_, rfl, _, rfl, _, rfl, fp, _, _, _, rfl, rfl, sqL_of ef, hatk, ?_⟩
      refine ⟨mp, mxs, _, _, rfl, rfl, s1.seqT hmp, atI_nat hvL, ?_⟩
      refine ⟨pL, rfl, ⟨_, s1.seqT hpL⟩, ?_⟩
      have hLM := List.mem_of_getElem? hML
      refine for_it walk_tup (fun j σ H' => Same H H' ∧ ∃ fl2 ext z3 z4, σ = [some (.ref mp), some (.ref fp), some (.int (0 + (k : Nat))), z3, z4] ∧ fl2 = fl ++ ext ∧ H' fp = some (.lst (fl2.map V.int)) ∧ RcOk M fl2 ∧ ∀ l ∈ L.take j, ∀ q ∈ l, q.2 ∈ fl2)
        ⟨s1, fl, [], _, _, rfl, by simp, ef, hO, fun l hl => by simp at hl⟩ (fun j σ H' _ h => h.1.seqT hpL) ?_ ?_
      · rintro j v σ H2 H3 hj ⟨s2, fl2, ext, z3, z4, rfl, efl, ef2, hO2, hq2⟩ ⟨rfl, hv⟩
        obtain ⟨l, hl, pl, xsl, rfl, hpl, hE3⟩ := hE2.get hv
        have hlL := List.mem_of_getElem? hl
        refine ⟨_, rfl, pl, rfl, ⟨_, s2.seqT hpl⟩, ?_⟩
        refine for_it walk_tup (fun m σ H' => Same H H' ∧ ∃ fl2 ext z4, σ = [some (.ref mp), some (.ref fp), some (.int (0 + (k : Nat))), some (.ref pl), z4] ∧ fl2 = fl ++ ext ∧ H' fp = some (.lst (fl2.map V.int)) ∧ RcOk M fl2 ∧ (∀ l ∈ L.take j, ∀ q ∈ l, q.2 ∈ fl2) ∧ ∀ q ∈ l.take m, q.2 ∈ fl2)
          ⟨s2, fl2, ext, _, rfl, efl, ef2, hO2, hq2, fun q hq => by simp at hq⟩ (fun j σ H' _ h => h.1.seqT hpl) ?_ ?_
        · rintro m v σ H4 H5 hm ⟨s4, fl3, ext3, z4, rfl, efl3, ef3, hO3, hq3, hq4⟩ ⟨rfl, hv⟩
          obtain ⟨q5, hq5, up, rfl, hup⟩ := hE3.get hv
          have hup2 := s4.seqT hup
          have hf3 := hO3.len
          obtain ⟨_, b3, b4⟩ := hM.ok L hLM l hlL q5 (List.mem_of_getElem? hq5)
          refine ⟨_, rfl, up, _, 1, _, rfl, rfl, hup2, atI_nat (j := 1) rfl, ?_⟩
          refine ⟨_, rfl, fp, _, rfl, .inl (sqL_of ef3), rfl, flat_int, _, rfl, ?_⟩
          refine ifB (fun u => ?_) (fun u => ?_)
          · have u1 : (!inV (V.int q5.2) (fl3.map V.int)) = true := u
            rw [inV_int] at u1
            have hn : q5.2 ∉ fl3 := by simpa using u1
            refine ⟨_, rfl, .inl ⟨rfl, _, sqL_of ef3⟩, ?_⟩
            refine ⟨_, rfl, up, _, 1, _, rfl, rfl, hup2, atI_nat (j := 1) rfl, ?_⟩
            refine ⟨fp, _, _, rfl, rfl, ef3, by rw [List.length_map]; exact szlt (by omega), ?_⟩
            refine ⟨L2.Same.mut s4 hfp, fl3 ++ [q5.2], ext3 ++ [q5.2], _, rfl, by rw [efl3, List.append_assoc], by rw [upd_same, List.map_append] <;> rfl, ⟨?_, fun a ha => ?_, List.mem_append_left _ hO3.z⟩, fun l2 hl2 q hq => List.mem_append_left _ (hq3 l2 hl2 q hq), fun q hq => ?_⟩
            · exact List.nodup_append.mpr ⟨hO3.nd, by simp, fun a ha b hb z => by rw [List.mem_singleton.mp hb] at z; exact hn (z ▸ ha)⟩
            · rcases List.mem_append.mp ha with ha | ha
              · exact hO3.rg a ha
              · rw [List.mem_singleton.mp ha]
                exact ⟨b3, b4⟩
            · rw [List.take_add_one, hq5] at hq
              rcases List.mem_append.mp hq with hq | hq
              · exact List.mem_append_left _ (hq4 q hq)
              · have : q = q5 := by simpa using hq
                rw [this]
                exact List.mem_append_right _ (List.mem_singleton.mpr rfl)
          · have u1 : (!inV (V.int q5.2) (fl3.map V.int)) = false := u
            rw [inV_int] at u1
            have hn : q5.2 ∈ fl3 := by simpa using u1
            refine ⟨s4, fl3, ext3, _, rfl, efl3, ef3, hO3, hq3, fun q hq => ?_⟩
            rw [List.take_add_one, hq5] at hq
            rcases List.mem_append.mp hq with hq | hq
            · exact hq4 q hq
            · have : q = q5 := by simpa using hq
              rw [this]
              exact hn
        · rintro σ H4 ⟨s4, fl3, ext3, z4, rfl, efl3, ef3, hO3, hq3, hq4⟩
          rw [hE3.1, List.take_length] at hq4
          refine ⟨s4, fl3, ext3, _, _, rfl, efl3, ef3, hO3, fun l2 hl2 q hq => ?_⟩
          rw [List.take_add_one, hl] at hl2
          rcases List.mem_append.mp hl2 with hl2 | hl2
          · exact hq3 l2 hl2 q hq
          · have : l2 = l := by simpa using hl2
            subst this
            exact hq4 q hq
      · rintro σ H2 ⟨s2, fl2, ext, z3, z4, rfl, efl, ef2, hO2, hq2⟩
        rw [hE2.1, List.take_length] at hq2
        refine ⟨s2, fl2, _, _, _, rfl, ef2, hO2, fun i a hi ha L2 hL2 l hl q hq => ?_⟩
        rcases Nat.lt_or_eq_of_le (Nat.le_of_lt_succ hi) with h | h
        · have hif : i < fl.length := by omega
          rw [efl, List.getElem?_append_left hif] at ha
          rw [efl]
          exact List.mem_append_left _ (hC i a h ha L2 hL2 l hl q hq)
        · subst h
          rw [efl, List.getElem?_append_left hkf, hgk] at ha
          cases ha
          rw [Int.toNat_natCast, hML] at hL2
          cases hL2
          exact hq2 l hl q hq
    · have t2 := of_decide_eq_false t
      refine ⟨s1, fl, _, _, _, rfl, ef, hO, fun i a hi ha L hL l hl q hq => ?_⟩
      have hif := (List.getElem?_eq_some_iff.mp ha).1
      exact hC i a (by omega) ha L hL l hl q hq
  · rintro σ H1 ⟨s1, fl, z2, z3, z4, rfl, ef, hO, hC⟩
    refine ⟨_, rfl, q fp fl H1 s1 ef hO fun i a hi ha => hC i a ?_ ha⟩
    have := hO.len
    omega
end K84
set_option maxHeartbeats 4000000
namespace K84
open PySem PySem.Spec PyProof.Rows L2
local macro_rules | `(tactic| walk_at "ix") => `(tactic| first | exact atI_nat (j := 0) rfl | exact atI_nat (j := 1) rfl | exact atI_nat (j := 2) rfl | exact atI_nat (j := 3) rfl | exact atI_nat (j := 4) rfl)
local macro_rules | `(tactic| walk_at "rd") => `(tactic| repeat (first
  | refine ⟨_, rfl, ?_⟩
  | refine ⟨rfl, ?_⟩
  | refine ⟨_, _, rfl, ?_⟩
  | refine ⟨_, _, rfl, rfl, ?_⟩
  | refine ⟨_, _, _, rfl, ?_⟩
  | refine ⟨_, _, _, _, rfl, ?_⟩
  | refine ⟨_, _, _, _, rfl, rfl, (by assumption), (by walk_at "ix"), ?_⟩
  | refine ⟨_, _, _, rfl, rfl, (by assumption), ?_⟩
  | refine ⟨.inl ⟨rfl, _, sqL_of (by assumption)⟩, ?_⟩
  | refine ⟨_, _, _, _, _, rfl, (by assumption), (by assumption), (by assumption), (by assumption), ?_⟩
  | refine ⟨_, _, _, _, _, rfl, .ty _, Tg.ty (by assumption), kit_ty (by first | exact kInt _ | exact kBool _ | exact kStr _ | exact kTup _ | exact kLst _ | exact kDct _), ?_⟩))
abbrev Rl := Hp → V → V → Prop
def isR (K : PySem.W.Frag) (R : Rl) : Rl := fun H a b => (∃ i, a = .int i ∧ b = .int i) ∨ (∃ s, a = .str s ∧ b = .str s) ∨ ∃ p q xs ys, a = .ref p ∧ b = .ref q ∧ SqT K H p xs ∧ SqT K H q ys ∧ xs.length = ys.length ∧ xs.length ≤ 1000 ∧ ∀ (i : Nat) (x y : V), xs[i]? = some x → ys[i]? = some y → R H x y
def spR (R : Rl) : Sp := sp2 fun a b H Q _ => R H a b ∧ ∀ H', Same H H' → Q (.bl true) H'
def R0 : Rl := fun _ _ _ => False
theorem isR_mono {K : PySem.W.Frag} {R : Rl} (h : ∀ H H' a b, Same H H' → R H a b → R H' a b) (H H' : Hp) (a b : V) (s : Same H H') (r : isR K R H a b) : isR K R H' a b := by
  rcases r with r | r | ⟨p, q, xs, ys, e1, e2, h1, h2, h3, h4, h5⟩
  · exact .inl r
  · exact .inr (.inl r)
  · exact .inr (.inr ⟨p, q, xs, ys, e1, e2, s.seqT h1, s.seqT h2, h3, h4, fun i x y ex ey => h _ _ _ _ s (h5 i x y ex ey)⟩)
/- _law_is: _law_told=0 _law_due_here=1 _law_k=2; cells ['_law_due_here', '_law_told']; calls ['_law_is']; builtins ['isinstance', 'bool', 'list', 'tuple', 'len', 'range'] -/
abbrev s_l_is : Stmt := top 73
theorem sc_l_is : FnScope ["_law_told", "_law_due_here", "_law_k"] ["_law_told", "_law_due_here"] (defScope s_l_is) := ⟨rfl, rfl, rfl, by decide +kernel, rfl, by decide +kernel, by decide +kernel⟩
theorem is_base {P : Program} {w : World} {K : PySem.W.Frag} {mg : Str → Option Value} {base : Heap} (D : Df K mg "_law_is" s_l_is) : Cl CX0 P w K mg base 2 "_law_is" (spR R0) :=
  D.ok2 (k := 1) sc_l_is (fun _ _ _ _ _ _ us hl => match us, hl with | [_, _], _ => rfl) (fun f cdv A outer s H a b Q E hr h => h.1.elim)
theorem is_step {P : Program} {w : World} {K : PySem.W.Frag} {mg : Str → Option Value} {base : Heap} {R : Rl} {k : Nat} (D : Df K mg "_law_is" s_l_is) (T : Tx K mg) (hm : ∀ H H' a b, Same H H' → R H a b → R H' a b) (c_l_is : Cl CX0 P w K mg base k "_law_is" (spR R)) :
    Cl CX0 P w K mg base (k + 1) "_law_is" (spR (isR K R)) := by
  refine D.ok2 (k := k) sc_l_is (fun _ _ _ _ _ _ us hl => match us, hl with | [_, _], _ => rfl) (fun f cdv A outer s H a b Q E hr h => ⟨_, PSs.nox ((pss_cons (ps_if (pt_val (pe_callB call_isiT (by rfl) T.isinstance (by decide +kernel) (pa_cons (pv 1) (pa_cons (pe_tup (pa_cons (pe_bltn (v := .ty "tuple") (by rfl) T.tuple_ (by decide +kernel) rfl) (pa_cons (pe_bltn (v := .ty "list") (by rfl) T.list_ (by decide +kernel) rfl) pa_nil))) pa_nil)))) (pss_cons (ps_if (PW.pt (pw_or (pt_cmpR op_ne (pe_callB call_isi (by rfl) T.isinstance (by decide +kernel) (pa_cons (pv 0) (pa_cons (pe_bltn (v := .ty "tuple") (by rfl) T.tuple_ (by decide +kernel) rfl) pa_nil))) (pe_callB call_isi (by rfl) T.isinstance (by decide +kernel) (pa_cons (pv 1) (pa_cons (pe_bltn (v := .ty "tuple") (by rfl) T.tuple_ (by decide +kernel) rfl) pa_nil))) (nomark _)) (pw_or1 (pt_not (pt_val (pe_callB call_isiT (by rfl) T.isinstance (by decide +kernel) (pa_cons (pv 0) (pa_cons (pe_tup (pa_cons (pe_bltn (v := .ty "tuple") (by rfl) T.tuple_ (by decide +kernel) rfl) (pa_cons (pe_bltn (v := .ty "list") (by rfl) T.list_ (by decide +kernel) rfl) pa_nil))) pa_nil)))))))) (pss_one (ps_ret pe_bl)) pss_nil)
      (pss_one (ps_ret (pe_and (pe_cmpR op_eq (pe_callB call_len_seq (by rfl) T.len (by decide +kernel) (pa_cons (pv 0) pa_nil)) (pe_callB call_len_seq (by rfl) T.len (by decide +kernel) (pa_cons (pv 1) pa_nil)) (nomark _)) (pe_one (pe_cmpR op_eq (pe_callB call_len_seq (by rfl) T.len (by decide +kernel) (pa_cons (pe_lc (own := [("_law_k", 2)]) rfl sc_l_is.nd (pi_range1 (by rfl) T.range (pa_cons (pe_callB call_len_seq (by rfl) T.len (by decide +kernel) (pa_cons (pv 1) pa_nil)) pa_nil)) (blkOk_by (own := [("_law_k", 2)]) (N := ["_law_told", "_law_due_here", "_law_k"]) (sc := defScope s_l_is) (by decide +kernel)) (fun _ _ _ _ _ => (pg_name (i := 2) sc_l_is.nd rfl (Or.inl rfl))) (fun _ _ _ _ _ => (pts_one (pt_not (pt_val (pe_cl c_l_is hr (Nat.le_refl _) pass0 (pa_cons (pe_ix (r := rIxT K) ix_tup (pv 0) (pv 2) (fun _ _ => rfl)) (pa_cons (pe_ix (r := rIxT K) ix_tup (pv 1) (pv 2) (fun _ _ => rfl)) pa_nil))))))) (fun _ _ _ _ _ => (pv 2))) pa_nil)) pe_int (nomark _))))))) pss_nil)
      (pss_one (ps_ret (pe_and (pe_cmpR op_eq (pe_callB call_isi (by rfl) T.isinstance (by decide +kernel) (pa_cons (pv 0) (pa_cons (pe_bltn (v := .ty "bool") (by rfl) T.bool_ (by decide +kernel) rfl) pa_nil))) (pe_callB call_isi (by rfl) T.isinstance (by decide +kernel) (pa_cons (pv 1) (pa_cons (pe_bltn (v := .ty "bool") (by rfl) T.bool_ (by decide +kernel) rfl) pa_nil))) (nomark _)) (pe_one (pe_cmpR op_eq (pv 0) (pv 1) (nomark _)))))))), ?_⟩)
  obtain ⟨r, q⟩ := h
  rcases r with ⟨i, rfl, rfl⟩ | ⟨x, rfl, rfl⟩ | ⟨p, t, xs, ys, rfl, rfl, h1, h2, h3, h4, h5⟩
  · refine ⟨_, rfl, by show 2 ≤ sizeLine; decide, fun tp htp => ?_⟩
    refine ⟨_, tp, _, _, [.type "tuple", .type "list"], _, rfl, upd_same, .cons (.ty "tuple") (.cons (.ty "list") .nil), .base (.int i), kAny2 (kTup (.int i)) (kLst (.int i)), ?_⟩
    refine ⟨_, rfl, ?_⟩
    refine iteF ?_
    refine ⟨_, rfl, _, _, _, _, false, rfl, .ty _, .base (.int i), kit_ty (kBool (.int i)), ?_⟩
    refine ⟨_, rfl, _, _, _, _, false, rfl, .ty _, .base (.int i), kit_ty (kBool (.int i)), ?_⟩
    refine ⟨rfl, _, rfl, iteT ?_⟩
    refine ⟨_, rfl, _, rfl, rfl, ?_⟩
    have e : decide ((.int i : V) = .int i) = true := decide_eq_true rfl
    show Q (.bl (decide ((.int i : V) = .int i))) _
    rw [e]
    exact q _ (same_new htp)
  · refine ⟨_, rfl, by show 2 ≤ sizeLine; decide, fun tp htp => ?_⟩
    refine ⟨_, tp, _, _, [.type "tuple", .type "list"], _, rfl, upd_same, .cons (.ty "tuple") (.cons (.ty "list") .nil), .base (.str x), kAny2 (kTup (.str x)) (kLst (.str x)), ?_⟩
    refine ⟨_, rfl, ?_⟩
    refine iteF ?_
    refine ⟨_, rfl, _, _, _, _, false, rfl, .ty _, .base (.str x), kit_ty (kBool (.str x)), ?_⟩
    refine ⟨_, rfl, _, _, _, _, false, rfl, .ty _, .base (.str x), kit_ty (kBool (.str x)), ?_⟩
    refine ⟨rfl, _, rfl, iteT ?_⟩
    refine ⟨_, rfl, _, rfl, rfl, ?_⟩
    have e : decide ((.str x : V) = .str x) = true := decide_eq_true rfl
    show Q (.bl (decide ((.str x : V) = .str x))) _
    rw [e]
    exact q _ (same_new htp)
  · refine ⟨_, rfl, by show 2 ≤ sizeLine; decide, fun tp htp => ?_⟩
    have s1 := same_new (o := .tup [.ty "tuple", .ty "list"]) htp
    refine ⟨_, tp, _, _, [.type "tuple", .type "list"], _, rfl, upd_same, .cons (.ty "tuple") (.cons (.ty "list") .nil), sqT_ty (s1.seqT h2), kAny2 (kTup (.tup [])) (kLst (.tup [])), ?_⟩
    refine ⟨_, rfl, iteT ?_⟩
    refine ⟨_, rfl, _, _, _, _, true, rfl, .ty _, sqT_ty (s1.seqT h1), kit_ty (kTup (.tup [])), ?_⟩
    refine ⟨_, rfl, _, _, _, _, true, rfl, .ty _, sqT_ty (s1.seqT h2), kit_ty (kTup (.tup [])), ?_⟩
    refine ⟨rfl, _, rfl, iteF ?_⟩
    refine ⟨_, rfl, by show 2 ≤ sizeLine; decide, fun tq htq => ?_⟩
    have s2 := s1.new (o := .tup [.ty "tuple", .ty "list"]) htq
    refine ⟨_, tq, _, _, [.type "tuple", .type "list"], _, rfl, upd_same, .cons (.ty "tuple") (.cons (.ty "list") .nil), sqT_ty (s2.seqT h1), kAny2 (kTup (.tup [])) (kLst (.tup [])), ?_⟩
    refine ⟨_, rfl, iteF ?_⟩
    refine ⟨_, rfl, p, xs, rfl, .inr (s2.seqT h1), ?_⟩
    refine ⟨_, rfl, t, ys, rfl, .inr (s2.seqT h2), ?_⟩
    rw [h3]
    refine ⟨rfl, _, rfl, ?_⟩
    refine ifT (decide_eq_true rfl) ?_
    refine ⟨_, rfl, t, ys, rfl, .inr (s2.seqT h2), ?_⟩
    refine ⟨_, rfl, by omega, by omega, fun D hD => ?_⟩
    refine lc_it walk_range (AccP _ D fun i acc _ => acc = []) (AccP.start hD rfl) (fun _ _ _ _ => trivial) ?_ ?_
    · rintro i v H3 H4 hi ⟨acc, G, e3, hG, k1, k2, rfl⟩ ⟨rfl, rfl⟩
      have hi2 : i < ys.length := by omega
      have s4 := s2.trans (k1.trans k2)
      have e0 : (0 + (i : Int)) = ((i : Nat) : Int) := by omega
      have a1 : atI xs (0 + (i : Int)) = some xs[i] := by rw [e0]; exact atI_nat (List.getElem?_eq_getElem (by omega))
      have a2 : atI ys (0 + (i : Int)) = some ys[i] := by rw [e0]; exact atI_nat (List.getElem?_eq_getElem hi2)
      refine ⟨rfl, _, rfl, _, rfl, p, xs, _, _, rfl, rfl, s4.seqT h1, a1, ?_⟩
      refine ⟨_, rfl, _, rfl, t, ys, _, _, rfl, rfl, s4.seqT h2, a2, ?_⟩
      refine ⟨_, _, rfl, hm _ _ _ _ s4 (h5 i _ _ (List.getElem?_eq_getElem (by omega)) (List.getElem?_eq_getElem hi2)), fun H5 s5 => ?_⟩
      refine ⟨_, rfl, iteF ?_⟩
      exact ⟨[], G, s5 _ _ e3, hG, k1, k2.trans s5, rfl⟩
    · rintro H3 ⟨acc, G, e3, hG, k1, k2, rfl⟩
      refine ⟨D, _, rfl, .inl (sqL_of e3), rfl, ?_⟩
      exact q H3 (s2.trans (k1.trans k2))
def sp_l_is (K : PySem.W.Frag) : Sp := spR (isR K (isR K (isR K R0)))
theorem ok_l_is {P : Program} {w : World} {K : PySem.W.Frag} {mg : Str → Option Value} {base : Heap} (D : Df K mg "_law_is" s_l_is) (T : Tx K mg) : Cl CX0 P w K mg base 5 "_law_is" (sp_l_is K) :=
  is_step D T (isR_mono (isR_mono fun _ _ _ _ _ h => h.elim)) (is_step D T (isR_mono fun _ _ _ _ _ h => h.elim) (is_step D T (fun _ _ _ _ _ h => h.elim) (is_base D)))
end K84
set_option maxHeartbeats 4000000
namespace K84
open PySem PySem.Spec PyProof.Rows L2
local macro_rules | `(tactic| walk_at "ix") => `(tactic| first | exact atI_nat (j := 0) rfl | exact atI_nat (j := 1) rfl | exact atI_nat (j := 2) rfl | exact atI_nat (j := 3) rfl | exact atI_nat (j := 4) rfl)
local macro_rules | `(tactic| walk_at "rd") => `(tactic| repeat (first
  | refine ⟨_, rfl, ?_⟩
  | refine ⟨rfl, ?_⟩
  | refine ⟨_, _, rfl, ?_⟩
  | refine ⟨_, _, rfl, rfl, ?_⟩
  | refine ⟨_, _, _, rfl, ?_⟩
  | refine ⟨_, _, _, _, rfl, ?_⟩
  | refine ⟨_, _, _, _, rfl, rfl, (by assumption), (by walk_at "ix"), ?_⟩
  | refine ⟨_, _, _, rfl, rfl, (by assumption), ?_⟩
  | refine ⟨.inl ⟨rfl, _, sqL_of (by assumption)⟩, ?_⟩
  | refine ⟨_, _, _, _, _, rfl, (by assumption), (by assumption), (by assumption), (by assumption), ?_⟩
  | refine ⟨_, _, _, _, _, rfl, .ty _, Tg.ty (by assumption), kit_ty (by first | exact kInt _ | exact kBool _ | exact kStr _ | exact kTup _ | exact kLst _ | exact kDct _), ?_⟩))
/-- what is due: none, or which of the three errors -/
def dueB (which : Nat) (r : Wd) (d e : Th) : Option (List Bool) :=
  if (!d.over (if which = 0 then small else r) || (decide (which ≠ 1) && !cOk (if which = 0 then small else r) d)) = true then some [false, true, false]
  else if (decide (which ≠ 1) && !(match d with | .str s => bOk s.cps.toList.length e | _ => false)) = true then some [false, false, true] else none
def sp_l_due (K : PySem.W.Frag) : Sp := sp4 fun a b c0 d0 H Q _ => ∃ (which : Nat) (r : Wd) (d e : Th), a = .int which ∧ b = .str (S r) ∧ Tg K H c0 d ∧ Tg K H d0 e ∧ Few d e ∧
  ((dueB which r d e = none → ∀ H', Same H H' → Q .non H') ∧ ∀ bs, dueB which r d e = some bs → ∀ p H', Same H H' → H' p = some (.lst (bs.map V.bl)) → Q (.ref p) H')
/- _law_due: _law_which=0 _law_rows_here=1 _law_code_here=2 _law_befores_here=3 _law_letters=4; cells []; calls ['_law_are_befores', '_law_is_code']; builtins ['len'] -/
abbrev s_l_due : Stmt := top 85
theorem sc_l_due : FnScope ["_law_which", "_law_rows_here", "_law_code_here", "_law_befores_here", "_law_letters"] ["_law_which", "_law_rows_here", "_law_code_here", "_law_befores_here"] (defScope s_l_due) := ⟨rfl, rfl, rfl, by decide +kernel, rfl, by decide +kernel, by decide +kernel⟩
theorem ok_l_due {P : Program} {w : World} {K : PySem.W.Frag} {mg : Str → Option Value} {base : Heap} (D : Df K mg "_law_due" s_l_due) (T : Tx K mg) (c_l_are_befores : Cl CX0 P w K mg base 2 "_law_are_befores" (sp_l_are_befores K)) (c_l_is_code : Cl CX0 P w K mg base 1 "_law_is_code" (sp_l_is_code K)) :
    Cl CX0 P w K mg base 3 "_law_due" (sp_l_due K) := by
  refine D.ok4 (k := 2) sc_l_due (fun _ _ _ _ _ _ us hl => match us, hl with | [_, _, _, _], _ => rfl) (fun f cdv A outer s H a b c d Q E hr h => ⟨_, PSs.nox ((pss_cons (ps_set (i := 4) sc_l_due.nd rfl (Or.inl rfl) (pv 1))
      (pss_cons (ps_if (pt_cmpR op_eq (pv 0) pe_int (nomark _)) (pss_one (ps_set (i := 4) sc_l_due.nd rfl (Or.inl rfl) pe_str)) pss_nil)
      (pss_cons (ps_if (PW.pt (pw_or (pt_not (pt_val (pe_cl c_l_is_code hr (by decide) pass0 (pa_cons (pv 4) (pa_cons (pv 2) pa_nil))))) (pw_or1 (PW.pt (pw_and (pt_cmpR op_ne (pv 0) pe_int (nomark _)) (pw_and1 (pt_cmpR op_gt (pe_callB call_len_str (by rfl) T.len (by decide +kernel) (pa_cons (pv 2) pa_nil)) pe_int (nomark _)))))))) (pss_one (ps_ret (pe_lst (pa_cons pe_bl (pa_cons pe_bl (pa_cons pe_bl pa_nil)))))) pss_nil)
      (pss_cons (ps_if (PW.pt (pw_and (pt_cmpR op_ne (pv 0) pe_int (nomark _)) (pw_and1 (pt_not (pt_val (pe_cl c_l_are_befores hr (by decide) pass0 (pa_cons (pv 2) (pa_cons (pv 3) pa_nil)))))))) (pss_one (ps_ret (pe_lst (pa_cons pe_bl (pa_cons pe_bl (pa_cons pe_bl pa_nil)))))) pss_nil)
      (pss_one (ps_ret pe_non))))))), ?_⟩)
  obtain ⟨which, r, d, e, rfl, rfl, g, ge, hF, q1, q2⟩ := h
  have hne : (!decide (V.int (which : Nat) = V.int 1)) = decide (which ≠ 1) := by
    by_cases h : which = 1
    · subst h
      rfl
    · have h2 : ¬ V.int (which : Nat) = V.int 1 := fun z => h (by have := V.int.inj z; omega)
      rw [decide_eq_false h2, decide_eq_true h] <;> rfl
  walk_at "rd"
  by_cases h0 : which = 0
  · refine ifT (decide_eq_true (by rw [h0] <;> rfl)) ?_
    have hlt : (if which = 0 then small else r) = small := if_pos h0
    unfold dueB at q1 q2
    rw [hlt] at q1 q2
    refine ⟨_, rfl, _, rfl, _, _, rfl, small, d, congrArg V.str small_is, g, fun c ec => by have := hF.c c ec; omega, fun H1 s1 => ?_⟩
    refine ⟨_, rfl, ?_⟩
    refine ifB (fun t => ?_) (fun t => ?_)
    · refine iteT ⟨by show 3 ≤ sizeLine; decide, fun p hp => q2 [false, true, false] ?_ p _ (s1.new hp) upd_same⟩
      rw [t, Bool.true_or]
      rfl
    · have t2 : d.over (small) = true := by
        cases h : d.over (small) with
        | true => rfl
        | false => rw [h] at t; cases t
      obtain ⟨c0, rfl, hc0⟩ := over_is t2
      cases g
      have h9 := hF.c c0 rfl
      rw [t, Bool.false_or] at q1 q2
      have hck : cOk (small) (.str (S c0)) = decide (c0.length ≤ 7) := by
        show ((c0.all fun x => decide (x ∈ small)) && decide (c0.length ≤ 7)) = _
        have : (c0.all fun x => decide (x ∈ small)) = true := List.all_eq_true.mpr fun x hx => decide_eq_true (hc0 x hx)
        rw [this, Bool.true_and]
      rw [hck] at q1 q2
      refine ⟨_, rfl, rfl, _, rfl, ?_⟩
      rw [hne]
      have p1 : (if (decide (which ≠ 1) && !decide (c0.length ≤ 7)) = true then some [false, true, false] else if (decide (which ≠ 1) && !bOk c0.length e) = true then some [false, false, true] else none) = none → ∀ H', Same H H' → Q .non H' := q1
      have p2 : ∀ bs, (if (decide (which ≠ 1) && !decide (c0.length ≤ 7)) = true then some [false, true, false] else if (decide (which ≠ 1) && !bOk c0.length e) = true then some [false, false, true] else none) = some bs → ∀ p H', Same H H' → H' p = some (.lst (bs.map V.bl)) → Q (.ref p) H' := q2
      clear q1 q2
      cases hx : decide (which ≠ 1) with
      | false =>
        rw [hx] at p1 p2
        refine iteF ?_
        refine ⟨_, rfl, rfl, _, rfl, ?_⟩
        rw [hne, hx]
        exact iteF (p1 rfl H1 s1)
      | true =>
        rw [hx, Bool.true_and, Bool.true_and] at p1 p2
        refine iteT ?_
        refine ⟨_, rfl, _, rfl, szle (by rw [S_length]; omega), _, _, rfl, rfl, _, rfl, ?_⟩
        rw [S_length]
        refine ifB (fun u => ?_) (fun u => ?_)
        · have u2 := of_decide_eq_true u
          have u3 : decide (c0.length ≤ 7) = false := decide_eq_false (by omega)
          exact ⟨by show 3 ≤ sizeLine; decide, fun p hp => p2 [false, true, false] (by rw [u3] <;> rfl) p _ (s1.new hp) upd_same⟩
        · have u2 := of_decide_eq_false u
          have u3 : decide (c0.length ≤ 7) = true := decide_eq_true (by omega)
          rw [u3] at p1 p2
          refine ⟨_, rfl, rfl, _, rfl, ?_⟩
          rw [hne, hx]
          refine iteT ?_
          refine ⟨_, rfl, _, rfl, _, _, rfl, c0, e, rfl, by omega, ge.mono s1, hF.nt, hF.l, fun H2 s2 => ?_⟩
          refine ⟨_, rfl, ?_⟩
          cases hb : bOk c0.length e with
          | true =>
            rw [hb] at p1
            exact iteF (p1 rfl H2 (s1.trans s2))
          | false =>
            rw [hb] at p2
            exact iteT ⟨by show 3 ≤ sizeLine; decide, fun p hp => p2 [false, false, true] rfl p _ ((s1.trans s2).new hp) upd_same⟩
  · refine ifF (decide_eq_false fun z => h0 (by have := V.int.inj z; omega)) ?_
    have hlt : (if which = 0 then small else r) = r := if_neg h0
    unfold dueB at q1 q2
    rw [hlt] at q1 q2
    refine ⟨_, rfl, _, rfl, _, _, rfl, r, d, rfl, g, fun c ec => by have := hF.c c ec; omega, fun H1 s1 => ?_⟩
    refine ⟨_, rfl, ?_⟩
    refine ifB (fun t => ?_) (fun t => ?_)
    · refine iteT ⟨by show 3 ≤ sizeLine; decide, fun p hp => q2 [false, true, false] ?_ p _ (s1.new hp) upd_same⟩
      rw [t, Bool.true_or]
      rfl
    · have t2 : d.over (r) = true := by
        cases h : d.over (r) with
        | true => rfl
        | false => rw [h] at t; cases t
      obtain ⟨c0, rfl, hc0⟩ := over_is t2
      cases g
      have h9 := hF.c c0 rfl
      rw [t, Bool.false_or] at q1 q2
      have hck : cOk (r) (.str (S c0)) = decide (c0.length ≤ 7) := by
        show ((c0.all fun x => decide (x ∈ r)) && decide (c0.length ≤ 7)) = _
        have : (c0.all fun x => decide (x ∈ r)) = true := List.all_eq_true.mpr fun x hx => decide_eq_true (hc0 x hx)
        rw [this, Bool.true_and]
      rw [hck] at q1 q2
      refine ⟨_, rfl, rfl, _, rfl, ?_⟩
      rw [hne]
      have p1 : (if (decide (which ≠ 1) && !decide (c0.length ≤ 7)) = true then some [false, true, false] else if (decide (which ≠ 1) && !bOk c0.length e) = true then some [false, false, true] else none) = none → ∀ H', Same H H' → Q .non H' := q1
      have p2 : ∀ bs, (if (decide (which ≠ 1) && !decide (c0.length ≤ 7)) = true then some [false, true, false] else if (decide (which ≠ 1) && !bOk c0.length e) = true then some [false, false, true] else none) = some bs → ∀ p H', Same H H' → H' p = some (.lst (bs.map V.bl)) → Q (.ref p) H' := q2
      clear q1 q2
      cases hx : decide (which ≠ 1) with
      | false =>
        rw [hx] at p1 p2
        refine iteF ?_
        refine ⟨_, rfl, rfl, _, rfl, ?_⟩
        rw [hne, hx]
        exact iteF (p1 rfl H1 s1)
      | true =>
        rw [hx, Bool.true_and, Bool.true_and] at p1 p2
        refine iteT ?_
        refine ⟨_, rfl, _, rfl, szle (by rw [S_length]; omega), _, _, rfl, rfl, _, rfl, ?_⟩
        rw [S_length]
        refine ifB (fun u => ?_) (fun u => ?_)
        · have u2 := of_decide_eq_true u
          have u3 : decide (c0.length ≤ 7) = false := decide_eq_false (by omega)
          exact ⟨by show 3 ≤ sizeLine; decide, fun p hp => p2 [false, true, false] (by rw [u3] <;> rfl) p _ (s1.new hp) upd_same⟩
        · have u2 := of_decide_eq_false u
          have u3 : decide (c0.length ≤ 7) = true := decide_eq_true (by omega)
          rw [u3] at p1 p2
          refine ⟨_, rfl, rfl, _, rfl, ?_⟩
          rw [hne, hx]
          refine iteT ?_
          refine ⟨_, rfl, _, rfl, _, _, rfl, c0, e, rfl, by omega, ge.mono s1, hF.nt, hF.l, fun H2 s2 => ?_⟩
          refine ⟨_, rfl, ?_⟩
          cases hb : bOk c0.length e with
          | true =>
            rw [hb] at p1
            exact iteF (p1 rfl H2 (s1.trans s2))
          | false =>
            rw [hb] at p2
            exact iteT ⟨by show 3 ≤ sizeLine; decide, fun p hp => p2 [false, false, true] rfl p _ ((s1.trans s2).new hp) upd_same⟩
end K84
set_option maxHeartbeats 4000000
namespace K84
open PySem PySem.Spec PyProof.Rows L2
local macro_rules | `(tactic| walk_at "ix") => `(tactic| first | exact atI_nat (j := 0) rfl | exact atI_nat (j := 1) rfl | exact atI_nat (j := 2) rfl | exact atI_nat (j := 3) rfl | exact atI_nat (j := 4) rfl)
local macro_rules | `(tactic| walk_at "rd") => `(tactic| repeat (first
  | refine ⟨_, rfl, ?_⟩
  | refine ⟨rfl, ?_⟩
  | refine ⟨_, _, rfl, ?_⟩
  | refine ⟨_, _, rfl, rfl, ?_⟩
  | refine ⟨_, _, _, rfl, ?_⟩
  | refine ⟨_, _, _, _, rfl, ?_⟩
  | refine ⟨_, _, _, _, rfl, rfl, (by assumption), (by walk_at "ix"), ?_⟩
  | refine ⟨_, _, _, rfl, rfl, (by assumption), ?_⟩
  | refine ⟨.inl ⟨rfl, _, sqL_of (by assumption)⟩, ?_⟩
  | refine ⟨_, _, _, _, _, rfl, (by assumption), (by assumption), (by assumption), (by assumption), ?_⟩
  | refine ⟨_, _, _, _, _, rfl, .ty _, Tg.ty (by assumption), kit_ty (by first | exact kInt _ | exact kBool _ | exact kStr _ | exact kTup _ | exact kLst _ | exact kDct _), ?_⟩))
/-- what is told: which error, or none -/
def ansB (which : Nat) (r r' : Wd) (d e : Th) : Option (List Bool) := if r = r' then dueB which r d e else some [true, false, false]
/-- few letters -/
def FewL (d : Th) : Prop := ∀ c, d = .str (S c) → cOk small d = true → ∃ L : Wd, L.Nodup ∧ L.length ≤ 5 ∧ ∀ x ∈ c, x ∈ L
def sp_l_asked (K : PySem.W.Frag) : Sp := sp5 fun a m p c b H Q _ => ∃ (which : Nat) (r r' : Wd) (ans w mm : Nat) (M : Mv) (tb : Wd → Fq) (d e : Th), a = .int which ∧ which ≤ 4 ∧ (r = r' ∨ which = 4) ∧ MaO K H m r ans M ∧ PrO K H p r' w tb mm ∧ 1 ≤ w ∧ mm ≤ 200 ∧ Tg K H c d ∧ Tg K H b e ∧
  MvOk M r ans ∧ RowsOk r ∧ Few d e ∧ FewL d ∧ (ansB which r r' d e = none → ∀ q H', Same H H' → SqT K H' q [.str "told", .non] → Q (.ref q) H') ∧
  ∀ bs, ansB which r r' d e = some bs → ∀ q l H', Same H H' → SqT K H' q [.str "refused", .ref l] → H' l = some (.lst (bs.map V.bl)) → Q (.ref q) H'
theorem due_letters {which : Nat} {r : Wd} {d e : Th} (h : which ≠ 1) (hc : cOk (if which = 0 then small else r) d = false) : dueB which r d e = some [false, true, false] := by
  unfold dueB
  rw [hc, decide_eq_true h]
  show (if (_ || (true && true)) = true then _ else _) = _
  rw [Bool.and_self, Bool.or_true, if_pos rfl]
theorem due_worst {r : Wd} {d e : Th} : dueB 1 r d e = if d.over r = true then none else some [false, true, false] := by
  unfold dueB
  rw [if_neg (show ¬ (1 = 0) by decide)]
  cases d.over r <;> rfl
theorem due_pairs {which : Nat} {r c : Wd} {e : Th} (h : which ≠ 1) (hc : cOk (if which = 0 then small else r) (.str (S c)) = true) : dueB which r (.str (S c)) e = if bOk c.length e = true then none else some [false, false, true] := by
  have ho : (Th.str (S c)).over (if which = 0 then small else r) = true := by
    obtain ⟨c2, e2, h2, _⟩ := cOk_is hc
    have := S_inj (Th.str.inj e2)
    subst this
    exact over_yes h2
  unfold dueB
  rw [hc, ho, decide_eq_true h]
  show (if false = true then _ else if (true && !bOk c.length e) = true then _ else none) = _
  rw [if_neg Bool.false_ne_true, Bool.true_and]
  cases bOk c.length e <;> rfl
theorem bOk_yes {n : Nat} {bs : List (Nat × Nat)} (h : ∀ q ∈ bs, q.1 < q.2 ∧ q.2 < n) : bOk n (.lst (bs.map bTh)) = true := by
  show ((bs.map bTh).all fun x => x.before n) = true
  rw [List.all_eq_true]
  intro x hx
  obtain ⟨q, hq, rfl⟩ := List.mem_map.mp hx
  obtain ⟨h1, h2⟩ := h q hq
  show (decide ((0 : Int) ≤ (q.1 : Int)) && decide ((q.1 : Int) ≤ (n : Int) - 1) && (decide ((q.1 : Int) + 1 ≤ (q.2 : Int)) && decide ((q.2 : Int) ≤ (n : Int) - 1))) = true
  rw [decide_eq_true (by omega), decide_eq_true (by omega), decide_eq_true (by omega), decide_eq_true (by omega)] <;> rfl
/-- what stands behind 'except' -/
def tSuite (K : PySem.W.Frag) (a : Addr) (cls : Value) (d : Option Addr) : TS := tAsg (tTup (tCons (tC (V.str "refused")) (tCons (tLst (tCons (tCB (rIsE2 K a cls d) (tCons (tVar 6) (tCons (tC (V.ref (He.ga K "OtherRows"))) tNil)))
  (tCons (tCB (rIsE2 K a cls d) (tCons (tVar 6) (tCons (tC (V.ref (He.ga K "NoCode"))) tNil))) (tCons (tCB (rIsE2 K a cls d) (tCons (tVar 6) (tCons (tC (V.ref (He.ga K "NoBefores"))) tNil))) tNil)))) tNil))) (gName 5)
def wSuite (K : PySem.W.Frag) (Q : VK) : WX := wAs K (.ref (He.ga K "StretchError")) 6 (tSuite K) (fun _ _ _ _ => False) { nx := tRet (tVar 5) { nx := fun _ H' => Q .non H', rt := Q }, rt := Q }
theorem suite_ok {K : PySem.W.Frag} {mg : Str → Option Value} {Q : VK} {x : Str} {b1 b2 b3 : Bool} {H' : Hp} {v0 v1 v2 v3 v4 v5 v6 : Option V} (X : XF K mg x) (k1 : PySem.W.kitOne K (.ref (He.ga K x)) (.ref (He.ga K "OtherRows")) = some b1) (k2 : PySem.W.kitOne K (.ref (He.ga K x)) (.ref (He.ga K "NoCode")) = some b2)
    (k3 : PySem.W.kitOne K (.ref (He.ga K x)) (.ref (He.ga K "NoBefores")) = some b3) (q : ∀ z l H2, Same H' H2 → SqT K H2 z [.str "refused", .ref l] → H2 l = some (.lst [.bl b1, .bl b2, .bl b3]) → Q (.ref z) H2) : wSuite K Q (.ref (He.ga K x)) none [v0, v1, v2, v3, v4, v5, v6] H' := by
  refine ⟨true, X.em, fun _ a ha => ?_, fun q => nomatch q⟩
  refine ⟨_, rfl, He.ga K x, _, _, b1, rfl, rfl, X.ec, rfl, fun u r => r, k1, ?_⟩
  refine ⟨_, rfl, He.ga K x, _, _, b2, rfl, rfl, X.ec, rfl, fun u r => r, k2, ?_⟩
  refine ⟨_, rfl, He.ga K x, _, _, b3, rfl, rfl, X.ec, rfl, fun u r => r, k3, ?_⟩
  refine ⟨by show 3 ≤ sizeLine; decide, fun l hl => ?_⟩
  refine ⟨by show 2 ≤ sizeLine; decide, fun z hz => ?_⟩
  refine ⟨_, rfl, ?_⟩
  exact q z l _ ((same_new hl).new hz) (sqT_of upd_same) (same_new hz _ _ upd_same)
/- _law_asked: _law_which=0 _law_machine=1 _law_prices=2 _law_code_here=3 _law_befores_here=4 _law_told=5 e=6; cells []; calls ['orders', 'worst', 'quickest', 'cheapest', 'waste']; builtins ['isinstance'] -/
abbrev s_l_asked : Stmt := top 83
theorem sc_l_asked : FnScope ["_law_which", "_law_machine", "_law_prices", "_law_code_here", "_law_befores_here", "_law_told", "e"] ["_law_which", "_law_machine", "_law_prices", "_law_code_here", "_law_befores_here"] (defScope s_l_asked) := ⟨rfl, rfl, rfl, by decide +kernel, rfl, by decide +kernel, by decide +kernel⟩
theorem ok_l_asked {P : Program} {w : World} {K : PySem.W.Frag} {mg : Str → Option Value} {base : Heap} (D : Df K mg "_law_asked" s_l_asked) (T : Tx K mg) (c_orders : Cl (L2.CX P w) P w K mg base 5 "orders" (sp_orders K)) (c_worst : Cl (L2.CX P w) P w K mg base 3 "worst" (sp_worst K)) (c_quickest : Cl (L2.CX P w) P w K mg base 5 "quickest" (sp_quickest K)) (c_cheapest : Cl (L2.CX P w) P w K mg base 7 "cheapest" (sp_cheapest K)) (c_waste : Cl (L2.CX P w) P w K mg base 8 "waste" (sp_waste K)) :
    Cl CX0 P w K mg base 9 "_law_asked" (sp_l_asked K) := by
  refine D.ok5 (k := 8) sc_l_asked (fun _ _ _ _ _ _ us hl => match us, hl with | [_, _, _, _, _], _ => rfl) (fun f cdv A outer s H a b c d e Q E hr h => ⟨_, PSs.nox ((pss_cons (ps_set (i := 5) sc_l_asked.nd rfl (Or.inl rfl) (pe_tup (pa_cons pe_str (pa_cons pe_non pa_nil))))
      (pss_cons (ps_try_as (i := 6) rfl rfl sc_l_asked.nd rfl rfl ⟨rfl, by decide, .inl T.e_StretchError⟩ takes0
 (fun W pn xe tk _ => (pss_one (ps_if (pt_cmpR op_eq (pv 0) pe_int (nomark _)) (pss_one (ps_expr (pe_clS c_orders hr (by decide) (fun z => passAt tk z) (pa_cons (pv 3) (pa_cons (pv 4) pa_nil))))) (pss_one (ps_if (pt_cmpR op_eq (pv 0) pe_int (nomark _)) (pss_one (ps_expr (pe_clS c_worst hr (by decide) (fun z => passAt tk z) (pa_cons (pv 1) (pa_cons (pv 3) pa_nil))))) (pss_one (ps_if (pt_cmpR op_eq (pv 0) pe_int (nomark _)) (pss_one (ps_expr (pe_clS c_quickest hr (by decide) (fun z => passAt tk z) (pa_cons (pv 1) (pa_cons (pv 3) (pa_cons (pv 4) pa_nil)))))) (pss_one (ps_if (pt_cmpR op_eq (pv 0) pe_int (nomark _)) (pss_one (ps_expr (pe_clS c_cheapest hr (by decide) (fun z => passAt tk z) (pa_cons (pv 2) (pa_cons (pv 3) (pa_cons (pv 4) pa_nil)))))) (pss_one (ps_expr (pe_clS c_waste hr (by decide) (fun z => passAt tk z) (pa_cons (pv 1) (pa_cons (pv 2) (pa_cons (pv 3) (pa_cons (pv 4) pa_nil))))))))))))))))
 (fun a oe cls d pn hz hf => (pss_one (ps_set (i := 5) sc_l_asked.nd rfl (Or.inl rfl) (pe_tup (pa_cons pe_str (pa_cons (pe_lst (pa_cons (pe_callB (call_isE2 hz hf) (by rfl) T.isinstance (by decide +kernel) (pa_cons (pv 6) (pa_cons (pe_gcv rfl T.c_OtherRows) pa_nil))) (pa_cons (pe_callB (call_isE2 hz hf) (by rfl) T.isinstance (by decide +kernel) (pa_cons (pv 6) (pa_cons (pe_gcv rfl T.c_NoCode) pa_nil))) (pa_cons (pe_callB (call_isE2 hz hf) (by rfl) T.isinstance (by decide +kernel) (pa_cons (pv 6) (pa_cons (pe_gcv rfl T.c_NoBefores) pa_nil))) pa_nil)))) pa_nil)))))))
      (pss_one (ps_ret (pv 5)))))), ?_⟩)
  obtain ⟨which, r, r', ans, w', mm, M, tb, dt, et, rfl, hwh, hrw, hM, hP, hw1, hmm, gd, ge, hMk, hrr, hF, hL, q1, q2⟩ := h
  refine ⟨by show 2 ≤ sizeLine; decide, fun tp htp => ?_⟩
  have s0 := same_new (o := .tup [.str "told", .non]) htp
  have etp : upd H tp (.tup [.str "told", .non]) tp = some (.tup [.str "told", .non]) := upd_same
  generalize upd H tp (.tup [.str "told", .non]) = H0 at s0 etp ⊢
  have gd0 := gd.mono s0
  have ge0 := ge.mono s0
  have hM0 := hM.mono s0
  have hP0 := hP.mono s0
  have hN : ∀ H', Same H0 H' → ansB which r r' dt et = none → Q (.ref tp) H' := fun H' s h => q1 h tp H' (s0.trans s) (s.seqT (sqT_of etp))
  have hE1 : ansB which r r' dt et = some [true, false, false] → ∀ H', Same H0 H' → wSuite K Q (.ref (He.ga K "OtherRows")) none [some (.int which), some b, some c, some d, some e, some (.ref tp), none] H' := fun h H' s =>
    suite_ok T.x_OtherRows (T.kits ("OtherRows", "OtherRows", true) (by decide)) (T.kits ("OtherRows", "NoCode", false) (by decide)) (T.kits ("OtherRows", "NoBefores", false) (by decide)) fun z l H2 s2 => q2 _ h z l H2 (s0.trans (s.trans s2))
  have hE2 : ansB which r r' dt et = some [false, true, false] → ∀ H', Same H0 H' → wSuite K Q (.ref (He.ga K "NoCode")) none [some (.int which), some b, some c, some d, some e, some (.ref tp), none] H' := fun h H' s =>
    suite_ok T.x_NoCode (T.kits ("NoCode", "OtherRows", false) (by decide)) (T.kits ("NoCode", "NoCode", true) (by decide)) (T.kits ("NoCode", "NoBefores", false) (by decide)) fun z l H2 s2 => q2 _ h z l H2 (s0.trans (s.trans s2))
  have hE3 : ansB which r r' dt et = some [false, false, true] → ∀ H', Same H0 H' → wSuite K Q (.ref (He.ga K "NoBefores")) none [some (.int which), some b, some c, some d, some e, some (.ref tp), none] H' := fun h H' s =>
    suite_ok T.x_NoBefores (T.kits ("NoBefores", "OtherRows", false) (by decide)) (T.kits ("NoBefores", "NoCode", false) (by decide)) (T.kits ("NoBefores", "NoBefores", true) (by decide)) fun z l H2 s2 => q2 _ h z l H2 (s0.trans (s.trans s2))
  have hw5 : which = 0 ∨ which = 1 ∨ which = 2 ∨ which = 3 ∨ which = 4 := by omega
  rcases hw5 with rfl | rfl | rfl | rfl | rfl
  · have er : r = r' := hrw.resolve_right (by decide)
    subst er
    have eA : ansB 0 r r dt et = dueB 0 r dt et := if_pos rfl
    rw [eA] at hN hE1 hE2 hE3
    refine ⟨_, rfl, rfl, _, rfl, iteT ?_⟩
    refine ⟨_, rfl, _, rfl, _, _, rfl, dt, et, gd0, ge0, hF, hL, fun h H' s => hE2 (due_letters (by decide) h) H' s, fun cc h1 h2 h3 H' s => hE3 (by rw [h1, due_pairs (by decide) (by rw [← h1]; exact h2), h3] <;> rfl) H' s, fun cc h1 h2 h3 v H' s => ?_⟩
    exact ⟨_, rfl, hN H' s (by rw [h1, due_pairs (by decide) (by rw [← h1]; exact h2), h3] <;> rfl)⟩
  · have er : r = r' := hrw.resolve_right (by decide)
    subst er
    have eA : ansB 1 r r dt et = dueB 1 r dt et := if_pos rfl
    rw [eA, due_worst] at hN hE1 hE2 hE3
    refine ⟨_, rfl, rfl, _, rfl, iteF ?_⟩
    refine ⟨_, rfl, rfl, _, rfl, iteT ?_⟩
    refine ⟨_, rfl, _, rfl, _, _, rfl, r, ans, M, dt, hM0, gd0, hMk, hrr, hF.c, fun h => hE2 (by rw [h] <;> rfl) H0 (L2.Same.refl _), fun h v H' s => ?_⟩
    exact ⟨_, rfl, hN H' s (by rw [h] <;> rfl)⟩
  · have er : r = r' := hrw.resolve_right (by decide)
    subst er
    have eA : ansB 2 r r dt et = dueB 2 r dt et := if_pos rfl
    rw [eA] at hN hE1 hE2 hE3
    refine ⟨_, rfl, rfl, _, rfl, iteF ?_⟩
    refine ⟨_, rfl, rfl, _, rfl, iteF ?_⟩
    refine ⟨_, rfl, rfl, _, rfl, iteT ?_⟩
    refine ⟨_, rfl, _, rfl, _, rfl, _, _, _, rfl, r, ans, M, dt, et, hM0, gd0, ge0, hMk, hrr, hF, fun h H' s => hE2 (due_letters (by decide) h) H' s, fun cc h1 h2 h3 H' s => hE3 (by rw [h1, due_pairs (by decide) (by rw [← h1]; exact h2), h3] <;> rfl) H' s, fun cc bs ys h1 h2 h3 h4 h5 h6 v H' m0 s h7 h8 h9 => ?_⟩
    exact ⟨_, rfl, hN H' s (by rw [h1, h2, due_pairs (by decide) (cOk_of h3 h4), bOk_yes h5] <;> rfl)⟩
  · have er : r = r' := hrw.resolve_right (by decide)
    subst er
    have eA : ansB 3 r r dt et = dueB 3 r dt et := if_pos rfl
    rw [eA] at hN hE1 hE2 hE3
    refine ⟨_, rfl, rfl, _, rfl, iteF ?_⟩
    refine ⟨_, rfl, rfl, _, rfl, iteF ?_⟩
    refine ⟨_, rfl, rfl, _, rfl, iteF ?_⟩
    refine ⟨_, rfl, rfl, _, rfl, iteT ?_⟩
    refine ⟨_, rfl, _, rfl, _, rfl, _, _, _, rfl, r, w', mm, tb, dt, et, hP0, hw1, hmm, gd0, ge0, hrr, hF, fun h H' s => hE2 (due_letters (by decide) h) H' s, fun cc h1 h2 h3 H' s => hE3 (by rw [h1, due_pairs (by decide) (by rw [← h1]; exact h2), h3] <;> rfl) H' s, fun cc bs ys h1 h2 h3 h4 h5 h6 v H' m0 s h7 h8 => ?_⟩
    exact ⟨_, rfl, hN H' s (by rw [h1, h2, due_pairs (by decide) (cOk_of h3 h4), bOk_yes h5] <;> rfl)⟩
  · refine ⟨_, rfl, rfl, _, rfl, iteF ?_⟩
    refine ⟨_, rfl, rfl, _, rfl, iteF ?_⟩
    refine ⟨_, rfl, rfl, _, rfl, iteF ?_⟩
    refine ⟨_, rfl, rfl, _, rfl, iteF ?_⟩
    have eA : r = r' → ansB 4 r r' dt et = dueB 4 r dt et := fun h => if_pos h
    refine ⟨_, rfl, _, rfl, _, rfl, _, rfl, _, _, _, _, rfl, r, r', ans, w', mm, M, tb, dt, et, hM0, hP0, hw1, hmm, gd0, ge0, hMk, hrr, hF, fun h => hE1 (if_neg h) H0 (L2.Same.refl _), fun er h H' s => hE2 (by rw [eA er]; exact due_letters (by decide) h) H' s, fun er cc h1 h2 h3 H' s => hE3 (by rw [eA er, h1, due_pairs (by decide) (by rw [← h1]; exact h2), h3] <;> rfl) H' s, fun er cc bs ys h1 h2 h3 h4 h5 h6 H' best k0 s h7 h8 h9 => ?_⟩
    exact ⟨_, rfl, hN H' s (by rw [eA er, h1, h2, due_pairs (by decide) (cOk_of h3 h4), bOk_yes h5] <;> rfl)⟩
end K84
set_option maxHeartbeats 4000000
namespace K84
open PySem PySem.Spec PyProof.Rows L2
local macro_rules | `(tactic| walk_at "ix") => `(tactic| first | exact atI_nat (j := 0) rfl | exact atI_nat (j := 1) rfl | exact atI_nat (j := 2) rfl | exact atI_nat (j := 3) rfl | exact atI_nat (j := 4) rfl)
local macro_rules | `(tactic| walk_at "rd") => `(tactic| repeat (first
  | refine ⟨_, rfl, ?_⟩
  | refine ⟨rfl, ?_⟩
  | refine ⟨_, _, rfl, ?_⟩
  | refine ⟨_, _, rfl, rfl, ?_⟩
  | refine ⟨_, _, _, rfl, ?_⟩
  | refine ⟨_, _, _, _, rfl, ?_⟩
  | refine ⟨_, _, _, _, rfl, rfl, (by assumption), (by walk_at "ix"), ?_⟩
  | refine ⟨_, _, _, rfl, rfl, (by assumption), ?_⟩
  | refine ⟨.inl ⟨rfl, _, sqL_of (by assumption)⟩, ?_⟩
  | refine ⟨_, _, _, _, _, rfl, (by assumption), (by assumption), (by assumption), (by assumption), ?_⟩
  | refine ⟨_, _, _, _, _, rfl, .ty _, Tg.ty (by assumption), kit_ty (by first | exact kInt _ | exact kBool _ | exact kStr _ | exact kTup _ | exact kLst _ | exact kDct _), ?_⟩))
/-- the tape at t -/
def Tp (K : PySem.W.Frag) (sc : Addr) (H : Hp) (t : Addr) : Prop := ∃ (ns : List Int) (i s2 s3 s4 : Int), H t = some (.lst [.ref sc, .int i, .int s2, .int s3, .int s4]) ∧ SqL K H sc (ns.map V.int) ∧ ns.length ≤ 1000 ∧ 0 ≤ i
theorem Tp.same {K : PySem.W.Frag} {H H' : Hp} {sc t : Addr} (s : Same H H') (h : Tp K sc H t) : Tp K sc H' t := by
  obtain ⟨ns, i, s2, s3, s4, h1, h2, h3⟩ := h
  exact ⟨ns, i, s2, s3, s4, s _ _ h1, s.seq h2, h3⟩
theorem Tp.odd {K : PySem.W.Frag} {H : Hp} {sc t : Addr} (h : Tp K sc H t) : ∃ xs, H t = some (.lst xs) := by
  obtain ⟨ns, i, s2, s3, s4, h1, _⟩ := h
  exact ⟨_, h1⟩
def sp_l_tape (K : PySem.W.Frag) : Sp := sp1 fun a H Q _ => ∃ (p : Addr) (ns : List Int), a = .ref p ∧ SqL K H p (ns.map V.int) ∧ ns.length ≤ 63 ∧ ∀ t sc H', Same H H' → H t = none → Tp K sc H' t → Q (.ref t) H'
/- _law_tape: _law_script=0; cells []; calls []; builtins ['list'] -/
abbrev s_l_tape : Stmt := top 59
theorem sc_l_tape : FnScope ["_law_script"] ["_law_script"] (defScope s_l_tape) := ⟨rfl, rfl, rfl, by decide +kernel, rfl, by decide +kernel, by decide +kernel⟩
theorem ok_l_tape {P : Program} {w : World} {K : PySem.W.Frag} {mg : Str → Option Value} {base : Heap} (D : Df K mg "_law_tape" s_l_tape) (T : Tx K mg)  :
    Cl CX0 P w K mg base 1 "_law_tape" (sp_l_tape K) := by
  refine D.ok1 (k := 0) sc_l_tape (fun _ _ _ _ _ _ us hl => match us, hl with | [_], _ => rfl) (fun f cdv A outer s H a Q E hr h => ⟨_, PSs.nox ((pss_one (ps_ret (pe_lst (pa_cons (pe_callTy call_list_of (by rfl) T.list_ (by decide +kernel) (pa_cons (pv 0) pa_nil)) (pa_cons pe_int (pa_cons pe_int (pa_cons pe_int (pa_cons pe_int pa_nil))))))))), ?_⟩)
  obtain ⟨p, ns, rfl, hp, hl, q⟩ := h
  refine ⟨_, rfl, p, _, rfl, .inl hp, fun sc hsc => ?_⟩
  refine ⟨by show 5 ≤ sizeLine; decide, fun t ht => ?_⟩
  have hst : sc ≠ t := fun z => by rw [← z, upd_same] at ht; cases ht
  have hn : H t = none := by rwa [upd_ne (Ne.symm hst)] at ht
  exact q t sc _ ((same_new hsc).new ht) hn ⟨ns, 0, 0, 1, 0, upd_same, sqL_of ((upd_ne hst).trans upd_same), by omega, by decide⟩
theorem sqL_upd {K : PySem.W.Frag} {H : Hp} {sc t a : Addr} {ns : List Int} {r : List V} {o : HO} (h : SqL K H sc (ns.map V.int)) (e : H t = some (.lst (.ref a :: r))) : SqL K (upd H t o) sc (ns.map V.int) := by
  rcases h with (h | ⟨q, h⟩) | h
  · refine .inl (.inl ?_)
    rw [upd_ne ?_]
    · exact h
    · rintro rfl
      rw [h] at e
      cases ns with
      | nil => cases e
      | cons n ns => cases e
  · refine .inl (.inr ⟨q, ?_⟩)
    rw [upd_ne ?_]
    · exact h
    · rintro rfl
      rw [h] at e
      cases e
  · exact .inr h
def sp_l_pick (K : PySem.W.Frag) : Sp := sp2 fun a b H Q _ => ∃ (t sc : Addr) (n : Nat), a = .ref t ∧ b = .int n ∧ 1 ≤ n ∧ n ≤ 1000000 ∧ Tp K sc H t ∧ ∀ (d : Nat) H', d < n → Same (wo H t) (wo H' t) → Tp K sc H' t → Q (.int d) H'
/- _law_pick: _law_tape_here=0 _law_size=1 _law_digit=2 _law_cell=3 _law_mixed=4; cells []; calls []; builtins ['int', 'len'] -/
abbrev s_l_pick : Stmt := top 60
theorem sc_l_pick : FnScope ["_law_tape_here", "_law_size", "_law_digit", "_law_cell", "_law_mixed"] ["_law_tape_here", "_law_size"] (defScope s_l_pick) := ⟨rfl, rfl, rfl, by decide +kernel, rfl, by decide +kernel, by decide +kernel⟩
theorem ok_l_pick {P : Program} {w : World} {K : PySem.W.Frag} {mg : Str → Option Value} {base : Heap} (D : Df K mg "_law_pick" s_l_pick) (T : Tx K mg)  :
    Cl CX0 P w K mg base 1 "_law_pick" (sp_l_pick K) := by
  refine D.ok2 (k := 0) sc_l_pick (fun _ _ _ _ _ _ us hl => match us, hl with | [_, _], _ => rfl) (fun f cdv A outer s H a b Q E hr h => ⟨_, PSs.nox ((pss_cons (ps_if (pt_cmpR op_gt (pe_ix ix_list (pv 0) pe_int (fun _ _ => rfl)) pe_int (nomark _)) (pss_cons (ps_set (i := 2) sc_l_pick.nd rfl (Or.inl rfl) (pe_op op_mod (pe_callTy call_int1 (by rfl) T.int_ (by decide +kernel) (pa_cons (pe_ix ix_list (pv 0) pe_int (fun _ _ => rfl)) pa_nil)) (pv 1)))
      (pss_cons (ps_asg (pe_op op_fdiv (pe_ix ix_list (pv 0) pe_int (fun _ _ => rfl)) (pv 1)) (pg_sub (pv 0) pe_int set_list))
      (pss_one (ps_ret (pv 2))))) pss_nil)
      (pss_cons (ps_asg (pe_op op_add (pe_ix ix_list (pv 0) pe_int (fun _ _ => rfl)) pe_int) (pg_sub (pv 0) pe_int set_list))
      (pss_cons (ps_set (i := 3) sc_l_pick.nd rfl (Or.inl rfl) pe_int)
      (pss_cons (ps_if (pt_cmpR op_lt (pe_ix ix_list (pv 0) pe_int (fun _ _ => rfl)) (pe_callB call_len_seq (by rfl) T.len (by decide +kernel) (pa_cons (pe_ix ix_list (pv 0) pe_int (fun _ _ => rfl)) pa_nil)) (nomark _)) (pss_cons (ps_set (i := 3) sc_l_pick.nd rfl (Or.inl rfl) (pe_ix ix_list (pe_ix ix_list (pv 0) pe_int (fun _ _ => rfl)) (pe_ix ix_list (pv 0) pe_int (fun _ _ => rfl)) (fun _ _ => rfl)))
      (pss_one (ps_asg (pe_op op_add (pe_ix ix_list (pv 0) pe_int (fun _ _ => rfl)) pe_int) (pg_sub (pv 0) pe_int set_list)))) pss_nil)
      (pss_cons (ps_if (pt_cmpR op_ge (pv 3) (pe_op op_pow pe_int pe_int) (nomark _)) (pss_cons (ps_asg (pe_op op_fdiv (pv 3) (pv 1)) (pg_sub (pv 0) pe_int set_list))
      (pss_one (ps_ret (pe_op op_mod (pe_callTy call_int1 (by rfl) T.int_ (by decide +kernel) (pa_cons (pv 3) pa_nil)) (pv 1))))) pss_nil)
      (pss_cons (ps_set (i := 4) sc_l_pick.nd rfl (Or.inl rfl) (pe_op op_mod (pe_callTy call_int1 (by rfl) T.int_ (by decide +kernel) (pa_cons (pe_op op_add (pe_op op_add (pe_op op_mul (pe_ix ix_list (pv 0) pe_int (fun _ _ => rfl)) pe_int) (pe_op op_mod (pe_callTy call_int1 (by rfl) T.int_ (by decide +kernel) (pa_cons (pv 3) pa_nil)) pe_int)) (pe_op op_mul (pe_ix ix_list (pv 0) pe_int (fun _ _ => rfl)) pe_int)) pa_nil)) pe_int))
      (pss_cons (ps_set (i := 4) sc_l_pick.nd rfl (Or.inl rfl) (pe_op op_mod (pe_callTy call_int1 (by rfl) T.int_ (by decide +kernel) (pa_cons (pe_op op_mul (pv 4) (pe_op op_add (pe_op op_fdiv (pv 4) pe_int) pe_int)) pa_nil)) pe_int))
      (pss_cons (ps_asg (pv 4) (pg_sub (pv 0) pe_int set_list))
      (pss_one (ps_ret (pe_op op_mod (pe_callTy call_int1 (by rfl) T.int_ (by decide +kernel) (pa_cons (pe_op op_fdiv (pv 4) pe_int) pa_nil)) (pv 1))))))))))))), ?_⟩)
  obtain ⟨t, sc, n, rfl, rfl, hn1, hn2, ⟨ns, i, s2, s3, s4, h1, h2, h3, h4⟩, q⟩ := h
  have hL := sqL_of (K := K) h1
  walk_at "rd"
  refine ifB (fun g1 => ?_) (fun g1 => ?_)
  · refine ⟨_, rfl, t, _, 2, _, rfl, rfl, hL, atI_nat (j := 2) rfl, .inl ⟨_, rfl, ?_⟩⟩
    refine ⟨_, rfl, _, _, rfl, rfl, by show (0 : Int) < n; omega, ?_⟩
    walk_at "rd"
    refine ⟨⟨by omega, by omega⟩, ?_⟩
    refine ⟨_, rfl, t, _, 2, 2, rfl, rfl, h1, rfl, ?_⟩
    have e0 := Int.emod_nonneg s2 (show (n : Int) ≠ 0 by omega)
    have e1 := Int.emod_lt_of_pos s2 (show 0 < (n : Int) by omega)
    have e2 : (s2 % (n : Int)) = ((s2 % (n : Int)).toNat : Int) := by omega
    refine ⟨_, rfl, ?_⟩
    show Q (.int (s2 % (n : Int))) _
    rw [e2]
    refine q _ _ (by omega) ?_ ⟨ns, i, s2 / n, s3, s4, by rw [upd_same] <;> rfl, sqL_upd h2 h1, h3, h4⟩
    rw [wo_eq]
    exact L2.Same.refl _
  · refine ⟨_, rfl, t, _, 4, _, rfl, rfl, hL, atI_nat (j := 4) rfl, s4, 1, rfl, rfl, ?_⟩
    refine ⟨_, rfl, t, _, 4, 4, rfl, rfl, h1, rfl, ?_⟩
    have h1b : upd H t (.lst ([V.ref sc, .int i, .int s2, .int s3, .int s4].set 4 (.int (s4 + 1)))) t = some (.lst [V.ref sc, .int i, .int s2, .int s3, .int (s4 + 1)]) := upd_same
    have h2b := sqL_upd (o := .lst ([V.ref sc, .int i, .int s2, .int s3, .int s4].set 4 (.int (s4 + 1)))) h2 h1
    have hsb : Same (wo H t) (wo (upd H t (.lst ([V.ref sc, .int i, .int s2, .int s3, .int s4].set 4 (.int (s4 + 1))))) t) := by
      rw [wo_eq]
      exact L2.Same.refl _
    generalize upd H t (.lst ([V.ref sc, .int i, .int s2, .int s3, .int s4].set 4 (.int (s4 + 1)))) = Hb at h1b h2b hsb ⊢
    have hLb := sqL_of (K := K) h1b
    refine ⟨_, rfl, t, _, 1, _, rfl, rfl, hLb, atI_nat (j := 1) rfl, ?_⟩
    refine ⟨_, rfl, t, _, 0, _, rfl, rfl, hLb, atI_nat (j := 0) rfl, sc, _, rfl, .inl h2b, _, _, rfl, rfl, _, rfl, ?_⟩
    refine ifB (fun g2 => ?_) (fun g2 => ?_)
    · have g3 := of_decide_eq_true g2
      rw [List.length_map] at g3
      have hi : i.toNat < ns.length := by omega
      obtain ⟨cell, hat⟩ : ∃ cell, atI (ns.map V.int) i = some (V.int cell) := by
        obtain ⟨k, rfl⟩ : ∃ k : Nat, i = (k : Nat) := ⟨i.toNat, by omega⟩
        exact ⟨ns[k]'(by omega), atI_nat (by rw [List.getElem?_map, List.getElem?_eq_getElem (by omega)]; rfl)⟩
      refine ⟨_, rfl, t, _, 0, _, rfl, rfl, hLb, atI_nat (j := 0) rfl, ?_⟩
      refine ⟨_, rfl, t, _, 1, _, rfl, rfl, hLb, atI_nat (j := 1) rfl, sc, _, i, _, rfl, rfl, h2b, hat, ?_⟩
      refine ⟨_, rfl, t, _, 1, _, rfl, rfl, hLb, atI_nat (j := 1) rfl, i, 1, rfl, rfl, ?_⟩
      refine ⟨_, rfl, t, _, 1, 1, rfl, rfl, h1b, rfl, ?_⟩
      have h1c : upd Hb t (.lst ([V.ref sc, .int i, .int s2, .int s3, .int (s4 + 1)].set 1 (.int (i + 1)))) t = some (.lst [V.ref sc, .int (i + 1), .int s2, .int s3, .int (s4 + 1)]) := upd_same
      have h2c := sqL_upd (o := .lst ([V.ref sc, .int i, .int s2, .int s3, .int (s4 + 1)].set 1 (.int (i + 1)))) h2b h1b
      have hsc : Same (wo H t) (wo (upd Hb t (.lst ([V.ref sc, .int i, .int s2, .int s3, .int (s4 + 1)].set 1 (.int (i + 1))))) t) := by
        rw [wo_eq]
        exact hsb
      generalize upd Hb t (.lst ([V.ref sc, .int i, .int s2, .int s3, .int (s4 + 1)].set 1 (.int (i + 1)))) = Hc at h1c h2c hsc ⊢
      have hLc := sqL_of (K := K) h1c
      walk_at "rd"
      refine ⟨⟨by decide, by decide, by decide⟩, ?_⟩
      walk_at "rd"
      refine ifB (fun ge => ?_) (fun ge => ?_)
      · walk_at "rd"
        refine ⟨⟨by omega, by omega⟩, ?_⟩
        refine ⟨_, rfl, t, _, 2, 2, rfl, rfl, h1c, rfl, ?_⟩
        refine ⟨_, rfl, .inl ⟨_, rfl, _, rfl, _, _, rfl, rfl, by show (0 : Int) < n; omega, ?_⟩⟩
        have e0 := Int.emod_nonneg cell (show (n : Int) ≠ 0 by omega)
        have e1 := Int.emod_lt_of_pos cell (show 0 < (n : Int) by omega)
        have e2 : (cell % (n : Int)) = ((cell % (n : Int)).toNat : Int) := by omega
        show Q (.int (cell % (n : Int))) _
        rw [e2]
        refine q _ _ (by omega) ?_ ⟨ns, _, _, s3, s4 + 1, by rw [upd_same] <;> rfl, sqL_upd h2c h1c, h3, by omega⟩
        rw [wo_eq]
        exact hsc
      · walk_at "rd"
        refine ⟨.inr ⟨by decide, by decide⟩, ?_⟩
        refine ⟨_, rfl, .inl ⟨_, rfl, _, _, rfl, rfl, by show (0 : Int) < 2147483629; decide, ?_⟩⟩
        walk_at "rd"
        refine ⟨.inr ⟨by decide, by decide⟩, ?_⟩
        walk_at "rd"
        refine .inl ⟨_, rfl, ?_⟩
        walk_at "rd"
        refine ⟨by show (0 : Int) < 2147483647; decide, ?_⟩
        have hb : ∀ z : Int, 0 ≤ z % 2147483647 ∧ z % 2147483647 < 2147483647 := fun z => ⟨Int.emod_nonneg z (by decide), Int.emod_lt_of_pos z (by decide)⟩
        walk_at "rd"
        refine ⟨⟨by decide, by decide⟩, ?_⟩
        walk_at "rd"
        refine ⟨.inl ⟨Int.lt_of_lt_of_le (by decide) (hb _).1, Int.lt_trans (hb _).2 (by decide)⟩, ?_⟩
        refine .inl ⟨_, rfl, ?_⟩
        walk_at "rd"
        refine ⟨by show (0 : Int) < 2147483399; decide, ?_⟩
        walk_at "rd"
        generalize (_ * (_ / 1009 + 40692) : Int) = mx
        refine ⟨t, _, 3, 3, rfl, rfl, h1c, rfl, ?_⟩
        walk_at "rd"
        refine ⟨⟨by decide, by decide⟩, ?_⟩
        refine .inl ⟨_, rfl, ?_⟩
        walk_at "rd"
        refine ⟨by show (0 : Int) < n; omega, ?_⟩
        have e0 := Int.emod_nonneg (mx % 2147483399 / 16) (show (n : Int) ≠ 0 by omega)
        have e1 := Int.emod_lt_of_pos (mx % 2147483399 / 16) (show 0 < (n : Int) by omega)
        have e2 : (mx % 2147483399 / 16 % (n : Int)) = ((mx % 2147483399 / 16 % (n : Int)).toNat : Int) := by omega
        show Q (.int (mx % 2147483399 / 16 % (n : Int))) _
        rw [e2]
        refine q _ _ (by omega) ?_ ⟨ns, _, _, _, _, by rw [upd_same] <;> rfl, sqL_upd h2c h1c, h3, by omega⟩
        rw [wo_eq]
        exact hsc
    · walk_at "rd"
      refine ⟨⟨by decide, by decide, by decide⟩, ?_⟩
      walk_at "rd"
      refine ⟨.inr ⟨by decide, by decide⟩, ?_⟩
      refine ⟨_, rfl, .inl ⟨_, rfl, _, _, rfl, rfl, by show (0 : Int) < 2147483629; decide, ?_⟩⟩
      walk_at "rd"
      refine ⟨.inr ⟨by decide, by decide⟩, ?_⟩
      walk_at "rd"
      refine .inl ⟨_, rfl, ?_⟩
      walk_at "rd"
      refine ⟨by show (0 : Int) < 2147483647; decide, ?_⟩
      have hb : ∀ z : Int, 0 ≤ z % 2147483647 ∧ z % 2147483647 < 2147483647 := fun z => ⟨Int.emod_nonneg z (by decide), Int.emod_lt_of_pos z (by decide)⟩
      walk_at "rd"
      refine ⟨⟨by decide, by decide⟩, ?_⟩
      walk_at "rd"
      refine ⟨.inl ⟨Int.lt_of_lt_of_le (by decide) (hb _).1, Int.lt_trans (hb _).2 (by decide)⟩, ?_⟩
      refine .inl ⟨_, rfl, ?_⟩
      walk_at "rd"
      refine ⟨by show (0 : Int) < 2147483399; decide, ?_⟩
      walk_at "rd"
      generalize (_ * (_ / 1009 + 40692) : Int) = mx
      refine ⟨t, _, 3, 3, rfl, rfl, h1b, rfl, ?_⟩
      walk_at "rd"
      refine ⟨⟨by decide, by decide⟩, ?_⟩
      refine .inl ⟨_, rfl, ?_⟩
      walk_at "rd"
      refine ⟨by show (0 : Int) < n; omega, ?_⟩
      have e0 := Int.emod_nonneg (mx % 2147483399 / 16) (show (n : Int) ≠ 0 by omega)
      have e1 := Int.emod_lt_of_pos (mx % 2147483399 / 16) (show 0 < (n : Int) by omega)
      have e2 : (mx % 2147483399 / 16 % (n : Int)) = ((mx % 2147483399 / 16 % (n : Int)).toNat : Int) := by omega
      show Q (.int (mx % 2147483399 / 16 % (n : Int))) _
      rw [e2]
      refine q _ _ (by omega) ?_ ⟨ns, _, _, _, _, by rw [upd_same] <;> rfl, sqL_upd h2b h1b, h3, h4⟩
      rw [wo_eq]
      exact hsb
theorem Tp.cut {K : PySem.W.Frag} {H : Hp} {sc t : Addr} (h : Tp K sc H t) : ∃ ns : List Int, SqL K (wo H t) sc (ns.map V.int) ∧ ns.length ≤ 1000 := by
  obtain ⟨ns, i, s2, s3, s4, h1, h2, h3, h4⟩ := h
  refine ⟨ns, ?_, h3⟩
  rcases h2 with (h | ⟨q, h⟩) | h
  · refine .inl (.inl ?_)
    rw [wo_ne ?_]
    · exact h
    · rintro rfl
      rw [h] at h1
      cases ns with
      | nil => cases h1
      | cons n ns => cases h1
  · refine .inl (.inr ⟨q, ?_⟩)
    rw [wo_ne ?_]
    · exact h
    · rintro rfl
      rw [h] at h1
      cases h1
  · exact .inr h
theorem Tp.put {K : PySem.W.Frag} {H G H4 : Hp} {sc t D : Addr} {o : HO} (h : Tp K sc H t) (s1 : Same (wo H t) G) (s2 : Same G H4) (hG : G D = none) (hD : D ≠ t) (h4 : Tp K sc H4 t) : Tp K sc (upd H4 D o) t := by
  obtain ⟨ns, e1, e2⟩ := h.cut
  obtain ⟨_, i, a2, a3, a4, f1, _, _, f4⟩ := h4
  exact ⟨ns, i, a2, a3, a4, (upd_ne (Ne.symm hD)).trans f1, (L2.Same.mut s2 hG).seq (s1.seq e1), e2, f4⟩
/-! ### a list that is being filled while the tape is read -/
def TAcc (K : PySem.W.Frag) (sc t : Addr) (H1 : Hp) (D : Addr) (P : Nat → List V → Hp → Prop) (i : Nat) (H : Hp) : Prop := ∃ acc G, H D = some (.lst acc) ∧ G D = none ∧ G t = none ∧ Same (wo H1 t) G ∧ Same G H ∧ Tp K sc H t ∧ P i acc G
theorem Tp.ne {K : PySem.W.Frag} {H : Hp} {sc t D : Addr} (h : Tp K sc H t) (hD : H D = none) : D ≠ t := by
  rintro rfl
  obtain ⟨xs, e⟩ := h.odd
  rw [hD] at e
  cases e
theorem wo_none {H : Hp} {t D : Addr} (h : H D = none) : wo H t D = none := by
  unfold wo
  split
  · rfl
  · exact h
theorem TAcc.start {K : PySem.W.Frag} {sc t D : Addr} {H1 : Hp} {P : Nat → List V → Hp → Prop} (T : Tp K sc H1 t) (hD : H1 D = none) (h : P 0 [] (wo H1 t)) : TAcc K sc t H1 D P 0 (upd H1 D (.lst [])) :=
  ⟨[], wo H1 t, upd_same, wo_none hD, wo_at, L2.Same.refl _, wo_same.trans (same_new hD), T.same (same_new hD), h⟩
/-- a reading of the tape leaves what is beside it -/
theorem past {H H' G : Hp} {t D : Addr} {o : HO} (s : Same (wo H t) (wo H' t)) (hG : G t = none) (k : Same G H) (hD : D ≠ t) (e : H D = some o) : H' D = some o ∧ Same G H' :=
  ⟨wo_same _ _ (s _ _ ((wo_ne hD).trans e)), (wo_to k hG).trans (s.trans wo_same)⟩
theorem TAcc.push {K : PySem.W.Frag} {sc t D : Addr} {H1 G H4 : Hp} {P : Nat → List V → Hp → Prop} {i : Nat} {acc : List V} {y : V} (T1 : Tp K sc H1 t) (hD : D ≠ t) (e : H4 D = some (.lst acc)) (hG : G D = none) (ht : G t = none) (s1 : Same (wo H1 t) G) (s : Same G H4) (T : Tp K sc H4 t) (hz : acc.length < sizeLine) (h : P (i + 1) (acc ++ [y]) G) :
    ∃ acc, H4 D = some (.lst acc) ∧ acc.length < sizeLine ∧ TAcc K sc t H1 D P (i + 1) (upd H4 D (.lst (acc ++ [y]))) :=
  ⟨acc, e, hz, acc ++ [y], G, upd_same, hG, ht, s1, L2.Same.mut s hG, T1.put s1 s hG hD T, h⟩
end K84
set_option maxHeartbeats 4000000
namespace K84
open PySem PySem.Spec PyProof.Rows L2
local macro_rules | `(tactic| walk_at "ix") => `(tactic| first | exact atI_nat (j := 0) rfl | exact atI_nat (j := 1) rfl | exact atI_nat (j := 2) rfl | exact atI_nat (j := 3) rfl | exact atI_nat (j := 4) rfl)
local macro_rules | `(tactic| walk_at "rd") => `(tactic| repeat (first
  | refine ⟨_, rfl, ?_⟩
  | refine ⟨rfl, ?_⟩
  | refine ⟨_, _, rfl, ?_⟩
  | refine ⟨_, _, rfl, rfl, ?_⟩
  | refine ⟨_, _, _, rfl, ?_⟩
  | refine ⟨_, _, _, _, rfl, ?_⟩
  | refine ⟨_, _, _, _, rfl, rfl, (by assumption), (by walk_at "ix"), ?_⟩
  | refine ⟨_, _, _, rfl, rfl, (by assumption), ?_⟩
  | refine ⟨.inl ⟨rfl, _, sqL_of (by assumption)⟩, ?_⟩
  | refine ⟨_, _, _, _, _, rfl, (by assumption), (by assumption), (by assumption), (by assumption), ?_⟩
  | refine ⟨_, _, _, _, _, rfl, .ty _, Tg.ty (by assumption), kit_ty (by first | exact kInt _ | exact kBool _ | exact kStr _ | exact kTup _ | exact kLst _ | exact kDct _), ?_⟩))
theorem vint {a b : Int} (h : a = b) : V.int a = V.int b := congrArg V.int h
theorem join_sz (l : List Nat) : ((l.map fun x => S [x]).map (·.length)).sum + (l.map fun x => S [x]).length * (Str.ofString "" : Str).length = l.length := by
  have e0 : (Str.ofString "" : Str).length = 0 := by decide +kernel
  rw [e0, Nat.mul_zero, Nat.add_zero]
  induction l with
  | nil => rfl
  | cons a l ih =>
    rw [List.map_cons, List.map_cons, List.sum_cons, ih, List.length_cons, S_length]
    show 1 + _ = _
    omega
def sp_l_code (K : PySem.W.Frag) : Sp := sp4 fun a b c d H Q _ => ∃ (t sc : Addr) (r : Wd) (lo hi : Nat), a = .ref t ∧ b = .str (S r) ∧ c = .int lo ∧ d = .int hi ∧ Tp K sc H t ∧ 1 ≤ r.length ∧ r.length ≤ 3 ∧ lo ≤ hi ∧ hi ≤ 7 ∧
  ∀ (c : Wd) H', Same (wo H t) (wo H' t) → Tp K sc H' t → lo ≤ c.length → c.length ≤ hi → (∀ x ∈ c, x ∈ r) → Q (strV c) H'
/- _law_code: _law_tape_here=0 _law_rows_here=1 _law_least=2 _law_most=3 _law_k=4; cells ['_law_rows_here', '_law_tape_here']; calls ['_law_pick']; builtins ['range', 'len'] -/
abbrev s_l_code : Stmt := top 63
theorem sc_l_code : FnScope ["_law_tape_here", "_law_rows_here", "_law_least", "_law_most", "_law_k"] ["_law_tape_here", "_law_rows_here", "_law_least", "_law_most"] (defScope s_l_code) := ⟨rfl, rfl, rfl, by decide +kernel, rfl, by decide +kernel, by decide +kernel⟩
theorem ok_l_code {P : Program} {w : World} {K : PySem.W.Frag} {mg : Str → Option Value} {base : Heap} (D : Df K mg "_law_code" s_l_code) (T : Tx K mg) (c_l_pick : Cl CX0 P w K mg base 1 "_law_pick" (sp_l_pick K)) :
    Cl CX0 P w K mg base 2 "_law_code" (sp_l_code K) := by
  refine D.ok4 (k := 1) sc_l_code (fun _ _ _ _ _ _ us hl => match us, hl with | [_, _, _, _], _ => rfl) (fun f cdv A outer s H a b c d Q E hr h => ⟨_, PSs.nox ((pss_one (ps_ret (pe_join pe_str (pe_lc (own := [("_law_k", 4)]) rfl sc_l_code.nd (pi_range1 (by rfl) T.range (pa_cons (pe_op op_add (pv 2) (pe_cl c_l_pick hr (by decide) pass0 (pa_cons (pv 0) (pa_cons (pe_op op_add (pe_op op_sub (pv 3) (pv 2)) pe_int) pa_nil)))) pa_nil)) (blkOk_by (own := [("_law_k", 4)]) (N := ["_law_tape_here", "_law_rows_here", "_law_least", "_law_most", "_law_k"]) (sc := defScope s_l_code) (by decide +kernel)) (fun _ _ _ _ _ => (pg_name (i := 4) sc_l_code.nd rfl (Or.inl rfl))) (fun _ _ _ _ _ => pts_nil) (fun _ _ _ _ _ => (pe_ix ix_str (pv 1) (pe_cl c_l_pick hr (by decide) pass0 (pa_cons (pv 0) (pa_cons (pe_callB call_len_str (by rfl) T.len (by decide +kernel) (pa_cons (pv 1) pa_nil)) pa_nil))) (fun _ _ => rfl)))))))), ?_⟩)
  obtain ⟨t, sc, r, lo, hi, rfl, rfl, rfl, rfl, hT, hr1, hr2, hl, hh, q⟩ := h
  have hst : Same (wo H t) (wo H t) := L2.Same.refl _
  refine ⟨⟨_, rfl⟩, ?_⟩
  walk_at "rd"
  refine ⟨t, sc, hi - lo + 1, rfl, vint (by show (hi : Int) - lo + 1 = _; omega), by omega, by omega, hT, fun d0 H1 hd0 s1 hT1 => ?_⟩
  refine ⟨_, _, rfl, rfl, ?_⟩
  refine ⟨_, rfl, by omega, by omega, fun D hD => ?_⟩
  have hDt := hT1.ne hD
  refine lc_it walk_range (TAcc K sc t H1 D fun i acc _ => ∃ c : Wd, acc = c.map (fun x => V.str (S [x])) ∧ c.length = i ∧ ∀ x ∈ c, x ∈ r) (TAcc.start hT1 hD ⟨[], rfl, rfl, fun _ z => (nomatch z)⟩) (fun _ _ _ _ => trivial) ?_ ?_
  · rintro i v H3 H4 hi ⟨acc, G, e3, hG, hGt, k1, k2, hT4, c, rfl, hc, hcr⟩ ⟨rfl, rfl⟩
    refine ⟨rfl, _, rfl, ?_⟩
    walk_at "rd"
    refine ⟨szle (by rw [S_length]; omega), ?_⟩
    refine ⟨_, _, rfl, t, sc, r.length, rfl, vint (by rw [S_length]), by omega, by omega, hT4, fun d H5 hd s5 hT5 => ?_⟩
    obtain ⟨e5, k5⟩ := past s5 hGt k2 hDt e3
    refine ⟨S r, _, r[d], rfl, rfl, szle (by rw [S_length]; omega), atI_nat (by rw [S_list, List.getElem?_eq_getElem hd]), ?_⟩
    refine TAcc.push hT1 hDt e5 hG hGt k1 k5 hT5 (by rw [List.length_map]; exact szlt (by omega)) ⟨c ++ [r[d]], ?_, ?_, ?_⟩
    · rw [List.map_append]
      rfl
    · rw [List.length_append, hc]
      rfl
    · intro x hx
      rcases List.mem_append.mp hx with hx | hx
      · exact hcr x hx
      · rw [List.mem_singleton.mp hx]
        exact List.getElem_mem hd
  · rintro H3 ⟨acc, G, e3, hG, hGt, k1, k2, hT3, c, rfl, hc, hcr⟩
    refine ⟨_, D, c.map fun x => S [x], rfl, rfl, .inl (sqL_of (by rw [e3, List.map_map]; rfl)), ?_, ?_⟩
    · rw [join_sz]
      omega
    · rw [join_S]
      exact q c H3 (s1.trans (k1.trans (wo_to k2 hGt))) hT3 (by omega) (by omega) hcr
theorem rows_of {ls : List Nat} (h1 : 1 ≤ ls.length) (h3 : ls.length ≤ 3) (hn : ls.Nodup) (hs : ∀ x ∈ ls, x ∈ small) : ∃ r : Wd, srt (ls.map fun x => [x]) = (r.map fun x => [x]) ∧ RowsOk r := by
  have key : ∀ L : List Wd, (∀ w ∈ L, ∃ x, w = [x] ∧ x ∈ small) → ∃ r : Wd, L = (r.map fun x => [x]) ∧ ∀ x ∈ r, x ∈ small := by
    intro L
    induction L with
    | nil => exact fun _ => ⟨[], rfl, fun _ z => (nomatch z)⟩
    | cons w L ih =>
      intro h
      obtain ⟨r, e, hr⟩ := ih fun v hv => h v (List.mem_cons_of_mem _ hv)
      obtain ⟨x, rfl, hx⟩ := h w List.mem_cons_self
      exact ⟨x :: r, by rw [e] <;> rfl, List.forall_mem_cons.mpr ⟨hx, hr⟩⟩
  obtain ⟨r, e, hr⟩ := key (srt (ls.map fun x => [x])) (fun w hw => by
    obtain ⟨x, hx, rfl⟩ := List.mem_map.mp (mem_srt.mp hw)
    exact ⟨x, rfl, hs x hx⟩)
  have hl : r.length = ls.length := by
    have := congrArg List.length e
    rw [srt_length, List.length_map, List.length_map] at this
    exact this.symm
  have hnd : (ls.map fun x => [x]).Nodup := by
    unfold List.Nodup
    rw [List.pairwise_map]
    exact hn.imp fun h z => h (by injection z)
  have hp := srt_strict hnd
  rw [e, List.pairwise_map] at hp
  exact ⟨r, e, by omega, by omega, hr, hp.imp fun {a b} h => by
    cases (show List.Lex (· < ·) [a] [b] from h) with
    | rel h => exact h
    | cons h => cases h⟩
def lets (a s m : Nat) : List Nat := (List.range m).map fun k => 97 + (a + (2 * s + 1) * k) % 26
theorem lets_nd {a s m : Nat} (hs : s < 6) (hm : m ≤ 3) : (lets a s m).Nodup := by
  have hs2 : s = 0 ∨ s = 1 ∨ s = 2 ∨ s = 3 ∨ s = 4 ∨ s = 5 := by omega
  have hm2 : m = 0 ∨ m = 1 ∨ m = 2 ∨ m = 3 := by omega
  unfold lets
  rcases hm2 with rfl | rfl | rfl | rfl <;> rcases hs2 with rfl | rfl | rfl | rfl | rfl | rfl <;> simp [List.range_succ] <;> omega
def sp_l_rows (K : PySem.W.Frag) : Sp := sp2 fun a b H Q _ => ∃ (t sc : Addr), a = .ref t ∧ b = .int 3 ∧ Tp K sc H t ∧ 
  ∀ (r : Wd) H', Same (wo H t) (wo H' t) → Tp K sc H' t → RowsOk r → Q (strV r) H'
/- _law_rows: _law_tape_here=0 _law_most=1 _law_start=2 _law_step=3 _law_many=4 _law_k=5; cells ['_law_start', '_law_step']; calls ['_law_pick']; builtins ['sorted', 'range', 'int'] -/
abbrev s_l_rows : Stmt := top 61
theorem sc_l_rows : FnScope ["_law_tape_here", "_law_most", "_law_start", "_law_step", "_law_many", "_law_k"] ["_law_tape_here", "_law_most"] (defScope s_l_rows) := ⟨rfl, rfl, rfl, by decide +kernel, rfl, by decide +kernel, by decide +kernel⟩
theorem ok_l_rows {P : Program} {w : World} {K : PySem.W.Frag} {mg : Str → Option Value} {base : Heap} (D : Df K mg "_law_rows" s_l_rows) (T : Tx K mg) (c_l_pick : Cl CX0 P w K mg base 1 "_law_pick" (sp_l_pick K)) :
    Cl CX0 P w K mg base 2 "_law_rows" (sp_l_rows K) := by
  refine D.ok2 (k := 1) sc_l_rows (fun _ _ _ _ _ _ us hl => match us, hl with | [_, _], _ => rfl) (fun f cdv A outer s H a b Q E hr h => ⟨_, PSs.nox ((pss_cons (ps_set (i := 2) sc_l_rows.nd rfl (Or.inr rfl) (pe_cl c_l_pick hr (by decide) pass0 (pa_cons (pv 0) (pa_cons pe_int pa_nil))))
      (pss_cons (ps_set (i := 3) sc_l_rows.nd rfl (Or.inr rfl) (pe_ix ix_list (pe_lst (pa_cons pe_int (pa_cons pe_int (pa_cons pe_int (pa_cons pe_int (pa_cons pe_int (pa_cons pe_int pa_nil))))))) (pe_cl c_l_pick hr (by decide) pass0 (pa_cons (pv 0) (pa_cons pe_int pa_nil))) (fun _ _ => rfl)))
      (pss_cons (ps_set (i := 4) sc_l_rows.nd rfl (Or.inl rfl) (pe_op op_add pe_int (pe_cl c_l_pick hr (by decide) pass0 (pa_cons (pv 0) (pa_cons (pv 1) pa_nil)))))
      (pss_one (ps_ret (pe_join pe_str (pe_callB (cr_sortedSA hr.units) (by rfl) T.sorted (by decide +kernel) (pa_cons (pe_lc (own := [("_law_k", 5)]) rfl sc_l_rows.nd (pi_range1 (by rfl) T.range (pa_cons (pv 4) pa_nil)) (blkOk_by (own := [("_law_k", 5)]) (N := ["_law_tape_here", "_law_most", "_law_start", "_law_step", "_law_many", "_law_k"]) (sc := defScope s_l_rows) (by decide +kernel)) (fun _ _ _ _ _ => (pg_name (i := 5) sc_l_rows.nd rfl (Or.inl rfl))) (fun _ _ _ _ _ => pts_nil) (fun _ _ _ _ _ => (pe_ix ix_str pe_str (pe_op op_mod (pe_callTy call_int1 (by rfl) T.int_ (by decide +kernel) (pa_cons (pe_op op_add (pv 2) (pe_op op_mul (pv 3) (pv 5))) pa_nil)) pe_int) (fun _ _ => rfl)))) pa_nil))))))))), ?_⟩)
  obtain ⟨t, sc, rfl, rfl, hT, q⟩ := h
  walk_at "rd"
  refine ⟨t, sc, 26, rfl, rfl, by decide, by decide, hT, fun d0 H1 hd0 s1 hT1 => ?_⟩
  walk_at "rd"
  refine ⟨by show 6 ≤ sizeLine; decide, fun lp hlp => ?_⟩
  have hlt := hT1.ne hlp
  have hT2 : Tp K sc (upd H1 lp (.lst [.int 1, .int 3, .int 5, .int 7, .int 9, .int 11])) t := hT1.same (same_new hlp)
  have s2 : Same (wo H1 t) (wo (upd H1 lp (.lst [.int 1, .int 3, .int 5, .int 7, .int 9, .int 11])) t) := wo_mono (same_new hlp)
  have elp : upd H1 lp (.lst [.int 1, .int 3, .int 5, .int 7, .int 9, .int 11]) lp = some (.lst [.int 1, .int 3, .int 5, .int 7, .int 9, .int 11]) := upd_same
  generalize upd H1 lp (.lst [.int 1, .int 3, .int 5, .int 7, .int 9, .int 11]) = H2 at hT2 s2 elp ⊢
  walk_at "rd"
  refine ⟨t, sc, 6, rfl, rfl, by decide, by decide, hT2, fun d1 H3 hd1 s3 hT3 => ?_⟩
  have el3 := (past s3 wo_at wo_same hlt elp).1
  have hat : atI [V.int 1, .int 3, .int 5, .int 7, .int 9, .int 11] (d1 : Int) = some (V.int (2 * (d1 : Int) + 1)) := by
    have h6 : d1 = 0 ∨ d1 = 1 ∨ d1 = 2 ∨ d1 = 3 ∨ d1 = 4 ∨ d1 = 5 := by omega
    rcases h6 with rfl | rfl | rfl | rfl | rfl | rfl <;> rfl
  refine ⟨lp, _, _, _, rfl, rfl, sqL_of el3, hat, ?_⟩
  walk_at "rd"
  refine ⟨t, sc, 3, rfl, rfl, by decide, by decide, hT3, fun d2 H4 hd2 s4 hT4 => ?_⟩
  walk_at "rd"
  refine ⟨⟨_, rfl⟩, ?_⟩
  refine ⟨_, rfl, _, rfl, by show -2 ^ 62 ≤ (1 : Int) + d2; omega, by show (1 : Int) + d2 < 2 ^ 62; omega, fun D hD => ?_⟩
  have hDt := hT4.ne hD
  obtain ⟨r, er, hr⟩ := rows_of (ls := lets d0 d1 (1 + d2)) (by unfold lets; rw [List.length_map, List.length_range]; omega) (by unfold lets; rw [List.length_map, List.length_range]; omega) (lets_nd hd1 (by omega)) (by
    intro x hx
    obtain ⟨k, _, rfl⟩ := List.mem_map.mp hx
    have := Nat.mod_lt (d0 + (2 * d1 + 1) * k) (show 0 < 26 by decide)
    exact mem_small.mpr ⟨by omega, by omega⟩)
  refine lc_it walk_range (AccP H4 D fun i acc _ => acc = ((lets d0 d1 (1 + d2)).take i).map fun x => strV [x]) (AccP.start hD rfl) (fun _ _ _ _ => trivial) ?_ ?_
  · rintro i v H5 H6 hi ⟨acc, G, e3, hG, k1, k2, rfl⟩ ⟨rfl, rfl⟩
    have hi2 : i < 1 + d2 := by
      have : i < ((1 : Int) + d2).toNat := hi
      omega
    refine ⟨rfl, _, rfl, ?_⟩
    walk_at "rd"
    refine ⟨.inl ⟨by omega, by omega⟩, ?_⟩
    refine ⟨_, _, rfl, rfl, .inl ⟨_, rfl, ?_⟩⟩
    refine ⟨_, _, rfl, rfl, by show (0 : Int) < 26; decide, ?_⟩
    have hz : ((d0 : Int) + (2 * (d1 : Int) + 1) * (0 + (i : Int))) % 26 = (((d0 + (2 * d1 + 1) * i) % 26 : Nat) : Int) := by
      rw [Int.zero_add] <;> rfl
    have hlt6 := Nat.mod_lt (d0 + (2 * d1 + 1) * i) (show 0 < 26 by decide)
    have hgl : (lets d0 d1 (1 + d2))[i]? = some (97 + (d0 + (2 * d1 + 1) * i) % 26) := by
      unfold lets
      rw [List.getElem?_map, List.getElem?_range hi2] <;> rfl
    refine ⟨S small, _, 97 + (d0 + (2 * d1 + 1) * i) % 26, congrArg V.str small_is, rfl, szle (by rw [S_length]; decide), ?_, ?_⟩
    · show atI (List.map _ (S small).cps.toList) (((d0 : Int) + (2 * (d1 : Int) + 1) * (0 + (i : Int))) % 26) = _
      rw [hz]
      refine atI_nat ?_
      rw [S_list]
      show small[_]? = some (97 + (d0 + (2 * d1 + 1) * i) % 26)
      unfold small
      rw [List.getElem?_map, List.getElem?_range hlt6, Nat.add_comm 97] <;> rfl
    · refine AccP.push e3 hG k1 k2 (by rw [List.length_map, List.length_take]; exact szlt (by omega)) ?_
      show _ = ((lets d0 d1 (1 + d2)).take (i + 1)).map fun x => strV [x]
      rw [take_map_snoc hgl]
      rfl
  · rintro H5 ⟨acc, G, e3, hG, k1, k2, rfl⟩
    have e9 : (lets d0 d1 (1 + d2)).take ((1 : Int) + d2).toNat = lets d0 d1 (1 + d2) := List.take_of_length_le (by unfold lets; rw [List.length_map, List.length_range]; omega)
    have e3' : H5 D = some (.lst (((lets d0 d1 (1 + d2)).map fun x => [x]).map strV)) := by
      rw [e3, List.map_map]
      exact congrArg (fun l => some (HO.lst (List.map _ l))) e9
    refine ⟨D, _, rfl, sqL_of e3', fun p hp => ?_⟩
    refine ⟨_, p, r.map fun x => S [x], rfl, rfl, .inl (sqL_of ?_), ?_, ?_⟩
    · rw [upd_same, er, List.map_map, List.map_map] <;> rfl
    · rw [join_sz]
      have := hr.le
      omega
    · rw [join_S]
      have k3 := (k1.trans k2).new (o := .lst ((srt ((lets d0 d1 (1 + d2)).map fun x => [x])).map strV)) hp
      exact q r _ (s1.trans (s2.trans (s3.trans (s4.trans (wo_mono k3))))) (hT4.same k3) hr
end K84
set_option maxHeartbeats 4000000
namespace K84
open PySem PySem.Spec PyProof.Rows L2
local macro_rules | `(tactic| walk_at "ix") => `(tactic| first | exact atI_nat (j := 0) rfl | exact atI_nat (j := 1) rfl | exact atI_nat (j := 2) rfl | exact atI_nat (j := 3) rfl | exact atI_nat (j := 4) rfl)
local macro_rules | `(tactic| walk_at "rd") => `(tactic| repeat (first
  | refine ⟨_, rfl, ?_⟩
  | refine ⟨rfl, ?_⟩
  | refine ⟨_, _, rfl, ?_⟩
  | refine ⟨_, _, rfl, rfl, ?_⟩
  | refine ⟨_, _, _, rfl, ?_⟩
  | refine ⟨_, _, _, _, rfl, ?_⟩
  | refine ⟨_, _, _, _, rfl, rfl, (by assumption), (by walk_at "ix"), ?_⟩
  | refine ⟨_, _, _, rfl, rfl, (by assumption), ?_⟩
  | refine ⟨.inl ⟨rfl, _, sqL_of (by assumption)⟩, ?_⟩
  | refine ⟨_, _, _, _, _, rfl, (by assumption), (by assumption), (by assumption), (by assumption), ?_⟩
  | refine ⟨_, _, _, _, _, rfl, .ty _, Tg.ty (by assumption), kit_ty (by first | exact kInt _ | exact kBool _ | exact kStr _ | exact kTup _ | exact kLst _ | exact kDct _), ?_⟩))
/-! ### an object that is being filled while the tape is read -/
structure TO (K : PySem.W.Frag) (sc t : Addr) (H1 : Hp) (D : Addr) (o : HO) (G H : Hp) : Prop where
  e : H D = some o
  gD : G D = none
  gt : G t = none
  s1 : Same (wo H1 t) G
  s : Same G H
  tp : Tp K sc H t
theorem TO.start {K : PySem.W.Frag} {sc t D : Addr} {H1 : Hp} {o : HO} (T : Tp K sc H1 t) (hD : H1 D = none) : TO K sc t H1 D o (wo H1 t) (upd H1 D o) :=
  ⟨upd_same, wo_none hD, wo_at, L2.Same.refl _, wo_same.trans (same_new hD), T.same (same_new hD)⟩
theorem TO.read {K : PySem.W.Frag} {sc t D : Addr} {H1 G H H' : Hp} {o : HO} (h : TO K sc t H1 D o G H) (hDt : D ≠ t) (s : Same (wo H t) (wo H' t)) (T : Tp K sc H' t) : TO K sc t H1 D o G H' :=
  ⟨(past s h.gt h.s hDt h.e).1, h.gD, h.gt, h.s1, (past s h.gt h.s hDt h.e).2, T⟩
theorem TO.more {K : PySem.W.Frag} {sc t D : Addr} {H1 G H H' : Hp} {o : HO} (h : TO K sc t H1 D o G H) (s : Same H H') : TO K sc t H1 D o G H' :=
  ⟨s _ _ h.e, h.gD, h.gt, h.s1, h.s.trans s, h.tp.same s⟩
theorem TO.set {K : PySem.W.Frag} {sc t D : Addr} {H1 G H : Hp} {o o' : HO} (h : TO K sc t H1 D o G H) (T1 : Tp K sc H1 t) (hDt : D ≠ t) : TO K sc t H1 D o' G (upd H D o') :=
  ⟨upd_same, h.gD, h.gt, h.s1, L2.Same.mut h.s h.gD, T1.put h.s1 h.s h.gD hDt h.tp⟩
theorem TO.out {K : PySem.W.Frag} {sc t D : Addr} {H1 G H : Hp} {o : HO} (h : TO K sc t H1 D o G H) : Same (wo H1 t) (wo H t) := h.s1.trans (wo_to h.s h.gt)
theorem TO.got {K : PySem.W.Frag} {sc t D : Addr} {H1 G H : Hp} {o : HO} (h : TO K sc t H1 D o G H) : Same G (wo H t) := wo_to h.s h.gt
/-- no tuple stands there -/
def NoTup (o : HO) : Prop := Odd o ∨ ∃ kvs, o = .dK kvs
theorem sqT_off {K : PySem.W.Frag} {H : Hp} {D p : Addr} {o : HO} {xs : List V} (e : H D = some o) (n : NoTup o) (h : SqT K H p xs) : SqT K (wo H D) p xs := by
  rcases n with n | ⟨kvs, rfl⟩
  · exact sqT_wo e n h
  · exact sqT_woK e h
theorem sqT_tape {K : PySem.W.Frag} {H : Hp} {sc t p : Addr} {xs : List V} (T : Tp K sc H t) (h : SqT K H p xs) : SqT K (wo H t) p xs := by
  obtain ⟨ys, e⟩ := T.odd
  exact sqT_wo e .lst h
theorem TO.grow {K : PySem.W.Frag} {sc t D : Addr} {H1 G H : Hp} {o : HO} (h : TO K sc t H1 D o G H) (hDt : D ≠ t) (n : NoTup o) : ∃ G', TO K sc t H1 D o G' H ∧ Same G G' ∧ ∀ p xs, SqT K H p xs → SqT K G' p xs := by
  have sg : Same G (wo (wo H D) t) := wo_to (wo_to h.s h.gD) h.gt
  refine ⟨wo (wo H D) t, ⟨h.e, wo_none wo_at, wo_at, h.s1.trans sg, wo_same.trans wo_same, h.tp⟩, sg, fun p xs hp => ?_⟩
  obtain ⟨ys, e⟩ := h.tp.odd
  exact sqT_wo (by rw [wo_ne (Ne.symm hDt)]; exact e) .lst (sqT_off h.e n hp)
theorem frV_tape {K : PySem.W.Frag} {H : Hp} {sc t : Addr} {v : V} {q : Fq} (T : Tp K sc H t) (h : FrV K H v q) : FrV K (wo H t) v q := by
  obtain ⟨p, e, h⟩ := h
  exact ⟨p, e, sqT_tape T h⟩
def sp_l_ordered_code (K : PySem.W.Frag) : Sp := sp2 fun a b H Q _ => ∃ (t sc : Addr) (r : Wd), a = .ref t ∧ b = .str (S r) ∧ Tp K sc H t ∧ RowsOk r ∧
  ∀ (c : Wd) H', Same (wo H t) (wo H' t) → Tp K sc H' t → c.length ≤ 7 → (∀ x ∈ c, x ∈ r) → Q (strV c) H'
/- _law_ordered_code: _law_tape_here=0 _law_rows_here=1 _law_rare=2; cells []; calls ['_law_code', '_law_pick']; builtins ['int'] -/
abbrev s_l_ordered_code : Stmt := top 81
theorem sc_l_ordered_code : FnScope ["_law_tape_here", "_law_rows_here", "_law_rare"] ["_law_tape_here", "_law_rows_here"] (defScope s_l_ordered_code) := ⟨rfl, rfl, rfl, by decide +kernel, rfl, by decide +kernel, by decide +kernel⟩
theorem ok_l_ordered_code {P : Program} {w : World} {K : PySem.W.Frag} {mg : Str → Option Value} {base : Heap} (D : Df K mg "_law_ordered_code" s_l_ordered_code) (T : Tx K mg) (c_l_code : Cl CX0 P w K mg base 2 "_law_code" (sp_l_code K)) (c_l_pick : Cl CX0 P w K mg base 1 "_law_pick" (sp_l_pick K)) :
    Cl CX0 P w K mg base 3 "_law_ordered_code" (sp_l_ordered_code K) := by
  refine D.ok2 (k := 2) sc_l_ordered_code (fun _ _ _ _ _ _ us hl => match us, hl with | [_, _], _ => rfl) (fun f cdv A outer s H a b Q E hr h => ⟨_, PSs.nox ((pss_cons (ps_set (i := 2) sc_l_ordered_code.nd rfl (Or.inl rfl) (pe_cl c_l_pick hr (by decide) pass0 (pa_cons (pv 0) (pa_cons pe_int pa_nil))))
      (pss_cons (ps_if (pt_cmpR op_eq (pv 2) pe_int (nomark _)) (pss_one (ps_ret (pe_cl c_l_code hr (by decide) pass0 (pa_cons (pv 0) (pa_cons (pv 1) (pa_cons pe_int (pa_cons pe_int pa_nil))))))) pss_nil)
      (pss_one (ps_ret (pe_cl c_l_code hr (by decide) pass0 (pa_cons (pv 0) (pa_cons (pv 1) (pa_cons pe_int (pa_cons (pe_op op_add pe_int (pe_callTy call_int1 (by rfl) T.int_ (by decide +kernel) (pa_cons (pe_cmpR op_lt (pv 2) pe_int (nomark _)) pa_nil))) pa_nil)))))))))), ?_⟩)
  obtain ⟨t, sc, r, rfl, rfl, hT, hr, q⟩ := h
  walk_at "rd"
  refine ⟨t, sc, 48, rfl, rfl, by decide, by decide, hT, fun d0 H1 hd0 s1 hT1 => ?_⟩
  walk_at "rd"
  refine ifB (fun g1 => ?_) (fun g1 => ?_)
  · walk_at "rd"
    refine ⟨t, sc, r, 7, 7, rfl, rfl, rfl, rfl, hT1, hr.pos, hr.le, by decide, by decide, fun c H2 s2 hT2 _ h1 h2 => ?_⟩
    exact q c H2 (s1.trans s2) hT2 h1 h2
  · walk_at "rd"
    refine .inr ⟨_, rfl, ?_⟩
    walk_at "rd"
    refine ⟨t, sc, r, 0, 5 + (if decide ((d0 : Int) < 4) = true then 1 else 0), rfl, rfl, rfl, vint (by split <;> rfl), hT1, hr.pos, hr.le, Nat.zero_le _, by split <;> decide, fun c H2 s2 hT2 _ h1 h2 => ?_⟩
    exact q c H2 (s1.trans s2) hT2 (Nat.le_trans h1 (by split <;> decide)) h2
def sp_l_fraction (K : PySem.W.Frag) : Sp := sp1 fun a H Q _ => ∃ (t sc : Addr), a = .ref t ∧ Tp K sc H t ∧
  ∀ (v : V) (q : Fq) H', Same (wo H t) (wo H' t) → Tp K sc H' t → FrV K (wo H' t) v q → FB 168 q → Int.gcd q.1 q.2 = 1 → Q v H'
/- _law_fraction: _law_tape_here=0 _law_great=1 _law_kind=2 _law_top=3; cells []; calls ['_law_lowest', '_law_pick']; builtins ['int'] -/
abbrev s_l_fraction : Stmt := top 68
theorem sc_l_fraction : FnScope ["_law_tape_here", "_law_great", "_law_kind", "_law_top"] ["_law_tape_here"] (defScope s_l_fraction) := ⟨rfl, rfl, rfl, by decide +kernel, rfl, by decide +kernel, by decide +kernel⟩
theorem ok_l_fraction {P : Program} {w : World} {K : PySem.W.Frag} {mg : Str → Option Value} {base : Heap} (D : Df K mg "_law_fraction" s_l_fraction) (T : Tx K mg) (c_l_lowest : Cl CX0 P w K mg base 1 "_law_lowest" (sp_l_lowest K)) (c_l_pick : Cl CX0 P w K mg base 1 "_law_pick" (sp_l_pick K)) :
    Cl CX0 P w K mg base 2 "_law_fraction" (sp_l_fraction K) := by
  refine D.ok1 (k := 1) sc_l_fraction (fun _ _ _ _ _ _ us hl => match us, hl with | [_], _ => rfl) (fun f cdv A outer s H a Q E hr h => ⟨_, PSs.nox ((pss_cons (ps_set (i := 1) sc_l_fraction.nd rfl (Or.inl rfl) (pe_cl c_l_pick hr (by decide) pass0 (pa_cons (pv 0) (pa_cons (pe_op op_pow pe_int pe_int) pa_nil))))
      (pss_cons (ps_set (i := 2) sc_l_fraction.nd rfl (Or.inl rfl) (pe_cl c_l_pick hr (by decide) pass0 (pa_cons (pv 0) (pa_cons pe_int pa_nil))))
      (pss_cons (ps_set (i := 3) sc_l_fraction.nd rfl (Or.inl rfl) (pe_ix ix_list (pe_lst (pa_cons (pe_op op_mod (pe_callTy call_int1 (by rfl) T.int_ (by decide +kernel) (pa_cons (pv 1) pa_nil)) pe_int) (pa_cons (pe_op op_sub (pe_op op_mod (pe_callTy call_int1 (by rfl) T.int_ (by decide +kernel) (pa_cons (pv 1) pa_nil)) pe_int) pe_int) (pa_cons (pe_op op_mod (pe_callTy call_int1 (by rfl) T.int_ (by decide +kernel) (pa_cons (pv 1) pa_nil)) pe_int) (pa_cons pe_int (pa_cons (pe_op op_sub (pe_op op_pow pe_int pe_int) (pv 1)) pa_nil)))))) (pv 2) (fun _ _ => rfl)))
      (pss_one (ps_ret (pe_cl c_l_lowest hr (by decide) pass0 (pa_cons (pv 3) (pa_cons (pe_ix ix_list (pe_lst (pa_cons pe_int (pa_cons pe_int (pa_cons (pe_op op_add pe_int (pe_op op_mod (pe_callTy call_int1 (by rfl) T.int_ (by decide +kernel) (pa_cons (pe_op op_fdiv (pv 1) pe_int) pa_nil)) pe_int)) (pa_cons pe_int (pa_cons (pe_op op_add pe_int (pe_op op_mod (pe_callTy call_int1 (by rfl) T.int_ (by decide +kernel) (pa_cons (pv 1) pa_nil)) pe_int)) pa_nil)))))) (pv 2) (fun _ _ => rfl)) pa_nil))))))))), ?_⟩)
  obtain ⟨t, sc, rfl, hT, q⟩ := h
  walk_at "rd"
  refine ⟨⟨by decide, by decide⟩, ?_⟩
  refine ⟨_, _, rfl, t, sc, 1000000, rfl, vint (by decide), by decide, by decide, hT, fun g H1 hg s1 hT1 => ?_⟩
  walk_at "rd"
  refine ⟨t, sc, 5, rfl, rfl, by decide, by decide, hT1, fun k H2 hk s2 hT2 => ?_⟩
  walk_at "rd"
  refine .inl ⟨_, rfl, ?_⟩
  walk_at "rd"
  refine ⟨by show (0 : Int) < 10; decide, ?_⟩
  walk_at "rd"
  refine .inl ⟨_, rfl, ?_⟩
  walk_at "rd"
  refine ⟨by show (0 : Int) < 199; decide, ?_⟩
  walk_at "rd"
  refine .inl ⟨_, rfl, ?_⟩
  walk_at "rd"
  refine ⟨by show (0 : Int) < 10; decide, ?_⟩
  walk_at "rd"
  refine ⟨⟨by decide, by decide⟩, ?_⟩
  walk_at "rd"
  refine ⟨by show 5 ≤ sizeLine; decide, fun lp hlp => ?_⟩
  obtain ⟨top, hat, htop⟩ : ∃ top : Int, atI [V.int ((g : Int) % 10), .int ((g : Int) % 199 - 99), .int ((g : Int) % 10), .int 0, .int (10 ^ (Int.toNat 50) - (g : Int))] (k : Int) = some (V.int top) ∧ top.natAbs < 2 ^ 168 := by
    have b1 := Int.emod_nonneg (g : Int) (show (10 : Int) ≠ 0 by decide)
    have b2 := Int.emod_lt_of_pos (g : Int) (show (0 : Int) < 10 by decide)
    have b3 := Int.emod_nonneg (g : Int) (show (199 : Int) ≠ 0 by decide)
    have b4 := Int.emod_lt_of_pos (g : Int) (show (0 : Int) < 199 by decide)
    have e9 : (10 ^ (Int.toNat 50) : Int) = 100000000000000000000000000000000000000000000000000 := by decide
    have h6 : k = 0 ∨ k = 1 ∨ k = 2 ∨ k = 3 ∨ k = 4 := by omega
    rcases h6 with rfl | rfl | rfl | rfl | rfl
    · exact ⟨_, rfl, by omega⟩
    · exact ⟨_, rfl, by omega⟩
    · exact ⟨_, rfl, by omega⟩
    · exact ⟨_, rfl, by decide⟩
    · refine ⟨_, rfl, ?_⟩
      rw [e9]
      have e8 : (2 : Nat) ^ 168 = 374144419156711147060143317175368453031918731001856 := by decide
      rw [e8]
      omega
  refine ⟨_, rfl, lp, _, _, _, rfl, rfl, sqL_of upd_same, hat, ?_⟩
  have T3 := hT2.same (same_new (o := .lst [V.int ((g : Int) % 10), .int ((g : Int) % 199 - 99), .int ((g : Int) % 10), .int 0, .int (10 ^ (Int.toNat 50) - (g : Int))]) hlp)
  have s3 := wo_mono (t := t) (same_new (o := .lst [V.int ((g : Int) % 10), .int ((g : Int) % 199 - 99), .int ((g : Int) % 10), .int 0, .int (10 ^ (Int.toNat 50) - (g : Int))]) hlp)
  generalize upd H2 lp (.lst [V.int ((g : Int) % 10), .int ((g : Int) % 199 - 99), .int ((g : Int) % 10), .int 0, .int (10 ^ (Int.toNat 50) - (g : Int))]) = H3 at T3 s3 ⊢
  walk_at "rd"
  refine ⟨⟨by decide, by decide⟩, ?_⟩
  refine .inl ⟨_, rfl, ?_⟩
  walk_at "rd"
  refine ⟨by show (0 : Int) < 7; decide, ?_⟩
  walk_at "rd"
  refine .inl ⟨_, rfl, ?_⟩
  walk_at "rd"
  refine ⟨by show (0 : Int) < 1000; decide, ?_⟩
  walk_at "rd"
  refine ⟨by show 5 ≤ sizeLine; decide, fun bp hbp => ?_⟩
  obtain ⟨bot, hbt, hb1, hb2⟩ : ∃ bot : Int, atI [V.int 1, .int 1, .int (1 + (g : Int) / 10 % 7), .int 1, .int (1 + (g : Int) % 1000)] (k : Int) = some (V.int bot) ∧ 0 < bot ∧ bot.natAbs < 2 ^ 168 := by
    have b1 := Int.emod_nonneg ((g : Int) / 10) (show (7 : Int) ≠ 0 by decide)
    have b2 := Int.emod_lt_of_pos ((g : Int) / 10) (show (0 : Int) < 7 by decide)
    have b3 := Int.emod_nonneg (g : Int) (show (1000 : Int) ≠ 0 by decide)
    have b4 := Int.emod_lt_of_pos (g : Int) (show (0 : Int) < 1000 by decide)
    have e8 : (2 : Nat) ^ 168 = 374144419156711147060143317175368453031918731001856 := by decide
    rw [e8]
    have h6 : k = 0 ∨ k = 1 ∨ k = 2 ∨ k = 3 ∨ k = 4 := by omega
    rcases h6 with rfl | rfl | rfl | rfl | rfl
    · exact ⟨_, rfl, by decide, by decide⟩
    · exact ⟨_, rfl, by decide, by decide⟩
    · exact ⟨_, rfl, by omega, by omega⟩
    · exact ⟨_, rfl, by decide, by decide⟩
    · exact ⟨_, rfl, by omega, by omega⟩
  refine ⟨_, rfl, bp, _, _, _, rfl, rfl, sqL_of upd_same, hbt, ?_⟩
  have T4 := T3.same (same_new (o := .lst [V.int 1, .int 1, .int (1 + (g : Int) / 10 % 7), .int 1, .int (1 + (g : Int) % 1000)]) hbp)
  have s4 := wo_mono (t := t) (same_new (o := .lst [V.int 1, .int 1, .int (1 + (g : Int) / 10 % 7), .int 1, .int (1 + (g : Int) % 1000)]) hbp)
  refine ⟨_, _, rfl, top, bot, 168, rfl, rfl, hb1, htop, hb2, by decide, fun v H5 s5 hv => ?_⟩
  have T5 := T4.same s5
  exact q v _ H5 (s1.trans (s2.trans (s3.trans (s4.trans (wo_mono s5))))) T5 (frV_tape T5 hv) (low_fb hb1 htop hb2) (low_coprime hb1)
end K84
set_option maxHeartbeats 4000000
namespace K84
open PySem PySem.Spec PyProof.Rows L2
local macro_rules | `(tactic| walk_at "ix") => `(tactic| first | exact atI_nat (j := 0) rfl | exact atI_nat (j := 1) rfl | exact atI_nat (j := 2) rfl | exact atI_nat (j := 3) rfl | exact atI_nat (j := 4) rfl)
local macro_rules | `(tactic| walk_at "rd") => `(tactic| repeat (first
  | refine ⟨_, rfl, ?_⟩
  | refine ⟨rfl, ?_⟩
  | refine ⟨_, _, rfl, ?_⟩
  | refine ⟨_, _, rfl, rfl, ?_⟩
  | refine ⟨_, _, _, rfl, ?_⟩
  | refine ⟨_, _, _, _, rfl, ?_⟩
  | refine ⟨_, _, _, _, rfl, rfl, (by assumption), (by walk_at "ix"), ?_⟩
  | refine ⟨_, _, _, rfl, rfl, (by assumption), ?_⟩
  | refine ⟨.inl ⟨rfl, _, sqL_of (by assumption)⟩, ?_⟩
  | refine ⟨_, _, _, _, _, rfl, (by assumption), (by assumption), (by assumption), (by assumption), ?_⟩
  | refine ⟨_, _, _, _, _, rfl, .ty _, Tg.ty (by assumption), kit_ty (by first | exact kInt _ | exact kBool _ | exact kStr _ | exact kTup _ | exact kLst _ | exact kDct _), ?_⟩))
def sp_l_table (K : PySem.W.Frag) : Sp := sp3 fun a b c H Q _ => ∃ (t sc : Addr) (r : Wd) (w : Nat), a = .ref t ∧ b = .str (S r) ∧ c = .int w ∧ Tp K sc H t ∧ RowsOk r ∧ 1 ≤ w ∧ w ≤ 2 ∧
  ∀ (p : Addr) (tb : Wd → Fq) H', Same (wo H t) (wo H' t) → Tp K sc H' t → Tab K (wo H' t) p r w tb 168 → Q (.ref p) H'
def TabP (K : PySem.W.Frag) (l : List Wd) (kvs : List (L2.Key × V)) (G : Hp) : Prop := ∃ (f : Wd → V) (tb : Wd → Fq), kvs = (l.map fun n => ((Sum.inr (S n) : L2.Key), f n)) ∧ ∀ n ∈ l, FrV K G (f n) (tb n) ∧ FB 168 (tb n) ∧ Int.gcd (tb n).1 (tb n).2 = 1
theorem TabP.put {K : PySem.W.Frag} {l : List Wd} {kvs : List (L2.Key × V)} {G G' : Hp} {n : Wd} {v : V} {x : Fq} (h : TabP K l kvs G) (s : Same G G') (hn : n ∉ l) (hv : FrV K G' v x) (hb : FB 168 x) (hg : Int.gcd x.1 x.2 = 1) : TabP K (l ++ [n]) (putK kvs (Sum.inr (S n)) v) G' := by
  obtain ⟨f, tb, rfl, h⟩ := h
  have e1 : (l.map fun m => ((Sum.inr (S m) : L2.Key), f m)) = l.map fun m => ((Sum.inr (S m) : L2.Key), (fun m => if m = n then v else f m) m) := by
    refine List.map_congr_left fun m hm => ?_
    have : m ≠ n := fun z => hn (z ▸ hm)
    show _ = (_, if m = n then v else f m)
    rw [if_neg this]
  refine ⟨fun m => if m = n then v else f m, fun m => if m = n then x else tb m, ?_, fun m hm => ?_⟩
  · rw [e1]
    exact putK_map hn (if_pos rfl)
  · by_cases e : m = n
    · subst e
      dsimp only
      rw [if_pos rfl, if_pos rfl]
      exact ⟨hv, hb, hg⟩
    · dsimp only
      rw [if_neg e, if_neg e]
      rcases List.mem_append.mp hm with hm | hm
      · obtain ⟨h1, h2⟩ := h m hm
        exact ⟨h1.mono s, h2⟩
      · exact absurd (List.mem_singleton.mp hm) e
/- _law_table: _law_tape_here=0 _law_rows_here=1 _law_width=2 _law_table_here=3 _law_stretch=4; cells []; calls ['_law_all_stretches', '_law_fraction']; builtins [] -/
abbrev s_l_table : Stmt := top 70
theorem sc_l_table : FnScope ["_law_tape_here", "_law_rows_here", "_law_width", "_law_table_here", "_law_stretch"] ["_law_tape_here", "_law_rows_here", "_law_width"] (defScope s_l_table) := ⟨rfl, rfl, rfl, by decide +kernel, rfl, by decide +kernel, by decide +kernel⟩
theorem ok_l_table {P : Program} {w : World} {K : PySem.W.Frag} {mg : Str → Option Value} {base : Heap} (D : Df K mg "_law_table" s_l_table) (T : Tx K mg) (c_l_all_stretches : Cl CX0 P w K mg base 1 "_law_all_stretches" (sp_l_all_stretches K)) (c_l_fraction : Cl CX0 P w K mg base 2 "_law_fraction" (sp_l_fraction K)) :
    Cl CX0 P w K mg base 3 "_law_table" (sp_l_table K) := by
  refine D.ok3 (k := 2) sc_l_table (fun _ _ _ _ _ _ us hl => match us, hl with | [_, _, _], _ => rfl) (fun f cdv A outer s H a b c Q E hr h => ⟨_, PSs.nox ((pss_cons (ps_set (i := 3) sc_l_table.nd rfl (Or.inl rfl) pe_dnewK)
      (pss_cons (ps_for PassesOwn.never rfl (pi_list (pe_cl c_l_all_stretches hr (by decide) pass0 (pa_cons (pv 1) (pa_cons (pv 2) pa_nil)))) (pg_name (i := 4) sc_l_table.nd rfl (Or.inl rfl)) (pss_one (ps_dput (hu_of hr) (pv 3) (pv 4) (pe_cl c_l_fraction hr (by decide) pass0 (pa_cons (pv 0) pa_nil)) rfl)))
      (pss_one (ps_ret (pv 3)))))), ?_⟩)
  obtain ⟨t, sc, r, w, rfl, rfl, rfl, hT, hr, hw, hw2, q⟩ := h
  intro D hD
  have hDt := hT.ne hD
  have t0 : TO K sc t H D (.dK []) (wo H t) (upd H D (.dK [])) := .start hT hD
  have hnd := st_nodup hr w
  have hlen := st_length hr hw hw2
  walk_at "rd"
  refine ⟨hr.le, hw, hw2, fun lp H1 s1 hlp elp => ?_⟩
  have t1 := t0.more s1
  have hlt := t0.tp.ne hlp
  have hlD : lp ≠ D := fun z => by rw [z, t0.e] at hlp; cases hlp
  refine ⟨lp, rfl, ⟨_, sqL_of elp⟩, ?_⟩
  refine for_list (xs := (st r w).map strV) (fun i σ H' => (∃ z, σ = [some (.ref t), some (.str (S r)), some (.int w), some (.ref D), z]) ∧ H' lp = some (.lst ((st r w).map strV)) ∧ ∃ kvs G, TO K sc t H D (.dK kvs) G H' ∧ TabP K ((st r w).take i) kvs G)
    ⟨⟨_, rfl⟩, elp, [], _, t1, fun _ => .non, fun _ => (0, 1), rfl, fun n z => (nomatch z)⟩ (fun i σ H' _ h => sqL_of h.2.1) ?_ ?_
  · rintro i v σ H2 hv ⟨⟨z, rfl⟩, el, kvs, G, tO, hP⟩
    rw [List.getElem?_map] at hv
    obtain ⟨n, hn, rfl⟩ := Option.map_eq_some_iff.mp hv
    walk_at "rd"
    refine ⟨t, sc, rfl, tO.tp, fun v x H3 s3 hT3 hv hb hg => ?_⟩
    have t3 := tO.read hDt s3 hT3
    obtain ⟨G2, t4, sG, hG2⟩ := t3.grow hDt (.inr ⟨_, rfl⟩)
    have el3 := (past s3 wo_at wo_same hlt el).1
    have hoff := nd_off hnd hn
    have hi : i < (st r w).length := (List.getElem?_eq_some_iff.mp hn).1
    have hkl : kvs.length ≤ i := by
      obtain ⟨f, tb, e, _⟩ := hP
      rw [e, List.length_map, List.length_take]
      omega
    have hvG : FrV K G2 v x := FrV.mono (L2.Same.refl _) (by
      obtain ⟨p, e, h⟩ := hv
      exact ⟨p, e, hG2 _ _ (wo_same.seqT h)⟩)
    refine ⟨_, rfl, _, rfl, D, _, rfl, .inl ⟨kvs, Sum.inr (S n), t4.e, rfl, szlt (by omega), rfl⟩, ⟨_, rfl⟩, (upd_ne hlD).trans el3, _, G2, t4.set hT hDt, ?_⟩
    rw [List.take_add_one, hn]
    exact hP.put sG hoff hvG hb hg
  · rintro σ H2 ⟨⟨z, rfl⟩, el, kvs, G, tO, f, tb, rfl, hP⟩
    rw [List.length_map, List.take_length] at hP
    have e5 := tO.e
    rw [List.length_map, List.take_length] at e5
    refine ⟨_, rfl, q D tb H2 tO.out tO.tp ⟨⟨f, (wo_ne hDt).trans e5, fun n hn => (hP n hn).1.mono tO.got⟩, fun n hn => (hP n hn).2⟩⟩
def sp_l_befores (K : PySem.W.Frag) : Sp := sp2 fun a b H Q _ => ∃ (t sc : Addr) (c : Wd), a = .ref t ∧ b = .str (S c) ∧ Tp K sc H t ∧ c.length ≤ 7 ∧
  ∀ (p : Addr) (bs : List (Nat × Nat)) H', Same (wo H t) (wo H' t) → Tp K sc H' t → Tg K (wo H' t) (.ref p) (.lst (bs.map bTh)) → bs.length ≤ 6 → (∀ q ∈ bs, q.1 < q.2 ∧ q.2 < c.length) → Q (.ref p) H'
def BefP (K : PySem.W.Frag) (n i : Nat) (acc : List V) (G : Hp) : Prop := ∃ bs : List (Nat × Nat), TgAll K G acc (bs.map bTh) ∧ bs.length = i ∧ ∀ q ∈ bs, q.1 < q.2 ∧ q.2 < n
/- _law_befores: _law_tape_here=0 _law_code_here=1 _law_found=2 _law_k=3 _law_one=4; cells []; calls ['_law_pick']; builtins ['range', 'len'] -/
abbrev s_l_befores : Stmt := top 80
theorem sc_l_befores : FnScope ["_law_tape_here", "_law_code_here", "_law_found", "_law_k", "_law_one"] ["_law_tape_here", "_law_code_here"] (defScope s_l_befores) := ⟨rfl, rfl, rfl, by decide +kernel, rfl, by decide +kernel, by decide +kernel⟩
theorem ok_l_befores {P : Program} {w : World} {K : PySem.W.Frag} {mg : Str → Option Value} {base : Heap} (D : Df K mg "_law_befores" s_l_befores) (T : Tx K mg) (c_l_pick : Cl CX0 P w K mg base 1 "_law_pick" (sp_l_pick K)) :
    Cl CX0 P w K mg base 2 "_law_befores" (sp_l_befores K) := by
  refine D.ok2 (k := 1) sc_l_befores (fun _ _ _ _ _ _ us hl => match us, hl with | [_, _], _ => rfl) (fun f cdv A outer s H a b Q E hr h => ⟨_, PSs.nox ((pss_cons (ps_set (i := 2) sc_l_befores.nd rfl (Or.inl rfl) (pe_lst pa_nil))
      (pss_cons (ps_if (pt_cmpR op_lt (pe_callB call_len_str (by rfl) T.len (by decide +kernel) (pa_cons (pv 1) pa_nil)) pe_int (nomark _)) (pss_one (ps_ret (pv 2))) pss_nil)
      (pss_cons (ps_for PassesOwn.never rfl (pi_range1 (by rfl) T.range (pa_cons (pe_ix ix_list (pe_lst (pa_cons pe_int (pa_cons pe_int (pa_cons pe_int (pa_cons pe_int (pa_cons pe_int (pa_cons pe_int pa_nil))))))) (pe_cl c_l_pick hr (by decide) pass0 (pa_cons (pv 0) (pa_cons pe_int pa_nil))) (fun _ _ => rfl)) pa_nil)) (pg_name (i := 3) sc_l_befores.nd rfl (Or.inl rfl)) (pss_cons (ps_set (i := 4) sc_l_befores.nd rfl (Or.inl rfl) (pe_cl c_l_pick hr (by decide) pass0 (pa_cons (pv 0) (pa_cons (pe_op op_sub (pe_callB call_len_str (by rfl) T.len (by decide +kernel) (pa_cons (pv 1) pa_nil)) pe_int) pa_nil))))
      (pss_one (ps_expr (pe_bm PySem.F.plainAttrs_list PySem.F.slot_list_append PySem.F.type_list_append mt_append (pv 2) (pa_cons (pe_tup (pa_cons (pv 4) (pa_cons (pe_op op_add (pe_op op_add (pv 4) pe_int) (pe_cl c_l_pick hr (by decide) pass0 (pa_cons (pv 0) (pa_cons (pe_op op_sub (pe_op op_sub (pe_callB call_len_str (by rfl) T.len (by decide +kernel) (pa_cons (pv 1) pa_nil)) pe_int) (pv 4)) pa_nil)))) pa_nil))) pa_nil))))))
      (pss_one (ps_ret (pv 2))))))), ?_⟩)
  obtain ⟨t, sc, c, rfl, rfl, hT, hc, q⟩ := h
  refine ⟨by show 0 ≤ sizeLine; decide, fun D hD => ?_⟩
  have hDt := hT.ne hD
  have t0 : TO K sc t H D (.lst []) (wo H t) (upd H D (.lst [])) := .start hT hD
  walk_at "rd"
  refine ⟨szle (by rw [S_length]; omega), ?_⟩
  rw [S_length]
  walk_at "rd"
  refine ifB (fun g1 => ?_) (fun g1 => ?_)
  · have g2 := of_decide_eq_true g1
    exact ⟨_, rfl, q D [] _ t0.out t0.tp (.lst (sqL_of ((wo_ne hDt).trans upd_same)) .nil) (Nat.zero_le _) fun x hx => (nomatch hx)⟩
  · have g2 := of_decide_eq_false g1
    have hc2 : 2 ≤ c.length := by omega
    refine ⟨by show 6 ≤ sizeLine; decide, fun lp hlp => ?_⟩
    have t1 := t0.more (same_new (o := .lst [.int 0, .int 0, .int 1, .int 2, .int 3, .int 6]) hlp)
    have hlt := t0.tp.ne hlp
    have elp : upd (upd H D (.lst [])) lp (.lst [.int 0, .int 0, .int 1, .int 2, .int 3, .int 6]) lp = some (.lst [.int 0, .int 0, .int 1, .int 2, .int 3, .int 6]) := upd_same
    generalize upd (upd H D (.lst [])) lp (.lst [.int 0, .int 0, .int 1, .int 2, .int 3, .int 6]) = H1 at t1 elp ⊢
    walk_at "rd"
    refine ⟨t, sc, 6, rfl, rfl, by decide, by decide, t1.tp, fun d1 H2 hd1 s2 hT2 => ?_⟩
    have el2 := (past s2 wo_at wo_same hlt elp).1
    have t2 := t1.read hDt s2 hT2
    obtain ⟨m, hat, hm⟩ : ∃ m : Nat, atI [V.int 0, .int 0, .int 1, .int 2, .int 3, .int 6] (d1 : Int) = some (V.int m) ∧ m ≤ 6 := by
      have h6 : d1 = 0 ∨ d1 = 1 ∨ d1 = 2 ∨ d1 = 3 ∨ d1 = 4 ∨ d1 = 5 := by omega
      rcases h6 with rfl | rfl | rfl | rfl | rfl | rfl
      · exact ⟨0, rfl, by decide⟩
      · exact ⟨0, rfl, by decide⟩
      · exact ⟨1, rfl, by decide⟩
      · exact ⟨2, rfl, by decide⟩
      · exact ⟨3, rfl, by decide⟩
      · exact ⟨6, rfl, by decide⟩
    refine ⟨lp, _, _, _, rfl, rfl, sqL_of el2, hat, ?_⟩
    refine ⟨_, rfl, by omega, by omega, for_range (fun i σ H' => (∃ z3 z4, σ = [some (.ref t), some (.str (S c)), some (.ref D), z3, z4]) ∧ ∃ acc G, TO K sc t H D (.lst acc) G H' ∧ BefP K c.length i acc G)
      ⟨⟨_, _, rfl⟩, [], _, t2, [], .nil, rfl, fun x hx => (nomatch hx)⟩ ?_ ?_⟩
    · rintro i σ H3 hi ⟨⟨z3, z4, rfl⟩, acc, G, tO, bs, hA, hl, hb⟩
      have hi6 : i < 6 := by omega
      have hal := hA.length
      rw [List.length_map] at hal
      walk_at "rd"
      refine ⟨szle (by rw [S_length]; omega), ?_⟩
      refine ⟨_, _, rfl, rfl, ?_⟩
      refine ⟨_, _, rfl, t, sc, c.length - 1, rfl, vint (by rw [S_length]; omega), by omega, by omega, tO.tp, fun one H4 h1 s4 hT4 => ?_⟩
      have t4 := tO.read hDt s4 hT4
      refine ⟨_, rfl, .inl ⟨rfl, _, sqL_of t4.e⟩, ?_⟩
      walk_at "rd"
      refine ⟨szle (by rw [S_length]; omega), ?_⟩
      refine ⟨_, _, rfl, rfl, ?_⟩
      walk_at "rd"
      refine ⟨t, sc, c.length - 1 - one, rfl, vint (by rw [S_length]; omega), by omega, by omega, t4.tp, fun d5 H5 h5 s5 hT5 => ?_⟩
      have t5 := t4.read hDt s5 hT5
      walk_at "rd"
      refine ⟨by show 2 ≤ sizeLine; decide, fun tp htp => ?_⟩
      have t6 := t5.more (same_new (o := .tup [.int (one : Int), .int ((one : Int) + 1 + (d5 : Int))]) htp)
      obtain ⟨G2, t7, sG, hG2⟩ := t6.grow hDt (.inl .lst)
      refine ⟨D, acc, _, rfl, rfl, t6.e, szlt (by omega), ⟨_, _, rfl⟩, _, G2, t7.set hT hDt, bs ++ [(one, one + 1 + d5)], ?_, by rw [List.length_append, hl] <;> rfl, fun x hx => ?_⟩
      · rw [List.map_append]
        exact (hA.mono sG).append (.cons (.tup (hG2 _ _ (sqT_of upd_same)) (.cons (.int _) (.cons (.int _) .nil))) .nil)
      · rcases List.mem_append.mp hx with hx | hx
        · exact hb x hx
        · rw [List.mem_singleton.mp hx]
          exact ⟨by show one < one + 1 + d5; omega, by show one + 1 + d5 < c.length; omega⟩
    · rintro σ H3 ⟨⟨z3, z4, rfl⟩, acc, G, tO, bs, hA, hl, hb⟩
      exact ⟨_, rfl, q D bs H3 tO.out tO.tp (.lst (sqL_of ((wo_ne hDt).trans tO.e)) (hA.mono tO.got)) (by omega) hb⟩
end K84
set_option maxHeartbeats 4000000
namespace K84
open PySem PySem.Spec PyProof.Rows L2
local macro_rules | `(tactic| walk_at "ix") => `(tactic| first | exact atI_nat (j := 0) rfl | exact atI_nat (j := 1) rfl | exact atI_nat (j := 2) rfl | exact atI_nat (j := 3) rfl | exact atI_nat (j := 4) rfl)
local macro_rules | `(tactic| walk_at "rd") => `(tactic| repeat (first
  | refine ⟨_, rfl, ?_⟩
  | refine ⟨rfl, ?_⟩
  | refine ⟨_, _, rfl, ?_⟩
  | refine ⟨_, _, rfl, rfl, ?_⟩
  | refine ⟨_, _, _, rfl, ?_⟩
  | refine ⟨_, _, _, _, rfl, ?_⟩
  | refine ⟨_, _, _, _, rfl, rfl, (by assumption), (by walk_at "ix"), ?_⟩
  | refine ⟨_, _, _, rfl, rfl, (by assumption), ?_⟩
  | refine ⟨.inl ⟨rfl, _, sqL_of (by assumption)⟩, ?_⟩
  | refine ⟨_, _, _, _, _, rfl, (by assumption), (by assumption), (by assumption), (by assumption), ?_⟩
  | refine ⟨_, _, _, _, _, rfl, .ty _, Tg.ty (by assumption), kit_ty (by first | exact kInt _ | exact kBool _ | exact kStr _ | exact kTup _ | exact kLst _ | exact kDct _), ?_⟩))
/- _law_refuses: _law_tape_here=0 _law_machine=1 _law_prices=2 _law_rows_here=3 _law_code_here=4 _law_befores_here=5 _law_which=6 _law_kind=7 _law_odd=8 _law_pairs=9 _law_at=10 _law_due_here=11 _law_told=12; cells []; calls ['_law_asked', '_law_due', '_law_pick']; builtins ['list', 'len'] -/
abbrev s_l_refuses : Stmt := top 86
theorem sc_l_refuses : FnScope ["_law_tape_here", "_law_machine", "_law_prices", "_law_rows_here", "_law_code_here", "_law_befores_here", "_law_which", "_law_kind", "_law_odd", "_law_pairs", "_law_at", "_law_due_here", "_law_told"] ["_law_tape_here", "_law_machine", "_law_prices", "_law_rows_here", "_law_code_here", "_law_befores_here"] (defScope s_l_refuses) := ⟨rfl, rfl, rfl, by decide +kernel, rfl, by decide +kernel, by decide +kernel⟩
theorem bools_can : ∀ {bs : List Bool}, PyData.canLayAll0 (bs.map .bool) = true ∧ PyData.depthAll (bs.map .bool) = 0
  | [] => ⟨rfl, rfl⟩
  | b :: bs => by
    obtain ⟨h1, h2⟩ := bools_can (bs := bs)
    refine ⟨?_, ?_⟩
    · show (PyData.canLay0 (.bool b) && PyData.canLayAll0 (bs.map .bool)) = true
      rw [h1]
      rfl
    · show max (PyData.depth (.bool b)) (PyData.depthAll (bs.map .bool)) = 0
      rw [h2]
      simp [PyData.depth]
theorem told_shaped : SeqAt.shaped (.tuple [.str "told", .none]) = true := by
  simp [SeqAt.shaped, PyData.canLay0, PyData.canLayAll0, PyData.depth, PyData.depthAll]
  decide +kernel
theorem refused_shaped {bs : List Bool} : SeqAt.shaped (.tuple [.str "refused", .list (bs.map PyData.bool)]) = true := by
  obtain ⟨h1, h2⟩ := bools_can (bs := bs)
  simp [SeqAt.shaped, PyData.canLay0, PyData.canLayAll0, PyData.depth, PyData.depthAll, h1, h2]
  decide +kernel
theorem dp_bools {K : PySem.W.Frag} {G : Hp} : ∀ (xs : List Bool), DpAll K G (xs.map V.bl) (xs.map PyData.bool)
  | [] => .nil
  | x :: xs => .cons (.bl x) (dp_bools xs)
/-- the objects of a turn -/
structure RfO (K : PySem.W.Frag) (H : Hp) (m p : V) (r : Wd) (ans w mm : Nat) (M : Mv) (tb : Wd → Fq) : Prop where
  m : MaO K H m r ans M
  p : PrO K H p r w tb mm
  w1 : 1 ≤ w
  mm : mm ≤ 200
  mv : MvOk M r ans
  rr : RowsOk r
theorem RfO.mono {K : PySem.W.Frag} {H H' : Hp} {m p : V} {r : Wd} {ans w mm : Nat} {M : Mv} {tb : Wd → Fq} (s : Same H H') (h : RfO K H m p r ans w mm M tb) : RfO K H' m p r ans w mm M tb :=
  ⟨h.m.mono s, h.p.mono s, h.w1, h.mm, h.mv, h.rr⟩
theorem ref3 {P : Program} {w : World} {K : PySem.W.Frag} {mg : Str → Option Value} {base : Heap} (T : Tx K mg) (c_l_asked : Cl CX0 P w K mg base 9 "_law_asked" (sp_l_asked K)) (c_l_due : Cl CX0 P w K mg base 3 "_law_due" (sp_l_due K)) (c_l_pick : Cl CX0 P w K mg base 1 "_law_pick" (sp_l_pick K)) {f : Addr} {cdv : Value} {A : Around} {outer : List Env} {s : Shared} {H : Hp} {E : XK} (hr : Room 9 (A.deeper (envOfC "_law_refuses" (defScope s_l_refuses) s.heap.objs.size f cdv))) {Q : VK} :
    ∃ tr, PSs (cxOf CX0 P w K mg base ["_law_tape_here", "_law_machine", "_law_prices", "_law_rows_here", "_law_code_here", "_law_befores_here", "_law_which", "_law_kind", "_law_odd", "_law_pairs", "_law_at", "_law_due_here", "_law_told"] "_law_refuses" (defScope s_l_refuses) f cdv A outer s H E).nox ((defBody s_l_refuses).drop 6) tr ∧ ∀ σ H', (∃ (t : Addr) (m p cv bv : V) (r : Wd) (which ans ww mm : Nat) (M : Mv) (tb : Wd → Fq) (dt et : Th) (z7 z8 z9 z10 z11 z12 : Option V),
      σ = [some (.ref t), some m, some p, some (.str (S r)), some cv, some bv, some (.int which), z7, z8, z9, z10, z11, z12] ∧ which ≤ 4 ∧ RfO K H' m p r ans ww mm M tb ∧ Tg K H' cv dt ∧ Tg K H' bv et ∧ Few dt et ∧ FewL dt ∧
      ∀ H2, Same H' H2 → Q (.bl true) H2) → tr { nx := fun _ H' => Q .non H', rt := Q } σ H' := by
  refine ⟨_, (pss_cons (ps_set (i := 11) sc_l_refuses.nd rfl (Or.inl rfl) (pe_cl c_l_due hr (by decide) pass0 (pa_cons (pv 6) (pa_cons (pv 3) (pa_cons (pv 4) (pa_cons (pv 5) pa_nil))))))
      (pss_cons (ps_set (i := 12) sc_l_refuses.nd rfl (Or.inl rfl) (pe_cl c_l_asked hr (by decide) pass0 (pa_cons (pv 6) (pa_cons (pv 1) (pa_cons (pv 2) (pa_cons (pv 4) (pa_cons (pv 5) pa_nil)))))))
      (pss_one (ps_ret (pe_cmpR (op_eqD hr.units) (pv 12) (pe_ifExp (pt_cmpR op_isN (pv 11) pe_non (nomark _)) (pe_tup (pa_cons pe_str (pa_cons pe_non pa_nil))) (pe_tup (pa_cons pe_str (pa_cons (pv 11) pa_nil)))) (nomark _)))))), ?_⟩
  rintro σ H1 ⟨t, m, p, cv, bv, r, which, ans, ww, mm, M, tb, dt, et, z7, z8, z9, z10, z11, z12, rfl, hwh, hO, gd, ge, hF, hL, q⟩
  have hA : ansB which r r dt et = dueB which r dt et := if_pos rfl
  refine ⟨_, rfl, _, rfl, _, rfl, _, rfl, _, _, _, _, rfl, which, r, dt, et, rfl, rfl, gd, ge, hF, ?_⟩
  refine ⟨fun hd H2 s2 => ?_, fun bs hd l H2 s2 el => ?_⟩
  · have O2 := hO.mono s2
    rw [hd] at hA
    refine ⟨_, rfl, _, rfl, _, rfl, _, rfl, _, rfl, _, _, _, _, _, rfl, which, r, r, ans, ww, mm, M, tb, dt, et, rfl, hwh, .inl rfl, O2.m, O2.p, O2.w1, O2.mm, gd.mono s2, ge.mono s2, O2.mv, O2.rr, hF, hL, ?_, ?_⟩
    · intro _ u H3 s3 hu
      refine ⟨_, rfl, _, rfl, rfl, ?_⟩
      refine ⟨_, rfl, iteT ?_⟩
      refine ⟨by show 2 ≤ sizeLine; decide, fun v hv => ?_⟩
      refine ⟨.tuple [.str "told", .none], .tuple [.str "told", .none], .tup ((same_new hv).seqT hu) (.cons (.str _) (.cons .non .nil)), .tup (sqT_of upd_same) (.cons (.str _) (.cons .non .nil)), told_shaped, told_shaped, ?_⟩
      rw [SeqAt.eqv_refl _ (SeqAt.canLay_of_shaped told_shaped)]
      exact q _ (s2.trans (s3.trans (same_new hv)))
    · intro bs hb
      rw [hA] at hb
      cases hb
  · have O2 := hO.mono s2
    rw [hd] at hA
    refine ⟨_, rfl, _, rfl, _, rfl, _, rfl, _, rfl, _, _, _, _, _, rfl, which, r, r, ans, ww, mm, M, tb, dt, et, rfl, hwh, .inl rfl, O2.m, O2.p, O2.w1, O2.mm, gd.mono s2, ge.mono s2, O2.mv, O2.rr, hF, hL, ?_, ?_⟩
    · intro hb
      rw [hA] at hb
      cases hb
    · intro bs2 hb u l2 H3 s3 hu hl2
      rw [hA] at hb
      cases hb
      refine ⟨_, rfl, _, rfl, rfl, ?_⟩
      refine ⟨_, rfl, iteF ?_⟩
      refine ⟨_, rfl, by show 2 ≤ sizeLine; decide, fun v hv => ?_⟩
      refine ⟨.tuple [.str "refused", .list (bs.map PyData.bool)], .tuple [.str "refused", .list (bs.map PyData.bool)], .tup ((same_new hv).seqT hu) (.cons (.str _) (.cons (.lst (sqL_of ((same_new hv) _ _ hl2)) (dp_bools bs)) .nil)), .tup (sqT_of upd_same) (.cons (.str _) (.cons (.lst (sqL_of ((same_new hv) _ _ (s3 _ _ el))) (dp_bools bs)) .nil)), refused_shaped, refused_shaped, ?_⟩
      rw [SeqAt.eqv_refl _ (SeqAt.canLay_of_shaped refused_shaped)]
      exact q _ (s2.trans (s3.trans (same_new hv)))
/-- the codes and the pairs of places that stand ready -/
structure RdyC (d : Th) : Prop where
  c : ∀ c, d = .str (S c) → c.length ≤ 9
  l : FewL d
theorem RdyC.few {d e : Th} (h : RdyC d) (h1 : ∀ l, e ≠ .tup l) (h2 : ∀ l, e = .lst l → l.length ≤ 1000) : Few d e := ⟨h.c, h1, h2⟩
theorem cutN_to {l : List V} {k : Nat} (h : k ≤ l.length) : cutV l none (some (k : Int)) = l.take k := by
  have := cutV_to h
  rwa [Int.zero_add] at this
theorem cutN_from {l : List V} {k : Nat} (h : k ≤ l.length) : cutV l (some (k : Int)) none = l.drop k := by
  have := cutV_from h
  rwa [Int.zero_add] at this
/-- a new object beside the tape -/
theorem tape_new {K : PySem.W.Frag} {H H1 : Hp} {sc t p : Addr} {o : HO} (s : Same (wo H1 t) (wo H t)) (T : Tp K sc H t) (h : H p = none) : Same (wo H1 t) (wo (upd H p o) t) ∧ Tp K sc (upd H p o) t ∧ p ≠ t ∧ upd H p o p = some o :=
  ⟨s.trans (wo_mono (same_new h)), T.same (same_new h), T.ne h, upd_same⟩
theorem ref2 {P : Program} {w : World} {K : PySem.W.Frag} {mg : Str → Option Value} {base : Heap} (T : Tx K mg) (c_l_asked : Cl CX0 P w K mg base 9 "_law_asked" (sp_l_asked K)) (c_l_due : Cl CX0 P w K mg base 3 "_law_due" (sp_l_due K)) (c_l_pick : Cl CX0 P w K mg base 1 "_law_pick" (sp_l_pick K)) {f : Addr} {cdv : Value} {A : Around} {outer : List Env} {s : Shared} {H : Hp} {E : XK} (hr : Room 9 (A.deeper (envOfC "_law_refuses" (defScope s_l_refuses) s.heap.objs.size f cdv))) {Q : VK} :
    ∃ tr, PSs (cxOf CX0 P w K mg base ["_law_tape_here", "_law_machine", "_law_prices", "_law_rows_here", "_law_code_here", "_law_befores_here", "_law_which", "_law_kind", "_law_odd", "_law_pairs", "_law_at", "_law_due_here", "_law_told"] "_law_refuses" (defScope s_l_refuses) f cdv A outer s H E).nox ((defBody s_l_refuses).drop 5) tr ∧ ∀ σ H', (∃ (t sc bp pp : Addr) (m p cv : V) (r : Wd) (which kind ans ww mm : Nat) (M : Mv) (tb : Wd → Fq) (dt : Th) (eds pds : List Th) (bxs pxs : List V) (z8 z10 z11 z12 : Option V),
      σ = [some (.ref t), some m, some p, some (.str (S r)), some cv, some (.ref bp), some (.int which), some (.int kind), z8, some (.ref pp), z10, z11, z12] ∧ which ≤ 4 ∧ Tp K sc H' t ∧ RfO K (wo H' t) m p r ans ww mm M tb ∧ Tg K (wo H' t) cv dt ∧ RdyC dt ∧
      SqL K (wo H' t) bp bxs ∧ TgAll K (wo H' t) bxs eds ∧ eds.length ≤ 6 ∧ SqL K (wo H' t) pp pxs ∧ TgAll K (wo H' t) pxs pds ∧ pds.length = 12 ∧
      ∀ H2, Same (wo H' t) (wo H2 t) → Tp K sc H2 t → Q (.bl true) H2) → tr { nx := fun _ H' => Q .non H', rt := Q } σ H' := by
  obtain ⟨tr3, hp3, h3⟩ := ref3 (Q := Q) T c_l_asked c_l_due c_l_pick hr
  refine ⟨_, (pss_cons (ps_if (pt_cmpR op_gt (pv 7) pe_int (nomark _)) (pss_cons (ps_set (i := 10) sc_l_refuses.nd rfl (Or.inl rfl) (pe_cl c_l_pick hr (by decide) pass0 (pa_cons (pv 0) (pa_cons (pe_op op_add (pe_callB call_len_seq (by rfl) T.len (by decide +kernel) (pa_cons (pv 5) pa_nil)) pe_int) pa_nil))))
      (pss_cons (ps_set (i := 5) sc_l_refuses.nd rfl (Or.inl rfl) (pe_op op_cat (pe_op op_cat (pe_slice sl_list (pe_callTy call_list_of (by rfl) T.list_ (by decide +kernel) (pa_cons (pv 5) pa_nil)) po_none (po_some (pv 10))) (pe_lst (pa_cons (pe_ix ix_list (pv 9) (pe_cl c_l_pick hr (by decide) pass0 (pa_cons (pv 0) (pa_cons pe_int pa_nil))) (fun _ _ => rfl)) pa_nil))) (pe_slice sl_list (pe_callTy call_list_of (by rfl) T.list_ (by decide +kernel) (pa_cons (pv 5) pa_nil)) (po_some (pv 10)) po_none)))
      (pss_one (ps_if (pt_cmpR op_eq (pe_cl c_l_pick hr (by decide) pass0 (pa_cons (pv 0) (pa_cons pe_int pa_nil))) pe_int (nomark _)) (pss_one (ps_set (i := 5) sc_l_refuses.nd rfl (Or.inl rfl) (pe_ix ix_list (pe_lst (pa_cons pe_non (pa_cons pe_str (pa_cons pe_int (pa_cons pe_dnewK (pa_cons pe_str (pa_cons pe_bl pa_nil))))))) (pe_cl c_l_pick hr (by decide) pass0 (pa_cons (pv 0) (pa_cons pe_int pa_nil))) (fun _ _ => rfl)))) pss_nil)))) pss_nil)
      hp3), ?_⟩
  rintro σ H1 ⟨t, sc, bp, pp, m, p, cv, r, which, kind, ans, ww, mm, M, tb, dt, eds, pds, bxs, pxs, z8, z10, z11, z12, rfl, hwh, hT, hO, gd, hd, hb, hbT, hel, hpp, hpT, hpl, q⟩
  have fin : ∀ (bv : V) (et : Th) (z10 : Option V) H2, Same (wo H1 t) (wo H2 t) → Tp K sc H2 t → Tg K (wo H2 t) bv et → (∀ l, et ≠ .tup l) → (∀ l, et = .lst l → l.length ≤ 1000) →
      tr3 { nx := fun _ H' => Q .non H', rt := Q } [some (.ref t), some m, some p, some (.str (S r)), some cv, some bv, some (.int which), some (.int kind), z8, some (.ref pp), z10, z11, z12] H2 := fun bv et z10 H2 s2 T2 g2 n1 n2 =>
    h3 _ _ ⟨t, m, p, cv, bv, r, which, ans, ww, mm, M, tb, dt, et, _, _, _, _, _, _, rfl, hwh, hO.mono (s2.trans wo_same), gd.mono (s2.trans wo_same), g2.mono wo_same, hd.few n1 n2, hd.l, fun H3 s3 => q H3 (s2.trans (wo_mono s3)) (T2.same s3)⟩
  have hbl := hbT.length
  refine ⟨_, rfl, _, _, rfl, rfl, _, rfl, ?_⟩
  refine ifB (fun g1 => ?_) (fun g1 => ?_)
  · refine ⟨_, rfl, _, rfl, bp, bxs, rfl, .inl (wo_same.seq hb), ?_⟩
    refine ⟨_, _, rfl, rfl, ?_⟩
    refine ⟨_, _, rfl, t, sc, bxs.length + 1, rfl, rfl, by omega, by omega, hT, fun at_ H2 hat s2 T2 => ?_⟩
    refine ⟨_, rfl, bp, bxs, rfl, .inl (wo_same.seq (s2.seq hb)), fun l1 hl1 => ?_⟩
    obtain ⟨s3, T3, n1, e1⟩ := tape_new (o := .lst bxs) s2 T2 hl1
    generalize upd H2 l1 (.lst bxs) = H3 at s3 T3 e1 ⊢
    refine ⟨_, rfl, _, rfl, l1, bxs, rfl, sqL_of e1, fun l2 hl2 => ?_⟩
    obtain ⟨s4, T4, n2, e2⟩ := tape_new (o := .lst (cutV bxs none (some (at_ : Int)))) s3 T3 hl2
    generalize upd H3 l2 (.lst (cutV bxs none (some (at_ : Int)))) = H4 at s4 T4 e2 ⊢
    rw [cutN_to (by omega)] at e2
    refine ⟨_, rfl, _, rfl, ?_⟩
    refine ⟨_, _, rfl, t, sc, 12, rfl, rfl, by decide, by decide, T4, fun ix H5 hix s5 T5 => ?_⟩
    have e25 := (past s5 wo_at wo_same n2 e2).1
    replace s5 := s4.trans s5
    have hpl2 := hpT.length
    have hix2 : ix < pxs.length := by omega
    obtain ⟨xd, hxd, gx⟩ := (hpT.mono s5).at (List.getElem?_eq_getElem hix2)
    refine ⟨pp, pxs, _, pxs[ix], rfl, rfl, wo_same.seq (s5.seq hpp), atI_nat (List.getElem?_eq_getElem hix2), ?_⟩
    refine ⟨by show 1 ≤ sizeLine; decide, fun l3 hl3 => ?_⟩
    obtain ⟨s6, T6, n3, e3⟩ := tape_new (o := .lst [pxs[ix]]) s5 T5 hl3
    have e26 := same_new (o := .lst [pxs[ix]]) hl3 _ _ e25
    have gx6 := gx.mono (wo_mono (t := t) (same_new (o := .lst [pxs[ix]]) hl3))
    generalize upd H5 l3 (.lst [pxs[ix]]) = H6 at s6 T6 e3 e26 gx6 ⊢
    refine ⟨l2, l3, _, _, rfl, rfl, e26, e3, szle (by rw [List.length_take]; show _ + 1 ≤ _; omega), fun l4 hl4 => ?_⟩
    obtain ⟨s7, T7, n4, e4⟩ := tape_new (o := .lst (bxs.take at_ ++ [pxs[ix]])) s6 T6 hl4
    have gx7 := gx6.mono (wo_mono (t := t) (same_new (o := .lst (bxs.take at_ ++ [pxs[ix]])) hl4))
    generalize upd H6 l4 (.lst (bxs.take at_ ++ [pxs[ix]])) = H7 at s7 T7 e4 gx7 ⊢
    refine ⟨_, rfl, bp, bxs, rfl, .inl (wo_same.seq (s7.seq hb)), fun l5 hl5 => ?_⟩
    obtain ⟨s8, T8, n5, e5⟩ := tape_new (o := .lst bxs) s7 T7 hl5
    have e48 := same_new (o := .lst bxs) hl5 _ _ e4
    have gx8 := gx7.mono (wo_mono (t := t) (same_new (o := .lst bxs) hl5))
    generalize upd H7 l5 (.lst bxs) = H8 at s8 T8 e5 e48 gx8 ⊢
    refine ⟨_, rfl, _, rfl, l5, bxs, rfl, sqL_of e5, fun l6 hl6 => ?_⟩
    obtain ⟨s9, T9, n6, e6⟩ := tape_new (o := .lst (cutV bxs (some (at_ : Int)) none)) s8 T8 hl6
    have e49 := same_new (o := .lst (cutV bxs (some (at_ : Int)) none)) hl6 _ _ e48
    have gx9 := gx8.mono (wo_mono (t := t) (same_new (o := .lst (cutV bxs (some (at_ : Int)) none)) hl6))
    generalize upd H8 l6 (.lst (cutV bxs (some (at_ : Int)) none)) = H9 at s9 T9 e6 e49 gx9 ⊢
    rw [cutN_from (by omega)] at e6
    refine ⟨l4, l6, _, _, rfl, rfl, e49, e6, szle (by rw [List.length_append, List.length_take, List.length_drop]; show _ + 1 + _ ≤ _; omega), fun l7 hl7 => ?_⟩
    obtain ⟨sA, TA, n7, e7⟩ := tape_new (o := .lst (bxs.take at_ ++ [pxs[ix]] ++ bxs.drop at_)) s9 T9 hl7
    have gxA := gx9.mono (wo_mono (t := t) (same_new (o := .lst (bxs.take at_ ++ [pxs[ix]] ++ bxs.drop at_)) hl7))
    generalize upd H9 l7 (.lst (bxs.take at_ ++ [pxs[ix]] ++ bxs.drop at_)) = HA at sA TA e7 gxA ⊢
    have gL : Tg K (wo HA t) (.ref l7) (.lst (eds.take at_ ++ [xd] ++ eds.drop at_)) := by
      have hA := hbT.mono sA
      exact .lst (sqL_of ((wo_ne n7).trans e7)) (((hA.take at_).append (.cons gxA .nil)).append (hA.drop at_))
    have hlen : (eds.take at_ ++ [xd] ++ eds.drop at_).length ≤ 1000 := by
      rw [List.length_append, List.length_append, List.length_take, List.length_drop]
      show _ + 1 + _ ≤ _
      omega
    refine ⟨_, rfl, _, _, rfl, t, sc, 4, rfl, rfl, by decide, by decide, TA, fun d4 HB hd4 sB TB => ?_⟩
    refine ⟨rfl, _, rfl, ?_⟩
    have gL2 := gL.mono sB
    replace sB := sA.trans sB
    refine ifB (fun g2 => ?_) (fun g2 => ?_)
    · intro dp hdp
      obtain ⟨sC, TC, nC, eC⟩ := tape_new (o := .dK []) sB TB hdp
      generalize upd HB dp (.dK []) = HC at sC TC eC ⊢
      refine ⟨by show 6 ≤ sizeLine; decide, fun l8 hl8 => ?_⟩
      obtain ⟨sD, TD, nD, eD⟩ := tape_new (o := .lst [.non, .str "", .int 0, .ref dp, .str "01", .bl true]) sC TC hl8
      have eC2 := same_new (o := .lst [.non, .str "", .int 0, .ref dp, .str "01", .bl true]) hl8 _ _ eC
      generalize upd HC l8 (.lst [.non, .str "", .int 0, .ref dp, .str "01", .bl true]) = HD at sD TD eD eC2 ⊢
      refine ⟨_, rfl, _, _, rfl, t, sc, 6, rfl, rfl, by decide, by decide, TD, fun d6 HE hd6 sE TE => ?_⟩
      have eDE := (past sE wo_at wo_same nD eD).1
      have eCE := (past sE wo_at wo_same nC eC2).1
      replace sE := sD.trans sE
      obtain ⟨v, et, hat6, gv, n1, n2⟩ : ∃ v et, atI [.non, .str "", .int 0, .ref dp, .str "01", .bl true] (d6 : Int) = some v ∧ Tg K (wo HE t) v et ∧ (∀ l, et ≠ .tup l) ∧ (∀ l, et = .lst l → l.length ≤ 1000) := by
        have h6 : d6 = 0 ∨ d6 = 1 ∨ d6 = 2 ∨ d6 = 3 ∨ d6 = 4 ∨ d6 = 5 := by omega
        rcases h6 with rfl | rfl | rfl | rfl | rfl | rfl
        · exact ⟨_, _, rfl, .non, (fun _ z => nomatch z), fun _ z => nomatch z⟩
        · exact ⟨_, _, rfl, .str _, (fun _ z => nomatch z), fun _ z => nomatch z⟩
        · exact ⟨_, _, rfl, .int _, (fun _ z => nomatch z), fun _ z => nomatch z⟩
        · exact ⟨_, _, rfl, .dct ((wo_ne nC).trans eCE), (fun _ z => nomatch z), fun _ z => nomatch z⟩
        · exact ⟨_, _, rfl, .str _, (fun _ z => nomatch z), fun _ z => nomatch z⟩
        · exact ⟨_, _, rfl, .bl _, (fun _ z => nomatch z), fun _ z => nomatch z⟩
      refine ⟨l8, _, _, v, rfl, rfl, sqL_of eDE, hat6, ?_⟩
      exact fin v et _ HE sE TE gv n1 n2
    · exact fin (.ref l7) _ _ HB sB TB gL2 (fun _ z => nomatch z) fun l e => by cases e; exact hlen
  · exact fin (.ref bp) (.lst eds) _ H1 (L2.Same.refl _) hT (.lst hb hbT) (fun _ z => nomatch z) fun l e => by cases e; omega
end K84
set_option maxHeartbeats 4000000
namespace K84
open PySem PySem.Spec PyProof.Rows L2
local macro_rules | `(tactic| walk_at "ix") => `(tactic| first | exact atI_nat (j := 0) rfl | exact atI_nat (j := 1) rfl | exact atI_nat (j := 2) rfl | exact atI_nat (j := 3) rfl | exact atI_nat (j := 4) rfl)
local macro_rules | `(tactic| walk_at "rd") => `(tactic| repeat (first
  | refine ⟨_, rfl, ?_⟩
  | refine ⟨rfl, ?_⟩
  | refine ⟨_, _, rfl, ?_⟩
  | refine ⟨_, _, rfl, rfl, ?_⟩
  | refine ⟨_, _, _, rfl, ?_⟩
  | refine ⟨_, _, _, _, rfl, ?_⟩
  | refine ⟨_, _, _, _, rfl, rfl, (by assumption), (by walk_at "ix"), ?_⟩
  | refine ⟨_, _, _, rfl, rfl, (by assumption), ?_⟩
  | refine ⟨.inl ⟨rfl, _, sqL_of (by assumption)⟩, ?_⟩
  | refine ⟨_, _, _, _, _, rfl, (by assumption), (by assumption), (by assumption), (by assumption), ?_⟩
  | refine ⟨_, _, _, _, _, rfl, .ty _, Tg.ty (by assumption), kit_ty (by first | exact kInt _ | exact kBool _ | exact kStr _ | exact kTup _ | exact kLst _ | exact kDct _), ?_⟩))
theorem once_of : ∀ l : Wd, ∃ L : Wd, L.Nodup ∧ L.length ≤ l.length ∧ ∀ x ∈ l, x ∈ L
  | [] => ⟨[], List.nodup_nil, Nat.le_refl _, fun _ h => h⟩
  | a :: l => by
    obtain ⟨L, h1, h2, h3⟩ := once_of l
    by_cases h : a ∈ L
    · exact ⟨L, h1, Nat.le_succ_of_le h2, fun x hx => (List.mem_cons.mp hx).elim (fun e => e ▸ h) (h3 x)⟩
    · exact ⟨a :: L, List.nodup_cons.mpr ⟨h, h1⟩, Nat.succ_le_succ h2, fun x hx => (List.mem_cons.mp hx).elim (fun e => e ▸ List.mem_cons_self) fun hx => List.mem_cons_of_mem _ (h3 x hx)⟩
theorem rdy_of {c L0 : Wd} (h9 : c.length ≤ 9) (hl : L0.length ≤ 5) (h : ∀ x ∈ c, x ∈ L0) : RdyC (.str (S c)) := by
  refine ⟨fun c2 e => ?_, fun c2 e _ => ?_⟩
  · rw [← S_inj (Th.str.inj e)]
    exact h9
  · obtain ⟨L, h1, h2, h3⟩ := once_of L0
    rw [← S_inj (Th.str.inj e)]
    exact ⟨L, h1, by omega, fun x hx => h3 x (h x hx)⟩
theorem rdy_no {d : Th} (h : ∀ c, d ≠ .str c) : RdyC d := ⟨fun c e => absurd e (h _), fun c e => absurd e (h _)⟩
def sp_l_refuses (K : PySem.W.Frag) : Sp := sp6 fun a m p rr c b H Q _ => ∃ (t sc bp : Addr) (r : Wd) (ans ww mm : Nat) (M : Mv) (tb : Wd → Fq) (c0 : Wd) (eds : List Th) (bxs : List V), a = .ref t ∧ rr = .str (S r) ∧ c = .str (S c0) ∧ b = .ref bp ∧ Tp K sc H t ∧ RfO K (wo H t) m p r ans ww mm M tb ∧
  (∀ x ∈ c0, x ∈ r) ∧ c0.length ≤ 7 ∧ SqL K (wo H t) bp bxs ∧ TgAll K (wo H t) bxs eds ∧ eds.length ≤ 6 ∧ ∀ H', Same (wo H t) (wo H' t) → Tp K sc H' t → Q (.bl true) H'
theorem ok_l_refuses {P : Program} {w : World} {K : PySem.W.Frag} {mg : Str → Option Value} {base : Heap} (D : Df K mg "_law_refuses" s_l_refuses) (T : Tx K mg) (c_l_asked : Cl CX0 P w K mg base 9 "_law_asked" (sp_l_asked K)) (c_l_due : Cl CX0 P w K mg base 3 "_law_due" (sp_l_due K)) (c_l_pick : Cl CX0 P w K mg base 1 "_law_pick" (sp_l_pick K)) : Cl CX0 P w K mg base 10 "_law_refuses" (sp_l_refuses K) := by
  refine D.ok6 (k := 9) sc_l_refuses (fun _ _ _ _ _ _ us hl => match us, hl with | [_, _, _, _, _, _], _ => rfl) (fun f cdv A outer s H a m p rr c b Q E hr h => ?_)
  obtain ⟨tr2, hp2, h2⟩ := ref2 (outer := outer) (H := H) (E := E) (Q := Q) T c_l_asked c_l_due c_l_pick hr
  refine ⟨_, PSs.nox ((pss_cons (ps_set (i := 6) sc_l_refuses.nd rfl (Or.inl rfl) (pe_cl c_l_pick hr (by decide) pass0 (pa_cons (pv 0) (pa_cons pe_int pa_nil))))
      (pss_cons (ps_set (i := 7) sc_l_refuses.nd rfl (Or.inl rfl) (pe_cl c_l_pick hr (by decide) pass0 (pa_cons (pv 0) (pa_cons pe_int pa_nil))))
      (pss_cons (ps_set (i := 8) sc_l_refuses.nd rfl (Or.inl rfl) (pe_lst (pa_cons pe_non (pa_cons (pe_op op_add_str (pv 4) pe_str) (pa_cons (pe_op op_add_str pe_str (pv 4)) (pa_cons (pe_lst (pa_cons (pv 4) pa_nil)) (pa_cons pe_int (pa_cons (pe_op op_repS (pe_slice sl_str (pv 3) po_none (po_some pe_int)) pe_int) (pa_cons (pe_op op_add_str (pv 4) pe_str) (pa_cons (pe_slice sl_str (pe_op op_repS (pe_slice sl_str (pv 3) po_none (po_some pe_int)) pe_int) (po_some (pe_cl c_l_pick hr (by decide) pass0 (pa_cons (pv 0) (pa_cons pe_int pa_nil)))) po_none) (pa_cons pe_bl pa_nil)))))))))))
      (pss_cons (ps_set (i := 9) sc_l_refuses.nd rfl (Or.inl rfl) (pe_lst (pa_cons pe_non (pa_cons (pe_tup (pa_cons pe_int (pa_cons pe_int pa_nil))) (pa_cons (pe_tup (pa_cons pe_int (pa_cons pe_int pa_nil))) (pa_cons (pe_tup (pa_cons pe_int (pa_cons (pe_callB call_len_str (by rfl) T.len (by decide +kernel) (pa_cons (pv 4) pa_nil)) pa_nil))) (pa_cons (pe_tup (pa_cons (pe_un un_neg pe_int) (pa_cons pe_int pa_nil))) (pa_cons (pe_lst (pa_cons pe_int (pa_cons pe_int pa_nil))) (pa_cons (pe_tup (pa_cons pe_int (pa_cons pe_int (pa_cons pe_int pa_nil)))) (pa_cons (pe_tup (pa_cons pe_bl (pa_cons pe_int pa_nil))) (pa_cons pe_str (pa_cons pe_int (pa_cons (pe_tup (pa_cons pe_int (pa_cons (pe_op op_pow pe_int pe_int) pa_nil))) (pa_cons (pe_tup (pa_cons pe_str (pa_cons pe_int pa_nil))) pa_nil))))))))))))))
      (pss_cons (ps_if (pt_cmpR op_lt (pv 7) pe_int (nomark _)) (pss_one (ps_set (i := 4) sc_l_refuses.nd rfl (Or.inl rfl) (pe_ix ix_list (pv 8) (pe_cl c_l_pick hr (by decide) pass0 (pa_cons (pv 0) (pa_cons pe_int pa_nil))) (fun _ _ => rfl)))) pss_nil)
      hp2)))))), ?_⟩
  obtain ⟨t, sc, bp, r, ans, ww, mm, M, tb, c0, eds, bxs, rfl, rfl, rfl, rfl, hT, hO, hc, hl, hb, hbT, hel, q⟩ := h
  have hr1 := hO.rr.pos
  have hr3 := hO.rr.le
  refine ⟨_, rfl, _, _, rfl, t, sc, 5, rfl, rfl, by decide, by decide, hT, fun which H1 hwh s1 T1 => ?_⟩
  refine ⟨_, rfl, _, _, rfl, t, sc, 3, rfl, rfl, by decide, by decide, T1, fun kind H2 hkd s2 T2 => ?_⟩
  replace s2 := s1.trans s2
  have hcl : (S c0).length = c0.length := S_length c0
  have hrl : (S r).length = r.length := S_length r
  have eA : S c0 ++ (Str.ofString "A") = S (c0 ++ [65]) := by rw [show (Str.ofString "A" : Str) = S [65] by decide +kernel, S_app]
  have eB : (Str.ofString "!") ++ S c0 = S (33 :: c0) := by rw [show (Str.ofString "!" : Str) = S [33] by decide +kernel, S_app] <;> rfl
  have eC : S c0 ++ (Str.ofString "az") = S (c0 ++ [97, 122]) := by rw [show (Str.ofString "az" : Str) = S [97, 122] by decide +kernel, S_app]
  have eD : cutS (S r) none (some 1) = S (r.take 1) := cut_to (k := 1) hr1
  have lA : (Str.ofString "A" : Str).length = 1 := by decide +kernel
  have lB : (Str.ofString "!" : Str).length = 1 := by decide +kernel
  have lC : (Str.ofString "az" : Str).length = 2 := by decide +kernel
  have l9 : (List.replicate 9 (r.take 1)).flatten.length = 9 := by
    rw [List.length_flatten, List.map_replicate, List.sum_replicate_nat, List.length_take]
    omega
  refine ⟨_, rfl, _, _, rfl, rfl, szle (by omega), ?_⟩
  rw [eA]
  refine ⟨_, rfl, _, _, rfl, rfl, szle (by omega), ?_⟩
  rw [eB]
  refine ⟨_, rfl, by show 1 ≤ sizeLine; decide, fun lc hlc => ?_⟩
  obtain ⟨s3, T3, n3, e3⟩ := tape_new (o := .lst [.str (S c0)]) s2 T2 hlc
  generalize upd H2 lc (.lst [.str (S c0)]) = H3 at s3 T3 e3 ⊢
  refine ⟨_, rfl, _, rfl, _, rfl, szle (by omega), ?_⟩
  rw [eD]
  refine ⟨r.take 1, 8, rfl, rfl, by decide, by decide, by rw [List.length_take]; omega, ?_⟩
  refine ⟨_, rfl, _, _, rfl, rfl, szle (by omega), ?_⟩
  rw [eC]
  refine ⟨_, rfl, _, rfl, _, rfl, szle (by omega), ?_⟩
  rw [eD]
  refine ⟨r.take 1, 9, rfl, rfl, by decide, by decide, by rw [List.length_take]; omega, ?_⟩
  refine ⟨_, rfl, _, _, rfl, t, sc, 3, rfl, rfl, by decide, by decide, T3, fun dc Hc hdc sc1 Tc => ?_⟩
  have ec := (past sc1 wo_at wo_same n3 e3).1
  replace sc1 := s3.trans sc1
  refine ⟨_, rfl, _, rfl, szle (by rw [S_length, l9]; omega), ?_⟩
  rw [cut_from (by omega)]
  refine ⟨by show 9 ≤ sizeLine; decide, fun op hop => ?_⟩
  have glc : Tg K (wo Hc t) (.ref lc) (.lst [.str (S c0)]) := .lst (sqL_of ((wo_ne n3).trans ec)) (.cons (.str _) .nil)
  obtain ⟨s4, T4, n4, e4⟩ := tape_new (o := .lst [.non, .str (S (c0 ++ [65])), .str (S (33 :: c0)), .ref lc, .int 0, .str (S (List.replicate 8 (r.take 1)).flatten), .str (S (c0 ++ [97, 122])), .str (S ((List.replicate 9 (r.take 1)).flatten.drop dc)), .bl true]) sc1 Tc hop
  replace glc := glc.mono (wo_mono (t := t) (same_new (o := .lst [.non, .str (S (c0 ++ [65])), .str (S (33 :: c0)), .ref lc, .int 0, .str (S (List.replicate 8 (r.take 1)).flatten), .str (S (c0 ++ [97, 122])), .str (S ((List.replicate 9 (r.take 1)).flatten.drop dc)), .bl true]) hop))
  generalize upd Hc op (.lst [.non, .str (S (c0 ++ [65])), .str (S (33 :: c0)), .ref lc, .int 0, .str (S (List.replicate 8 (r.take 1)).flatten), .str (S (c0 ++ [97, 122])), .str (S ((List.replicate 9 (r.take 1)).flatten.drop dc)), .bl true]) = H4 at s4 T4 e4 glc ⊢
  refine ⟨by show 2 ≤ sizeLine; decide, fun p1 hp1 => ?_⟩
  obtain ⟨sk1, Tk1, nk1, ek1⟩ := tape_new (o := .tup [.int 1, .int 0]) s4 T4 hp1
  have m1 := wo_mono (t := t) (same_new (o := .tup [.int 1, .int 0]) hp1)
  generalize upd H4 p1 (.tup [.int 1, .int 0]) = K1 at sk1 Tk1 ek1 m1 ⊢
  have g1 : Tg K (wo K1 t) (.ref p1) (.tup [.int 1, .int 0]) := .tup (sqT_tape Tk1 (sqT_of ek1)) (.cons (.int _) (.cons (.int _) .nil))
  refine ⟨by show 2 ≤ sizeLine; decide, fun p2 hp2 => ?_⟩
  obtain ⟨sk2, Tk2, nk2, ek2⟩ := tape_new (o := .tup [.int 0, .int 0]) sk1 Tk1 hp2
  have m2 := wo_mono (t := t) (same_new (o := .tup [.int 0, .int 0]) hp2)
  generalize upd K1 p2 (.tup [.int 0, .int 0]) = K2 at sk2 Tk2 ek2 m2 ⊢
  have g2 : Tg K (wo K2 t) (.ref p2) (.tup [.int 0, .int 0]) := .tup (sqT_tape Tk2 (sqT_of ek2)) (.cons (.int _) (.cons (.int _) .nil))
  refine ⟨_, rfl, _, rfl, szle (by rw [S_length]; omega), ?_⟩
  rw [S_length]
  refine ⟨by show 2 ≤ sizeLine; decide, fun p3 hp3 => ?_⟩
  obtain ⟨sk3, Tk3, nk3, ek3⟩ := tape_new (o := .tup [.int 0, .int (c0.length : Int)]) sk2 Tk2 hp3
  have m3 := wo_mono (t := t) (same_new (o := .tup [.int 0, .int (c0.length : Int)]) hp3)
  generalize upd K2 p3 (.tup [.int 0, .int (c0.length : Int)]) = K3 at sk3 Tk3 ek3 m3 ⊢
  have g3 : Tg K (wo K3 t) (.ref p3) (.tup [.int 0, .int (c0.length : Int)]) := .tup (sqT_tape Tk3 (sqT_of ek3)) (.cons (.int _) (.cons (.int _) .nil))
  refine ⟨_, rfl, ?_⟩
  refine ⟨by show 2 ≤ sizeLine; decide, fun p4 hp4 => ?_⟩
  obtain ⟨sk4, Tk4, nk4, ek4⟩ := tape_new (o := .tup [.int (-1), .int 0]) sk3 Tk3 hp4
  have m4 := wo_mono (t := t) (same_new (o := .tup [.int (-1), .int 0]) hp4)
  generalize upd K3 p4 (.tup [.int (-1), .int 0]) = K4 at sk4 Tk4 ek4 m4 ⊢
  have g4 : Tg K (wo K4 t) (.ref p4) (.tup [.int (-1), .int 0]) := .tup (sqT_tape Tk4 (sqT_of ek4)) (.cons (.int _) (.cons (.int _) .nil))
  refine ⟨by show 2 ≤ sizeLine; decide, fun p5 hp5 => ?_⟩
  obtain ⟨sk5, Tk5, nk5, ek5⟩ := tape_new (o := .lst [.int 0, .int 1]) sk4 Tk4 hp5
  have m5 := wo_mono (t := t) (same_new (o := .lst [.int 0, .int 1]) hp5)
  generalize upd K4 p5 (.lst [.int 0, .int 1]) = K5 at sk5 Tk5 ek5 m5 ⊢
  have g5 : Tg K (wo K5 t) (.ref p5) (.lst [.int 0, .int 1]) := .lst (sqL_of ((wo_ne nk5).trans ek5)) (.cons (.int _) (.cons (.int _) .nil))
  refine ⟨by show 3 ≤ sizeLine; decide, fun p6 hp6 => ?_⟩
  obtain ⟨sk6, Tk6, nk6, ek6⟩ := tape_new (o := .tup [.int 0, .int 1, .int 2]) sk5 Tk5 hp6
  have m6 := wo_mono (t := t) (same_new (o := .tup [.int 0, .int 1, .int 2]) hp6)
  generalize upd K5 p6 (.tup [.int 0, .int 1, .int 2]) = K6 at sk6 Tk6 ek6 m6 ⊢
  have g6 : Tg K (wo K6 t) (.ref p6) (.tup [.int 0, .int 1, .int 2]) := .tup (sqT_tape Tk6 (sqT_of ek6)) (.cons (.int _) (.cons (.int _) (.cons (.int _) .nil)))
  refine ⟨by show 2 ≤ sizeLine; decide, fun p7 hp7 => ?_⟩
  obtain ⟨sk7, Tk7, nk7, ek7⟩ := tape_new (o := .tup [.bl true, .int 1]) sk6 Tk6 hp7
  have m7 := wo_mono (t := t) (same_new (o := .tup [.bl true, .int 1]) hp7)
  generalize upd K6 p7 (.tup [.bl true, .int 1]) = K7 at sk7 Tk7 ek7 m7 ⊢
  have g7 : Tg K (wo K7 t) (.ref p7) (.tup [.bl true, .int 1]) := .tup (sqT_tape Tk7 (sqT_of ek7)) (.cons (.bl _) (.cons (.int _) .nil))
  refine ⟨_, _, rfl, rfl, ⟨by decide, by decide⟩, ?_⟩
  refine ⟨by show 2 ≤ sizeLine; decide, fun p8 hp8 => ?_⟩
  obtain ⟨sk8, Tk8, nk8, ek8⟩ := tape_new (o := .tup [.int 0, .int (10 ^ (Int.toNat 30))]) sk7 Tk7 hp8
  have m8 := wo_mono (t := t) (same_new (o := .tup [.int 0, .int (10 ^ (Int.toNat 30))]) hp8)
  generalize upd K7 p8 (.tup [.int 0, .int (10 ^ (Int.toNat 30))]) = K8 at sk8 Tk8 ek8 m8 ⊢
  have g8 : Tg K (wo K8 t) (.ref p8) (.tup [.int 0, .int (10 ^ (Int.toNat 30))]) := .tup (sqT_tape Tk8 (sqT_of ek8)) (.cons (.int _) (.cons (.int _) .nil))
  refine ⟨by show 2 ≤ sizeLine; decide, fun p9 hp9 => ?_⟩
  obtain ⟨sk9, Tk9, nk9, ek9⟩ := tape_new (o := .tup [.str "0", .int 1]) sk8 Tk8 hp9
  have m9 := wo_mono (t := t) (same_new (o := .tup [.str "0", .int 1]) hp9)
  generalize upd K8 p9 (.tup [.str "0", .int 1]) = K9 at sk9 Tk9 ek9 m9 ⊢
  have g9 : Tg K (wo K9 t) (.ref p9) (.tup [.str "0", .int 1]) := .tup (sqT_tape Tk9 (sqT_of ek9)) (.cons (.str _) (.cons (.int _) .nil))
  refine ⟨by show 12 ≤ sizeLine; decide, fun pp hpp => ?_⟩
  obtain ⟨s5, T5, n5, e5⟩ := tape_new (o := .lst [.non, .ref p1, .ref p2, .ref p3, .ref p4, .ref p5, .ref p6, .ref p7, .str "ab", .int 0, .ref p8, .ref p9]) sk9 Tk9 hpp
  have m10 := wo_mono (t := t) (same_new (o := .lst [.non, .ref p1, .ref p2, .ref p3, .ref p4, .ref p5, .ref p6, .ref p7, .str "ab", .int 0, .ref p8, .ref p9]) hpp)
  generalize upd K9 pp (.lst [.non, .ref p1, .ref p2, .ref p3, .ref p4, .ref p5, .ref p6, .ref p7, .str "ab", .int 0, .ref p8, .ref p9]) = H5 at s5 T5 e5 m10 ⊢
  have r9 := m10
  have r8 := m9.trans r9
  have r7 := m8.trans r8
  have r6 := m7.trans r7
  have r5 := m6.trans r6
  have r4 := m5.trans r5
  have r3 := m4.trans r4
  have r2 := m3.trans r3
  have r1 := m2.trans r2
  have r0 := m1.trans r1
  have gp : TgAll K (wo H5 t) [.non, .ref p1, .ref p2, .ref p3, .ref p4, .ref p5, .ref p6, .ref p7, .str "ab", .int 0, .ref p8, .ref p9] [.non, .tup [.int 1, .int 0], .tup [.int 0, .int 0], .tup [.int 0, .int (c0.length : Int)], .tup [.int (-1), .int 0], .lst [.int 0, .int 1], .tup [.int 0, .int 1, .int 2], .tup [.bl true, .int 1], .str "ab", .int 0, .tup [.int 0, .int (10 ^ (Int.toNat 30))], .tup [.str "0", .int 1]] := (.cons .non (.cons (g1.mono r1) (.cons (g2.mono r2) (.cons (g3.mono r3) (.cons (g4.mono r4) (.cons (g5.mono r5) (.cons (g6.mono r6) (.cons (g7.mono r7) (.cons (.str _) (.cons (.int _) (.cons (g8.mono r8) (.cons (g9.mono r9) .nil))))))))))))

  have e4w : (wo H5 t) op = _ := r0 _ _ ((wo_ne n4).trans e4)
  replace glc := glc.mono r0
  have e5w : (wo H5 t) pp = _ := (wo_ne n5).trans e5
  have fin : ∀ (cv : V) (dt : Th) H', Same (wo H5 t) (wo H' t) → Tp K sc H' t → Tg K (wo H' t) cv dt → RdyC dt →
      tr2 { nx := fun _ H' => Q .non H', rt := Q } [some (.ref t), some m, some p, some (.str (S r)), some cv, some (.ref bp), some (.int which), some (.int kind), some (.ref op), some (.ref pp), none, none, none] H' := fun cv dt H' s' T' gc hd =>
    h2 _ _ ⟨t, sc, bp, pp, m, p, cv, r, which, kind, ans, ww, mm, M, tb, dt, eds, _, bxs, _, _, _, _, _, rfl, by omega, T', hO.mono (s5.trans s'), gc, hd, (s5.trans s').seq hb, hbT.mono (s5.trans s'), hel, sqL_of (s' _ _ e5w), gp.mono s', rfl, fun H2 s2 T2 => q H2 (s5.trans (s'.trans s2)) T2⟩
  refine ⟨_, rfl, _, _, rfl, rfl, _, rfl, ?_⟩
  refine ifB (fun g1 => ?_) (fun g1 => ?_)
  · refine ⟨_, rfl, _, rfl, ?_⟩
    refine ⟨_, _, rfl, t, sc, 9, rfl, rfl, by decide, by decide, T5, fun ix H6 hix s6 T6 => ?_⟩
    have e46 := wo_same _ _ (s6 _ _ e4w)
    have glc6 := glc.mono s6
    have hr0 : ∀ x ∈ r.take 1, x ∈ r := fun x hx => List.mem_of_mem_take hx
    obtain ⟨cv, dt, hat, gc, hd⟩ : ∃ cv dt, atI [V.non, .str (S (c0 ++ [65])), .str (S (33 :: c0)), .ref lc, .int 0, .str (S (List.replicate 8 (r.take 1)).flatten), .str (S (c0 ++ [97, 122])), .str (S ((List.replicate 9 (r.take 1)).flatten.drop dc)), .bl true] (ix : Int) = some cv ∧ Tg K (wo H6 t) cv dt ∧ RdyC dt := by
      have h6 : ix = 0 ∨ ix = 1 ∨ ix = 2 ∨ ix = 3 ∨ ix = 4 ∨ ix = 5 ∨ ix = 6 ∨ ix = 7 ∨ ix = 8 := by omega
      rcases h6 with rfl | rfl | rfl | rfl | rfl | rfl | rfl | rfl | rfl
      · exact ⟨_, _, rfl, .non, rdy_no fun _ z => nomatch z⟩
      · refine ⟨_, _, rfl, .str _, rdy_of (L0 := r ++ [65]) (by rw [List.length_append]; show _ + 1 ≤ 9; omega) (by rw [List.length_append]; show _ + 1 ≤ 5; omega) fun x hx => ?_⟩
        rcases List.mem_append.mp hx with hx | hx
        · exact List.mem_append_left _ (hc x hx)
        · exact List.mem_append_right _ hx
      · refine ⟨_, _, rfl, .str _, rdy_of (L0 := 33 :: r) (by rw [List.length_cons]; omega) (by rw [List.length_cons]; omega) fun x hx => ?_⟩
        rcases List.mem_cons.mp hx with rfl | hx
        · exact List.mem_cons_self
        · exact List.mem_cons_of_mem _ (hc x hx)
      · exact ⟨_, _, rfl, glc6, rdy_no fun _ z => nomatch z⟩
      · exact ⟨_, _, rfl, .int _, rdy_no fun _ z => nomatch z⟩
      · refine ⟨_, _, rfl, .str _, rdy_of (L0 := r) ?_ (by omega) fun x hx => ?_⟩
        · rw [List.length_flatten, List.map_replicate, List.sum_replicate_nat, List.length_take]
          omega
        · obtain ⟨l, hl, hx⟩ := List.mem_flatten.mp hx
          rw [(List.mem_replicate.mp hl).2] at hx
          exact hr0 x hx
      · refine ⟨_, _, rfl, .str _, rdy_of (L0 := r ++ [97, 122]) (by rw [List.length_append]; show _ + 2 ≤ 9; omega) (by rw [List.length_append]; show _ + 2 ≤ 5; omega) fun x hx => ?_⟩
        rcases List.mem_append.mp hx with hx | hx
        · exact List.mem_append_left _ (hc x hx)
        · exact List.mem_append_right _ hx
      · refine ⟨_, _, rfl, .str _, rdy_of (L0 := r) ?_ (by omega) fun x hx => ?_⟩
        · rw [List.length_drop, l9]
          omega
        · obtain ⟨l, hl, hx⟩ := List.mem_flatten.mp (List.mem_of_mem_drop hx)
          rw [(List.mem_replicate.mp hl).2] at hx
          exact hr0 x hx
      · exact ⟨_, _, rfl, .bl _, rdy_no fun _ z => nomatch z⟩
    refine ⟨op, _, _, cv, rfl, rfl, sqL_of e46, hat, ?_⟩
    exact fin cv dt H6 s6 T6 gc hd
  · exact fin (.str (S c0)) (.str (S c0)) H5 (L2.Same.refl _) T5 (.str _) (rdy_of (L0 := r) (by omega) (by omega) hc)
end K84
namespace K84
open PySem
/-! ### a machine whose ticks are prices and rises of heights -/
def hAt (hs : List Int) (a : Int) : Int := hs[a.toNat]?.getD 0
def wAt (ws : List Int) (j : Nat) : Int := ws[j]?.getD 0
def PrcdM (M : Mv) (ws hs : List Int) : Prop := ∀ (i j : Nat) L l q, M[i]? = some L → L[j]? = some l → q ∈ l → q.1 = wAt ws j + hAt hs q.2 - hAt hs (i : Int)
def CloM (M : Mv) (fl : List Int) : Prop := ∀ a ∈ fl, ∀ L, M[a.toNat]? = some L → ∀ l ∈ L, ∀ q ∈ l, q.2 ∈ fl
def wsum (ws : List Int) (r c : Wd) : Int := (c.map fun x => wAt ws (r.idxOf x)).sum
theorem wsum_snoc {ws : List Int} {r c : Wd} {x : Nat} : wsum ws r (c ++ [x]) = wsum ws r c + wAt ws (r.idxOf x) := by
  unfold wsum
  rw [List.map_append, List.sum_append, List.map_cons, List.map_nil, List.sum_cons, List.sum_nil, Int.add_zero]
theorem wsum_perm {ws : List Int} {r c d : Wd} (h : c.Perm d) : wsum ws r c = wsum ws r d := by
  unfold wsum
  induction h with
  | nil => rfl
  | cons x _ ih => rw [List.map_cons, List.map_cons, List.sum_cons, List.sum_cons, ih]
  | swap x y l =>
    rw [List.map_cons, List.map_cons, List.map_cons, List.map_cons, List.sum_cons, List.sum_cons, List.sum_cons, List.sum_cons]
    omega
  | trans _ _ h1 h2 => exact h1.trans h2
theorem mvAt_ex {M : Mv} {i : Int} {j : Nat} {q : Int × Int} (h : q ∈ mvAt M i j) : ∃ L l, M[i.toNat]? = some L ∧ L[j]? = some l ∧ q ∈ l := by
  unfold mvAt at h
  cases hL : M[i.toNat]? with
  | none =>
    rw [hL] at h
    simp at h
  | some L =>
    rw [hL, Option.getD_some] at h
    cases hl : L[j]? with
    | none =>
      rw [hl] at h
      simp at h
    | some l =>
      rw [hl, Option.getD_some] at h
      exact ⟨L, l, rfl, hl, h⟩
def Ph (M : Mv) (ws hs fl : List Int) (s : Int) (a t : Int) : Prop := a ∈ fl ∧ Inr M a t ∧ t = s + hAt hs a - hAt hs 0
theorem runH_priced {M : Mv} {r : Wd} {ans : Nat} {ws hs fl : List Int} (h : MvOk M r ans) (hp : PrcdM M ws hs) (hc : CloM M fl) (hz : 0 ∈ fl) : ∀ {c : Wd}, (∀ x ∈ c, x ∈ r) → AllA (Ph M ws hs fl (wsum ws r c)) (runH M r c) := by
  intro c
  have key : ∀ d : List Nat, (∀ x ∈ d.reverse, x ∈ r) → AllA (Ph M ws hs fl (wsum ws r d.reverse)) (runH M r d.reverse) := by
    intro d
    induction d with
    | nil =>
      intro _ p hpm
      have e : p = (0, 0) := by simpa [runH] using hpm
      subst e
      refine ⟨hz, ⟨Int.le_refl _, by have := h.pos; show (0 : Int) ≤ _; omega, Int.le_refl _⟩, ?_⟩
      show (0 : Int) = 0 + hAt hs 0 - hAt hs 0
      omega
    | cons x d ih =>
      intro hx
      rw [List.reverse_cons] at hx ⊢
      have hx1 : ∀ y ∈ d.reverse, y ∈ r := fun y hy => hx y (List.mem_append_left _ hy)
      rw [runH_snoc, wsum_snoc]
      refine stepH_all (ih hx1) fun a t q ⟨h1, ⟨i1, i2, i3⟩, h3⟩ hq => ?_
      obtain ⟨L, l, hL, hl, hql⟩ := mvAt_ex hq
      have hLm := List.mem_of_getElem? hL
      have hlm := List.mem_of_getElem? hl
      obtain ⟨⟨b1, b2⟩, b3, b4⟩ := h.ok L hLm l hlm q hql
      have e := hp _ _ L l q hL hl hql
      rw [Int.toNat_of_nonneg i1] at e
      refine ⟨⟨hc a h1 L hL l hlm q hql, ⟨b3, b4, by omega⟩, ?_⟩, by omega⟩
      omega
  intro hcr
  have := key c.reverse (by rw [List.reverse_reverse]; exact hcr)
  rwa [List.reverse_reverse] at this
theorem wst_priced {M : Mv} {r : Wd} {ans : Nat} {ws hs fl : List Int} (h : MvOk M r ans) (hp : PrcdM M ws hs) (hc : CloM M fl) (hz : 0 ∈ fl) {c : Wd} (hcr : ∀ x ∈ c, x ∈ r) : ∃ a ∈ fl, wst M r c = wsum ws r c + hAt hs a - hAt hs 0 := by
  obtain ⟨h1, h2⟩ := runH_ok h hcr
  have h3 := runH_priced h hp hc hz hcr
  obtain ⟨p, hpm⟩ := List.exists_mem_of_ne_nil _ h2
  obtain ⟨m1, m2, m3⟩ := foldl_max ((runH M r c).map (·.2)) 0
  have hmem : wst M r c ∈ (runH M r c).map (·.2) := by
    rcases m3 with m3 | m3
    · have q1 := m2 p.2 (List.mem_map.mpr ⟨p, hpm, rfl⟩)
      have q2 := (h1 p hpm).2.2
      have e : wst M r c = p.2 := by
        show ((runH M r c).map (·.2)).foldl max 0 = p.2
        omega
      rw [e]
      exact List.mem_map.mpr ⟨p, hpm, rfl⟩
    · exact m3
  obtain ⟨q, hq, e⟩ := List.mem_map.mp hmem
  obtain ⟨g1, g2, g3⟩ := h3 q hq
  refine ⟨q.1, g1, ?_⟩
  rw [← e]
  exact g3
theorem waste_low {M : Mv} {r : Wd} {ans : Nat} {ws hs fl : List Int} (h : MvOk M r ans) (hp : PrcdM M ws hs) (hc : CloM M fl) (hz : 0 ∈ fl) {c d : Wd} (hcr : ∀ x ∈ c, x ∈ r) (hd : d.Perm c) : ∃ a ∈ fl, ∃ b ∈ fl, wst M r c - wst M r d = hAt hs a - hAt hs b := by
  obtain ⟨a, ha, e1⟩ := wst_priced h hp hc hz hcr
  obtain ⟨b, hb, e2⟩ := wst_priced h hp hc hz (c := d) fun x hx => hcr x (hd.mem_iff.mp hx)
  rw [wsum_perm hd] at e2
  exact ⟨a, ha, b, hb, by omega⟩
end K84
set_option maxHeartbeats 4000000
namespace K84
open PySem PySem.Spec PyProof.Rows L2
local macro_rules | `(tactic| walk_at "ix") => `(tactic| first | exact atI_nat (j := 0) rfl | exact atI_nat (j := 1) rfl | exact atI_nat (j := 2) rfl | exact atI_nat (j := 3) rfl | exact atI_nat (j := 4) rfl)
local macro_rules | `(tactic| walk_at "rd") => `(tactic| repeat (first
  | refine ⟨_, rfl, ?_⟩
  | refine ⟨rfl, ?_⟩
  | refine ⟨_, _, rfl, ?_⟩
  | refine ⟨_, _, rfl, rfl, ?_⟩
  | refine ⟨_, _, _, rfl, ?_⟩
  | refine ⟨_, _, _, _, rfl, ?_⟩
  | refine ⟨_, _, _, _, rfl, rfl, (by assumption), (by walk_at "ix"), ?_⟩
  | refine ⟨_, _, _, rfl, rfl, (by assumption), ?_⟩
  | refine ⟨.inl ⟨rfl, _, sqL_of (by assumption)⟩, ?_⟩
  | refine ⟨_, _, _, _, _, rfl, (by assumption), (by assumption), (by assumption), (by assumption), ?_⟩
  | refine ⟨_, _, _, _, _, rfl, .ty _, Tg.ty (by assumption), kit_ty (by first | exact kInt _ | exact kBool _ | exact kStr _ | exact kTup _ | exact kLst _ | exact kDct _), ?_⟩))
/-- every tuple stands there, too -/
def TS (K : PySem.W.Frag) (H G : Hp) : Prop := ∀ p xs, SqT K H p xs → SqT K G p xs
theorem TS.of {K : PySem.W.Frag} {H G : Hp} (s : Same H G) : TS K H G := fun _ _ h => s.seqT h
theorem TS.trans {K : PySem.W.Frag} {H G J : Hp} (a : TS K H G) (b : TS K G J) : TS K H J := fun p xs h => b p xs (a p xs h)
theorem FrV.ts {K : PySem.W.Frag} {H G : Hp} {v : V} {q : Fq} (s : TS K H G) (h : FrV K H v q) : FrV K G v q := by
  obtain ⟨p, e, h⟩ := h
  exact ⟨p, e, s _ _ h⟩
theorem TupE.ts {α : Type} {K : PySem.W.Frag} {H G : Hp} {R R' : V → α → Prop} {v : V} {ys : List α} (s : TS K H G) (f : ∀ v q, R v q → R' v q) (h : TupE K H R v ys) : TupE K G R' v ys := by
  obtain ⟨p, xs, e, h1, h2⟩ := h
  exact ⟨p, xs, e, s _ _ h1, h2.mono f⟩
abbrev LnV (K : PySem.W.Frag) (H : Hp) : V → List (Int × Int) → Prop := TupE K H (FrV K H)
abbrev StV (K : PySem.W.Frag) (H : Hp) : V → List (List (Int × Int)) → Prop := TupE K H (LnV K H)
theorem LnV.ts {K : PySem.W.Frag} {H G : Hp} (s : TS K H G) {v : V} {l : List (Int × Int)} (h : LnV K H v l) : LnV K G v l := TupE.ts s (fun _ _ => FrV.ts s) h
theorem StV.ts {K : PySem.W.Frag} {H G : Hp} (s : TS K H G) {v : V} {l : List (List (Int × Int))} (h : StV K H v l) : StV K G v l := TupE.ts s (fun _ _ => LnV.ts s) h
theorem MvV.ts {K : PySem.W.Frag} {H G : Hp} (s : TS K H G) {v : V} {M : Mv} (h : MvV K H v M) : MvV K G v M := TupE.ts s (fun _ _ => StV.ts s) h
/-- a move is right -/
def qOk (n : Nat) (q : Int × Int) : Prop := (1 ≤ q.1 ∧ q.1 ≤ 99) ∧ 0 ≤ q.2 ∧ q.2 ≤ (n : Int) - 1
def GoP (K : PySem.W.Frag) (n i : Nat) (acc : List V) (G : Hp) : Prop := ∃ l : List (Int × Int), Each (FrV K G) acc l ∧ l.length = i ∧ ∀ q ∈ l, qOk n q
def LiP (K : PySem.W.Frag) (n ans i : Nat) (acc : List V) (G : Hp) : Prop := ∃ L : List (List (Int × Int)), Each (LnV K G) acc L ∧ L.length = i ∧ ∀ l ∈ L, l.length = ans ∧ ∀ q ∈ l, qOk n q
def MoP (K : PySem.W.Frag) (n m ans i : Nat) (acc : List V) (G : Hp) : Prop := ∃ M : Mv, Each (StV K G) acc M ∧ M.length = i ∧ ∀ L ∈ M, L.length = m ∧ ∀ l ∈ L, l.length = ans ∧ ∀ q ∈ l, qOk n q
theorem GoP.push {K : PySem.W.Frag} {n i : Nat} {acc : List V} {G G' : Hp} {v : V} {q : Int × Int} (h : GoP K n i acc G) (s : Same G G') (hv : FrV K G' v q) (hq : qOk n q) : GoP K n (i + 1) (acc ++ [v]) G' := by
  obtain ⟨l, h1, h2, h3⟩ := h
  refine ⟨l ++ [q], (h1.mono fun _ _ => FrV.mono s).snoc hv, by rw [List.length_append, h2] <;> rfl, fun x hx => ?_⟩
  rcases List.mem_append.mp hx with hx | hx
  · exact h3 x hx
  · rw [List.mem_singleton.mp hx]
    exact hq
theorem LiP.push {K : PySem.W.Frag} {n ans i : Nat} {acc : List V} {G G' : Hp} {v : V} {l : List (Int × Int)} (h : LiP K n ans i acc G) (s : Same G G') (hv : LnV K G' v l) (hl : l.length = ans) (hq : ∀ q ∈ l, qOk n q) : LiP K n ans (i + 1) (acc ++ [v]) G' := by
  obtain ⟨L, h1, h2, h3⟩ := h
  refine ⟨L ++ [l], (h1.mono fun _ _ => LnV.ts (.of s)).snoc hv, by rw [List.length_append, h2] <;> rfl, fun x hx => ?_⟩
  rcases List.mem_append.mp hx with hx | hx
  · exact h3 x hx
  · rw [List.mem_singleton.mp hx]
    exact ⟨hl, hq⟩
theorem MoP.push {K : PySem.W.Frag} {n m ans i : Nat} {acc : List V} {G G' : Hp} {v : V} {L : List (List (Int × Int))} (h : MoP K n m ans i acc G) (s : Same G G') (hv : StV K G' v L) (hl : L.length = m) (hq : ∀ l ∈ L, l.length = ans ∧ ∀ q ∈ l, qOk n q) : MoP K n m ans (i + 1) (acc ++ [v]) G' := by
  obtain ⟨M, h1, h2, h3⟩ := h
  refine ⟨M ++ [L], (h1.mono fun _ _ => StV.ts (.of s)).snoc hv, by rw [List.length_append, h2] <;> rfl, fun x hx => ?_⟩
  rcases List.mem_append.mp hx with hx | hx
  · exact h3 x hx
  · rw [List.mem_singleton.mp hx]
    exact ⟨hl, hq⟩
theorem mvOk_of {n ans : Nat} {r : Wd} {M : Mv} (h1 : 1 ≤ n) (h4 : n ≤ 4) (a1 : 1 ≤ ans) (a3 : ans ≤ 3) (hl : M.length = n) (h : ∀ L ∈ M, L.length = r.length ∧ ∀ l ∈ L, l.length = ans ∧ ∀ q ∈ l, qOk n q) : MvOk M r ans :=
  ⟨by omega, by omega, a1, a3, fun L hL => (h L hL).1, fun L hL l hl => ((h L hL).2 l hl).1, fun L hL l hl2 q hq => by
    have := ((h L hL).2 l hl2).2 q hq
    rw [hl]
    exact this⟩
def sp_l_moves (K : PySem.W.Frag) : Sp := sp4 fun a b c d H Q _ => ∃ (t sc : Addr) (r : Wd) (ans n : Nat), a = .ref t ∧ b = .str (S r) ∧ c = .int ans ∧ d = .int n ∧ Tp K sc H t ∧ RowsOk r ∧ 1 ≤ ans ∧ ans ≤ 3 ∧ 1 ≤ n ∧ n ≤ 4 ∧
  ∀ v M H', Same (wo H t) (wo H' t) → Tp K sc H' t → MvV K (wo H' t) v M → MvOk M r ans → M.length = n → Q v H'
/- _law_moves: _law_tape_here=0 _law_rows_here=1 _law_answers=2 _law_size=3 _law_most=4 _law_moves_here=5 _law_at=6 _law_lines=7 _law_row=8 _law_answer=9; cells ['_law_most', '_law_size', '_law_tape_here']; calls ['_law_pick']; builtins ['tuple', 'range'] -/
abbrev s_l_moves : Stmt := top 62
theorem sc_l_moves : FnScope ["_law_tape_here", "_law_rows_here", "_law_answers", "_law_size", "_law_most", "_law_moves_here", "_law_at", "_law_lines", "_law_row", "_law_answer"] ["_law_tape_here", "_law_rows_here", "_law_answers", "_law_size"] (defScope s_l_moves) := ⟨rfl, rfl, rfl, by decide +kernel, rfl, by decide +kernel, by decide +kernel⟩
theorem ok_l_moves {P : Program} {w : World} {K : PySem.W.Frag} {mg : Str → Option Value} {base : Heap} (D : Df K mg "_law_moves" s_l_moves) (T : Tx K mg) (c_l_pick : Cl CX0 P w K mg base 1 "_law_pick" (sp_l_pick K)) :
    Cl CX0 P w K mg base 2 "_law_moves" (sp_l_moves K) := by
  refine D.ok4 (k := 1) sc_l_moves (fun _ _ _ _ _ _ us hl => match us, hl with | [_, _, _, _], _ => rfl) (fun f cdv A outer s H a b c d Q E hr h => ⟨_, PSs.nox ((pss_cons (ps_set (i := 4) sc_l_moves.nd rfl (Or.inr rfl) (pe_ix ix_list (pe_lst (pa_cons pe_int (pa_cons pe_int (pa_cons pe_int pa_nil)))) (pe_cl c_l_pick hr (by decide) pass0 (pa_cons (pv 0) (pa_cons pe_int pa_nil))) (fun _ _ => rfl)))
      (pss_cons (ps_set (i := 5) sc_l_moves.nd rfl (Or.inl rfl) (pe_lst pa_nil))
      (pss_cons (ps_for PassesOwn.never rfl (pi_range1 (by rfl) T.range (pa_cons (pv 3) pa_nil)) (pg_name (i := 6) sc_l_moves.nd rfl (Or.inl rfl)) (pss_cons (ps_set (i := 7) sc_l_moves.nd rfl (Or.inl rfl) (pe_lst pa_nil))
      (pss_cons (ps_for PassesOwn.never rfl (pi_str (pv 1)) (pg_name (i := 8) sc_l_moves.nd rfl (Or.inl rfl)) (pss_one (ps_expr (pe_bm PySem.F.plainAttrs_list PySem.F.slot_list_append PySem.F.type_list_append mt_append (pv 7) (pa_cons (pe_callTy call_tuple_of (by rfl) T.tuple_ (by decide +kernel) (pa_cons (pe_lc (own := [("_law_answer", 9)]) rfl sc_l_moves.nd (pi_range1 (by rfl) T.range (pa_cons (pv 2) pa_nil)) (blkOk_by (own := [("_law_answer", 9)]) (N := ["_law_tape_here", "_law_rows_here", "_law_answers", "_law_size", "_law_most", "_law_moves_here", "_law_at", "_law_lines", "_law_row", "_law_answer"]) (sc := defScope s_l_moves) (by decide +kernel)) (fun _ _ _ _ _ => (pg_name (i := 9) sc_l_moves.nd rfl (Or.inl rfl))) (fun _ _ _ _ _ => pts_nil) (fun _ _ _ _ _ => (pe_tup (pa_cons (pe_op op_add pe_int (pe_cl c_l_pick hr (by decide) pass0 (pa_cons (pv 0) (pa_cons (pv 4) pa_nil)))) (pa_cons (pe_cl c_l_pick hr (by decide) pass0 (pa_cons (pv 0) (pa_cons (pv 3) pa_nil))) pa_nil))))) pa_nil)) pa_nil)))))
      (pss_one (ps_expr (pe_bm PySem.F.plainAttrs_list PySem.F.slot_list_append PySem.F.type_list_append mt_append (pv 5) (pa_cons (pe_callTy call_tuple_of (by rfl) T.tuple_ (by decide +kernel) (pa_cons (pv 7) pa_nil)) pa_nil)))))))
      (pss_one (ps_ret (pe_callTy call_tuple_of (by rfl) T.tuple_ (by decide +kernel) (pa_cons (pv 5) pa_nil)))))))), ?_⟩)
  obtain ⟨t, sc, r, ans, n, rfl, rfl, rfl, rfl, hT, hr, a1, a3, n1, n4, q⟩ := h
  have hr3 := hr.le
  have hr1 := hr.pos
  walk_at "rd"
  refine ⟨by show 3 ≤ sizeLine; decide, fun lp hlp => ?_⟩
  have hlt := hT.ne hlp
  have hT1 := hT.same (same_new (o := .lst [.int 3, .int 9, .int 99]) hlp)
  have s1 := wo_mono (t := t) (same_new (o := .lst [.int 3, .int 9, .int 99]) hlp)
  have elp : upd H lp (.lst [.int 3, .int 9, .int 99]) lp = some (.lst [.int 3, .int 9, .int 99]) := upd_same
  generalize upd H lp (.lst [.int 3, .int 9, .int 99]) = H1 at hT1 s1 elp ⊢
  walk_at "rd"
  refine ⟨t, sc, 3, rfl, rfl, by decide, by decide, hT1, fun d1 H2 hd1 s2 hT2 => ?_⟩
  have el2 := (past s2 wo_at wo_same hlt elp).1
  obtain ⟨most, hat, mo1, mo2⟩ : ∃ most : Nat, atI [V.int 3, .int 9, .int 99] (d1 : Int) = some (V.int most) ∧ 1 ≤ most ∧ most ≤ 99 := by
    have h6 : d1 = 0 ∨ d1 = 1 ∨ d1 = 2 := by omega
    rcases h6 with rfl | rfl | rfl
    · exact ⟨3, rfl, by decide, by decide⟩
    · exact ⟨9, rfl, by decide, by decide⟩
    · exact ⟨99, rfl, by decide, by decide⟩
  refine ⟨lp, _, _, _, rfl, rfl, sqL_of el2, hat, ?_⟩
  refine ⟨by show 0 ≤ sizeLine; decide, fun mh hmh => ?_⟩
  have hmt := hT2.ne hmh
  have t0 : TO K sc t H2 mh (.lst []) (wo H2 t) (upd H2 mh (.lst [])) := .start hT2 hmh
  have s02 := s1.trans s2
  refine ⟨_, rfl, _, rfl, by omega, by omega, for_range (fun i σ H' => (∃ z6 z7 z8 z9, σ = [some (.ref t), some (.str (S r)), some (.int ans), some (.int n), some (.int most), some (.ref mh), z6, z7, z8, z9]) ∧ ∃ acc G, TO K sc t H2 mh (.lst acc) G H' ∧ MoP K n r.length ans i acc G)
    ⟨⟨_, _, _, _, rfl⟩, [], _, t0, [], .nil, rfl, fun x hx => (nomatch hx)⟩ ?_ ?_⟩
  · rintro i σ H3 hi ⟨⟨z6, z7, z8, z9, rfl⟩, accM, GM, tM, hMo⟩
    refine ⟨by show 0 ≤ sizeLine; decide, fun ln hln => ?_⟩
    have hlnt := tM.tp.ne hln
    have tM1 := tM.more (same_new (o := .lst []) hln)
    have tL : TO K sc t H3 ln (.lst []) (wo H3 t) (upd H3 ln (.lst [])) := .start tM.tp hln
    have hsz : (S r).cps.size = r.length := by show r.toArray.size = _; simp
    refine ⟨_, rfl, S r, rfl, ?_⟩
    refine for_it walk_str (fun j σ H' => (∃ z8 z9, σ = [some (.ref t), some (.str (S r)), some (.int ans), some (.int n), some (.int most), some (.ref mh), some (.int (0 + (i : Int))), some (.ref ln), z8, z9]) ∧ ∃ acc G, TO K sc t H3 ln (.lst acc) G H' ∧ LiP K n ans j acc G)
      ⟨⟨_, _, rfl⟩, [], _, tL, [], .nil, rfl, fun x hx => (nomatch hx)⟩ (fun _ _ _ _ _ => trivial) ?_ ?_
    · rintro j v σ H4 H5 hj ⟨⟨z8, z9, rfl⟩, accL, GL, tL1, hLi⟩ ⟨rfl, ch, hch, rfl⟩
      refine ⟨_, rfl, .inl ⟨rfl, _, sqL_of tL1.e⟩, ?_⟩
      refine ⟨_, rfl, _, rfl, by omega, by omega, fun D hD => ?_⟩
      have hDt := tL1.tp.ne hD
      refine lc_it walk_range (fun k H' => ∃ acc G, TO K sc t H5 D (.lst acc) G H' ∧ GoP K n k acc G) ⟨[], _, .start tL1.tp hD, [], .nil, rfl, fun x hx => (nomatch hx)⟩ (fun _ _ _ _ => trivial) ?_ ?_
      · rintro k v H6 H7 hk ⟨acc, G, tG, hGo⟩ ⟨rfl, rfl⟩
        refine ⟨rfl, _, rfl, ?_⟩
        walk_at "rd"
        refine ⟨t, sc, most, rfl, rfl, mo1, by omega, tG.tp, fun d8 H8 h8 s8 hT8 => ?_⟩
        have t8 := tG.read hDt s8 hT8
        walk_at "rd"
        refine ⟨t, sc, n, rfl, rfl, n1, by omega, t8.tp, fun d9 H9 h9 s9 hT9 => ?_⟩
        have t9 := t8.read hDt s9 hT9
        refine ⟨by show 2 ≤ sizeLine; decide, fun tp htp => ?_⟩
        have t10 := t9.more (same_new (o := .tup [.int (1 + (d8 : Int)), .int (d9 : Int)]) htp)
        obtain ⟨G2, t11, sG, hG2⟩ := t10.grow hDt (.inl .lst)
        have hal : acc.length = k := by
          obtain ⟨l, h1, h2, _⟩ := hGo
          rw [h1.1, h2]
        refine ⟨acc, t10.e, szlt (by omega), _, G2, t11.set tL1.tp hDt, hGo.push (q := (1 + (d8 : Int), (d9 : Int))) sG ⟨tp, rfl, hG2 _ _ (sqT_of upd_same)⟩ ⟨⟨by show 1 ≤ 1 + (d8 : Int); omega, by show 1 + (d8 : Int) ≤ 99; omega⟩, by show 0 ≤ (d9 : Int); omega, by show (d9 : Int) ≤ n - 1; omega⟩⟩
      · rintro H6 ⟨acc, G, tG, l, hG1, hG2, hG3⟩
        have tL2 := tL1.read hlnt tG.out tG.tp
        refine ⟨D, acc, rfl, .inl ⟨sqL_of tG.e, fun p3 hp3 => ?_⟩⟩
        have tL3 := tL2.more (same_new (o := .tup acc) hp3)
        obtain ⟨G2, tL4, sG, hS⟩ := tL3.grow hlnt (.inl .lst)
        have hal : accL.length = j := by
          obtain ⟨L, h1, h2, _⟩ := hLi
          rw [h1.1, h2]
        refine ⟨ln, accL, _, rfl, rfl, tL3.e, szlt (by omega), ⟨_, _, rfl⟩, _, G2, tL4.set tM.tp hlnt, hLi.push sG ?_ hG2 hG3⟩
        exact ⟨p3, acc, rfl, hS _ _ (sqT_of upd_same), hG1.mono fun v q h => (h.mono (tG.s.trans (same_new hp3))).ts hS⟩
    · rintro σ H4 ⟨⟨z8, z9, rfl⟩, accL, GL, tL1, L, hL1, hL2, hL3⟩
      have tM2 := tM.read hmt tL1.out tL1.tp
      refine ⟨_, rfl, .inl ⟨rfl, _, sqL_of tM2.e⟩, ?_⟩
      refine ⟨_, rfl, ln, accL, rfl, .inl ⟨sqL_of tL1.e, fun p3 hp3 => ?_⟩⟩
      have tM3 := tM2.more (same_new (o := .tup accL) hp3)
      obtain ⟨G2, tM4, sG, hS⟩ := tM3.grow hmt (.inl .lst)
      have hal : accM.length = i := by
        obtain ⟨L, h1, h2, _⟩ := hMo
        rw [h1.1, h2]
      refine ⟨mh, accM, _, rfl, rfl, tM3.e, szlt (by omega), ⟨_, _, _, _, rfl⟩, _, G2, tM4.set hT2 hmt, hMo.push sG ?_ (hL2.trans hsz) hL3⟩
      exact ⟨p3, accL, rfl, hS _ _ (sqT_of upd_same), hL1.mono fun v q h => LnV.ts hS (LnV.ts (.of (tL1.s.trans (same_new hp3))) h)⟩
  · rintro σ H3 ⟨⟨z6, z7, z8, z9, rfl⟩, accM, GM, tM, M, hM1, hM2, hM3⟩
    refine ⟨_, rfl, mh, accM, rfl, .inl ⟨sqL_of tM.e, fun p3 hp3 => ?_⟩⟩
    have T4 := tM.tp.same (same_new (o := .tup accM) hp3)
    have s4 := wo_mono (t := t) (same_new (o := .tup accM) hp3)
    refine q (.ref p3) M _ (s02.trans (tM.out.trans s4)) T4 ?_ (mvOk_of n1 n4 a1 a3 (by omega) hM3) (by omega)
    exact MvV.ts (fun _ _ => sqT_tape T4) ⟨p3, accM, rfl, sqT_of upd_same, hM1.mono fun v q h => StV.ts (.of (tM.s.trans (same_new hp3))) h⟩
end K84
set_option maxHeartbeats 4000000
namespace K84
open PySem PySem.Spec PyProof.Rows L2
local macro_rules | `(tactic| walk_at "ix") => `(tactic| first | exact atI_nat (j := 0) rfl | exact atI_nat (j := 1) rfl | exact atI_nat (j := 2) rfl | exact atI_nat (j := 3) rfl | exact atI_nat (j := 4) rfl)
local macro_rules | `(tactic| walk_at "rd") => `(tactic| repeat (first
  | refine ⟨_, rfl, ?_⟩
  | refine ⟨rfl, ?_⟩
  | refine ⟨_, _, rfl, ?_⟩
  | refine ⟨_, _, rfl, rfl, ?_⟩
  | refine ⟨_, _, _, rfl, ?_⟩
  | refine ⟨_, _, _, _, rfl, ?_⟩
  | refine ⟨_, _, _, _, rfl, rfl, (by assumption), (by walk_at "ix"), ?_⟩
  | refine ⟨_, _, _, rfl, rfl, (by assumption), ?_⟩
  | refine ⟨.inl ⟨rfl, _, sqL_of (by assumption)⟩, ?_⟩
  | refine ⟨_, _, _, _, _, rfl, (by assumption), (by assumption), (by assumption), (by assumption), ?_⟩
  | refine ⟨_, _, _, _, _, rfl, .ty _, Tg.ty (by assumption), kit_ty (by first | exact kInt _ | exact kBool _ | exact kStr _ | exact kTup _ | exact kLst _ | exact kDct _), ?_⟩))
def sp_l_priced_world (K : PySem.W.Frag) : Sp := sp4 fun a b c d H Q _ => ∃ (t sc : Addr) (r : Wd) (ans n : Nat), a = .ref t ∧ b = .str (S r) ∧ c = .int ans ∧ d = .int n ∧ Tp K sc H t ∧ RowsOk r ∧ 1 ≤ ans ∧ ans ≤ 3 ∧ 1 ≤ n ∧ n ≤ 4 ∧
  ∀ (p wp hp : Addr) (mv : V) (M : Mv) (ws hs : List Int) H', Same (wo H t) (wo H' t) → Tp K sc H' t → SqT K (wo H' t) p [mv, .ref wp, .ref hp] → MvV K (wo H' t) mv M → (wo H' t) wp = some (.lst (ws.map V.int)) → (wo H' t) hp = some (.lst (hs.map V.int)) →
    MvOk M r ans → M.length = n → ws.length = r.length → hs.length = n → (∀ x ∈ ws, 21 ≤ x ∧ x ≤ 70) → PrcdM M ws hs → Q (.ref p) H'
/-- the moves of row j at standing i -/
def lnOk (ws hs : List Int) (n i j : Nat) (l : List (Int × Int)) : Prop := ∀ q ∈ l, qOk n q ∧ q.1 = wAt ws j + hAt hs q.2 - hAt hs (i : Int)
def IntP (lo hi : Int) (i : Nat) (acc : List V) (_ : Hp) : Prop := ∃ xs : List Int, acc = xs.map V.int ∧ xs.length = i ∧ ∀ x ∈ xs, lo ≤ x ∧ x ≤ hi
theorem IntP.push {lo hi : Int} {i : Nat} {acc : List V} {G G' : Hp} {x : Int} (h : IntP lo hi i acc G) (h1 : lo ≤ x) (h2 : x ≤ hi) : IntP lo hi (i + 1) (acc ++ [.int x]) G' := by
  obtain ⟨xs, rfl, hl, hb⟩ := h
  refine ⟨xs ++ [x], by rw [List.map_append] <;> rfl, by rw [List.length_append, hl] <;> rfl, fun y hy => ?_⟩
  rcases List.mem_append.mp hy with hy | hy
  · exact hb y hy
  · rw [List.mem_singleton.mp hy]
    exact ⟨h1, h2⟩
def LiQ (K : PySem.W.Frag) (ws hs : List Int) (n ans i j : Nat) (acc : List V) (G : Hp) : Prop := ∃ L : List (List (Int × Int)), Each (LnV K G) acc L ∧ L.length = j ∧ ∀ (k : Nat) l, L[k]? = some l → l.length = ans ∧ lnOk ws hs n i k l
def MoQ (K : PySem.W.Frag) (ws hs : List Int) (n m ans i : Nat) (acc : List V) (G : Hp) : Prop := ∃ M : Mv, Each (StV K G) acc M ∧ M.length = i ∧ ∀ (g : Nat) L, M[g]? = some L → L.length = m ∧ ∀ (k : Nat) l, L[k]? = some l → l.length = ans ∧ lnOk ws hs n g k l
theorem snoc_all {α : Type} {P : Nat → α → Prop} {L : List α} {x : α} (h : ∀ k l, L[k]? = some l → P k l) (hx : P L.length x) : ∀ k l, (L ++ [x])[k]? = some l → P k l := by
  intro k l hk
  by_cases h1 : k < L.length
  · rw [List.getElem?_append_left h1] at hk
    exact h k l hk
  · obtain ⟨h2, _⟩ := List.getElem?_eq_some_iff.mp hk
    rw [List.length_append] at h2
    have e : k = L.length := by
      have : k < L.length + 1 := h2
      omega
    subst e
    rw [List.getElem?_append_right (Nat.le_refl _), Nat.sub_self] at hk
    cases hk
    exact hx
theorem LiQ.push {K : PySem.W.Frag} {ws hs : List Int} {n ans i j : Nat} {acc : List V} {G G' : Hp} {v : V} {l : List (Int × Int)} (h : LiQ K ws hs n ans i j acc G) (s : Same G G') (hv : LnV K G' v l) (hl : l.length = ans) (hq : lnOk ws hs n i j l) : LiQ K ws hs n ans i (j + 1) (acc ++ [v]) G' := by
  obtain ⟨L, h1, rfl, h3⟩ := h
  exact ⟨L ++ [l], (h1.mono fun _ _ => LnV.ts (.of s)).snoc hv, by rw [List.length_append] <;> rfl, snoc_all h3 ⟨hl, hq⟩⟩
theorem MoQ.push {K : PySem.W.Frag} {ws hs : List Int} {n m ans i : Nat} {acc : List V} {G G' : Hp} {v : V} {L : List (List (Int × Int))} (h : MoQ K ws hs n m ans i acc G) (s : Same G G') (hv : StV K G' v L) (hl : L.length = m) (hq : ∀ (k : Nat) l, L[k]? = some l → l.length = ans ∧ lnOk ws hs n i k l) : MoQ K ws hs n m ans (i + 1) (acc ++ [v]) G' := by
  obtain ⟨M, h1, rfl, h3⟩ := h
  exact ⟨M ++ [L], (h1.mono fun _ _ => StV.ts (.of s)).snoc hv, by rw [List.length_append] <;> rfl, snoc_all h3 ⟨hl, hq⟩⟩
theorem atI_ints {xs : List Int} {g : Int} (h0 : 0 ≤ g) (h : g.toNat < xs.length) : atI (xs.map V.int) g = some (V.int (xs[g.toNat]?.getD 0)) ∧ xs[g.toNat]?.getD 0 ∈ xs := by
  have e : g = ((g.toNat : Nat) : Int) := by omega
  rw [List.getElem?_eq_getElem h, Option.getD_some]
  refine ⟨?_, List.getElem_mem h⟩
  have key : ∀ z : Nat, g.toNat = z → atI (xs.map V.int) (z : Int) = some (V.int xs[g.toNat]) := fun z hz => by
    subst hz
    exact atI_nat (by rw [List.getElem?_map, List.getElem?_eq_getElem h] <;> rfl)
  have k2 := key g.toNat rfl
  rwa [← e] at k2
/- _law_priced_world: _law_tape_here=0 _law_rows_here=1 _law_answers=2 _law_size=3 _law_heights=4 _law_prices=5 _law_moves_here=6 _law_at=7 _law_lines=8 _law_k=9 _law_goals=10 _law_row=11 _law_answer=12 _law_goal=13; cells ['_law_at', '_law_heights', '_law_k', '_law_prices', '_law_size', '_law_tape_here']; calls ['_law_pick']; builtins ['tuple', 'range', 'len'] -/
abbrev s_l_priced_world : Stmt := top 74
theorem sc_l_priced_world : FnScope ["_law_tape_here", "_law_rows_here", "_law_answers", "_law_size", "_law_heights", "_law_prices", "_law_moves_here", "_law_at", "_law_lines", "_law_k", "_law_goals", "_law_row", "_law_answer", "_law_goal"] ["_law_tape_here", "_law_rows_here", "_law_answers", "_law_size"] (defScope s_l_priced_world) := ⟨rfl, rfl, rfl, by decide +kernel, rfl, by decide +kernel, by decide +kernel⟩
theorem ok_l_priced_world {P : Program} {w : World} {K : PySem.W.Frag} {mg : Str → Option Value} {base : Heap} (D : Df K mg "_law_priced_world" s_l_priced_world) (T : Tx K mg) (c_l_pick : Cl CX0 P w K mg base 1 "_law_pick" (sp_l_pick K)) :
    Cl CX0 P w K mg base 2 "_law_priced_world" (sp_l_priced_world K) := by
  refine D.ok4 (k := 1) sc_l_priced_world (fun _ _ _ _ _ _ us hl => match us, hl with | [_, _, _, _], _ => rfl) (fun f cdv A outer s H a b c d Q E hr h => ⟨_, PSs.nox ((pss_cons (ps_set (i := 4) sc_l_priced_world.nd rfl (Or.inr rfl) (pe_op op_cat (pe_lst (pa_cons pe_int pa_nil)) (pe_lc (own := [("_law_k", 9)]) rfl sc_l_priced_world.nd (pi_range1 (by rfl) T.range (pa_cons (pe_op op_sub (pv 3) pe_int) pa_nil)) (blkOk_by (own := [("_law_k", 9)]) (N := ["_law_tape_here", "_law_rows_here", "_law_answers", "_law_size", "_law_heights", "_law_prices", "_law_moves_here", "_law_at", "_law_lines", "_law_k", "_law_goals", "_law_row", "_law_answer", "_law_goal"]) (sc := defScope s_l_priced_world) (by decide +kernel)) (fun _ _ _ _ _ => (pg_name (i := 9) sc_l_priced_world.nd rfl (Or.inl rfl))) (fun _ _ _ _ _ => pts_nil) (fun _ _ _ _ _ => (pe_cl c_l_pick hr (by decide) pass0 (pa_cons (pv 0) (pa_cons pe_int pa_nil)))))))
      (pss_cons (ps_set (i := 5) sc_l_priced_world.nd rfl (Or.inr rfl) (pe_lc (own := [("_law_row", 11)]) rfl sc_l_priced_world.nd (pi_str (pv 1)) (blkOk_by (own := [("_law_row", 11)]) (N := ["_law_tape_here", "_law_rows_here", "_law_answers", "_law_size", "_law_heights", "_law_prices", "_law_moves_here", "_law_at", "_law_lines", "_law_k", "_law_goals", "_law_row", "_law_answer", "_law_goal"]) (sc := defScope s_l_priced_world) (by decide +kernel)) (fun _ _ _ _ _ => (pg_name (i := 11) sc_l_priced_world.nd rfl (Or.inl rfl))) (fun _ _ _ _ _ => pts_nil) (fun _ _ _ _ _ => (pe_op op_add pe_int (pe_cl c_l_pick hr (by decide) pass0 (pa_cons (pv 0) (pa_cons pe_int pa_nil)))))))
      (pss_cons (ps_set (i := 6) sc_l_priced_world.nd rfl (Or.inl rfl) (pe_lst pa_nil))
      (pss_cons (ps_for PassesOwn.never rfl (pi_range1 (by rfl) T.range (pa_cons (pv 3) pa_nil)) (pg_name (i := 7) sc_l_priced_world.nd rfl (Or.inr rfl)) (pss_cons (ps_set (i := 8) sc_l_priced_world.nd rfl (Or.inl rfl) (pe_lst pa_nil))
      (pss_cons (ps_for PassesOwn.never rfl (pi_range1 (by rfl) T.range (pa_cons (pe_callB call_len_str (by rfl) T.len (by decide +kernel) (pa_cons (pv 1) pa_nil)) pa_nil)) (pg_name (i := 9) sc_l_priced_world.nd rfl (Or.inr rfl)) (pss_cons (ps_setLc (i := 10) (own := [("_law_answer", 12)]) rfl sc_l_priced_world.nd rfl rfl (sw_true rfl rfl rfl (by decide +kernel)) (pi_range1 (by rfl) T.range (pa_cons (pv 2) pa_nil)) (blkOk_by (own := [("_law_answer", 12)]) (N := ["_law_tape_here", "_law_rows_here", "_law_answers", "_law_size", "_law_heights", "_law_prices", "_law_moves_here", "_law_at", "_law_lines", "_law_k", "_law_goals", "_law_row", "_law_answer", "_law_goal"]) (sc := defScope s_l_priced_world) (by decide +kernel)) (fun _ _ _ _ _ => (pg_name (i := 12) sc_l_priced_world.nd rfl (Or.inl rfl))) (fun _ _ _ _ _ => pts_nil) (fun _ _ _ _ _ => (pe_cl c_l_pick hr (by decide) pass0 (pa_cons (pv 0) (pa_cons (pv 3) pa_nil)))))
      (pss_one (ps_expr (pe_bm PySem.F.plainAttrs_list PySem.F.slot_list_append PySem.F.type_list_append mt_append (pv 8) (pa_cons (pe_callTy call_tuple_of (by rfl) T.tuple_ (by decide +kernel) (pa_cons (pe_lc (own := [("_law_goal", 13)]) rfl sc_l_priced_world.nd (pi_list (pv 10)) (blkOk_by (own := [("_law_goal", 13)]) (N := ["_law_tape_here", "_law_rows_here", "_law_answers", "_law_size", "_law_heights", "_law_prices", "_law_moves_here", "_law_at", "_law_lines", "_law_k", "_law_goals", "_law_row", "_law_answer", "_law_goal"]) (sc := defScope s_l_priced_world) (by decide +kernel)) (fun _ _ _ _ _ => (pg_name (i := 13) sc_l_priced_world.nd rfl (Or.inl rfl))) (fun _ _ _ _ _ => pts_nil) (fun _ _ _ _ _ => (pe_tup (pa_cons (pe_op op_sub (pe_op op_add (pe_ix (r := rIxL K) ix_list (pv 5) (pv 9) (fun _ _ => rfl)) (pe_ix (r := rIxL K) ix_list (pv 4) (pv 13) (fun _ _ => rfl))) (pe_ix (r := rIxL K) ix_list (pv 4) (pv 7) (fun _ _ => rfl))) (pa_cons (pv 13) pa_nil))))) pa_nil)) pa_nil))))))
      (pss_one (ps_expr (pe_bm PySem.F.plainAttrs_list PySem.F.slot_list_append PySem.F.type_list_append mt_append (pv 6) (pa_cons (pe_callTy call_tuple_of (by rfl) T.tuple_ (by decide +kernel) (pa_cons (pv 8) pa_nil)) pa_nil)))))))
      (pss_one (ps_ret (pe_tup (pa_cons (pe_callTy call_tuple_of (by rfl) T.tuple_ (by decide +kernel) (pa_cons (pv 6) pa_nil)) (pa_cons (pv 5) (pa_cons (pv 4) pa_nil))))))))))), ?_⟩)
  obtain ⟨t, sc, r, ans, n, rfl, rfl, rfl, rfl, hT, hr, a1, a3, n1, n4, q⟩ := h
  have hr3 := hr.le
  have hr1 := hr.pos
  have hsz : (S r).cps.size = r.length := by show r.toArray.size = _; simp
  refine ⟨by show 1 ≤ sizeLine; decide, fun zp hzp => ?_⟩
  have hzt := hT.ne hzp
  have hT1 := hT.same (same_new (o := .lst [.int 0]) hzp)
  have s1 := wo_mono (t := t) (same_new (o := .lst [.int 0]) hzp)
  have ezp : upd H zp (.lst [.int 0]) zp = some (.lst [.int 0]) := upd_same
  generalize upd H zp (.lst [.int 0]) = H1 at hT1 s1 ezp ⊢
  walk_at "rd"
  refine ⟨by omega, by omega, fun D hD => ?_⟩
  have hDt := hT1.ne hD
  refine lc_it walk_range (fun k H' => ∃ acc G, TO K sc t H1 D (.lst acc) G H' ∧ IntP 0 20 k acc G) ⟨[], _, .start hT1 hD, [], rfl, rfl, fun x hx => (nomatch hx)⟩ (fun _ _ _ _ => trivial) ?_ ?_
  · rintro k v H6 H7 hk ⟨acc, G, tG, hI⟩ ⟨rfl, rfl⟩
    refine ⟨rfl, _, rfl, ?_⟩
    walk_at "rd"
    refine ⟨t, sc, 21, rfl, rfl, by decide, by decide, tG.tp, fun d8 H8 h8 s8 hT8 => ?_⟩
    have t8 := tG.read hDt s8 hT8
    have hal : acc.length = k := by
      obtain ⟨xs, rfl, h2, _⟩ := hI
      rw [List.length_map, h2]
    have hk4 : k < 4 := by omega
    exact ⟨acc, t8.e, szlt (by omega), _, G, t8.set hT1 hDt, hI.push (by omega) (by omega)⟩
  · rintro H2 ⟨acc, G, tG, hs0, rfl, hsl, hsb⟩
    have ez2 := (past tG.out wo_at wo_same hzt ezp).1
    have hl0 : hs0.length = n - 1 := by omega
    refine ⟨zp, D, _, _, rfl, rfl, ez2, tG.e, szle (by rw [List.length_map]; show 1 + _ ≤ _; omega), fun hp hhp => ?_⟩
    have hht := tG.tp.ne hhp
    have hT3 := tG.tp.same (same_new (o := .lst ([V.int 0] ++ hs0.map V.int)) hhp)
    have s3 := s1.trans (tG.out.trans (wo_mono (t := t) (same_new (o := .lst ([V.int 0] ++ hs0.map V.int)) hhp)))
    have eh : upd H2 hp (.lst ([V.int 0] ++ hs0.map V.int)) hp = some (.lst ((0 :: hs0).map V.int)) := upd_same
    have hhl : (0 :: hs0).length = n := by rw [List.length_cons]; omega
    have hhb : ∀ x ∈ (0 :: hs0 : List Int), 0 ≤ x ∧ x ≤ 20 := fun x hx => (List.mem_cons.mp hx).elim (fun e => by omega) (hsb x)
    generalize upd H2 hp (.lst ([V.int 0] ++ hs0.map V.int)) = H3 at hT3 s3 eh ⊢
    generalize (0 :: hs0 : List Int) = hs at eh hhl hhb
    refine ⟨_, rfl, S r, rfl, fun wp hwp => ?_⟩
    have hwt := hT3.ne hwp
    refine lc_it walk_str (fun k H' => ∃ acc G, TO K sc t H3 wp (.lst acc) G H' ∧ IntP 21 70 k acc G) ⟨[], _, .start hT3 hwp, [], rfl, rfl, fun x hx => (nomatch hx)⟩ (fun _ _ _ _ => trivial) ?_ ?_
    · rintro k v H6 H7 hk ⟨acc, G, tG, hI⟩ ⟨rfl, ch, hch, rfl⟩
      refine ⟨rfl, ?_⟩
      walk_at "rd"
      refine ⟨t, sc, 50, rfl, rfl, by decide, by decide, tG.tp, fun d8 H8 h8 s8 hT8 => ?_⟩
      have t8 := tG.read hwt s8 hT8
      have hal : acc.length = k := by
        obtain ⟨xs, rfl, h2, _⟩ := hI
        rw [List.length_map, h2]
      refine ⟨_, _, rfl, rfl, ?_⟩
      exact ⟨acc, t8.e, szlt (by omega), _, G, t8.set hT3 hwt, hI.push (x := 21 + (d8 : Int)) (by omega) (by omega)⟩
    · rintro H4 ⟨acc, G, tW, ws, rfl, hwl, hwb⟩
      rw [hsz] at hwl
      have eh4 := (past tW.out wo_at wo_same hht eh).1
      have ew4 := tW.e
      have hT4 := tW.tp
      have s4 := s3.trans tW.out
      clear tW
      refine ⟨by show 0 ≤ sizeLine; decide, fun mh hmh => ?_⟩
      have hmt := hT4.ne hmh
      have t0 : TO K sc t H4 mh (.lst []) (wo H4 t) (upd H4 mh (.lst [])) := .start hT4 hmh
      have hhx : ∀ g : Int, 0 ≤ g → g ≤ (n : Int) - 1 → atI (hs.map V.int) g = some (V.int (hAt hs g)) ∧ 0 ≤ hAt hs g ∧ hAt hs g ≤ 20 := fun g h0 h1 => by
        obtain ⟨e1, e2⟩ := atI_ints (xs := hs) h0 (by omega)
        exact ⟨e1, hhb _ e2⟩
      have hwx : ∀ j : Nat, j < r.length → atI (ws.map V.int) (0 + (j : Int)) = some (V.int (wAt ws j)) ∧ 21 ≤ wAt ws j ∧ wAt ws j ≤ 70 := fun j h1 => by
        obtain ⟨e1, e2⟩ := atI_ints (xs := ws) (g := (j : Int)) (by omega) (by rw [Int.toNat_natCast]; omega)
        rw [Int.toNat_natCast] at e1 e2
        rw [Int.zero_add]
        exact ⟨e1, hwb _ e2⟩
      have ehw : (wo H4 t) hp = some (.lst (hs.map V.int)) := (wo_ne hht).trans eh4
      have eww : (wo H4 t) wp = some (.lst (ws.map V.int)) := (wo_ne hwt).trans ew4
      refine ⟨_, rfl, _, rfl, by omega, by omega, for_range (fun i σ H' => (∃ z7 z8 z9 z10 z11 z12 z13, σ = [some (.ref t), some (.str (S r)), some (.int ans), some (.int n), some (.ref hp), some (.ref wp), some (.ref mh), z7, z8, z9, z10, z11, z12, z13]) ∧ ∃ acc G, TO K sc t H4 mh (.lst acc) G H' ∧ MoQ K ws hs n r.length ans i acc G)
        ⟨⟨_, _, _, _, _, _, _, rfl⟩, [], _, t0, [], .nil, rfl, fun g L h => by simp at h⟩ ?_ ?_⟩
      · rintro i σ H5 hi ⟨⟨z7, z8, z9, z10, z11, z12, z13, rfl⟩, accM, GM, tM, hMo⟩
        have hi4 : i < n := by omega
        refine ⟨by show 0 ≤ sizeLine; decide, fun ln hln => ?_⟩
        have hlnt := tM.tp.ne hln
        have tL : TO K sc t H5 ln (.lst []) (wo H5 t) (upd H5 ln (.lst [])) := .start tM.tp hln
        refine ⟨_, rfl, _, rfl, szle (by rw [S_length]; omega), ?_⟩
        rw [S_length]
        refine ⟨_, rfl, by omega, by omega, ?_⟩
        refine for_range (fun j σ H' => (∃ z9 z10 z11 z12 z13, σ = [some (.ref t), some (.str (S r)), some (.int ans), some (.int n), some (.ref hp), some (.ref wp), some (.ref mh), some (.int (0 + (i : Int))), some (.ref ln), z9, z10, z11, z12, z13]) ∧ ∃ acc G, TO K sc t H5 ln (.lst acc) G H' ∧ LiQ K ws hs n ans i j acc G)
          ⟨⟨_, _, _, _, _, rfl⟩, [], _, tL, [], .nil, rfl, fun k l h => by simp at h⟩ ?_ ?_
        · rintro j σ H6 hj ⟨⟨z9, z10, z11, z12, z13, rfl⟩, accL, GL, tL1, hLi⟩
          have hj2 : j < r.length := by omega
          refine ⟨_, rfl, _, rfl, by omega, by omega, fun gp hgp => ?_⟩
          have hgt := tL1.tp.ne hgp
          refine lc_it walk_range (fun k H' => ∃ acc G, TO K sc t H6 gp (.lst acc) G H' ∧ IntP 0 ((n : Int) - 1) k acc G) ⟨[], _, .start tL1.tp hgp, [], rfl, rfl, fun x hx => (nomatch hx)⟩ (fun _ _ _ _ => trivial) ?_ ?_
          · rintro k v H7 H8 hk ⟨acc, G, tG, hI⟩ ⟨rfl, rfl⟩
            refine ⟨rfl, _, rfl, ?_⟩
            walk_at "rd"
            refine ⟨t, sc, n, rfl, rfl, n1, by omega, tG.tp, fun d8 H9 h8 s8 hT8 => ?_⟩
            have t8 := tG.read hgt s8 hT8
            have hal : acc.length = k := by
              obtain ⟨xs, rfl, h2, _⟩ := hI
              rw [List.length_map, h2]
            exact ⟨acc, t8.e, szlt (by omega), _, G, t8.set tL1.tp hgt, hI.push (by omega) (by omega)⟩
          · rintro H7 ⟨acc, G, tG, gs, rfl, hgl, hgb⟩
            have tL2 := tL1.read hlnt tG.out tG.tp
            have tM2 := tM.read hmt tL2.out tL2.tp
            have sB := tM2.out
            have egp := tG.e
            have hgl2 : gs.length = ans := by omega
            refine ⟨_, rfl, .inl ⟨rfl, _, sqL_of tL2.e⟩, ?_⟩
            refine ⟨_, rfl, gp, rfl, ⟨_, sqL_of egp⟩, fun D2 hD2 => ?_⟩
            have hD2t := tL2.tp.ne hD2
            refine lc_it (walk_list (xs := gs.map V.int)) (fun k H' => H' gp = some (.lst (gs.map V.int)) ∧ ∃ acc G, TO K sc t H7 D2 (.lst acc) G H' ∧ ∃ l : List (Int × Int), Each (FrV K G) acc l ∧ l.length = k ∧ lnOk ws hs n i j l)
              ⟨same_new hD2 _ _ egp, [], _, .start tL2.tp hD2, [], .nil, rfl, fun x hx => (nomatch hx)⟩ (fun k H' _ h => sqL_of h.1) ?_ ?_
            · rintro k v H8 H9 hk ⟨eg8, acc, G, tQ, l, hE, hl, hlq⟩ ⟨rfl, hv⟩
              rw [List.getElem?_map] at hv
              obtain ⟨g, hg, rfl⟩ := Option.map_eq_some_iff.mp hv
              obtain ⟨gb1, gb2⟩ := hgb g (List.mem_of_getElem? hg)
              have hk3 : k < 3 := by rw [List.length_map] at hk; omega
              obtain ⟨x1, x2, x3⟩ := hhx g gb1 gb2
              obtain ⟨y1, y2, y3⟩ := hhx (i : Int) (by omega) (by omega)
              obtain ⟨w1, w2, w3⟩ := hwx j hj2
              have sQ := sB.trans tQ.out
              have eh9 := wo_same _ _ (sQ _ _ ehw)
              have ew9 := wo_same _ _ (sQ _ _ eww)
              refine ⟨rfl, ?_⟩
              refine ⟨_, rfl, _, rfl, wp, _, _, _, rfl, rfl, sqL_of ew9, w1, ?_⟩
              refine ⟨_, rfl, _, rfl, hp, _, _, _, rfl, rfl, sqL_of eh9, x1, ?_⟩
              refine ⟨_, _, rfl, rfl, ?_⟩
              refine ⟨_, rfl, _, rfl, hp, _, _, _, rfl, rfl, sqL_of eh9, (by rw [Int.zero_add]; exact y1), ?_⟩
              refine ⟨_, _, rfl, rfl, ?_⟩
              refine ⟨_, rfl, ?_⟩
              refine ⟨by show 2 ≤ sizeLine; decide, fun tp htp => ?_⟩
              have t10 := tQ.more (same_new (o := .tup [.int (wAt ws j + hAt hs g - hAt hs (i : Int)), .int g]) htp)
              obtain ⟨G2, t11, sG, hG2⟩ := t10.grow hD2t (.inl .lst)
              have hne : tp ≠ gp := fun z => by rw [z, eg8] at htp; cases htp
              have hne2 : gp ≠ D2 := fun z => by rw [z] at egp; rw [egp] at hD2; cases hD2
              refine ⟨acc, t10.e, szlt (by have := hE.1; omega), ?_, _, G2, t11.set tL2.tp hD2t, l ++ [(wAt ws j + hAt hs g - hAt hs (i : Int), g)], (hE.mono fun _ _ => FrV.mono sG).snoc ⟨tp, rfl, hG2 _ _ (sqT_of upd_same)⟩, by rw [List.length_append, hl] <;> rfl, fun x hx => ?_⟩
              · rw [upd_ne hne2, upd_ne (Ne.symm hne)]
                exact eg8
              · rcases List.mem_append.mp hx with hx | hx
                · exact hlq x hx
                · rw [List.mem_singleton.mp hx]
                  exact ⟨⟨⟨by show 1 ≤ wAt ws j + hAt hs g - hAt hs (i : Int); omega, by show wAt ws j + hAt hs g - hAt hs (i : Int) ≤ 99; omega⟩, gb1, gb2⟩, rfl⟩
            · rintro H8 ⟨eg8, acc, G, tQ, l, hE, hl, hlq⟩
              rw [List.length_map, hgl2] at hl
              have tL3 := tL2.read hlnt tQ.out tQ.tp
              refine ⟨D2, acc, rfl, .inl ⟨sqL_of tQ.e, fun p3 hp3 => ?_⟩⟩
              have tL4 := tL3.more (same_new (o := .tup acc) hp3)
              obtain ⟨G2, tL5, sG, hS⟩ := tL4.grow hlnt (.inl .lst)
              have hal : accL.length = j := by
                obtain ⟨L, h1, h2, _⟩ := hLi
                rw [h1.1, h2]
              refine ⟨ln, accL, _, rfl, rfl, tL4.e, szlt (by omega), ⟨_, _, _, _, _, rfl⟩, _, G2, tL5.set tM.tp hlnt, hLi.push sG ?_ hl hlq⟩
              exact ⟨p3, acc, rfl, hS _ _ (sqT_of upd_same), hE.mono fun v q h => (h.mono (tQ.s.trans (same_new hp3))).ts hS⟩
        · rintro σ H6 ⟨⟨z9, z10, z11, z12, z13, rfl⟩, accL, GL, tL1, L, hL1, hL2, hL3⟩
          have tM2 := tM.read hmt tL1.out tL1.tp
          refine ⟨_, rfl, .inl ⟨rfl, _, sqL_of tM2.e⟩, ?_⟩
          refine ⟨_, rfl, ln, accL, rfl, .inl ⟨sqL_of tL1.e, fun p3 hp3 => ?_⟩⟩
          have tM3 := tM2.more (same_new (o := .tup accL) hp3)
          obtain ⟨G2, tM4, sG, hS⟩ := tM3.grow hmt (.inl .lst)
          have hal : accM.length = i := by
            obtain ⟨L, h1, h2, _⟩ := hMo
            rw [h1.1, h2]
          refine ⟨mh, accM, _, rfl, rfl, tM3.e, szlt (by omega), ⟨_, _, _, _, _, _, _, rfl⟩, _, G2, tM4.set hT4 hmt, hMo.push sG ?_ (by omega) hL3⟩
          exact ⟨p3, accL, rfl, hS _ _ (sqT_of upd_same), hL1.mono fun v q h => LnV.ts hS (LnV.ts (.of (tL1.s.trans (same_new hp3))) h)⟩
      · rintro σ H5 ⟨⟨z7, z8, z9, z10, z11, z12, z13, rfl⟩, accM, GM, tM, M, hM1, hM2, hM3⟩
        refine ⟨_, rfl, mh, accM, rfl, .inl ⟨sqL_of tM.e, fun p3 hp3 => ?_⟩⟩
        have T4 := tM.tp.same (same_new (o := .tup accM) hp3)
        have s6 := tM.out.trans (wo_mono (t := t) (same_new (o := .tup accM) hp3))
        have hV : MvV K (wo (upd H5 p3 (.tup accM)) t) (.ref p3) M := MvV.ts (fun _ _ => sqT_tape T4) ⟨p3, accM, rfl, sqT_of upd_same, hM1.mono fun v q h => StV.ts (.of (tM.s.trans (same_new hp3))) h⟩
        generalize upd H5 p3 (.tup accM) = H6 at T4 s6 hV ⊢
        refine ⟨_, rfl, _, rfl, by show 3 ≤ sizeLine; decide, fun pp hpp => ?_⟩
        have T5 := T4.same (same_new (o := .tup [.ref p3, .ref wp, .ref hp]) hpp)
        have s7 := wo_mono (t := t) (same_new (o := .tup [.ref p3, .ref wp, .ref hp]) hpp)
        refine q pp wp hp (.ref p3) M ws hs _ (s4.trans (s6.trans s7)) T5 (sqT_tape T5 (sqT_of upd_same)) (hV.mono s7) (s7 _ _ (s6 _ _ eww)) (s7 _ _ (s6 _ _ ehw)) (mvOk_of n1 n4 a1 a3 (by omega) fun L hL => ?_) (by omega) hwl hhl hwb ?_
        · obtain ⟨g, hg⟩ := List.mem_iff_getElem?.mp hL
          obtain ⟨k1, k2⟩ := hM3 g L hg
          refine ⟨k1, fun l hl => ?_⟩
          obtain ⟨k, hk⟩ := List.mem_iff_getElem?.mp hl
          exact ⟨(k2 k l hk).1, fun q hq => ((k2 k l hk).2 q hq).1⟩
        · intro i j L l q hL hl hq
          exact (((hM3 i L hL).2 j l hl).2 q hq).2
end K84
set_option maxHeartbeats 4000000
namespace K84
open PySem PySem.Spec PyProof.Rows L2
local macro_rules | `(tactic| walk_at "ix") => `(tactic| first | exact atI_nat (j := 0) rfl | exact atI_nat (j := 1) rfl | exact atI_nat (j := 2) rfl | exact atI_nat (j := 3) rfl | exact atI_nat (j := 4) rfl)
local macro_rules | `(tactic| walk_at "rd") => `(tactic| repeat (first
  | refine ⟨_, rfl, ?_⟩
  | refine ⟨rfl, ?_⟩
  | refine ⟨_, _, rfl, ?_⟩
  | refine ⟨_, _, rfl, rfl, ?_⟩
  | refine ⟨_, _, _, rfl, ?_⟩
  | refine ⟨_, _, _, _, rfl, ?_⟩
  | refine ⟨_, _, _, _, rfl, rfl, (by assumption), (by walk_at "ix"), ?_⟩
  | refine ⟨_, _, _, rfl, rfl, (by assumption), ?_⟩
  | refine ⟨.inl ⟨rfl, _, sqL_of (by assumption)⟩, ?_⟩
  | refine ⟨_, _, _, _, _, rfl, (by assumption), (by assumption), (by assumption), (by assumption), ?_⟩
  | refine ⟨_, _, _, _, _, rfl, .ty _, Tg.ty (by assumption), kit_ty (by first | exact kInt _ | exact kBool _ | exact kStr _ | exact kTup _ | exact kLst _ | exact kDct _), ?_⟩))
def sp_l_price (K : PySem.W.Frag) : Sp := sp3 fun a b c0 H Q _ => ∃ (p : Addr) (c r : Wd) (w m : Nat) (tb : Wd → Fq), a = .ref p ∧ b = .int w ∧ c0 = .str (S c) ∧ Tab K H p r w tb m ∧ 1 ≤ w ∧ (∀ x ∈ c, x ∈ r) ∧ c.length ≤ 7 ∧ m ≤ 168 ∧ ∀ v H', Same H H' → FrV K H' v (prc tb w c) → Q v H'
/- _law_price: _law_table_here=0 _law_width=1 _law_code_here=2 _law_found=3 _law_stretch=4; cells []; calls ['_law_stretches', '_law_plus']; builtins [] -/
abbrev s_l_price : Stmt := top 72
theorem sc_l_price : FnScope ["_law_table_here", "_law_width", "_law_code_here", "_law_found", "_law_stretch"] ["_law_table_here", "_law_width", "_law_code_here"] (defScope s_l_price) := ⟨rfl, rfl, rfl, by decide +kernel, rfl, by decide +kernel, by decide +kernel⟩
theorem ok_l_price {P : Program} {w : World} {K : PySem.W.Frag} {mg : Str → Option Value} {base : Heap} (D : Df K mg "_law_price" s_l_price) (T : Tx K mg) (c_l_stretches : Cl CX0 P w K mg base 1 "_law_stretches" (sp_l_stretches K)) (c_l_plus : Cl CX0 P w K mg base 2 "_law_plus" (sp_l_plus K)) :
    Cl CX0 P w K mg base 3 "_law_price" (sp_l_price K) := by
  refine D.ok3 (k := 2) sc_l_price (fun _ _ _ _ _ _ us hl => match us, hl with | [_, _, _], _ => rfl) (fun f cdv A outer s H a b c Q E hr h => ⟨_, PSs.nox ((pss_cons (ps_set (i := 3) sc_l_price.nd rfl (Or.inl rfl) (pe_tup (pa_cons pe_int (pa_cons pe_int pa_nil))))
      (pss_cons (ps_for PassesOwn.never rfl (pi_list (pe_cl c_l_stretches hr (by decide) pass0 (pa_cons (pv 2) (pa_cons (pv 1) pa_nil)))) (pg_name (i := 4) sc_l_price.nd rfl (Or.inl rfl)) (pss_one (ps_set (i := 3) sc_l_price.nd rfl (Or.inl rfl) (pe_cl c_l_plus hr (by decide) pass0 (pa_cons (pv 3) (pa_cons (pe_dget (hu_of hr) (pv 0) (pv 4) (fun _ _ => rfl)) pa_nil))))))
      (pss_one (ps_ret (pv 3)))))), ?_⟩)
  obtain ⟨p, c, r, w, m, tb, rfl, rfl, rfl, hT, hw, hc, hl, hm, q⟩ := h
  walk_at "rd"
  refine ⟨by show 2 ≤ sizeLine; decide, fun fp hfp => ?_⟩
  walk_at "rd"
  refine ⟨hw, by omega, fun lp H1 s1 hlp elp => ?_⟩
  have s01 := (same_new hfp).trans s1
  walk_at "rd"
  refine ⟨⟨_, sqL_of elp⟩, ?_⟩
  refine for_list (xs := (stq w c).map strV) (fun i σ H' => Same H1 H' ∧ ∃ v z, σ = [some (.ref p), some (.int w), some (.str (S c)), some v, z] ∧ FrV K H' v (fsum (((stq w c).take i).map tb)))
    ⟨L2.Same.refl _, _, _, rfl, ⟨fp, rfl, s1.seqT (sqT_of upd_same)⟩⟩ (fun i σ H' _ h => h.1.seq (sqL_of elp)) ?_ ?_
  · rintro i v σ H2 hv ⟨s2, u, z, rfl, hu⟩
    rw [List.getElem?_map] at hv
    obtain ⟨x, hx, rfl⟩ := Option.map_eq_some_iff.mp hv
    have hxs := stq_mem hc (List.mem_of_getElem? hx)
    obtain ⟨f, g1, g2⟩ := (hT.mono (s01.trans s2)).get hxs
    have hfb : FB (1 + (m + 1) * (((stq w c).take i).map tb).length) (fsum (((stq w c).take i).map tb)) := fsum_fb fun y hy => by
      obtain ⟨y2, hy2, rfl⟩ := List.mem_map.mp hy
      exact (hT.ok y2 (stq_mem hc (List.mem_of_mem_take hy2))).1
    have hi : i < (stq w c).length := (List.getElem?_eq_some_iff.mp hx).1
    rw [stq_length] at hi
    have hk : (m + 1) * (((stq w c).take i).map tb).length ≤ 169 * 6 := Nat.mul_le_mul (by omega) (by rw [List.length_map, List.length_take]; omega)
    refine ⟨_, rfl, _, rfl, _, rfl, p, f, rfl, g1, ?_⟩
    refine ⟨_, _, rfl, _, tb x, _, m, hu, g2, hfb, (hT.ok x hxs).1, by omega, fun v3 H3 s3 hv3 => ⟨s2.trans s3, v3, _, rfl, ?_⟩⟩
    rw [take_map_snoc hx, fsum_snoc]
    exact hv3
  · rintro σ H2 ⟨s2, u, z, rfl, hu⟩
    rw [List.length_map, List.take_length] at hu
    exact ⟨_, rfl, q _ _ (s01.trans s2) hu⟩
def sp_l_cheapest (K : PySem.W.Frag) : Sp := sp3 fun a b c0 H Q _ => ∃ (p op : Addr) (r : Wd) (w m : Nat) (tb : Wd → Fq) (ys : List Wd), a = .ref p ∧ b = .int w ∧ c0 = .ref op ∧ Tab K H p r w tb m ∧ 1 ≤ w ∧ m ≤ 168 ∧ SqL K H op (ys.map strV) ∧ (∀ y ∈ ys, (∀ x ∈ y, x ∈ r) ∧ y.length ≤ 7) ∧ ys ≠ [] ∧
  ∀ v H' best, Same H H' → chp tb w ys = some best → BestV K H' v best → Q v H'
/- _law_cheapest: _law_table_here=0 _law_width=1 _law_all_orders_here=2 _law_best=3 _law_order=4 _law_price_here=5; cells []; calls ['_law_less', '_law_price']; builtins [] -/
abbrev s_l_cheapest : Stmt := top 82
theorem sc_l_cheapest : FnScope ["_law_table_here", "_law_width", "_law_all_orders_here", "_law_best", "_law_order", "_law_price_here"] ["_law_table_here", "_law_width", "_law_all_orders_here"] (defScope s_l_cheapest) := ⟨rfl, rfl, rfl, by decide +kernel, rfl, by decide +kernel, by decide +kernel⟩
theorem ok_l_cheapest {P : Program} {w : World} {K : PySem.W.Frag} {mg : Str → Option Value} {base : Heap} (D : Df K mg "_law_cheapest" s_l_cheapest) (T : Tx K mg) (c_l_less : Cl CX0 P w K mg base 1 "_law_less" (sp_l_less K)) (c_l_price : Cl CX0 P w K mg base 3 "_law_price" (sp_l_price K)) :
    Cl CX0 P w K mg base 4 "_law_cheapest" (sp_l_cheapest K) := by
  refine D.ok3 (k := 3) sc_l_cheapest (fun _ _ _ _ _ _ us hl => match us, hl with | [_, _, _], _ => rfl) (fun f cdv A outer s H a b c Q E hr h => ⟨_, PSs.nox ((pss_cons (ps_set (i := 3) sc_l_cheapest.nd rfl (Or.inl rfl) pe_non)
      (pss_cons (ps_for PassesOwn.never rfl (pi_list (pv 2)) (pg_name (i := 4) sc_l_cheapest.nd rfl (Or.inl rfl)) (pss_cons (ps_set (i := 5) sc_l_cheapest.nd rfl (Or.inl rfl) (pe_cl c_l_price hr (by decide) pass0 (pa_cons (pv 0) (pa_cons (pv 1) (pa_cons (pv 4) pa_nil)))))
      (pss_one (ps_if (PW.pt (pw_or (pt_cmpR op_isN (pv 3) pe_non (nomark _)) (pw_or1 (pt_val (pe_cl c_l_less hr (by decide) pass0 (pa_cons (pv 5) (pa_cons (pe_ix ix_tup (pv 3) pe_int (fun _ _ => rfl)) pa_nil))))))) (pss_one (ps_set (i := 3) sc_l_cheapest.nd rfl (Or.inl rfl) (pe_tup (pa_cons (pv 5) (pa_cons (pv 4) pa_nil))))) pss_nil))))
      (pss_one (ps_ret (pv 3)))))), ?_⟩)
  obtain ⟨p, op, r, w, m, tb, ys, rfl, rfl, rfl, hT, hw, hm, hys, hyr, hne, q⟩ := h
  walk_at "rd"
  refine ⟨⟨_, hys⟩, ?_⟩
  refine for_list (xs := ys.map strV) (fun i σ H' => Same H H' ∧ ∃ v z5 z6, σ = [some (.ref p), some (.int w), some (.ref op), some v, z5, z6] ∧ BestO K H' v (chp tb w (ys.take i))) ⟨L2.Same.refl _, .non, _, _, rfl, rfl⟩ (fun i σ H' _ h => h.1.seq hys) ?_ ?_
  · rintro i v σ H3 hv ⟨s3, u, z5, z6, rfl, hB⟩
    rw [List.getElem?_map] at hv
    obtain ⟨y, hy, rfl⟩ := Option.map_eq_some_iff.mp hv
    obtain ⟨y1, y2⟩ := hyr y (List.mem_of_getElem? hy)
    refine ⟨_, rfl, _, rfl, _, rfl, _, _, _, rfl, p, y, r, w, m, tb, rfl, rfl, rfl, hT.mono s3, hw, y1, y2, hm, fun cv H4 s4 hcv => ?_⟩
    have hB4 := hB.mono s4
    have et : chp tb w (ys.take (i + 1)) = chs tb w (chp tb w (ys.take i)) y := by
      rw [List.take_add_one, hy]
      exact chp_snoc
    cases hbest : chp tb w (ys.take i) with
    | none =>
      rw [hbest] at hB4
      have eu : u = .non := hB4
      subst eu
      refine ⟨_, rfl, rfl, _, rfl, ?_⟩
      refine ifT (by decide) (iteT ?_)
      refine ⟨_, rfl, _, rfl, by show 2 ≤ sizeLine; decide, fun np hnp => ?_⟩
      refine ⟨s3.trans (s4.new hnp), _, _, _, rfl, ?_⟩
      rw [et, hbest]
      exact ⟨np, cv, rfl, sqT_of upd_same, hcv.mono (same_new hnp)⟩
    | some b =>
      rw [hbest] at hB4
      obtain ⟨bp, bf, rfl, hb1, hb2⟩ := id hB4
      obtain ⟨bm1, bm2⟩ := chp_mem _ _ hbest
      obtain ⟨z1, z2⟩ := hyr b.2 (List.mem_of_mem_take bm1)
      refine ⟨_, rfl, rfl, _, rfl, ?_⟩
      refine ifF (decide_eq_false fun z => (nomatch z)) ?_
      refine ⟨_, rfl, _, rfl, bp, _, 0, bf, rfl, rfl, hb1, atI_nat (j := 0) rfl, ?_⟩
      have f1 := prc_fb (fun n hn => (hT.ok n hn).1) y1 y2 (by omega)
      have f2 : FB 1408 b.1 := by
        rw [bm2]
        exact prc_fb (fun n hn => (hT.ok n hn).1) z1 z2 (by omega)
      refine ⟨_, _, rfl, prc tb w y, b.1, 1408, 1408, hcv, hb2, f1, f2, by decide, _, rfl, ?_⟩
      refine ifB (fun hl => ?_) (fun hl => ?_)
      · refine ⟨_, rfl, _, rfl, by show 2 ≤ sizeLine; decide, fun np hnp => ?_⟩
        refine ⟨s3.trans (s4.new hnp), _, _, _, rfl, ?_⟩
        rw [et, hbest]
        unfold chs
        dsimp only
        rw [if_pos hl]
        exact ⟨np, cv, rfl, sqT_of upd_same, hcv.mono (same_new hnp)⟩
      · refine ⟨s3.trans s4, _, _, _, rfl, ?_⟩
        rw [et, hbest]
        unfold chs
        dsimp only
        rw [if_neg (by rw [hl]; exact Bool.false_ne_true)]
        exact hB4
  · rintro σ H3 ⟨s3, u, z5, z6, rfl, hB⟩
    obtain ⟨best, hbest⟩ := chp_some (tb := tb) (w := w) hne
    rw [List.length_map, List.take_length, hbest] at hB
    exact ⟨_, rfl, q _ H3 best s3 hbest hB⟩
end K84
set_option maxHeartbeats 4000000
namespace K84
open PySem PySem.Spec PyProof.Rows L2
local macro_rules | `(tactic| walk_at "ix") => `(tactic| first | exact atI_nat (j := 0) rfl | exact atI_nat (j := 1) rfl | exact atI_nat (j := 2) rfl | exact atI_nat (j := 3) rfl | exact atI_nat (j := 4) rfl)
local macro_rules | `(tactic| walk_at "rd") => `(tactic| repeat (first
  | refine ⟨_, rfl, ?_⟩
  | refine ⟨rfl, ?_⟩
  | refine ⟨_, _, rfl, ?_⟩
  | refine ⟨_, _, rfl, rfl, ?_⟩
  | refine ⟨_, _, _, rfl, ?_⟩
  | refine ⟨_, _, _, _, rfl, ?_⟩
  | refine ⟨_, _, _, _, rfl, rfl, (by assumption), (by walk_at "ix"), ?_⟩
  | refine ⟨_, _, _, rfl, rfl, (by assumption), ?_⟩
  | refine ⟨.inl ⟨rfl, _, sqL_of (by assumption)⟩, ?_⟩
  | refine ⟨_, _, _, _, _, rfl, (by assumption), (by assumption), (by assumption), (by assumption), ?_⟩
  | refine ⟨_, _, _, _, _, rfl, .ty _, Tg.ty (by assumption), kit_ty (by first | exact kInt _ | exact kBool _ | exact kStr _ | exact kTup _ | exact kLst _ | exact kDct _), ?_⟩))
/- law: _law_script=0 _law_tape_here=1 _law_priced=2 _law_rows_here=3 _law_answers=4 _law_size=5 _law_moves_here=6 _law_worths=7 _law_heights=8 _law_width=9 _law_table_here=10 _law_stretch=11 _law_machine=12 _law_prices=13 _law_code_here=14 _law_befores_here=15 _law_found=16 _law_best=17 _law_spans_here=18 _law_due_here=19 _law_there=20 _law_turn=21 _law_other=22 _law_order=23 _law_at=24; cells ['_law_heights', '_law_moves_here', '_law_rows_here']; calls ['_law_asked', 'Prices', '_law_refuses', '_law_reached', '_law_is', 'waste', 'cheapest', '_law_spans', '_law_cheapest', '_law_all_orders', '_law_befores', '_law_ordered_code', 'Prices', 'Machine', '_law_table', '_law_moves', '_law_all_stretches', '_law_pick', '_law_priced_world', '_law_rows', '_law_tape']; builtins ['int', 'range', 'max', 'min'] -/
abbrev s_law : Stmt := top 87
theorem sc_law : FnScope ["_law_script", "_law_tape_here", "_law_priced", "_law_rows_here", "_law_answers", "_law_size", "_law_moves_here", "_law_worths", "_law_heights", "_law_width", "_law_table_here", "_law_stretch", "_law_machine", "_law_prices", "_law_code_here", "_law_befores_here", "_law_found", "_law_best", "_law_spans_here", "_law_due_here", "_law_there", "_law_turn", "_law_other", "_law_order", "_law_at"] ["_law_script"] (defScope s_law) := ⟨rfl, rfl, rfl, by decide +kernel, rfl, by decide +kernel, by decide +kernel⟩
/-- what the law holds of its code and befores -/
structure CoB (K : PySem.W.Frag) (H : Hp) (bp : Addr) (r c0 : Wd) (bs : List (Nat × Nat)) : Prop where
  cr : ∀ x ∈ c0, x ∈ r
  c7 : c0.length ≤ 7
  b : Tg K H (.ref bp) (.lst (bs.map bTh))
  bl : bs.length ≤ 6
  bo : ∀ q ∈ bs, q.1 < q.2 ∧ q.2 < c0.length
theorem CoB.mono {K : PySem.W.Frag} {H H' : Hp} {bp : Addr} {r c0 : Wd} {bs : List (Nat × Nat)} (s : Same H H') (h : CoB K H bp r c0 bs) : CoB K H' bp r c0 bs := ⟨h.cr, h.c7, h.b.mono s, h.bl, h.bo⟩
theorem st_one {c : Nat} : st [c] 1 = [[c]] := by
  unfold st srt allst extra codes
  simp [codes]
theorem law5 {P : Program} {w : World} {K : PySem.W.Frag} {mg : Str → Option Value} {base : Heap} {C_Machine C_Prices : Addr} (T : Tx K mg) (c_l_asked : Cl CX0 P w K mg base 9 "_law_asked" (sp_l_asked K)) (c_Prices : ClM P w K mg base 4 "Prices" C_Prices (sp_Prices K C_Prices)) (c_l_refuses : Cl CX0 P w K mg base 10 "_law_refuses" (sp_l_refuses K)) (c_l_reached : Cl CX0 P w K mg base 1 "_law_reached" (sp_l_reached K)) (c_l_is : Cl CX0 P w K mg base 5 "_law_is" (sp_l_is K)) (c_waste : Cl (L2.CX P w) P w K mg base 8 "waste" (sp_waste K)) (c_cheapest : Cl (L2.CX P w) P w K mg base 7 "cheapest" (sp_cheapest K)) (c_l_spans : Cl CX0 P w K mg base 1 "_law_spans" (sp_l_spans K)) (c_l_cheapest : Cl CX0 P w K mg base 4 "_law_cheapest" (sp_l_cheapest K)) (c_l_all_orders : Cl CX0 P w K mg base 2 "_law_all_orders" (sp_l_all_orders K)) (c_l_befores : Cl CX0 P w K mg base 2 "_law_befores" (sp_l_befores K)) (c_l_ordered_code : Cl CX0 P w K mg base 3 "_law_ordered_code" (sp_l_ordered_code K)) (c_Machine : ClM P w K mg base 5 "Machine" C_Machine (sp_Machine K C_Machine)) (c_l_table : Cl CX0 P w K mg base 3 "_law_table" (sp_l_table K)) (c_l_moves : Cl CX0 P w K mg base 2 "_law_moves" (sp_l_moves K)) (c_l_all_stretches : Cl CX0 P w K mg base 1 "_law_all_stretches" (sp_l_all_stretches K)) (c_l_pick : Cl CX0 P w K mg base 1 "_law_pick" (sp_l_pick K)) (c_l_priced_world : Cl CX0 P w K mg base 2 "_law_priced_world" (sp_l_priced_world K)) (c_l_rows : Cl CX0 P w K mg base 2 "_law_rows" (sp_l_rows K)) (c_l_tape : Cl CX0 P w K mg base 1 "_law_tape" (sp_l_tape K)) {f : Addr} {cdv : Value} {A : Around} {outer : List Env} {s : Shared} {H : Hp} {E : XK} (hr : Room 10 (A.deeper (envOfC "law" (defScope s_law) s.heap.objs.size f cdv))) {Q : VK} :
    ∃ tr, PSs (cxOf CX0 P w K mg base ["_law_script", "_law_tape_here", "_law_priced", "_law_rows_here", "_law_answers", "_law_size", "_law_moves_here", "_law_worths", "_law_heights", "_law_width", "_law_table_here", "_law_stretch", "_law_machine", "_law_prices", "_law_code_here", "_law_befores_here", "_law_found", "_law_best", "_law_spans_here", "_law_due_here", "_law_there", "_law_turn", "_law_other", "_law_order", "_law_at"] "law" (defScope s_law) f cdv A outer s H E).nox ((defBody s_law).drop 23) tr ∧ ∀ σ H', (∃ (m o : V) (r r' : Wd) (ans ww mm w' m' : Nat) (M : Mv) (tb tb' : Wd → Fq) (z0 z1 z2 z3 z4 z5 z6 z7 z8 z9 z10 z11 z13 z14 z15 z16 z17 z18 z19 z20 z21 z23 z24 : Option V),
      σ = [z0, z1, z2, z3, z4, z5, z6, z7, z8, z9, z10, z11, some m, z13, z14, z15, z16, z17, z18, z19, z20, z21, some o, z23, z24] ∧ (∃ p, RfO K H' m p r ans ww mm M tb) ∧ PrO K H' o r' w' tb' m' ∧ 1 ≤ w' ∧ m' ≤ 200 ∧ r ≠ r' ∧ ∀ H2, Q (.bl true) H2) → tr { nx := fun _ H' => Q .non H', rt := Q } σ H' := by
  refine ⟨_, (pss_one (ps_ret (pe_cmpR (op_eqD hr.units) (pe_cl c_l_asked hr (by decide) pass0 (pa_cons pe_int (pa_cons (pv 12) (pa_cons (pv 22) (pa_cons pe_non (pa_cons pe_non pa_nil)))))) (pe_tup (pa_cons pe_str (pa_cons (pe_lst (pa_cons pe_bl (pa_cons pe_bl (pa_cons pe_bl pa_nil)))) pa_nil))) (nomark _)))), ?_⟩
  rintro σ H1 ⟨m, o, r, r', ans, ww, mm, w', m', M, tb, tb', z0, z1, z2, z3, z4, z5, z6, z7, z8, z9, z10, z11, z13, z14, z15, z16, z17, z18, z19, z20, z21, z23, z24, rfl, ⟨p, hO⟩, hP, hw, hm, hne, q⟩
  have hA : ansB 4 r r' .non .non = some [true, false, false] := if_neg hne
  refine ⟨_, rfl, _, rfl, _, _, _, _, _, rfl, 4, r, r', ans, w', m', M, tb', .non, .non, rfl, by decide, .inr rfl, hO.m, hP, hw, hm, .non, .non, hO.mv, hO.rr, ⟨fun _ z => (nomatch z), fun _ z => (nomatch z), fun _ z => (nomatch z)⟩, fun _ z => (nomatch z), ?_, ?_⟩
  · intro h
    rw [hA] at h
    cases h
  · intro bs hb u l H2 s2 hu hl
    rw [hA] at hb
    cases hb
    refine ⟨by show 3 ≤ sizeLine; decide, fun lp hlp => ?_⟩
    refine ⟨by show 2 ≤ sizeLine; decide, fun tp htp => ?_⟩
    have s3 := (same_new (o := .lst [.bl true, .bl false, .bl false]) hlp).new (o := .tup [.str "refused", .ref lp]) htp
    have el := same_new (o := .tup [.str "refused", .ref lp]) htp _ _ (upd_same (H := H2) (a := lp) (o := .lst [.bl true, .bl false, .bl false]))
    refine ⟨.tuple [.str "refused", .list ([true, false, false].map PyData.bool)], .tuple [.str "refused", .list ([true, false, false].map PyData.bool)], .tup (s3.seqT hu) (.cons (.str _) (.cons (.lst (sqL_of (s3 _ _ hl)) (dp_bools _)) .nil)), .tup (sqT_of upd_same) (.cons (.str _) (.cons (.lst (sqL_of el) (dp_bools [true, false, false])) .nil)), refused_shaped, refused_shaped, ?_⟩
    rw [SeqAt.eqv_refl _ (SeqAt.canLay_of_shaped refused_shaped)]
    exact q _
theorem law4 {P : Program} {w : World} {K : PySem.W.Frag} {mg : Str → Option Value} {base : Heap} {C_Machine C_Prices : Addr} (T : Tx K mg) (c_l_asked : Cl CX0 P w K mg base 9 "_law_asked" (sp_l_asked K)) (c_Prices : ClM P w K mg base 4 "Prices" C_Prices (sp_Prices K C_Prices)) (c_l_refuses : Cl CX0 P w K mg base 10 "_law_refuses" (sp_l_refuses K)) (c_l_reached : Cl CX0 P w K mg base 1 "_law_reached" (sp_l_reached K)) (c_l_is : Cl CX0 P w K mg base 5 "_law_is" (sp_l_is K)) (c_waste : Cl (L2.CX P w) P w K mg base 8 "waste" (sp_waste K)) (c_cheapest : Cl (L2.CX P w) P w K mg base 7 "cheapest" (sp_cheapest K)) (c_l_spans : Cl CX0 P w K mg base 1 "_law_spans" (sp_l_spans K)) (c_l_cheapest : Cl CX0 P w K mg base 4 "_law_cheapest" (sp_l_cheapest K)) (c_l_all_orders : Cl CX0 P w K mg base 2 "_law_all_orders" (sp_l_all_orders K)) (c_l_befores : Cl CX0 P w K mg base 2 "_law_befores" (sp_l_befores K)) (c_l_ordered_code : Cl CX0 P w K mg base 3 "_law_ordered_code" (sp_l_ordered_code K)) (c_Machine : ClM P w K mg base 5 "Machine" C_Machine (sp_Machine K C_Machine)) (c_l_table : Cl CX0 P w K mg base 3 "_law_table" (sp_l_table K)) (c_l_moves : Cl CX0 P w K mg base 2 "_law_moves" (sp_l_moves K)) (c_l_all_stretches : Cl CX0 P w K mg base 1 "_law_all_stretches" (sp_l_all_stretches K)) (c_l_pick : Cl CX0 P w K mg base 1 "_law_pick" (sp_l_pick K)) (c_l_priced_world : Cl CX0 P w K mg base 2 "_law_priced_world" (sp_l_priced_world K)) (c_l_rows : Cl CX0 P w K mg base 2 "_law_rows" (sp_l_rows K)) (c_l_tape : Cl CX0 P w K mg base 1 "_law_tape" (sp_l_tape K)) {f : Addr} {cdv : Value} {A : Around} {outer : List Env} {s : Shared} {H : Hp} {E : XK} (hr : Room 10 (A.deeper (envOfC "law" (defScope s_law) s.heap.objs.size f cdv))) {Q : VK} :
    ∃ tr, PSs (cxOf CX0 P w K mg base ["_law_script", "_law_tape_here", "_law_priced", "_law_rows_here", "_law_answers", "_law_size", "_law_moves_here", "_law_worths", "_law_heights", "_law_width", "_law_table_here", "_law_stretch", "_law_machine", "_law_prices", "_law_code_here", "_law_befores_here", "_law_found", "_law_best", "_law_spans_here", "_law_due_here", "_law_there", "_law_turn", "_law_other", "_law_order", "_law_at"] "law" (defScope s_law) f cdv A outer s H E).nox ((defBody s_law).drop 21) tr ∧ ∀ σ H', (∃ (t sc bp : Addr) (m p : V) (r c0 : Wd) (ans ww mm : Nat) (M : Mv) (tb : Wd → Fq) (bs : List (Nat × Nat)) (z0 z2 z4 z5 z6 z7 z8 z9 z10 z11 z16 z17 z18 z19 z20 z21 z22 z23 z24 : Option V),
      σ = [z0, some (.ref t), z2, some (.str (S r)), z4, z5, z6, z7, z8, z9, z10, z11, some m, some p, some (.str (S c0)), some (.ref bp), z16, z17, z18, z19, z20, z21, z22, z23, z24] ∧ Tp K sc H' t ∧
      RfO K (wo H' t) m p r ans ww mm M tb ∧ CoB K (wo H' t) bp r c0 bs ∧ ∀ H2, Q (.bl true) H2) → tr { nx := fun _ H' => Q .non H', rt := Q } σ H' := by
  obtain ⟨tr5, hp5, h5⟩ := law5 (Q := Q) T c_l_asked c_Prices c_l_refuses c_l_reached c_l_is c_waste c_cheapest c_l_spans c_l_cheapest c_l_all_orders c_l_befores c_l_ordered_code c_Machine c_l_table c_l_moves c_l_all_stretches c_l_pick c_l_priced_world c_l_rows c_l_tape hr
  refine ⟨_, (pss_cons (ps_for PassesOwn.never rfl (pi_range1 (by rfl) T.range (pa_cons pe_int pa_nil)) (pg_name (i := 21) sc_law.nd rfl (Or.inl rfl)) (pss_one (ps_if (pt_not (pt_val (pe_cl c_l_refuses hr (by decide) pass0 (pa_cons (pv 1) (pa_cons (pv 12) (pa_cons (pv 13) (pa_cons (pv 3) (pa_cons (pv 14) (pa_cons (pv 15) pa_nil))))))))) (pss_one (ps_ret pe_bl)) pss_nil)))
      (pss_cons (ps_set (i := 22) sc_law.nd rfl (Or.inl rfl) (pe_mkl c_Prices hr (by decide) pass0 (pa_cons (pe_ifExp (pt_cmpR op_ne (pv 3) pe_str (nomark _)) pe_str pe_str) (pa_cons pe_int (pa_cons (pe_disp (pps_cons (pe_ix ix_list (pe_lst (pa_cons pe_str (pa_cons pe_str pa_nil))) (pe_callTy call_int1 (by rfl) T.int_ (by decide +kernel) (pa_cons (pe_cmpR op_eq (pv 3) pe_str (nomark _)) pa_nil)) (fun _ _ => rfl)) (pe_tup (pa_cons pe_int (pa_cons pe_int pa_nil))) pps_nil) (by rfl) (by rfl) (fun z => by cases z) (by decide)) pa_nil)))))
      hp5)), ?_⟩
  rintro σ H1 ⟨t, sc, bp, m, p, r, c0, ans, ww, mm, M, tb, bs, z0, z2, z4, z5, z6, z7, z8, z9, z10, z11, z16, z17, z18, z19, z20, z21, z22, z23, z24, rfl, hT, hO, hB, q⟩
  refine ⟨_, rfl, by decide, by decide, ?_⟩
  refine for_range (fun k σ H' => Same (wo H1 t) (wo H' t) ∧ Tp K sc H' t ∧ ∃ z21, σ = [z0, some (.ref t), z2, some (.str (S r)), z4, z5, z6, z7, z8, z9, z10, z11, some m, some p, some (.str (S c0)), some (.ref bp), z16, z17, z18, z19, z20, z21, z22, z23, z24])
    ⟨L2.Same.refl _, hT, _, rfl⟩ ?_ ?_
  · rintro k σ H2 hk ⟨s2, T2, z21, rfl⟩
    obtain ⟨b1, b2, b3, b4, b5⟩ := hB.mono s2
    obtain ⟨bxs, hb1, hb2⟩ : ∃ bxs, SqL K (wo H2 t) bp bxs ∧ TgAll K (wo H2 t) bxs (bs.map bTh) := by
      cases b3 with
      | @lst p xs ds h1 h2 => exact ⟨xs, h1, h2⟩
    refine ⟨_, rfl, _, rfl, _, rfl, _, rfl, _, rfl, _, rfl, ?_⟩
    refine ⟨_, _, _, _, _, _, rfl, t, sc, bp, r, ans, ww, mm, M, tb, c0, _, bxs, rfl, rfl, rfl, rfl, T2, hO.mono s2, b1, b2, hb1, hb2, by rw [List.length_map]; exact b4, fun H3 s3 T3 => ?_⟩
    refine ⟨_, rfl, ?_⟩
    exact iteF ⟨s2.trans s3, T3, _, rfl⟩
  · rintro σ H2 ⟨s2, T2, z21, rfl⟩
    have O2 := (hO.mono s2).mono wo_same
    cases hz : decide (V.str (S r) = V.str (Str.ofString "z")) with
    | false =>
      refine ⟨_, rfl, rfl, ?_⟩
      rw [hz]
      have hne : r ≠ [122] := fun e => by rw [e] at hz; exact absurd hz (by decide)
      have eL : (Str.ofString "z" : Str) = S [122] := by decide +kernel
      refine ⟨_, rfl, iteT ?_⟩
      intro dp hdp
      refine ⟨by show 2 ≤ sizeLine; decide, fun l1 hl1 => ?_⟩
      have sa := (same_new (o := .dK []) hdp).new (o := .lst [.str "z", .str "y"]) hl1
      have ed : upd (upd H2 dp (.dK [])) l1 (.lst [.str "z", .str "y"]) dp = some (.dK []) := same_new hl1 _ _ upd_same
      have el : upd (upd H2 dp (.dK [])) l1 (.lst [.str "z", .str "y"]) l1 = some (.lst [.str "z", .str "y"]) := upd_same
      generalize upd (upd H2 dp (.dK [])) l1 (.lst [.str "z", .str "y"]) = Ha at sa ed el ⊢
      refine ⟨_, rfl, rfl, ?_⟩
      refine .inr ⟨_, rfl, ?_⟩
      rw [hz]
      refine ⟨l1, _, 0, .str "z", rfl, rfl, sqL_of el, atI_nat (j := 0) rfl, ?_⟩
      refine ⟨by show 2 ≤ sizeLine; decide, fun tp htp => ?_⟩
      have sb := sa.new (o := .tup [.int 1, .int 1]) htp
      have ed2 := same_new (o := .tup [.int 1, .int 1]) htp _ _ ed
      have et : upd Ha tp (.tup [.int 1, .int 1]) tp = some (.tup [.int 1, .int 1]) := upd_same
      generalize upd Ha tp (.tup [.int 1, .int 1]) = Hb at sb ed2 et ⊢
      have hdt : tp ≠ dp := fun z => by rw [z, ed2] at et; cases et
      refine ⟨ed2, [(.inr (S [122]), .ref tp)], by rw [eL] <;> rfl, by show 1 ≤ 15; decide, ?_⟩
      have hTab : Tab K (upd Hb dp (.dK (mergeK [] [((.inr (S [122]) : L2.Key), .ref tp)]))) dp [122] 1 (fun _ => (1, 1)) 2 := by
        refine ⟨⟨fun _ => .ref tp, ?_, fun n hn => ⟨tp, rfl, sqT_of ((upd_ne hdt).trans et)⟩⟩, fun n hn => ⟨⟨by decide, by decide, by decide⟩, by decide⟩⟩
        rw [upd_same, st_one]
        rfl
      have sc0 : Same H2 (upd Hb dp (.dK (mergeK [] [((.inr (S [122]) : L2.Key), .ref tp)]))) := fun b o eb => by
        have hb : b ≠ dp := fun z => by rw [z, hdp] at eb; cases eb
        rw [upd_ne hb]
        exact sb _ _ eb
      generalize upd Hb dp (.dK (mergeK [] [((.inr (S [122]) : L2.Key), .ref tp)])) = Hc at hTab sc0 ⊢
      intro x dx hx hdx hxx
      have sd : Same Hc (upd (upd Hc dx (.own x)) x (.ins C_Prices dx [])) := (same_new hdx).new (by rw [upd_ne (Ne.symm hxx)]; exact hx)
      refine ⟨_, _, _, _, rfl, x, dx, dp, [122], 1, 2, (fun _ => (1, 1)), rfl, by rw [eL], rfl, rfl, upd_same, ⟨by decide, by decide, by decide, by simp⟩, by decide, by decide, hTab.mono sd, fun H4 k4 hP => ?_⟩
      have s4 : Same H2 H4 := fun b o eb => by
        have hb : b ≠ x := fun z => by rw [z] at eb; rw [sc0 _ _ eb] at hx; cases hx
        exact k4 b o hb (sd _ _ (sc0 _ _ eb))
      exact ⟨rfl, h5 _ _ ⟨m, .ref x, r, _, ans, ww, mm, 1, 2, M, tb, _, _, _, _, _, _, _, _, _, _, _, _, _, _, _, _, _, _, _, _, _, _, _, _, rfl, ⟨p, O2.mono s4⟩, hP, by decide, by decide, hne, q⟩⟩
    | true =>
      refine ⟨_, rfl, rfl, ?_⟩
      rw [hz]
      have hne : r ≠ [121] := fun e => by rw [e] at hz; exact absurd hz (by decide)
      have eL : (Str.ofString "y" : Str) = S [121] := by decide +kernel
      refine ⟨_, rfl, iteF ?_⟩
      intro dp hdp
      refine ⟨by show 2 ≤ sizeLine; decide, fun l1 hl1 => ?_⟩
      have sa := (same_new (o := .dK []) hdp).new (o := .lst [.str "z", .str "y"]) hl1
      have ed : upd (upd H2 dp (.dK [])) l1 (.lst [.str "z", .str "y"]) dp = some (.dK []) := same_new hl1 _ _ upd_same
      have el : upd (upd H2 dp (.dK [])) l1 (.lst [.str "z", .str "y"]) l1 = some (.lst [.str "z", .str "y"]) := upd_same
      generalize upd (upd H2 dp (.dK [])) l1 (.lst [.str "z", .str "y"]) = Ha at sa ed el ⊢
      refine ⟨_, rfl, rfl, ?_⟩
      refine .inr ⟨_, rfl, ?_⟩
      rw [hz]
      refine ⟨l1, _, 1, .str "y", rfl, rfl, sqL_of el, atI_nat (j := 1) rfl, ?_⟩
      refine ⟨by show 2 ≤ sizeLine; decide, fun tp htp => ?_⟩
      have sb := sa.new (o := .tup [.int 1, .int 1]) htp
      have ed2 := same_new (o := .tup [.int 1, .int 1]) htp _ _ ed
      have et : upd Ha tp (.tup [.int 1, .int 1]) tp = some (.tup [.int 1, .int 1]) := upd_same
      generalize upd Ha tp (.tup [.int 1, .int 1]) = Hb at sb ed2 et ⊢
      have hdt : tp ≠ dp := fun z => by rw [z, ed2] at et; cases et
      refine ⟨ed2, [(.inr (S [121]), .ref tp)], by rw [eL] <;> rfl, by show 1 ≤ 15; decide, ?_⟩
      have hTab : Tab K (upd Hb dp (.dK (mergeK [] [((.inr (S [121]) : L2.Key), .ref tp)]))) dp [121] 1 (fun _ => (1, 1)) 2 := by
        refine ⟨⟨fun _ => .ref tp, ?_, fun n hn => ⟨tp, rfl, sqT_of ((upd_ne hdt).trans et)⟩⟩, fun n hn => ⟨⟨by decide, by decide, by decide⟩, by decide⟩⟩
        rw [upd_same, st_one]
        rfl
      have sc0 : Same H2 (upd Hb dp (.dK (mergeK [] [((.inr (S [121]) : L2.Key), .ref tp)]))) := fun b o eb => by
        have hb : b ≠ dp := fun z => by rw [z, hdp] at eb; cases eb
        rw [upd_ne hb]
        exact sb _ _ eb
      generalize upd Hb dp (.dK (mergeK [] [((.inr (S [121]) : L2.Key), .ref tp)])) = Hc at hTab sc0 ⊢
      intro x dx hx hdx hxx
      have sd : Same Hc (upd (upd Hc dx (.own x)) x (.ins C_Prices dx [])) := (same_new hdx).new (by rw [upd_ne (Ne.symm hxx)]; exact hx)
      refine ⟨_, _, _, _, rfl, x, dx, dp, [121], 1, 2, (fun _ => (1, 1)), rfl, by rw [eL], rfl, rfl, upd_same, ⟨by decide, by decide, by decide, by simp⟩, by decide, by decide, hTab.mono sd, fun H4 k4 hP => ?_⟩
      have s4 : Same H2 H4 := fun b o eb => by
        have hb : b ≠ x := fun z => by rw [z] at eb; rw [sc0 _ _ eb] at hx; cases hx
        exact k4 b o hb (sd _ _ (sc0 _ _ eb))
      exact ⟨rfl, h5 _ _ ⟨m, .ref x, r, _, ans, ww, mm, 1, 2, M, tb, _, _, _, _, _, _, _, _, _, _, _, _, _, _, _, _, _, _, _, _, _, _, _, _, rfl, ⟨p, O2.mono s4⟩, hP, by decide, by decide, hne, q⟩⟩
end K84
set_option maxHeartbeats 4000000
namespace K84
open PySem PySem.Spec PyProof.Rows L2
local macro_rules | `(tactic| walk_at "ix") => `(tactic| first | exact atI_nat (j := 0) rfl | exact atI_nat (j := 1) rfl | exact atI_nat (j := 2) rfl | exact atI_nat (j := 3) rfl | exact atI_nat (j := 4) rfl)
local macro_rules | `(tactic| walk_at "rd") => `(tactic| repeat (first
  | refine ⟨_, rfl, ?_⟩
  | refine ⟨rfl, ?_⟩
  | refine ⟨_, _, rfl, ?_⟩
  | refine ⟨_, _, rfl, rfl, ?_⟩
  | refine ⟨_, _, _, rfl, ?_⟩
  | refine ⟨_, _, _, _, rfl, ?_⟩
  | refine ⟨_, _, _, _, rfl, rfl, (by assumption), (by walk_at "ix"), ?_⟩
  | refine ⟨_, _, _, rfl, rfl, (by assumption), ?_⟩
  | refine ⟨.inl ⟨rfl, _, sqL_of (by assumption)⟩, ?_⟩
  | refine ⟨_, _, _, _, _, rfl, (by assumption), (by assumption), (by assumption), (by assumption), ?_⟩
  | refine ⟨_, _, _, _, _, rfl, .ty _, Tg.ty (by assumption), kit_ty (by first | exact kInt _ | exact kBool _ | exact kStr _ | exact kTup _ | exact kLst _ | exact kDct _), ?_⟩))
theorem law3 {P : Program} {w : World} {K : PySem.W.Frag} {mg : Str → Option Value} {base : Heap} {C_Machine C_Prices : Addr} (T : Tx K mg) (c_l_asked : Cl CX0 P w K mg base 9 "_law_asked" (sp_l_asked K)) (c_Prices : ClM P w K mg base 4 "Prices" C_Prices (sp_Prices K C_Prices)) (c_l_refuses : Cl CX0 P w K mg base 10 "_law_refuses" (sp_l_refuses K)) (c_l_reached : Cl CX0 P w K mg base 1 "_law_reached" (sp_l_reached K)) (c_l_is : Cl CX0 P w K mg base 5 "_law_is" (sp_l_is K)) (c_waste : Cl (L2.CX P w) P w K mg base 8 "waste" (sp_waste K)) (c_cheapest : Cl (L2.CX P w) P w K mg base 7 "cheapest" (sp_cheapest K)) (c_l_spans : Cl CX0 P w K mg base 1 "_law_spans" (sp_l_spans K)) (c_l_cheapest : Cl CX0 P w K mg base 4 "_law_cheapest" (sp_l_cheapest K)) (c_l_all_orders : Cl CX0 P w K mg base 2 "_law_all_orders" (sp_l_all_orders K)) (c_l_befores : Cl CX0 P w K mg base 2 "_law_befores" (sp_l_befores K)) (c_l_ordered_code : Cl CX0 P w K mg base 3 "_law_ordered_code" (sp_l_ordered_code K)) (c_Machine : ClM P w K mg base 5 "Machine" C_Machine (sp_Machine K C_Machine)) (c_l_table : Cl CX0 P w K mg base 3 "_law_table" (sp_l_table K)) (c_l_moves : Cl CX0 P w K mg base 2 "_law_moves" (sp_l_moves K)) (c_l_all_stretches : Cl CX0 P w K mg base 1 "_law_all_stretches" (sp_l_all_stretches K)) (c_l_pick : Cl CX0 P w K mg base 1 "_law_pick" (sp_l_pick K)) (c_l_priced_world : Cl CX0 P w K mg base 2 "_law_priced_world" (sp_l_priced_world K)) (c_l_rows : Cl CX0 P w K mg base 2 "_law_rows" (sp_l_rows K)) (c_l_tape : Cl CX0 P w K mg base 1 "_law_tape" (sp_l_tape K)) {f : Addr} {cdv : Value} {A : Around} {outer : List Env} {s : Shared} {H : Hp} {E : XK} (hr : Room 10 (A.deeper (envOfC "law" (defScope s_law) s.heap.objs.size f cdv))) {Q : VK} :
    ∃ tr, PSs (cxOf CX0 P w K mg base ["_law_script", "_law_tape_here", "_law_priced", "_law_rows_here", "_law_answers", "_law_size", "_law_moves_here", "_law_worths", "_law_heights", "_law_width", "_law_table_here", "_law_stretch", "_law_machine", "_law_prices", "_law_code_here", "_law_befores_here", "_law_found", "_law_best", "_law_spans_here", "_law_due_here", "_law_there", "_law_turn", "_law_other", "_law_order", "_law_at"] "law" (defScope s_law) f cdv A outer s H E).nox ((defBody s_law).drop 19) tr ∧ ∀ σ H', (∃ (t sc hp bp : Addr) (m p mv : V) (pr : Bool) (r c0 : Wd) (ans ww mm : Nat) (M : Mv) (tb : Wd → Fq) (hs : List Int) (bs : List (Nat × Nat)) (due : Int) (z0 z4 z5 z7 z9 z10 z11 z16 z17 z18 z20 z21 z22 z23 z24 : Option V),
      σ = [z0, some (.ref t), some (.bl pr), some (.str (S r)), z4, z5, some mv, z7, some (.ref hp), z9, z10, z11, some m, some p, some (.str (S c0)), some (.ref bp), z16, z17, z18, some (.int due), z20, z21, z22, z23, z24] ∧ Tp K sc H' t ∧
      MvV K (wo H' t) mv M ∧ RfO K (wo H' t) m p r ans ww mm M tb ∧ (wo H' t) hp = some (.lst (hs.map V.int)) ∧ hs.length = M.length ∧ CoB K (wo H' t) bp r c0 bs ∧
      (pr = true → ∀ fl, 0 ∈ fl → CloM M fl → ∃ a ∈ fl, ∃ b ∈ fl, due = hAt hs a - hAt hs b) ∧
      ∀ H2, Q (.bl true) H2) → tr { nx := fun _ H' => Q .non H', rt := Q } σ H' := by
  obtain ⟨tr4, hp4, h4⟩ := law4 (Q := Q) T c_l_asked c_Prices c_l_refuses c_l_reached c_l_is c_waste c_cheapest c_l_spans c_l_cheapest c_l_all_orders c_l_befores c_l_ordered_code c_Machine c_l_table c_l_moves c_l_all_stretches c_l_pick c_l_priced_world c_l_rows c_l_tape hr
  refine ⟨_, (pss_cons (ps_setLc (i := 20) (own := [("_law_at", 24)]) rfl sc_law.nd rfl rfl (sw_true rfl rfl rfl (by decide +kernel)) (pi_list (pe_cl c_l_reached hr (by decide) pass0 (pa_cons (pv 6) pa_nil))) (blkOk_by (own := [("_law_at", 24)]) (N := ["_law_script", "_law_tape_here", "_law_priced", "_law_rows_here", "_law_answers", "_law_size", "_law_moves_here", "_law_worths", "_law_heights", "_law_width", "_law_table_here", "_law_stretch", "_law_machine", "_law_prices", "_law_code_here", "_law_befores_here", "_law_found", "_law_best", "_law_spans_here", "_law_due_here", "_law_there", "_law_turn", "_law_other", "_law_order", "_law_at"]) (sc := defScope s_law) (by decide +kernel)) (fun _ _ _ _ _ => (pg_name (i := 24) sc_law.nd rfl (Or.inl rfl))) (fun _ _ _ _ _ => pts_nil) (fun _ _ _ _ _ => (pe_ix (r := rIxL K) ix_list (pv 8) (pv 24) (fun _ _ => rfl))))
      (pss_cons (ps_if (PW.pt (pw_and (pt_val (pv 2)) (pw_and1 (pt_not (pt_cmpR op_le (pv 19) (pe_op op_sub (pe_callB (cr_max rfl) (by rfl) T.max (by decide +kernel) (pa_cons (pv 20) pa_nil)) (pe_callB (cr_min rfl) (by rfl) T.min (by decide +kernel) (pa_cons (pv 20) pa_nil))) (nomark _)))))) (pss_one (ps_ret pe_bl)) pss_nil)
      hp4)), ?_⟩
  rintro σ H1 ⟨t, sc, hp, bp, m, p, mv, pr, r, c0, ans, ww, mm, M, tb, hs, bs, due, z0, z4, z5, z7, z9, z10, z11, z16, z17, z18, z20, z21, z22, z23, z24, rfl, hT, hV, hO, hhp, hhl, hB, hd, q⟩
  refine ⟨_, rfl, _, rfl, M, r, ans, hV.mono wo_same, hO.mv, fun fp fl H2 s2 ef hR hC => ?_⟩
  have hcl : CloM M fl := fun a ha L hL l hl q hq => by
    obtain ⟨i, hi⟩ := List.mem_iff_getElem?.mp ha
    exact hC i a (List.getElem?_eq_some_iff.mp hi).1 hi L hL l hl q hq
  have hV2 : ∀ {H' : Hp}, Same H2 H' → Same (wo H1 t) (wo H' t) := fun s => wo_mono (s2.trans s)
  refine ⟨fp, rfl, ⟨_, sqL_of ef⟩, fun D hD => ?_⟩
  refine lc_it (walk_list (xs := fl.map V.int)) (AccP H2 D fun i acc _ => acc = ((fl.take i).map (hAt hs)).map V.int) (AccP.start hD rfl) (fun i H' _ h => ?_) ?_ ?_
  · obtain ⟨acc, G, e3, hG, k1, k2, _⟩ := h
    exact k2.seq (k1.seq (sqL_of ef))
  · rintro i v H3 H4 hi ⟨acc, G, e3, hG, k1, k2, rfl⟩ ⟨rfl, hv⟩
    rw [List.getElem?_map] at hv
    obtain ⟨a, ha, rfl⟩ := Option.map_eq_some_iff.mp hv
    obtain ⟨a1, a2⟩ := hR.rg a (List.mem_of_getElem? ha)
    have hfl := hR.len
    have hM4 := hO.mv.few
    rw [List.length_map] at hi
    obtain ⟨x1, x2⟩ := atI_ints (xs := hs) a1 (by omega)
    have eh := wo_same _ _ (hV2 (k1.trans k2) _ _ hhp)
    refine ⟨rfl, ?_⟩
    refine ⟨_, rfl, _, rfl, hp, _, _, _, rfl, rfl, sqL_of eh, x1, ?_⟩
    refine AccP.push e3 hG k1 k2 (by rw [List.length_map, List.length_map, List.length_take]; exact szlt (by omega)) ?_
    show _ = ((fl.take (i + 1)).map (hAt hs)).map V.int
    rw [take_map_snoc ha, List.map_append]
    rfl
  · rintro H3 ⟨acc, G, e3, hG, k1, k2, rfl⟩
    rw [List.length_map, List.take_length] at e3
    have s13 := s2.trans (k1.trans k2)
    have T3 := hT.same s13
    have o13 := wo_mono (t := t) s13
    have fin : tr4 { nx := fun _ H' => Q .non H', rt := Q } [z0, some (.ref t), some (.bl pr), some (.str (S r)), z4, z5, some mv, z7, some (.ref hp), z9, z10, z11, some m, some p, some (.str (S c0)), some (.ref bp), z16, z17, z18, some (.int due), some (.ref D), z21, z22, z23, z24] H3 :=
      h4 _ _ ⟨t, sc, bp, m, p, r, c0, ans, ww, mm, M, tb, bs, _, _, _, _, _, _, _, _, _, _, _, _, _, _, _, _, _, _, _, rfl, T3, hO.mono o13, hB.mono o13, q⟩
    cases pr with
    | false =>
      refine ⟨_, rfl, _, rfl, ?_⟩
      exact iteF (iteF fin)
    | true =>
      obtain ⟨x, hx, y, hy, ed⟩ := hd rfl fl hR.z hcl
      have hpos : 0 < (fl.map (hAt hs)).length := by
        rw [List.length_map]
        exact List.length_pos_of_mem hx
      refine ⟨_, rfl, _, rfl, iteT ?_⟩
      refine ⟨_, rfl, _, rfl, D, _, rfl, sqL_of e3, hpos, fun mx hm1 hm2 => ?_⟩
      refine ⟨_, rfl, D, _, rfl, sqL_of e3, hpos, fun mn hn1 hn2 => ?_⟩
      refine ⟨_, _, rfl, rfl, ?_⟩
      refine ⟨_, _, rfl, rfl, ?_⟩
      have h1 := hm2 _ (List.mem_map.mpr ⟨x, hx, rfl⟩)
      have h2 := hn2 _ (List.mem_map.mpr ⟨y, hy, rfl⟩)
      have h3 : decide (due ≤ mx - mn) = true := decide_eq_true (by omega)
      refine ⟨_, rfl, ?_⟩
      rw [h3]
      exact iteF fin
end K84
set_option maxHeartbeats 4000000
namespace K84
open PySem PySem.Spec PyProof.Rows L2
local macro_rules | `(tactic| walk_at "ix") => `(tactic| first | exact atI_nat (j := 0) rfl | exact atI_nat (j := 1) rfl | exact atI_nat (j := 2) rfl | exact atI_nat (j := 3) rfl | exact atI_nat (j := 4) rfl)
local macro_rules | `(tactic| walk_at "rd") => `(tactic| repeat (first
  | refine ⟨_, rfl, ?_⟩
  | refine ⟨rfl, ?_⟩
  | refine ⟨_, _, rfl, ?_⟩
  | refine ⟨_, _, rfl, rfl, ?_⟩
  | refine ⟨_, _, _, rfl, ?_⟩
  | refine ⟨_, _, _, _, rfl, ?_⟩
  | refine ⟨_, _, _, _, rfl, rfl, (by assumption), (by walk_at "ix"), ?_⟩
  | refine ⟨_, _, _, rfl, rfl, (by assumption), ?_⟩
  | refine ⟨.inl ⟨rfl, _, sqL_of (by assumption)⟩, ?_⟩
  | refine ⟨_, _, _, _, _, rfl, (by assumption), (by assumption), (by assumption), (by assumption), ?_⟩
  | refine ⟨_, _, _, _, _, rfl, .ty _, Tg.ty (by assumption), kit_ty (by first | exact kInt _ | exact kBool _ | exact kStr _ | exact kTup _ | exact kLst _ | exact kDct _), ?_⟩))
theorem made_same {H H2 : Hp} {x dx : Addr} {o1 o2 : HO} (hx : H x = none) (hdx : H dx = none) (hxx : dx ≠ x) (k : ∀ b o, b ≠ x → upd (upd H dx o1) x o2 b = some o → H2 b = some o) : Same H H2 := fun b o e => by
  have hb : b ≠ x := fun z => by rw [z, hx] at e; cases e
  have hd : b ≠ dx := fun z => by rw [z, hdx] at e; cases e
  exact k b o hb (by rw [upd_ne hb, upd_ne hd]; exact e)
theorem made_new {H : Hp} {x dx : Addr} {o1 o2 : HO} (hx : H x = none) (hdx : H dx = none) (hxx : dx ≠ x) : Same H (upd (upd H dx o1) x o2) := made_same hx hdx hxx fun _ _ _ e => e
theorem MaO.wo {K : PySem.W.Frag} {H : Hp} {t : Addr} {xs : List V} {v : V} {r : Wd} {ans : Nat} {M : Mv} (e : H t = some (.lst xs)) (h : MaO K H v r ans M) : MaO K (wo H t) v r ans M := by
  obtain ⟨a, C, dx, fs, d, kvs, e1, h1, h2, h3, h4, h5, h6, h7, h8, h9, h10⟩ := h
  exact ⟨a, C, dx, fs, d, kvs, e1, wo_keep e h1 (fun z => nomatch z), h2, h3, h4, h5, h6, h7, h8, wo_keep e h9 (fun z => nomatch z), fun i j k L l q c e1 e2 e3 e4 => let ⟨u, u1, u2⟩ := h10 i j k L l q c e1 e2 e3 e4; ⟨u, u1, u2.wo e .lst⟩⟩
theorem PrO.wo {K : PySem.W.Frag} {H : Hp} {t : Addr} {xs : List V} {v : V} {r : Wd} {w m : Nat} {tb : Wd → Fq} (e : H t = some (.lst xs)) (h : PrO K H v r w tb m) : PrO K (wo H t) v r w tb m := by
  obtain ⟨a, C, dx, fs, d, e1, h1, h2, h3, h4, h5, h6, h7, h8, h9⟩ := h
  exact ⟨a, C, dx, fs, d, e1, wo_keep e h1 (fun z => nomatch z), h2, h3, h4, h5, h6, h7, h8, h9.wo e .lst⟩
theorem bTh_inj : ∀ {l1 l2 : List (Nat × Nat)}, l1.map bTh = l2.map bTh → l1 = l2
  | [], [], _ => rfl
  | [], _ :: _, h => by cases h
  | _ :: _, [], h => by cases h
  | a :: l1, b :: l2, h => by
    rw [List.map_cons, List.map_cons] at h
    injection h with h1 h2
    unfold bTh at h1
    injection h1 with h1
    injection h1 with h3 h4
    injection h4 with h4
    injection h3 with h3
    injection h4 with h4
    rw [bTh_inj h2, show a = b from Prod.ext (by omega) (by omega)]
theorem is_frac {K : PySem.W.Frag} {R : Rl} {H : Hp} {v v' : V} {q : Fq} (h : FrV K H v q) (h' : FrV K H v' q) : isR K (isR K R) H v v' := by
  obtain ⟨p, rfl, e⟩ := h
  obtain ⟨p', rfl, e'⟩ := h'
  refine .inr (.inr ⟨p, p', _, _, rfl, rfl, e, e', rfl, by show 2 ≤ 1000; decide, fun i x y ex ey => ?_⟩)
  match i, ex, ey with
  | 0, ex, ey => cases ex; cases ey; exact .inl ⟨_, rfl, rfl⟩
  | 1, ex, ey => cases ex; cases ey; exact .inl ⟨_, rfl, rfl⟩
  | i + 2, ex, ey => simp at ex
theorem is_best {K : PySem.W.Frag} {H : Hp} {v v' : V} {b : Fq × Wd} (h : BestV K H v b) (h' : BestV K H v' b) : isR K (isR K (isR K R0)) H v v' := by
  obtain ⟨p, f, rfl, e, hf⟩ := h
  obtain ⟨p', f', rfl, e', hf'⟩ := h'
  refine .inr (.inr ⟨p, p', _, _, rfl, rfl, e, e', rfl, by show 2 ≤ 1000; decide, fun i x y ex ey => ?_⟩)
  match i, ex, ey with
  | 0, ex, ey => cases ex; cases ey; exact is_frac hf hf'
  | 1, ex, ey => cases ex; cases ey; exact .inr (.inl ⟨_, rfl, rfl⟩)
  | i + 2, ex, ey => simp at ex
theorem law2 {P : Program} {w : World} {K : PySem.W.Frag} {mg : Str → Option Value} {base : Heap} {C_Machine C_Prices : Addr} (T : Tx K mg) (c_l_asked : Cl CX0 P w K mg base 9 "_law_asked" (sp_l_asked K)) (c_Prices : ClM P w K mg base 4 "Prices" C_Prices (sp_Prices K C_Prices)) (c_l_refuses : Cl CX0 P w K mg base 10 "_law_refuses" (sp_l_refuses K)) (c_l_reached : Cl CX0 P w K mg base 1 "_law_reached" (sp_l_reached K)) (c_l_is : Cl CX0 P w K mg base 5 "_law_is" (sp_l_is K)) (c_waste : Cl (L2.CX P w) P w K mg base 8 "waste" (sp_waste K)) (c_cheapest : Cl (L2.CX P w) P w K mg base 7 "cheapest" (sp_cheapest K)) (c_l_spans : Cl CX0 P w K mg base 1 "_law_spans" (sp_l_spans K)) (c_l_cheapest : Cl CX0 P w K mg base 4 "_law_cheapest" (sp_l_cheapest K)) (c_l_all_orders : Cl CX0 P w K mg base 2 "_law_all_orders" (sp_l_all_orders K)) (c_l_befores : Cl CX0 P w K mg base 2 "_law_befores" (sp_l_befores K)) (c_l_ordered_code : Cl CX0 P w K mg base 3 "_law_ordered_code" (sp_l_ordered_code K)) (c_Machine : ClM P w K mg base 5 "Machine" C_Machine (sp_Machine K C_Machine)) (c_l_table : Cl CX0 P w K mg base 3 "_law_table" (sp_l_table K)) (c_l_moves : Cl CX0 P w K mg base 2 "_law_moves" (sp_l_moves K)) (c_l_all_stretches : Cl CX0 P w K mg base 1 "_law_all_stretches" (sp_l_all_stretches K)) (c_l_pick : Cl CX0 P w K mg base 1 "_law_pick" (sp_l_pick K)) (c_l_priced_world : Cl CX0 P w K mg base 2 "_law_priced_world" (sp_l_priced_world K)) (c_l_rows : Cl CX0 P w K mg base 2 "_law_rows" (sp_l_rows K)) (c_l_tape : Cl CX0 P w K mg base 1 "_law_tape" (sp_l_tape K)) {f : Addr} {cdv : Value} {A : Around} {outer : List Env} {s : Shared} {H : Hp} {E : XK} (hr : Room 10 (A.deeper (envOfC "law" (defScope s_law) s.heap.objs.size f cdv))) {Q : VK} :
    ∃ tr, PSs (cxOf CX0 P w K mg base ["_law_script", "_law_tape_here", "_law_priced", "_law_rows_here", "_law_answers", "_law_size", "_law_moves_here", "_law_worths", "_law_heights", "_law_width", "_law_table_here", "_law_stretch", "_law_machine", "_law_prices", "_law_code_here", "_law_befores_here", "_law_found", "_law_best", "_law_spans_here", "_law_due_here", "_law_there", "_law_turn", "_law_other", "_law_order", "_law_at"] "law" (defScope s_law) f cdv A outer s H E).nox ((defBody s_law).drop 10) tr ∧ ∀ σ H', (∃ (t sc hp tp : Addr) (mv : V) (pr : Bool) (r : Wd) (ans ww : Nat) (M : Mv) (tb : Wd → Fq) (ws hs : List Int) (z0 z5 z7 z11 z12 z13 z14 z15 z16 z17 z18 z19 z20 z21 z22 z23 z24 : Option V),
      σ = [z0, some (.ref t), some (.bl pr), some (.str (S r)), some (.int ans), z5, some mv, z7, some (.ref hp), some (.int ww), some (.ref tp), z11, z12, z13, z14, z15, z16, z17, z18, z19, z20, z21, z22, z23, z24] ∧ Tp K sc H' t ∧
      MvV K (wo H' t) mv M ∧ MvOk M r ans ∧ RowsOk r ∧ Tab K (wo H' t) tp r ww tb 168 ∧ 1 ≤ ww ∧ ww ≤ 2 ∧ (wo H' t) hp = some (.lst (hs.map V.int)) ∧ hs.length = M.length ∧ (pr = true → PrcdM M ws hs) ∧
      ∀ H2, Q (.bl true) H2) → tr { nx := fun _ H' => Q .non H', rt := Q } σ H' := by
  obtain ⟨tr3, hp3, h3⟩ := law3 (Q := Q) T c_l_asked c_Prices c_l_refuses c_l_reached c_l_is c_waste c_cheapest c_l_spans c_l_cheapest c_l_all_orders c_l_befores c_l_ordered_code c_Machine c_l_table c_l_moves c_l_all_stretches c_l_pick c_l_priced_world c_l_rows c_l_tape hr
  refine ⟨_, (pss_cons (ps_set (i := 12) sc_law.nd rfl (Or.inl rfl) (pe_mkl c_Machine hr (by decide) pass0 (pa_cons (pv 3) (pa_cons (pv 4) (pa_cons (pv 6) pa_nil)))))
      (pss_cons (ps_set (i := 13) sc_law.nd rfl (Or.inl rfl) (pe_mkl c_Prices hr (by decide) pass0 (pa_cons (pv 3) (pa_cons (pv 9) (pa_cons (pv 10) pa_nil)))))
      (pss_cons (ps_set (i := 14) sc_law.nd rfl (Or.inl rfl) (pe_cl c_l_ordered_code hr (by decide) pass0 (pa_cons (pv 1) (pa_cons (pv 3) pa_nil))))
      (pss_cons (ps_set (i := 15) sc_law.nd rfl (Or.inl rfl) (pe_cl c_l_befores hr (by decide) pass0 (pa_cons (pv 1) (pa_cons (pv 14) pa_nil))))
      (pss_cons (ps_set (i := 16) sc_law.nd rfl (Or.inl rfl) (pe_cl c_l_all_orders hr (by decide) pass0 (pa_cons (pv 14) (pa_cons (pv 15) pa_nil))))
      (pss_cons (ps_set (i := 17) sc_law.nd rfl (Or.inl rfl) (pe_cl c_l_cheapest hr (by decide) pass0 (pa_cons (pv 10) (pa_cons (pv 9) (pa_cons (pv 16) pa_nil)))))
      (pss_cons (ps_setLc (i := 18) (own := [("_law_order", 23)]) rfl sc_law.nd rfl rfl (sw_true rfl rfl rfl (by decide +kernel)) (pi_list (pv 16)) (blkOk_by (own := [("_law_order", 23)]) (N := ["_law_script", "_law_tape_here", "_law_priced", "_law_rows_here", "_law_answers", "_law_size", "_law_moves_here", "_law_worths", "_law_heights", "_law_width", "_law_table_here", "_law_stretch", "_law_machine", "_law_prices", "_law_code_here", "_law_befores_here", "_law_found", "_law_best", "_law_spans_here", "_law_due_here", "_law_there", "_law_turn", "_law_other", "_law_order", "_law_at"]) (sc := defScope s_law) (by decide +kernel)) (fun _ _ _ _ _ => (pg_name (i := 23) sc_law.nd rfl (Or.inl rfl))) (fun _ _ _ _ _ => pts_nil) (fun _ _ _ _ _ => (pe_ix (r := rIxT K) ix_tup (pe_cl c_l_spans hr (by decide) pass0 (pa_cons (pv 3) (pa_cons (pv 6) (pa_cons (pv 23) pa_nil)))) pe_int (fun _ _ => rfl))))
      (pss_cons (ps_set (i := 19) sc_law.nd rfl (Or.inl rfl) (pe_op op_sub (pe_ix ix_tup (pe_cl c_l_spans hr (by decide) pass0 (pa_cons (pv 3) (pa_cons (pv 6) (pa_cons (pe_ix ix_tup (pv 17) pe_int (fun _ _ => rfl)) pa_nil)))) pe_int (fun _ _ => rfl)) (pe_callB (cr_min rfl) (by rfl) T.min (by decide +kernel) (pa_cons (pv 18) pa_nil))))
      (pss_cons (ps_if (PW.pt (pw_or (pt_not (pt_val (pe_cl c_l_is hr (by decide) pass0 (pa_cons (pe_cl c_cheapest hr (by decide) passL (pa_cons (pv 13) (pa_cons (pv 14) (pa_cons (pv 15) pa_nil)))) (pa_cons (pv 17) pa_nil))))) (pw_or1 (pt_not (pt_val (pe_cl c_l_is hr (by decide) pass0 (pa_cons (pe_cl c_waste hr (by decide) passL (pa_cons (pv 12) (pa_cons (pv 13) (pa_cons (pv 14) (pa_cons (pv 15) pa_nil))))) (pa_cons (pv 19) pa_nil)))))))) (pss_one (ps_ret pe_bl)) pss_nil)
      hp3))))))))), ?_⟩
  rintro σ H1 ⟨t, sc, hp, tp, mv, pr, r, ans, ww, M, tb, ws, hs, z0, z5, z7, z11, z12, z13, z14, z15, z16, z17, z18, z19, z20, z21, z22, z23, z24, rfl, hT, hV, hMk, hrr, hTab, hw1, hw2, hhp, hhl, hpr, q⟩
  refine ⟨_, rfl, _, rfl, _, rfl, ?_⟩
  intro x dx hx hdx hxx
  refine ⟨_, _, _, _, rfl, x, dx, r, ans, M, rfl, upd_same, rfl, rfl, hV.mono (wo_same.trans (made_new hx hdx hxx)), hMk, hrr, fun H2 k2 hMa => ⟨rfl, ?_⟩⟩
  have s2 := made_same hx hdx hxx k2
  have T2 := hT.same s2
  obtain ⟨ys2, ey2⟩ := T2.odd
  replace hMa := hMa.wo ey2
  replace s2 := wo_mono (t := t) s2
  refine ⟨_, rfl, _, rfl, _, rfl, ?_⟩
  intro x3 dx3 hx3 hdx3 hxx3
  refine ⟨_, _, _, _, rfl, x3, dx3, tp, r, ww, 168, tb, rfl, rfl, rfl, rfl, upd_same, hrr, hw1, hw2, hTab.mono (s2.trans (wo_same.trans (made_new hx3 hdx3 hxx3))), fun H3 k3 hPr => ⟨rfl, ?_⟩⟩
  have s3 := made_same hx3 hdx3 hxx3 k3
  have T3 := T2.same s3
  obtain ⟨ys3, ey3⟩ := T3.odd
  replace hPr := hPr.wo ey3
  replace hMa := hMa.mono (wo_mono (t := t) s3)
  replace s3 := s2.trans (wo_mono (t := t) s3)
  refine ⟨_, rfl, _, rfl, _, _, rfl, t, sc, r, rfl, rfl, T3, hrr, fun c0 H4 s4 T4 hc7 hcr => ?_⟩
  refine ⟨_, rfl, _, rfl, _, _, rfl, t, sc, c0, rfl, rfl, T4, hc7, fun bp bs H5 s5 T5 hbT hbl hbo => ?_⟩
  replace hPr := hPr.mono (s4.trans s5)
  replace hMa := hMa.mono (s4.trans s5)
  replace s5 := s3.trans (s4.trans s5)
  refine ⟨_, rfl, _, rfl, _, _, rfl, c0, bs, rfl, hc7, hbT.mono wo_same, by omega, hbo, fun ys hys fp H6 s6 _ efp => ?_⟩
  have T6 := T5.same s6
  have o6 := wo_mono (t := t) s6
  have hyr : ∀ y ∈ ys, (∀ x ∈ y, x ∈ r) ∧ y.length ≤ 7 := fun y hy => by
    have hp := ords_perm hys hy
    exact ⟨fun x hx => hcr x (hp.mem_iff.mp hx), by rw [hp.length_eq]; exact hc7⟩
  have hne := ords_ne hbo hys
  refine ⟨_, rfl, _, rfl, _, rfl, _, _, _, rfl, tp, fp, r, ww, 168, tb, ys, rfl, rfl, rfl, hTab.mono (s5.trans (o6.trans wo_same)), hw1, by decide, sqL_of efp, hyr, hne, fun bv H7 best s7 hbest hbv => ?_⟩
  have T7 := T6.same s7
  have o7 := o6.trans (wo_mono (t := t) s7)
  have efp7 := s7 _ _ efp
  have hV7 : ∀ {H' : Hp}, Same H7 H' → MvV K H' mv M := fun s => hV.mono (s5.trans (o7.trans ((wo_mono s).trans wo_same)))
  obtain ⟨bm1, bm2⟩ := chp_mem _ _ hbest
  refine ⟨_, rfl, fp, rfl, ⟨_, sqL_of efp7⟩, fun D hD => ?_⟩
  refine lc_it (walk_list (xs := ys.map strV)) (AccP H7 D fun i acc _ => acc = ((ys.take i).map (wst M r)).map V.int) (AccP.start hD rfl) (fun i H' _ h => ?_) ?_ ?_
  · obtain ⟨acc, G, e3, hG, k1, k2, _⟩ := h
    exact k2.seq (k1.seq (sqL_of efp7))
  · rintro i v H8 H9 hi ⟨acc, G, e3, hG, k1, k2, rfl⟩ ⟨rfl, hv⟩
    rw [List.getElem?_map] at hv
    obtain ⟨y, hy, rfl⟩ := Option.map_eq_some_iff.mp hv
    obtain ⟨y1, y2⟩ := hyr y (List.mem_of_getElem? hy)
    have hyl : ys.length < 100000 := by
      have := few_orders (L := r) hrr.nd (by have := hrr.le; omega) hcr hc7 (strict_nd hys.1) fun m hm => ords_perm hys hm
      omega
    have hi2 : i < ys.length := by rwa [List.length_map] at hi
    refine ⟨rfl, ?_⟩
    refine ⟨_, rfl, _, rfl, _, rfl, _, _, _, rfl, r, y, ans, M, rfl, hV7 (k1.trans k2), rfl, hMk, hrr, y1, y2, fun lo sp HA sA hsp => ?_⟩
    refine ⟨sp, _, 1, _, rfl, rfl, hsp, atI_nat (j := 1) rfl, ?_⟩
    refine AccP.push (sA _ _ e3) hG k1 (k2.trans sA) (by rw [List.length_map, List.length_map, List.length_take]; exact szlt (by omega)) ?_
    show _ = ((ys.take (i + 1)).map (wst M r)).map V.int
    rw [take_map_snoc hy, List.map_append]
    rfl
  · rintro H8 ⟨acc, G, e3, hG, k1, k2, rfl⟩
    rw [List.length_map, List.take_length] at e3
    have s8 := k1.trans k2
    have T8 := T7.same s8
    have o8 := o7.trans (wo_mono (t := t) s8)
    have hbv8 := hbv.mono s8
    obtain ⟨bq, fv, rfl, hb1, hb2⟩ := hbv8
    obtain ⟨y1, y2⟩ := hyr _ bm1
    refine ⟨_, rfl, _, rfl, _, rfl, bq, _, 1, _, rfl, rfl, hb1, atI_nat (j := 1) rfl, ?_⟩
    refine ⟨_, _, _, rfl, r, best.2, ans, M, rfl, hV7 s8, rfl, hMk, hrr, y1, y2, fun lo sp H9 s9 hsp => ?_⟩
    refine ⟨sp, _, 1, _, rfl, rfl, hsp, atI_nat (j := 1) rfl, ?_⟩
    have hpos : 0 < (ys.map (wst M r)).length := by
      rw [List.length_map]
      exact List.length_pos_of_mem bm1
    refine ⟨_, rfl, D, _, rfl, sqL_of (s9 _ _ e3), hpos, fun mn hm hle => ?_⟩
    refine ⟨_, _, rfl, rfl, ?_⟩
    obtain ⟨y0, hy0, rfl⟩ := List.mem_map.mp hm
    have T9 := T8.same s9
    have o9 := o8.trans (wo_mono (t := t) s9)
    have hFew : Few (.str (S c0)) (.lst (bs.map bTh)) := ⟨fun c e => by rw [← S_inj (Th.str.inj e)]; omega, fun _ z => (nomatch z), fun l e => by cases e; rw [List.length_map]; omega⟩
    have hck := cOk_of hcr hc7
    have hbk := bOk_yes hbo
    have hbT9 := hbT.mono (o9.trans wo_same)
    refine ⟨_, rfl, _, rfl, _, rfl, _, _, _, rfl, r, ww, 168, tb, .str (S c0), .lst (bs.map bTh), hPr.mono (o9.trans wo_same), hw1, by decide, .str _, hbT9, hrr, hFew, ?_, ?_, ?_⟩
    · intro h
      rw [hck] at h
      cases h
    · intro c e _ h
      rw [← S_inj (Th.str.inj e), hbk] at h
      cases h
    · intro c bs2 ys2 ec eb _ _ _ hys2 v HA best2 sA hbest2 hB2
      have e1 := S_inj (Th.str.inj ec)
      subst e1
      have e2 := bTh_inj (Th.lst.inj eb)
      subst e2
      have e3 := hys2.unique hys
      subst e3
      have e4 : best2 = best := Option.some.inj (hbest2.symm.trans hbest)
      subst e4
      have hb9 : BestV K HA (.ref bq) best2 := ⟨bq, fv, rfl, (s9.trans sA).seqT hb1, hb2.mono (s9.trans sA)⟩
      have TA := T9.same sA
      have oA := o9.trans (wo_mono (t := t) sA)
      refine ⟨_, rfl, ?_⟩
      refine ⟨_, _, rfl, is_best hB2 hb9, fun HB sB => ?_⟩
      have TB := TA.same sB
      have oB := oA.trans (wo_mono (t := t) sB)
      refine ⟨_, rfl, iteF ?_⟩
      refine ⟨_, rfl, _, rfl, _, rfl, _, rfl, ?_⟩
      refine ⟨_, _, _, _, rfl, r, r, ans, ww, 168, M, tb, .str (S c0), .lst (bs.map bTh), hMa.mono (oB.trans wo_same), hPr.mono (oB.trans wo_same), hw1, by decide, .str _, hbT.mono (oB.trans wo_same), hMk, hrr, hFew, fun h => absurd rfl h, ?_, ?_, ?_⟩
      · intro _ h
        rw [hck] at h
        cases h
      · intro _ c2 e _ h
        rw [← S_inj (Th.str.inj e), hbk] at h
        cases h
      · intro _ c2 bs3 ys3 ec2 eb2 _ _ _ hys3 HC best3 k0 sC hbest3 hk1 hk2
        have e1 := S_inj (Th.str.inj ec2)
        subst e1
        have e2 := bTh_inj (Th.lst.inj eb2)
        subst e2
        have e5 := hys3.unique hys
        subst e5
        have e4 : best3 = best2 := Option.some.inj (hbest3.symm.trans hbest)
        subst e4
        obtain ⟨y4, hy4, ek⟩ := hk1
        have ek2 : k0 = wst M r y0 := by
          have h1 := hk2 y0 hy0
          have h2 := hle _ (List.mem_map.mpr ⟨y4, hy4, rfl⟩)
          omega
        subst ek2
        have TC := TB.same sC
        have oC := oB.trans (wo_mono (t := t) sC)
        refine ⟨_, rfl, ?_⟩
        refine ⟨_, _, rfl, .inl ⟨_, rfl, rfl⟩, fun HD sD => ?_⟩
        have TD := TC.same sD
        have oD := oC.trans (wo_mono (t := t) sD)
        refine ⟨_, rfl, iteF ?_⟩
        exact h3 _ _ ⟨t, sc, hp, bp, .ref x, .ref x3, mv, pr, r, c0, ans, ww, 168, M, tb, hs, bs, _, _, _, _, _, _, _, _, _, _, _, _, _, _, _, _, rfl, TD, hV.mono (s5.trans oD), ⟨hMa.mono oD, hPr.mono oD, hw1, by decide, hMk, hrr⟩, oD _ _ (s5 _ _ hhp), hhl, ⟨hcr, hc7, hbT.mono oD, hbl, hbo⟩, fun e fl hz hcl => waste_low hMk (hpr e) hcl hz y1 ((ords_perm hys hy0).trans (ords_perm hys bm1).symm), q⟩
end K84
set_option maxHeartbeats 4000000
namespace K84
open PySem PySem.Spec PyProof.Rows L2
local macro_rules | `(tactic| walk_at "ix") => `(tactic| first | exact atI_nat (j := 0) rfl | exact atI_nat (j := 1) rfl | exact atI_nat (j := 2) rfl | exact atI_nat (j := 3) rfl | exact atI_nat (j := 4) rfl)
local macro_rules | `(tactic| walk_at "rd") => `(tactic| repeat (first
  | refine ⟨_, rfl, ?_⟩
  | refine ⟨rfl, ?_⟩
  | refine ⟨_, _, rfl, ?_⟩
  | refine ⟨_, _, rfl, rfl, ?_⟩
  | refine ⟨_, _, _, rfl, ?_⟩
  | refine ⟨_, _, _, _, rfl, ?_⟩
  | refine ⟨_, _, _, _, rfl, rfl, (by assumption), (by walk_at "ix"), ?_⟩
  | refine ⟨_, _, _, rfl, rfl, (by assumption), ?_⟩
  | refine ⟨.inl ⟨rfl, _, sqL_of (by assumption)⟩, ?_⟩
  | refine ⟨_, _, _, _, _, rfl, (by assumption), (by assumption), (by assumption), (by assumption), ?_⟩
  | refine ⟨_, _, _, _, _, rfl, .ty _, Tg.ty (by assumption), kit_ty (by first | exact kInt _ | exact kBool _ | exact kStr _ | exact kTup _ | exact kLst _ | exact kDct _), ?_⟩))
def sp_law (K : PySem.W.Frag) : Sp := sp1 fun a H Q _ => ∃ (p : Addr) (ns : List Int), a = .ref p ∧ SqL K H p (ns.map V.int) ∧ ns.length ≤ 63 ∧ ∀ H', Q (.bl true) H'
theorem atI_last {l : List Nat} {c : Nat} (h : l.getLast? = some c) : atI l (-1) = some c := by
  rw [List.getLast?_eq_getElem?] at h
  have hl := (List.getElem?_eq_some_iff.mp h).1
  have e : ixN l.length (-1) = some (l.length - 1) := by
    unfold ixN
    rw [if_neg (by decide), if_pos (by omega)]
    congr 1
    omega
  unfold atI
  rw [e]
  exact h
theorem law_body {P : Program} {w : World} {K : PySem.W.Frag} {mg : Str → Option Value} {base : Heap} {C_Machine C_Prices : Addr} (T : Tx K mg) (c_l_asked : Cl CX0 P w K mg base 9 "_law_asked" (sp_l_asked K)) (c_Prices : ClM P w K mg base 4 "Prices" C_Prices (sp_Prices K C_Prices)) (c_l_refuses : Cl CX0 P w K mg base 10 "_law_refuses" (sp_l_refuses K)) (c_l_reached : Cl CX0 P w K mg base 1 "_law_reached" (sp_l_reached K)) (c_l_is : Cl CX0 P w K mg base 5 "_law_is" (sp_l_is K)) (c_waste : Cl (L2.CX P w) P w K mg base 8 "waste" (sp_waste K)) (c_cheapest : Cl (L2.CX P w) P w K mg base 7 "cheapest" (sp_cheapest K)) (c_l_spans : Cl CX0 P w K mg base 1 "_law_spans" (sp_l_spans K)) (c_l_cheapest : Cl CX0 P w K mg base 4 "_law_cheapest" (sp_l_cheapest K)) (c_l_all_orders : Cl CX0 P w K mg base 2 "_law_all_orders" (sp_l_all_orders K)) (c_l_befores : Cl CX0 P w K mg base 2 "_law_befores" (sp_l_befores K)) (c_l_ordered_code : Cl CX0 P w K mg base 3 "_law_ordered_code" (sp_l_ordered_code K)) (c_Machine : ClM P w K mg base 5 "Machine" C_Machine (sp_Machine K C_Machine)) (c_l_table : Cl CX0 P w K mg base 3 "_law_table" (sp_l_table K)) (c_l_moves : Cl CX0 P w K mg base 2 "_law_moves" (sp_l_moves K)) (c_l_all_stretches : Cl CX0 P w K mg base 1 "_law_all_stretches" (sp_l_all_stretches K)) (c_l_pick : Cl CX0 P w K mg base 1 "_law_pick" (sp_l_pick K)) (c_l_priced_world : Cl CX0 P w K mg base 2 "_law_priced_world" (sp_l_priced_world K)) (c_l_rows : Cl CX0 P w K mg base 2 "_law_rows" (sp_l_rows K)) (c_l_tape : Cl CX0 P w K mg base 1 "_law_tape" (sp_l_tape K)) {f : Addr} {cdv : Value} {A : Around} {outer : List Env} {s : Shared} {H : Hp} {a : V} {Q : VK} {E : XK}
    (hr : Room 10 (A.deeper (envOfC "law" (defScope s_law) s.heap.objs.size f cdv))) (h : ∃ (p : Addr) (ns : List Int), a = .ref p ∧ SqL K H p (ns.map V.int) ∧ ns.length ≤ 63 ∧ ∀ H', Q (.bl true) H') :
    ∃ t, PSs (cxOf CX0 P w K mg base ["_law_script", "_law_tape_here", "_law_priced", "_law_rows_here", "_law_answers", "_law_size", "_law_moves_here", "_law_worths", "_law_heights", "_law_width", "_law_table_here", "_law_stretch", "_law_machine", "_law_prices", "_law_code_here", "_law_befores_here", "_law_found", "_law_best", "_law_spans_here", "_law_due_here", "_law_there", "_law_turn", "_law_other", "_law_order", "_law_at"] "law" (defScope s_law) f cdv A outer s H E) (defBody s_law) t ∧ t { nx := fun _ H' => Q .non H', rt := Q } (start ["_law_script", "_law_tape_here", "_law_priced", "_law_rows_here", "_law_answers", "_law_size", "_law_moves_here", "_law_worths", "_law_heights", "_law_width", "_law_table_here", "_law_stretch", "_law_machine", "_law_prices", "_law_code_here", "_law_befores_here", "_law_found", "_law_best", "_law_spans_here", "_law_due_here", "_law_there", "_law_turn", "_law_other", "_law_order", "_law_at"] [a]) H := by
  obtain ⟨tr2, hp2, h2⟩ := law2 (outer := outer) (H := H) (E := E) (Q := Q) T c_l_asked c_Prices c_l_refuses c_l_reached c_l_is c_waste c_cheapest c_l_spans c_l_cheapest c_l_all_orders c_l_befores c_l_ordered_code c_Machine c_l_table c_l_moves c_l_all_stretches c_l_pick c_l_priced_world c_l_rows c_l_tape hr
  refine ⟨_, PSs.nox ((pss_cons (ps_set (i := 1) sc_law.nd rfl (Or.inl rfl) (pe_cl c_l_tape hr (by decide) pass0 (pa_cons (pv 0) pa_nil)))
      (pss_cons (ps_set (i := 2) sc_law.nd rfl (Or.inl rfl) (pe_cmpR op_eq (pe_cl c_l_pick hr (by decide) pass0 (pa_cons (pv 1) (pa_cons pe_int pa_nil))) pe_int (nomark _)))
      (pss_cons (ps_set (i := 3) sc_law.nd rfl (Or.inr rfl) (pe_cl c_l_rows hr (by decide) pass0 (pa_cons (pv 1) (pa_cons pe_int pa_nil))))
      (pss_cons (ps_set (i := 4) sc_law.nd rfl (Or.inl rfl) (pe_op op_add pe_int (pe_cl c_l_pick hr (by decide) pass0 (pa_cons (pv 1) (pa_cons pe_int pa_nil)))))
      (pss_cons (ps_set (i := 5) sc_law.nd rfl (Or.inl rfl) (pe_op op_add pe_int (pe_cl c_l_pick hr (by decide) pass0 (pa_cons (pv 1) (pa_cons pe_int pa_nil)))))
      (pss_cons (ps_asg (pe_cl c_l_priced_world hr (by decide) pass0 (pa_cons (pv 1) (pa_cons (pv 3) (pa_cons (pv 4) (pa_cons (pv 5) pa_nil))))) (pg_tup rfl (pgs_cons (pg_name (i := 6) sc_law.nd rfl (Or.inr rfl)) (pgs_cons (pg_name (i := 7) sc_law.nd rfl (Or.inl rfl)) (pgs_cons (pg_name (i := 8) sc_law.nd rfl (Or.inr rfl)) pgs_nil)))))
      (pss_cons (ps_set (i := 9) sc_law.nd rfl (Or.inl rfl) (pe_op op_add pe_int (pe_cl c_l_pick hr (by decide) pass0 (pa_cons (pv 1) (pa_cons pe_int pa_nil)))))
      (pss_cons (ps_set (i := 10) sc_law.nd rfl (Or.inl rfl) pe_dnewK)
      (pss_cons (ps_for PassesOwn.never rfl (pi_list (pe_cl c_l_all_stretches hr (by decide) pass0 (pa_cons (pv 3) (pa_cons (pv 9) pa_nil)))) (pg_name (i := 11) sc_law.nd rfl (Or.inl rfl)) (pss_one (ps_dput (hu_of hr) (pv 10) (pv 11) (pe_tup (pa_cons (pe_ix ix_list (pv 7) (pe_bm PySem.F.plainAttrs_str PySem.F.slot_str_index PySem.F.type_str_index mt_indexS (pv 3) (pa_cons (pe_ix ix_str (pv 11) (pe_un un_neg pe_int) (fun _ _ => rfl)) pa_nil)) (fun _ _ => rfl)) (pa_cons pe_int pa_nil))) rfl)))
      (pss_cons (ps_if (pt_not (pt_val (pv 2))) (pss_cons (ps_set (i := 6) sc_law.nd rfl (Or.inr rfl) (pe_cl c_l_moves hr (by decide) pass0 (pa_cons (pv 1) (pa_cons (pv 3) (pa_cons (pv 4) (pa_cons (pv 5) pa_nil))))))
      (pss_one (ps_set (i := 10) sc_law.nd rfl (Or.inl rfl) (pe_cl c_l_table hr (by decide) pass0 (pa_cons (pv 1) (pa_cons (pv 3) (pa_cons (pv 9) pa_nil))))))) pss_nil)
      hp2))))))))))), ?_⟩
  obtain ⟨p, ns, rfl, hs, hl, q⟩ := h
  refine ⟨_, rfl, _, rfl, p, ns, rfl, hs, hl, fun t sc H1 s1 ht1 T1 => ?_⟩
  refine ⟨_, rfl, _, _, rfl, t, sc, 2, rfl, rfl, by decide, by decide, T1, fun d0 H2 hd0 s2 T2 => ?_⟩
  refine ⟨rfl, ?_⟩
  generalize decide (V.int (d0 : Int) = V.int 0) = pr
  refine ⟨_, rfl, _, _, rfl, t, sc, rfl, rfl, T2, fun r H3 s3 T3 hr3 => ?_⟩
  refine ⟨_, rfl, _, _, rfl, t, sc, 3, rfl, rfl, by decide, by decide, T3, fun d1 H4 hd1 s4 T4 => ?_⟩
  refine ⟨_, _, rfl, rfl, ?_⟩
  refine ⟨_, rfl, _, _, rfl, t, sc, 4, rfl, rfl, by decide, by decide, T4, fun d2 H5 hd2 s5 T5 => ?_⟩
  refine ⟨_, _, rfl, rfl, ?_⟩
  obtain ⟨ans, ea, a1, a3⟩ : ∃ ans : Nat, (1 : Int) + (d1 : Int) = (ans : Int) ∧ 1 ≤ ans ∧ ans ≤ 3 := ⟨1 + d1, by omega, by omega, by omega⟩
  obtain ⟨n, en, n1, n4⟩ : ∃ n : Nat, (1 : Int) + (d2 : Int) = (n : Int) ∧ 1 ≤ n ∧ n ≤ 4 := ⟨1 + d2, by omega, by omega, by omega⟩
  refine ⟨_, rfl, _, rfl, _, rfl, _, rfl, _, _, _, _, rfl, t, sc, r, ans, n, rfl, rfl, vint ea, vint en, T5, hr3, a1, a3, n1, n4, fun pp wp hp mv M ws hs H6 s6 T6 hpp hV hwp hhp hM hMl hwl hhl hwb hPr => ?_⟩
  refine ⟨pp, _, rfl, wo_same.seqT hpp, by rfl, ?_⟩
  refine ⟨_, _, rfl, _, _, rfl, _, _, rfl, rfl, ?_⟩
  refine ⟨_, rfl, _, _, rfl, t, sc, 2, rfl, rfl, by decide, by decide, T6, fun d3 H7 hd3 s7 T7 => ?_⟩
  refine ⟨_, _, rfl, rfl, ?_⟩
  obtain ⟨ww, ew, w1, w2⟩ : ∃ ww : Nat, (1 : Int) + (d3 : Int) = (ww : Int) ∧ 1 ≤ ww ∧ ww ≤ 2 := ⟨1 + d3, by omega, by omega, by omega⟩
  replace hV := hV.mono s7
  replace hwp := s7 _ _ hwp
  replace hhp := s7 _ _ hhp
  intro D hD
  have hDt := T7.ne hD
  have t0 : TO K sc t H7 D (.dK []) (wo H7 t) (upd H7 D (.dK [])) := .start T7 hD
  have hnd := st_nodup hr3 ww
  have hlen := st_length hr3 w1 w2
  refine ⟨_, rfl, _, rfl, _, _, rfl, r, ww, rfl, vint ew, hr3.le, w1, w2, fun lp H8 s8 hlp elp => ?_⟩
  have t8 := t0.more s8
  have hlt := t0.tp.ne hlp
  have hlD : lp ≠ D := fun z => by rw [z, t0.e] at hlp; cases hlp
  refine ⟨lp, rfl, ⟨_, sqL_of elp⟩, ?_⟩
  refine for_list (xs := (st r ww).map strV) (fun i σ H' => (∃ z, σ = [some (.ref p), some (.ref t), some (.bl pr), some (.str (S r)), some (.int (1 + (d1 : Int))), some (.int (1 + (d2 : Int))), some mv, some (.ref wp), some (.ref hp), some (.int (1 + (d3 : Int))), some (.ref D), z, none, none, none, none, none, none, none, none, none, none, none, none, none]) ∧ H' lp = some (.lst ((st r ww).map strV)) ∧ ∃ kvs G, TO K sc t H7 D (.dK kvs) G H' ∧ TabP K ((st r ww).take i) kvs G)
    ⟨⟨_, rfl⟩, elp, [], _, t8, fun _ => .non, fun _ => (0, 1), rfl, fun n z => (nomatch z)⟩ (fun i σ H' _ h => sqL_of h.2.1) ?_ ?_
  · rintro i v σ H9 hv ⟨⟨z, rfl⟩, el, kvs, G, tO, hP⟩
    rw [List.getElem?_map] at hv
    obtain ⟨nm, hn, rfl⟩ := Option.map_eq_some_iff.mp hv
    have hoff := nd_off hnd hn
    have hi : i < (st r ww).length := (List.getElem?_eq_some_iff.mp hn).1
    have hkl : kvs.length ≤ i := by
      obtain ⟨f, tb, e, _⟩ := hP
      rw [e, List.length_map, List.length_take]
      omega
    obtain ⟨c, hc1, hc2⟩ := st_last (List.mem_of_getElem? hn) w1
    obtain ⟨hw3, _⟩ := st_word (List.mem_of_getElem? hn)
    have hj : r.idxOf c < r.length := List.idxOf_lt_length_of_mem hc2
    have hjr : r[r.idxOf c]? = some c := by rw [List.getElem?_eq_getElem hj, List.getElem_idxOf hj]
    obtain ⟨x1, x2⟩ := atI_ints (xs := ws) (g := ((r.idxOf c : Nat) : Int)) (by omega) (by rw [Int.toNat_natCast]; omega)
    obtain ⟨x3, x4⟩ := hwb _ x2
    have ewp := wo_same _ _ (tO.out _ _ hwp)
    refine ⟨_, rfl, _, rfl, rfl, _, rfl, 1, rfl, ?_⟩
    refine ⟨S nm, -1, c, rfl, rfl, szle (by rw [S_length]; omega), ?_, ?_⟩
    · exact atI_last hc1
    refine ⟨r, c, r.idxOf c, rfl, rfl, hr3.nd, hjr, ?_⟩
    refine ⟨wp, _, _, _, rfl, rfl, sqL_of ewp, x1, ?_⟩
    refine ⟨by show 2 ≤ sizeLine; decide, fun up hup => ?_⟩
    generalize ws[((r.idxOf c : Nat) : Int).toNat]?.getD 0 = wv at x1 x2 x3 x4 ⊢
    have t9 := tO.more (same_new (o := .tup [.int wv, .int 1]) hup)
    obtain ⟨G2, t10, sG, hG2⟩ := t9.grow hDt (.inr ⟨_, rfl⟩)
    have hlu : lp ≠ up := fun z => by rw [z, hup] at el; cases el
    refine ⟨_, rfl, _, rfl, D, _, rfl, .inl ⟨kvs, Sum.inr (S nm), t10.e, rfl, szlt (by omega), rfl⟩, ⟨_, rfl⟩, ?_, _, G2, t10.set T7 hDt, ?_⟩
    · rw [upd_ne hlD, upd_ne hlu]
      exact el
    · rw [List.take_add_one, hn]
      refine hP.put (x := (wv, 1)) sG hoff ⟨up, rfl, hG2 _ _ (sqT_of upd_same)⟩ ⟨?_, by show (0 : Int) < 1; decide, by show Int.natAbs 1 < 2 ^ 168; decide⟩ (by show Int.gcd wv 1 = 1; simp)
      show wv.natAbs < 2 ^ 168
      have e8 : (2 : Nat) ^ 168 = 374144419156711147060143317175368453031918731001856 := by decide
      omega
  · rintro σ H9 ⟨⟨z, rfl⟩, el, kvs, G, tO, f, tb, rfl, hP⟩
    rw [List.length_map, List.take_length] at hP
    have e5 := tO.e
    rw [List.length_map, List.take_length] at e5
    have T9 := tO.tp
    have o9 := tO.out
    have hTab : Tab K (wo H9 t) D r ww tb 168 := ⟨⟨f, (wo_ne hDt).trans e5, fun n hn => (hP n hn).1.mono tO.got⟩, fun n hn => (hP n hn).2⟩
    replace hV := hV.mono o9
    replace hwp := o9 _ _ hwp
    replace hhp := o9 _ _ hhp
    clear tO hP
    rw [ea, en, ew]
    cases pr with
    | true =>
      refine ⟨_, rfl, _, rfl, ?_⟩
      refine iteF ?_
      exact h2 _ _ ⟨t, sc, hp, D, mv, true, r, ans, ww, M, tb, ws, hs, _, _, _, _, _, _, _, _, _, _, _, _, _, _, _, _, _, rfl, T9, hV, hM, hr3, hTab, w1, w2, hhp, by omega, fun _ => hPr, q⟩
    | false =>
      refine ⟨_, rfl, _, rfl, ?_⟩
      refine iteT ?_
      refine ⟨_, rfl, _, rfl, _, rfl, _, rfl, _, _, _, _, rfl, t, sc, r, ans, n, rfl, rfl, rfl, rfl, T9, hr3, a1, a3, n1, n4, fun mv2 M2 HA sA TA hV2 hM2 hMl2 => ?_⟩
      refine ⟨_, rfl, _, rfl, _, rfl, _, _, _, rfl, t, sc, r, ww, rfl, rfl, rfl, TA, hr3, w1, w2, fun tp2 tb2 HB sB TB hTab2 => ?_⟩
      exact h2 _ _ ⟨t, sc, hp, tp2, mv2, false, r, ans, ww, M2, tb2, ws, hs, _, _, _, _, _, _, _, _, _, _, _, _, _, _, _, _, _, rfl, TB, hV2.mono sB, hM2, hr3, hTab2, w1, w2, sB _ _ (sA _ _ hhp), by omega, fun z => (nomatch z), q⟩
theorem ok_law {P : Program} {w : World} {K : PySem.W.Frag} {mg : Str → Option Value} {base : Heap} {C_Machine C_Prices f : Addr} {fd : FuncData} (F : FunD K "law" "law" (defArgs s_law) (defBody s_law) (defScope s_law) [] [] f fd) (T : Tx K mg) (c_l_asked : Cl CX0 P w K mg base 9 "_law_asked" (sp_l_asked K)) (c_Prices : ClM P w K mg base 4 "Prices" C_Prices (sp_Prices K C_Prices)) (c_l_refuses : Cl CX0 P w K mg base 10 "_law_refuses" (sp_l_refuses K)) (c_l_reached : Cl CX0 P w K mg base 1 "_law_reached" (sp_l_reached K)) (c_l_is : Cl CX0 P w K mg base 5 "_law_is" (sp_l_is K)) (c_waste : Cl (L2.CX P w) P w K mg base 8 "waste" (sp_waste K)) (c_cheapest : Cl (L2.CX P w) P w K mg base 7 "cheapest" (sp_cheapest K)) (c_l_spans : Cl CX0 P w K mg base 1 "_law_spans" (sp_l_spans K)) (c_l_cheapest : Cl CX0 P w K mg base 4 "_law_cheapest" (sp_l_cheapest K)) (c_l_all_orders : Cl CX0 P w K mg base 2 "_law_all_orders" (sp_l_all_orders K)) (c_l_befores : Cl CX0 P w K mg base 2 "_law_befores" (sp_l_befores K)) (c_l_ordered_code : Cl CX0 P w K mg base 3 "_law_ordered_code" (sp_l_ordered_code K)) (c_Machine : ClM P w K mg base 5 "Machine" C_Machine (sp_Machine K C_Machine)) (c_l_table : Cl CX0 P w K mg base 3 "_law_table" (sp_l_table K)) (c_l_moves : Cl CX0 P w K mg base 2 "_law_moves" (sp_l_moves K)) (c_l_all_stretches : Cl CX0 P w K mg base 1 "_law_all_stretches" (sp_l_all_stretches K)) (c_l_pick : Cl CX0 P w K mg base 1 "_law_pick" (sp_l_pick K)) (c_l_priced_world : Cl CX0 P w K mg base 2 "_law_priced_world" (sp_l_priced_world K)) (c_l_rows : Cl CX0 P w K mg base 2 "_law_rows" (sp_l_rows K)) (c_l_tape : Cl CX0 P w K mg base 1 "_law_tape" (sp_l_tape K)) : FnOk P w K mg base CX0 11 f fd ["_law_script"] (sp_law K) :=
  F.ok sc_law (fun _ _ _ _ ⟨_, e, _⟩ => by rw [e] <;> rfl) fun cdv A outer s H vs Q E hr ⟨a, e, h⟩ => by
    subst e
    exact law_body T c_l_asked c_Prices c_l_refuses c_l_reached c_l_is c_waste c_cheapest c_l_spans c_l_cheapest c_l_all_orders c_l_befores c_l_ordered_code c_Machine c_l_table c_l_moves c_l_all_stretches c_l_pick c_l_priced_world c_l_rows c_l_tape hr h
end K84
set_option maxHeartbeats 0
namespace K84
open PySem PySem.Spec PyProof.Rows L2
/-! ### what the head tells -/
theorem hdExc_ok {K : PySem.W.Frag} {D : Addr} (h : hdExc K D = true) : ExcC K D := by
  unfold hdExc at h
  obtain ⟨h1, h⟩ := He.ba h
  obtain ⟨h2, h⟩ := He.ba h
  obtain ⟨h3, h⟩ := He.ba h
  obtain ⟨h4, h⟩ := He.ba h
  obtain ⟨h5, h⟩ := He.ba h
  obtain ⟨h6, h⟩ := He.ba h
  obtain ⟨h7, h8⟩ := He.ba h
  exact ⟨of_decide_eq_true h1, of_decide_eq_true h2, of_decide_eq_true h3, h4, of_decide_eq_true h5, of_decide_eq_true h6, of_decide_eq_true h7, of_decide_eq_true h8⟩
theorem hdKit_ok {K : PySem.W.Frag} {x y : Str} {b : Bool} (h : hdKit K x y b = true) : PySem.W.kitOne K (.ref (He.ga K x)) (.ref (He.ga K y)) = some b := of_decide_eq_true h
theorem df_of {K : PySem.W.Frag} {h : Heap} {mg : Str → Option Value} (X : K.In h) (G : h.Ns mainGlobals mg) (c : He.SaysD hdFas hdFns K) (i j : Nat) {x : Str} {n : Nat} (h1 : hdFns[i]? = some (hdF x n)) (h2 : hdFas[j]? = some (.glo x)) : Df K mg x (top n) := by
  obtain ⟨fd, F⟩ := c.def_ i (d := hdF x n) h1
  exact ⟨_, fd, F, He.glo_ok X G (c.fact j (f := .glo x) h2)⟩
theorem dm_of {K : PySem.W.Frag} (c : He.SaysD hdFas hdFns K) (i : Nat) {C m q : Str} {a b : Nat} (h1 : hdFns[i]? = some (hdM C m q a b)) : DfM K (He.ga K C) m q (inClass (top a) b) (He.ma K (He.ga K C) m) := by
  obtain ⟨fd, F⟩ := c.def_ i (d := hdM C m q a b) h1
  exact ⟨fd, F⟩
theorem tx_of {w : World} {K : PySem.W.Frag} {h : Heap} {mg : Str → Option Value} (X : K.In h) (G : h.Ns mainGlobals mg) (c : He.SaysX hdFas hdFns [] [] hdMore w h K) : Tx K mg := by
  have hm := c.more
  unfold hdMore at hm
  obtain ⟨m0, hm⟩ := He.ba hm
  obtain ⟨m1, hm⟩ := He.ba hm
  obtain ⟨m2, hm⟩ := He.ba hm
  obtain ⟨m3, hm⟩ := He.ba hm
  obtain ⟨k1, hm⟩ := He.ba hm
  obtain ⟨k2, hm⟩ := He.ba hm
  obtain ⟨k3, hm⟩ := He.ba hm
  obtain ⟨k4, hm⟩ := He.ba hm
  obtain ⟨k5, hm⟩ := He.ba hm
  obtain ⟨k6, hm⟩ := He.ba hm
  obtain ⟨k7, hm⟩ := He.ba hm
  obtain ⟨k8, k9⟩ := He.ba hm
  obtain ⟨x1a, x1b, x1c, x1d⟩ := He.exc_ok (c.t.d.fact 109 (f := .exc "OtherRows") rfl)
  obtain ⟨x2a, x2b, x2c, x2d⟩ := He.exc_ok (c.t.d.fact 111 (f := .exc "NoCode") rfl)
  obtain ⟨x3a, x3b, x3c, x3d⟩ := He.exc_ok (c.t.d.fact 113 (f := .exc "NoBefores") rfl)
  exact {
    len := He.free_ok X G (c.t.d.fact 65 (f := .free "len") rfl),
    range := He.free_ok X G (c.t.d.fact 66 (f := .free "range") rfl),
    int_ := He.free_ok X G (c.t.d.fact 67 (f := .free "int") rfl),
    isinstance := He.free_ok X G (c.t.d.fact 68 (f := .free "isinstance") rfl),
    bool_ := He.free_ok X G (c.t.d.fact 69 (f := .free "bool") rfl),
    tuple_ := He.free_ok X G (c.t.d.fact 70 (f := .free "tuple") rfl),
    list_ := He.free_ok X G (c.t.d.fact 71 (f := .free "list") rfl),
    str_ := He.free_ok X G (c.t.d.fact 72 (f := .free "str") rfl),
    dict_ := He.free_ok X G (c.t.d.fact 80 (f := .free "dict") rfl),
    abs := He.free_ok X G (c.t.d.fact 73 (f := .free "abs") rfl),
    all := He.free_ok X G (c.t.d.fact 74 (f := .free "all") rfl),
    sorted := He.free_ok X G (c.t.d.fact 75 (f := .free "sorted") rfl),
    enumerate := He.free_ok X G (c.t.d.fact 76 (f := .free "enumerate") rfl),
    zip := He.free_ok X G (c.t.d.fact 77 (f := .free "zip") rfl),
    max := He.free_ok X G (c.t.d.fact 78 (f := .free "max") rfl),
    min := He.free_ok X G (c.t.d.fact 79 (f := .free "min") rfl),
    c_MOST_ROWS := let ⟨t, e⟩ := He.int_ok X G (c.t.d.fact 81 (f := .int "MOST_ROWS" 4) rfl); ⟨_, e, ⟨t, rfl⟩⟩,
    c_MOST_WIDTH := let ⟨t, e⟩ := He.int_ok X G (c.t.d.fact 82 (f := .int "MOST_WIDTH" 3) rfl); ⟨_, e, ⟨t, rfl⟩⟩,
    c_MOST_ORDERED := let ⟨t, e⟩ := He.int_ok X G (c.t.d.fact 83 (f := .int "MOST_ORDERED" 7) rfl); ⟨_, e, ⟨t, rfl⟩⟩,
    c_MOST_ANSWERS := let ⟨t, e⟩ := He.int_ok X G (c.t.d.fact 84 (f := .int "MOST_ANSWERS" 3) rfl); ⟨_, e, ⟨t, rfl⟩⟩,
    c_MOST_STANDINGS := let ⟨t, e⟩ := He.int_ok X G (c.t.d.fact 85 (f := .int "MOST_STANDINGS" 12) rfl); ⟨_, e, ⟨t, rfl⟩⟩,
    c_MOST_TICKS := let ⟨t, e⟩ := He.int_ok X G (c.t.d.fact 86 (f := .int "MOST_TICKS" 99) rfl); ⟨_, e, ⟨t, rfl⟩⟩,
    c_SMALL := let ⟨t, e⟩ := He.str_ok X G (c.t.d.fact 87 (f := .str "SMALL" "abcdefghijklmnopqrstuvwxyz") rfl); ⟨_, e, ⟨t, rfl⟩⟩,
    x_OtherRows := ⟨He.glo_ok X G (c.t.d.fact 106 (f := .glo "OtherRows") rfl), x1a, x1b, x1c, x1d, hdExc_ok m1, He.exm_ok (c.t.d.fact 110 (f := .exm "OtherRows" "StretchError" true) rfl)⟩,
    x_NoCode := ⟨He.glo_ok X G (c.t.d.fact 107 (f := .glo "NoCode") rfl), x2a, x2b, x2c, x2d, hdExc_ok m2, He.exm_ok (c.t.d.fact 112 (f := .exm "NoCode" "StretchError" true) rfl)⟩,
    x_NoBefores := ⟨He.glo_ok X G (c.t.d.fact 108 (f := .glo "NoBefores") rfl), x3a, x3b, x3c, x3d, hdExc_ok m3, He.exm_ok (c.t.d.fact 114 (f := .exm "NoBefores" "StretchError" true) rfl)⟩,
    e_StretchError := He.glo_ok X G (c.t.d.fact 105 (f := .glo "StretchError") rfl),
    c_OtherRows := ⟨_, He.glo_ok X G (c.t.d.fact 106 (f := .glo "OtherRows") rfl), rfl⟩,
    c_NoCode := ⟨_, He.glo_ok X G (c.t.d.fact 107 (f := .glo "NoCode") rfl), rfl⟩,
    c_NoBefores := ⟨_, He.glo_ok X G (c.t.d.fact 108 (f := .glo "NoBefores") rfl), rfl⟩,
    kits := fun e he => by
      simp only [kitL, List.mem_cons, List.not_mem_nil, or_false] at he
      rcases he with rfl | rfl | rfl | rfl | rfl | rfl | rfl | rfl | rfl
      · exact hdKit_ok k1
      · exact hdKit_ok k2
      · exact hdKit_ok k3
      · exact hdKit_ok k4
      · exact hdKit_ok k5
      · exact hdKit_ok k6
      · exact hdKit_ok k7
      · exact hdKit_ok k8
      · exact hdKit_ok k9,
    c_NOUGHT := ⟨He.ga K "NOUGHT", ⟨_, He.glo_ok X G (c.t.d.fact 88 (f := .glo "NOUGHT") rfl), rfl⟩, fun H => He.tupB_ok m0 H⟩ }
theorem facts {P : Program} {w : World} {K : PySem.W.Frag} {h : Heap} {mg : Str → Option Value} {f : Addr} (X : K.In h) (G : h.Ns mainGlobals mg) (hfa : mg ("law" : Str) = some (.ref f)) (c : He.SaysX hdFas hdFns [] [] hdMore w h K) :
    ∃ fd : FuncData, (∀ (s : Shared) (v : Value), BindsTo s fd ⟨[v], []⟩ [("_law_script", v)]) ∧ ∀ base : Heap, K.In base → base.Ns mainGlobals mg → FnOk P w K mg base CX0 11 f fd ["_law_script"] (sp_law K) := by
  have T := tx_of X G c
  obtain ⟨fd, F⟩ := c.t.d.def_ 67 (d := hdF "law" 87) rfl
  have e := hfa.symm.trans (He.glo_ok X G (c.t.d.fact 64 (f := .glo "law") rfl))
  cases e
  have b := FunD.bindsA (ps := ["_law_script"]) F fun _ _ _ _ _ _ us hl => match us, hl with | [_], _ => rfl
  refine ⟨fd, fun s v => b s [v] rfl, fun base _ _ => ?_⟩
  have c_all_orders : Cl CX0 P w K mg base 1 "all_orders" (sp_all_orders K) := ok_all_orders (df_of X G c.t.d 28 27 rfl rfl) T
  have c_is_integer : Cl CX0 P w K mg base 1 "is_integer" (sp_is_integer K) := ok_is_integer (df_of X G c.t.d 5 5 rfl rfl) T
  have c_is_within : Cl CX0 P w K mg base 2 "is_within" (sp_is_within K) := ok_is_within (df_of X G c.t.d 6 6 rfl rfl) T c_is_integer
  have c_is_pair : Cl CX0 P w K mg base 1 "is_pair" (sp_is_pair K) := ok_is_pair (df_of X G c.t.d 7 7 rfl rfl) T
  have c_is_before : Cl CX0 P w K mg base 3 "is_before" (sp_is_before K) := ok_is_before (df_of X G c.t.d 25 24 rfl rfl) T c_is_within c_is_pair
  have c_is_listed : Cl CX0 P w K mg base 1 "is_listed" (sp_is_listed K) := ok_is_listed (df_of X G c.t.d 8 8 rfl rfl) T
  have c_check_befores : Cl (L2.CX P w) P w K mg base 4 "check_befores" (sp_check_befores K) := ok_check_befores (df_of X G c.t.d 26 25 rfl rfl) T c_is_before c_is_listed
  have c_is_string_of : Cl CX0 P w K mg base 1 "is_string_of" (sp_is_string_of K) := ok_is_string_of (df_of X G c.t.d 9 9 rfl rfl) T
  have c_is_any_code : Cl CX0 P w K mg base 2 "is_any_code" (sp_is_any_code K) := ok_is_any_code (df_of X G c.t.d 14 14 rfl rfl) T c_is_string_of
  have c_orders : Cl (L2.CX P w) P w K mg base 5 "orders" (sp_orders K) := ok_orders (df_of X G c.t.d 29 28 rfl rfl) T c_all_orders c_check_befores c_is_any_code
  have c_worst_of : Cl CX0 P w K mg base 1 "worst_of" (sp_worst_of K) := ok_worst_of (df_of X G c.t.d 30 29 rfl rfl) T
  have c_is_code : Cl CX0 P w K mg base 2 "is_code" (sp_is_code K) := ok_is_code (df_of X G c.t.d 13 13 rfl rfl) T c_is_string_of
  have c_worst : Cl (L2.CX P w) P w K mg base 3 "worst" (sp_worst K) := ok_worst (df_of X G c.t.d 31 30 rfl rfl) T c_worst_of c_is_code
  have c_check_ordered : Cl (L2.CX P w) P w K mg base 3 "check_ordered" (sp_check_ordered K) := ok_check_ordered (df_of X G c.t.d 27 26 rfl rfl) T c_is_code
  have c_quickest : Cl (L2.CX P w) P w K mg base 5 "quickest" (sp_quickest K) := ok_quickest (df_of X G c.t.d 32 31 rfl rfl) T c_all_orders c_worst_of c_check_befores c_check_ordered
  have c_is_less : Cl CX0 P w K mg base 1 "is_less" (sp_is_less K) := ok_is_less (df_of X G c.t.d 3 3 rfl rfl) T
  have c_common_divisor : Cl CX0 P w K mg base 1 "common_divisor" (sp_common_divisor K) := ok_common_divisor (df_of X G c.t.d 0 0 rfl rfl) T
  have c_made : Cl CX0 P w K mg base 2 "made" (sp_made K) := ok_made (df_of X G c.t.d 1 1 rfl rfl) T c_common_divisor
  have c_plus : Cl CX0 P w K mg base 3 "plus" (sp_plus K) := ok_plus (df_of X G c.t.d 2 2 rfl rfl) T c_made
  have c_sum_of : Cl CX0 P w K mg base 4 "sum_of" (sp_sum_of K) := ok_sum_of (df_of X G c.t.d 4 4 rfl rfl) T c_plus
  have c_stretches_of : Cl CX0 P w K mg base 1 "stretches_of" (sp_stretches_of K) := ok_stretches_of (df_of X G c.t.d 18 18 rfl rfl) T
  have c_price_of : Cl CX0 P w K mg base 5 "price_of" (sp_price_of K) := ok_price_of (df_of X G c.t.d 23 22 rfl rfl) T c_sum_of c_stretches_of
  have c_price : Cl (L2.CX P w) P w K mg base 6 "price" (sp_price K) := ok_price (df_of X G c.t.d 24 23 rfl rfl) T c_price_of c_is_code
  have c_cheapest : Cl (L2.CX P w) P w K mg base 7 "cheapest" (sp_cheapest K) := ok_cheapest (df_of X G c.t.d 33 32 rfl rfl) T c_all_orders c_is_less c_price c_check_befores c_check_ordered
  have c_check_like_rows : Cl (L2.CX P w) P w K mg base 1 "check_like_rows" (sp_check_like_rows K) := ok_check_like_rows (df_of X G c.t.d 17 17 rfl rfl) T
  have c_waste : Cl (L2.CX P w) P w K mg base 8 "waste" (sp_waste K) := ok_waste (df_of X G c.t.d 34 33 rfl rfl) T c_worst_of c_cheapest c_quickest c_check_like_rows
  have c_l_asked : Cl CX0 P w K mg base 9 "_law_asked" (sp_l_asked K) := ok_l_asked (df_of X G c.t.d 63 60 rfl rfl) T c_orders c_worst c_quickest c_cheapest c_waste
  have c_is_fraction : Cl CX0 P w K mg base 2 "is_fraction" (sp_is_fraction K) := ok_is_fraction (df_of X G c.t.d 16 16 rfl rfl) T c_common_divisor c_is_integer c_is_pair
  have c_is_table : Cl CX0 P w K mg base 3 "is_table" (sp_is_table K) := ok_is_table (df_of X G c.t.d 21 21 rfl rfl) T c_is_fraction
  have c_codes_of_length : Cl CX0 P w K mg base 1 "codes_of_length" (sp_codes_of_length K) := ok_codes_of_length (df_of X G c.t.d 19 19 rfl rfl) T
  have c_stretch_names : Cl CX0 P w K mg base 2 "stretch_names" (sp_stretch_names K) := ok_stretch_names (df_of X G c.t.d 20 20 rfl rfl) T c_codes_of_length
  have c_is_width : Cl CX0 P w K mg base 3 "is_width" (sp_is_width K) := ok_is_width (df_of X G c.t.d 15 15 rfl rfl) T c_is_within
  have c_is_ascending : Cl CX0 P w K mg base 1 "is_ascending" (sp_is_ascending K) := ok_is_ascending (df_of X G c.t.d 11 11 rfl rfl) T
  have c_is_word : Cl CX0 P w K mg base 2 "is_word" (sp_is_word K) := ok_is_word (df_of X G c.t.d 10 10 rfl rfl) T c_is_string_of
  have c_is_rows : Cl CX0 P w K mg base 3 "is_rows" (sp_is_rows K) := ok_is_rows (df_of X G c.t.d 12 12 rfl rfl) T c_is_ascending c_is_word
  have c_Prices : ClM P w K mg base 4 "Prices" (He.ga K "Prices") (sp_Prices K (He.ga K "Prices")) := ok_Prices___init__ (dm_of c.t.d 22 rfl) T c_is_table c_stretch_names c_is_width c_is_rows (He.mkr_ok (c.t.d.fact 94 (f := .mkr "Prices") rfl)) (He.glo_ok X G (c.t.d.fact 92 (f := .glo "Prices") rfl)) (He.cls_ok (c.t.d.fact 93 (f := .cls "Prices") rfl)) (He.noat_ok (c.t.d.fact 101 (f := .noat "Prices" "rows") rfl)) (He.noat_ok (c.t.d.fact 102 (f := .noat "Prices" "width") rfl)) (He.noat_ok (c.t.d.fact 103 (f := .noat "Prices" "kept_table") rfl))
  have c_l_is_int : Cl CX0 P w K mg base 1 "_law_is_int" (sp_l_is_int K) := ok_l_is_int (df_of X G c.t.d 56 53 rfl rfl) T
  have c_l_are_befores : Cl CX0 P w K mg base 2 "_law_are_befores" (sp_l_are_befores K) := ok_l_are_befores (df_of X G c.t.d 64 61 rfl rfl) T c_l_is_int
  have c_l_is_code : Cl CX0 P w K mg base 1 "_law_is_code" (sp_l_is_code K) := ok_l_is_code (df_of X G c.t.d 57 54 rfl rfl) T
  have c_l_due : Cl CX0 P w K mg base 3 "_law_due" (sp_l_due K) := ok_l_due (df_of X G c.t.d 65 62 rfl rfl) T c_l_are_befores c_l_is_code
  have c_l_pick : Cl CX0 P w K mg base 1 "_law_pick" (sp_l_pick K) := ok_l_pick (df_of X G c.t.d 40 37 rfl rfl) T
  have c_l_refuses : Cl CX0 P w K mg base 10 "_law_refuses" (sp_l_refuses K) := ok_l_refuses (df_of X G c.t.d 66 63 rfl rfl) T c_l_asked c_l_due c_l_pick
  have c_l_reached : Cl CX0 P w K mg base 1 "_law_reached" (sp_l_reached K) := ok_l_reached (df_of X G c.t.d 55 52 rfl rfl) T
  have c_l_is : Cl CX0 P w K mg base 5 "_law_is" (sp_l_is K) := ok_l_is (df_of X G c.t.d 53 50 rfl rfl) T
  have c_l_spans : Cl CX0 P w K mg base 1 "_law_spans" (sp_l_spans K) := ok_l_spans (df_of X G c.t.d 44 41 rfl rfl) T
  have c_l_less : Cl CX0 P w K mg base 1 "_law_less" (sp_l_less K) := ok_l_less (df_of X G c.t.d 47 44 rfl rfl) T
  have c_l_stretches : Cl CX0 P w K mg base 1 "_law_stretches" (sp_l_stretches K) := ok_l_stretches (df_of X G c.t.d 51 48 rfl rfl) T
  have c_l_lowest : Cl CX0 P w K mg base 1 "_law_lowest" (sp_l_lowest K) := ok_l_lowest (df_of X G c.t.d 45 42 rfl rfl) T
  have c_l_plus : Cl CX0 P w K mg base 2 "_law_plus" (sp_l_plus K) := ok_l_plus (df_of X G c.t.d 46 43 rfl rfl) T c_l_lowest
  have c_l_price : Cl CX0 P w K mg base 3 "_law_price" (sp_l_price K) := ok_l_price (df_of X G c.t.d 52 49 rfl rfl) T c_l_stretches c_l_plus
  have c_l_cheapest : Cl CX0 P w K mg base 4 "_law_cheapest" (sp_l_cheapest K) := ok_l_cheapest (df_of X G c.t.d 62 59 rfl rfl) T c_l_less c_l_price
  have c_l_all_places : Cl CX0 P w K mg base 1 "_law_all_places" (sp_l_all_places K) := ok_l_all_places (df_of X G c.t.d 58 55 rfl rfl) T
  have c_l_all_orders : Cl CX0 P w K mg base 2 "_law_all_orders" (sp_l_all_orders K) := ok_l_all_orders (df_of X G c.t.d 59 56 rfl rfl) T c_l_all_places
  have c_l_befores : Cl CX0 P w K mg base 2 "_law_befores" (sp_l_befores K) := ok_l_befores (df_of X G c.t.d 60 57 rfl rfl) T c_l_pick
  have c_l_code : Cl CX0 P w K mg base 2 "_law_code" (sp_l_code K) := ok_l_code (df_of X G c.t.d 43 40 rfl rfl) T c_l_pick
  have c_l_ordered_code : Cl CX0 P w K mg base 3 "_law_ordered_code" (sp_l_ordered_code K) := ok_l_ordered_code (df_of X G c.t.d 61 58 rfl rfl) T c_l_code c_l_pick
  have c_keep : ClK P w K mg base 1 "keep" (He.ga K "Machine") (sp_keep K (He.ga K "Machine")) := ok_Machine_keep (dm_of c.t.d 38 rfl) T (He.meth_ok (c.t.d.fact 104 (f := .meth "Machine" "keep") rfl)) (He.cls_ok (c.t.d.fact 90 (f := .cls "Machine") rfl)) (He.noat_ok (c.t.d.fact 95 (f := .noat "Machine" "rows") rfl)) (He.noat_ok (c.t.d.fact 96 (f := .noat "Machine" "answers") rfl)) (He.noat_ok (c.t.d.fact 97 (f := .noat "Machine" "moves") rfl)) (He.noat_ok (c.t.d.fact 98 (f := .noat "Machine" "size") rfl)) (He.noat_ok (c.t.d.fact 99 (f := .noat "Machine" "kept_steps") rfl)) (He.noat_ok (c.t.d.fact 100 (f := .noat "Machine" "kept_webs") rfl))
  have c_is_move : Cl CX0 P w K mg base 3 "is_move" (sp_is_move K) := ok_is_move (df_of X G c.t.d 35 34 rfl rfl) T c_is_within c_is_pair
  have c_are_moves : Cl CX0 P w K mg base 4 "are_moves" (sp_are_moves K) := ok_are_moves (df_of X G c.t.d 36 35 rfl rfl) T c_is_move
  have c_Machine : ClM P w K mg base 5 "Machine" (He.ga K "Machine") (sp_Machine K (He.ga K "Machine")) := ok_Machine___init__ (dm_of c.t.d 37 rfl) T c_keep c_are_moves c_is_within c_is_rows (He.mkr_ok (c.t.d.fact 91 (f := .mkr "Machine") rfl)) (He.glo_ok X G (c.t.d.fact 89 (f := .glo "Machine") rfl)) (He.cls_ok (c.t.d.fact 90 (f := .cls "Machine") rfl))
  have c_l_all_stretches : Cl CX0 P w K mg base 1 "_law_all_stretches" (sp_l_all_stretches K) := ok_l_all_stretches (df_of X G c.t.d 49 46 rfl rfl) T
  have c_l_fraction : Cl CX0 P w K mg base 2 "_law_fraction" (sp_l_fraction K) := ok_l_fraction (df_of X G c.t.d 48 45 rfl rfl) T c_l_lowest c_l_pick
  have c_l_table : Cl CX0 P w K mg base 3 "_law_table" (sp_l_table K) := ok_l_table (df_of X G c.t.d 50 47 rfl rfl) T c_l_all_stretches c_l_fraction
  have c_l_moves : Cl CX0 P w K mg base 2 "_law_moves" (sp_l_moves K) := ok_l_moves (df_of X G c.t.d 42 39 rfl rfl) T c_l_pick
  have c_l_priced_world : Cl CX0 P w K mg base 2 "_law_priced_world" (sp_l_priced_world K) := ok_l_priced_world (df_of X G c.t.d 54 51 rfl rfl) T c_l_pick
  have c_l_rows : Cl CX0 P w K mg base 2 "_law_rows" (sp_l_rows K) := ok_l_rows (df_of X G c.t.d 41 38 rfl rfl) T c_l_pick
  have c_l_tape : Cl CX0 P w K mg base 1 "_law_tape" (sp_l_tape K) := ok_l_tape (df_of X G c.t.d 39 36 rfl rfl) T
  exact ok_law F T c_l_asked c_Prices c_l_refuses c_l_reached c_l_is c_waste c_cheapest c_l_spans c_l_cheapest c_l_all_orders c_l_befores c_l_ordered_code c_Machine c_l_table c_l_moves c_l_all_stretches c_l_pick c_l_priced_world c_l_rows c_l_tape
end K84
open PySem PySem.W PySem.Calls PyProof.Rows
theorem PySem.Challenge.cw_stretchprices_k84_whole_the_cheapest_and_holds : PySem.Challenge.rw_stretchprices_k84_whole_the_cheapest_and.Holds := by
  w_on; o_law
  refine HandSHeadRun.head_any (r := OpenLaw.row PySem.Challenge.rw_stretchprices_k84_whole_the_cheapest_and) (q := view (OpenLaw.row PySem.Challenge.rw_stretchprices_k84_whole_the_cheapest_and).prog [87]) (H := K84.hdHook) (ob := K84.hdOb) (M := 9000) (loose := K84.hdLoose) (d := HandSHeadRun.topDef (OpenLaw.row PySem.Challenge.rw_stretchprices_k84_whole_the_cheapest_and).prog 87) (kwd := []) K84.hdOb_eq
    (by kernel_rfl) (fun s => by kernel_rfl) K84.hdRun (by kernel_rfl) (by kernel_rfl) (by kernel_rfl) (by rfl) (by first | assumption | decide +kernel) (by decide +kernel) ⟨rfl, rfl, rfl, rfl, rfl, by decide +kernel⟩ ?hw ?hc
  case hw => w_witness2
  case hc =>
    refine L2.walk_ofE (l := PySem.Challenge.rw_stretchprices_k84_whole_the_cheapest_and) (n := 63) (k := 11) (x := "_law_script") (CX := L2.CX0) rfl (by decide) (by kernel_rfl) ⟨rfl, by decide, by decide⟩ ?F (fun _ _ _ _ z => z)
    intro w mg fa h Y G hmg0
    obtain ⟨K, KX, c⟩ := Y
    have hmg : mg ("law" : PySem.Str) = some (.ref fa) := by
      have e : (HandSHeadRun.topDef (OpenLaw.row PySem.Challenge.rw_stretchprices_k84_whole_the_cheapest_and).prog 87).name = ("law" : PySem.Str) := by kernel_rfl
      rw [← e]
      exact hmg0
    obtain ⟨fd, hb, hF⟩ := K84.facts (P := (PySem.Challenge.rw_stretchprices_k84_whole_the_cheapest_and).prog) (w := w) KX G hmg c
    exact ⟨K, fd, K84.sp_law K, KX, hb, fun H a ns hl _ hS => ⟨_, rfl, a, ns, rfl, hS, hl, fun _ => rfl⟩, hF⟩
