import PyProof.Rows.All
import Wide.All
import OpenK.AllK
import Wide.FinOn
import KE.KStateDown
import Lean
import HandS.ForMost
import HandS.Defaults
import HandS.Wide
import HandS.Gcd
import HandS.Conv
import HandS.DictComp
import HandS.DictTup
import HandS.TupAny
import HandS.TupMul
import HandS.TupLen
import HandS.SetBool
import HandS.Slots
import HandS.SlotsOwn
import HandS.ClsMeth
import HandS.CallLocal
import HandS.Star
import HandS.IsInst
import HandS.SortInts
import HandS.Head0
import HandS.Head1
import HandS.Head2
import HandS.Head3
import HandS.HeadEnd
import HandS.HeadHook1
import HandS.HeadHook2
import KE.SortData
import HandS.ListEq
import HandS.DictEq
import HandS.DeepEq
import HandS.ListItems
import HandS.Strs
import HandS.Set
import KE.KDictItemsList
import KE.KDictCopyH
import KE.KDictOf
import KE.KDictKeyed
import KE.KDictWalk
import KE.KDictDisplayH
import KE.KEqNest
import PySem.Challenge.RW_risewords_k30_whole_joinings_and_cuts
set_option Elab.async false
set_option linter.all false
set_option maxRecDepth 100000
set_option maxHeartbeats 4000000
/-! The whole proof, joined of its parts. -/
namespace Rj
open PySem
abbrev prg : Program := PySem.Challenge.pw_risewords_k30_whole_joinings_and_cuts
def top (i : Nat) : Stmt := prg.main.body.getD i (.Pass ⟨0, 0, 0, 0⟩)
end Rj
set_option Elab.async false
set_option linter.all false
set_option maxRecDepth 100000
set_option maxHeartbeats 4000000
/-! What the head must tell, as tests. -/
namespace Rj.Hd
open PySem PySem.Spec PyProof.Rows L2
/-- a def of the top: its address, names, text, keyword-only defaults -/
structure DR where
  ad : PySem.W.Frag → Addr
  name : Str
  qual : Str
  st : Stmt
  kwd : List (Str × V) := []
def lookD (K : PySem.W.Frag) (a : Addr) : He.FnW := match K.lookup a with
  | some ⟨_, _, .func fd, _⟩ => some (fd.name, fd.qualname, fd.params, fd.body, fd.scope, fd.globals, fd.closure, fd.builtins)
  | _ => none
def DR.val (d : DR) : He.FnW := some (d.name, d.qual, defArgs d.st, .stmts (defBody d.st), defScope d.st, mainGlobals, [], builtinsNs)
def DR.ok (K : PySem.W.Frag) (d : DR) : Bool := PySem.W.keepIn K (.ref (d.ad K)) && (match K.lookup (d.ad K) with
  | some ⟨_, _, .func fd, _⟩ => PySem.W.codeIn K fd.code d.qual && (He.dflB K fd.defaults [] && He.kwdB K fd.kwdefaults d.kwd)
  | _ => false)
theorem DR.funD {K : PySem.W.Frag} {d : DR} (e : lookD K (d.ad K) = d.val) (c : d.ok K = true) : ∃ fd, FunD K d.name d.qual (defArgs d.st) (defBody d.st) (defScope d.st) [] d.kwd (d.ad K) fd := by
  obtain ⟨kp, c2⟩ := He.ba c
  unfold lookD at e
  cases q : K.lookup (d.ad K) with
  | none =>
    rw [q] at c2
    cases c2
  | some o =>
    obtain ⟨oc, od, dt, osl⟩ := o
    rw [q] at c2 e
    cases dt with
    | func fd =>
      obtain ⟨n1, n2, n3, n4, n5, n6, n7, n8, n9, n10, n11, n12, n13, n14, n15⟩ := fd
      have e2 : (some (n1, n2, n3, n4, n5, n6, n7, n15) : He.FnW) = some (d.name, d.qual, defArgs d.st, .stmts (defBody d.st), defScope d.st, mainGlobals, [], builtinsNs) := e
      simp only [Option.some.injEq, Prod.mk.injEq] at e2
      obtain ⟨h1, h2, h3, h4, h5, h6, h7, h8⟩ := e2
      subst h1 h2 h3 h4 h5 h6 h7 h8
      have c3 : (PySem.W.codeIn K n13 d.qual && (He.dflB K n8 [] && He.kwdB K n9 d.kwd)) = true := c2
      obtain ⟨k1, k2⟩ := He.ba c3
      obtain ⟨k3, k4⟩ := He.ba k2
      exact ⟨_, ⟨oc, od, n8, n9, n10, n11, n12, n13, n14, osl, rfl, q, k1, He.dflB_ok k3, He.kwdB_ok k4⟩, kp⟩
    | _ => cases c2
abbrev AlR : Type := Bool × List He.FnW
def obsR (B : PySem.W.Frag → Bool) (fn : List DR) (K : PySem.W.Frag) : AlR := (B K && fn.all fun d => d.ok K, fn.map fun d => lookD K (d.ad K))
def valR (fn : List DR) : AlR := (true, fn.map DR.val)
/-- an address is computed once -/
def frL {A : Type} : List Addr → List Addr → (List Addr → A) → A
  | [], r, k => k r
  | a :: as, r, k => HandSHeadRun.frNat a fun a => frL as (a :: r) k
theorem frL_eq {A : Type} : ∀ (as r : List Addr) (k : List Addr → A), frL as r k = k (as.reverse ++ r)
  | [], r, k => rfl
  | a :: as, r, k => by
    show HandSHeadRun.frNat a (fun a => frL as (a :: r) k) = _
    rw [HandSHeadRun.frNat_eq, frL_eq as (a :: r) k, List.reverse_cons, List.append_assoc]
    rfl
def refsR (g : Addr → Option Obj) (a : Addr) : List Addr := match g a with
  | some o => He.refsD o
  | none => []
def gaG (g : Addr → Option Obj) (x : Str) : Addr := He.ga (He.frG g [mainGlobals]) x
/-- the places that the tests look at: these names' own, what stands in these classes -/
def asR {A : Type} (g : Addr → Option Obj) (xs cs : List Str) (k : List Addr → A) : A :=
  frL (cs.map (gaG g)) [] fun c1 => frL (c1.flatMap (refsR g)) [] fun c2 => frL (c2.flatMap (refsR g)) [] fun c3 => frL (c3.flatMap (refsR g)) [] fun c4 => frL (c4.flatMap (refsR g)) [] fun c5 =>
  frL (xs.map (gaG g)) [] fun f1 => frL (f1.flatMap (refsR g)) [] fun f2 => k (mainGlobals :: PySem.cStatics :: c1 ++ (f1 ++ (f2 ++ (c2 ++ (c3 ++ (c4 ++ c5))))))
theorem asR_eq {A : Type} (g : Addr → Option Obj) (xs cs : List Str) : ∃ as : List Addr, ∀ k : List Addr → A, asR g xs cs k = k as := by
  refine ⟨?as, fun k => ?_⟩
  case as => exact asR g xs cs fun as => as
  unfold asR
  simp only [frL_eq]
def obsRG (B : PySem.W.Frag → Bool) (fn : List DR) (xs cs : List Str) (g : Addr → Option Obj) : AlR := asR g xs cs fun as => obsR B fn (He.frG g as)
theorem obsRG_says {B : PySem.W.Frag → Bool} {fn : List DR} {xs cs : List Str} {h : Heap} (e : obsRG B fn xs cs h.get? = valR fn) : ∃ K : PySem.W.Frag, K.In h ∧ obsR B fn K = valR fn := by
  obtain ⟨as, q⟩ := asR_eq (A := AlR) h.get? xs cs
  unfold obsRG at e
  rw [q] at e
  exact ⟨_, He.frG_in, e⟩
def hookR (B : PySem.W.Frag → Bool) (fn : List DR) (xs cs : List Str) : PySem.W.Hook where
  α := AlR
  obs := fun s => obsRG B fn xs cs s.heap.get?
  val := fun _ => valR fn
  says := fun _ h => ∃ K : PySem.W.Frag, K.In h ∧ obsR B fn K = valR fn
  of := fun _ _ e => obsRG_says e
  keeps := fun _ _ _ ⟨K, hK, c⟩ k => ⟨K, PySem.W.Frag.In.keeps hK k, c⟩
theorem obsRG_eq {B : PySem.W.Frag → Bool} {fn : List DR} {xs cs : List Str} {g : Addr → Option Obj} {s : Shared} (h : ∀ a, g a = s.heap.get? a) : obsRG B fn xs cs g = (hookR B fn xs cs).obs s := by
  have e : g = s.heap.get? := funext h
  rw [e] <;> rfl
section
variable {B : PySem.W.Frag → Bool} {fn : List DR} {K : PySem.W.Frag}
theorem says_b (c : obsR B fn K = valR fn) : B K = true := (He.ba (show (B K && fn.all fun d => d.ok K) = true from congrArg (fun z : AlR => z.1) c)).1
theorem says_d (c : obsR B fn K = valR fn) (i : Nat) {d : DR} (h : fn[i]? = some d := by rfl) : ∃ fd, FunD K d.name d.qual (defArgs d.st) (defBody d.st) (defScope d.st) [] d.kwd (d.ad K) fd := by
  have c2 := (He.ba (show (B K && fn.all fun d => d.ok K) = true from congrArg (fun z : AlR => z.1) c)).2
  have e : fn.map (fun d => lookD K (d.ad K)) = fn.map DR.val := congrArg (fun z : AlR => z.2) c
  have e2 : (fn.map fun d => lookD K (d.ad K))[i]? = (fn.map DR.val)[i]? := by rw [e]
  rw [List.getElem?_map, List.getElem?_map, h] at e2
  exact DR.funD (Option.some.inj e2) (List.all_eq_true.mp c2 d (List.mem_of_getElem? h))
end
/-! ### the tests -/
/-- what is held by a record's first place -/
def recA (K : PySem.W.Frag) (p : Addr) (T : String) : Addr := match PySem.W.recIn K p T with
  | some (.ref g :: _) => g
  | _ => 0
def recB (K : PySem.W.Frag) (p : Addr) (T : String) : Bool := match PySem.W.recIn K p T with
  | some (.ref _ :: _) => true
  | _ => false
theorem recB_ok {K : PySem.W.Frag} {p : Addr} {T : String} (h : recB K p T = true) : ∃ rest, PySem.W.recIn K p T = some (.ref (recA K p T) :: rest) := by
  unfold recB at h
  unfold recA
  cases e : PySem.W.recIn K p T with
  | none =>
    rw [e] at h
    cases h
  | some l =>
    rw [e] at h
    cases l with
    | nil => cases h
    | cons v r =>
      cases v with
      | ref g => exact ⟨r, rfl⟩
      | _ => cases h
def clsB (K : PySem.W.Frag) (x : Str) : Bool := PySem.W.plainGet K (He.ga K x) Str.empty && (PySem.W.isClsIn K (He.ga K x) && (PySem.W.plainOver K (He.ga K x) && He.eqO (PySem.W.findIn K (.ref (He.ga K x)) "__setattr__") (some (some (.builtin "object.__setattr__")))))
theorem clsB_ok {K : PySem.W.Frag} {x : Str} (h : clsB K x = true) : SlX.SCls K (He.ga K x) := by
  obtain ⟨h1, h⟩ := He.ba h
  obtain ⟨h2, h⟩ := He.ba h
  obtain ⟨h3, h4⟩ := He.ba h
  exact ⟨h1, h2, h3, He.eqO_ok h4⟩
def isiB (K : PySem.W.Frag) (x : Str) : Bool := He.eqO (PySem.W.findIn K (.ref (He.ga K x)) "__class__") (some (some (.builtin "object.__class__"))) && (He.eqO (PySem.W.specialIn K (.builtin "object.__class__") "__get__") (some (some (.builtin "getset_descriptor.__get__"))) &&
  (decide (PySem.W.takesIn K (.builtin "object.__class__") = some true) && (decide (PySem.W.mroIn K (He.ga K x) (.type "object") = some true) && decide (PySem.W.kitOne K (.ref (He.ga K x)) (.ref (He.ga K x)) = some true))))
theorem isiB_ok {K : PySem.W.Frag} {x : Str} (h : isiB K x = true) : SlX.SIsi K (He.ga K x) ∧ PySem.W.kitOne K (.ref (He.ga K x)) (.ref (He.ga K x)) = some true := by
  obtain ⟨h1, h⟩ := He.ba h
  obtain ⟨h2, h⟩ := He.ba h
  obtain ⟨h3, h⟩ := He.ba h
  obtain ⟨h4, h5⟩ := He.ba h
  exact ⟨⟨He.eqO_ok h1, He.eqO_ok h2, of_decide_eq_true h3, of_decide_eq_true h4⟩, of_decide_eq_true h5⟩
def slotB (K : PySem.W.Frag) (x f : Str) (i : Nat) : Bool := He.eqO (PySem.W.findIn K (.ref (He.ga K x)) f) (some (some (.ref (He.ma K (He.ga K x) f)))) && (He.eqO (PySem.W.specialIn K (.ref (He.ma K (He.ga K x) f)) "__get__") (some (some (.builtin "member_descriptor.__get__"))) &&
  (decide (PySem.W.takesIn K (.ref (He.ma K (He.ga K x) f)) = some true) && (decide (PySem.W.typeIn K (.ref (He.ma K (He.ga K x) f)) = some (.type "member_descriptor")) && (decide (PySem.W.slotIn K (He.ma K (He.ga K x) f) (He.ga K x) = some i) && decide (i < 1000)))))
theorem slotB_ok {K : PySem.W.Frag} {x f : Str} {i : Nat} (h : slotB K x f i = true) : SlX.Slot1 K (He.ga K x) f (He.ma K (He.ga K x) f) i := by
  obtain ⟨h1, h⟩ := He.ba h
  obtain ⟨h2, h⟩ := He.ba h
  obtain ⟨h3, h⟩ := He.ba h
  obtain ⟨h4, h⟩ := He.ba h
  obtain ⟨h5, h6⟩ := He.ba h
  exact ⟨He.eqO_ok h1, He.eqO_ok h2, of_decide_eq_true h3, of_decide_eq_true h4, of_decide_eq_true h5, of_decide_eq_true h6⟩
def ofB (K : PySem.W.Frag) (x m : Str) : Bool := PySem.W.readsIn K (He.ga K x) (.type "type") && (He.eqO (PySem.W.specialIn K (.ref (He.ga K x)) "__getattribute__") (some (some (.builtin "type.__getattribute__"))) && ((match PySem.W.findCls K (.ref (He.ga K x)) (.type "type") m with
  | some (.get (.builtin b) (.ref p) .none (.ref c)) => decide (b = "classmethod.__get__") && (decide (p = He.ma K (He.ga K x) m) && decide (c = He.ga K x))
  | _ => false) && (recB K (He.ma K (He.ga K x) m) "classmethod" && PySem.W.fnIn K (recA K (He.ma K (He.ga K x) m) "classmethod"))))
theorem ofB_ok {K : PySem.W.Frag} {x m : Str} (h : ofB K x m = true) : ClX.CRead K (He.ga K x) (.type "type") ∧ ClX.CMet K (He.ga K x) (.type "type") m (He.ma K (He.ga K x) m) (recA K (He.ma K (He.ga K x) m) "classmethod") := by
  obtain ⟨h1, h⟩ := He.ba h
  obtain ⟨h2, h⟩ := He.ba h
  obtain ⟨h3, h⟩ := He.ba h
  obtain ⟨h4, h5⟩ := He.ba h
  refine ⟨⟨h1, He.eqO_ok h2⟩, ?_, recB_ok h4, h5⟩
  cases e : PySem.W.findCls K (.ref (He.ga K x)) (.type "type") m with
  | none =>
    rw [e] at h3
    cases h3
  | some r =>
    rw [e] at h3
    cases r with
    | get g a i o =>
      cases g with
      | builtin b =>
        cases a with
        | ref p =>
          cases i with
          | none =>
            cases o with
            | ref c =>
              obtain ⟨e1, e2⟩ := He.ba (show (decide (b = "classmethod.__get__") && (decide (p = He.ma K (He.ga K x) m) && decide (c = He.ga K x))) = true from h3)
              obtain ⟨e2, e3⟩ := He.ba e2
              rw [of_decide_eq_true e1, of_decide_eq_true e2, of_decide_eq_true e3]
            | _ => cases h3
          | _ => cases h3
        | _ => cases h3
      | _ => cases h3
    | _ => cases h3
def propB (K : PySem.W.Frag) (x m : Str) : Bool := He.eqO (PySem.W.findIn K (.ref (He.ga K x)) m) (some (some (.ref (He.ma K (He.ga K x) m)))) && (He.eqO (PySem.W.specialIn K (.ref (He.ma K (He.ga K x) m)) "__get__") (some (some (.builtin "property.__get__"))) &&
  (decide (PySem.W.takesIn K (.ref (He.ma K (He.ga K x) m)) = some true) && recB K (He.ma K (He.ga K x) m) "property"))
def bltB (K : PySem.W.Frag) (x : Str) (z : String) : Bool := He.eqO (PySem.W.nsIn K mainGlobals x) (some (some (.builtin z)))
end Rj.Hd
set_option Elab.async false
set_option linter.all false
set_option maxRecDepth 100000
set_option maxHeartbeats 4000000
/-! The head's tests, what they tell. -/
namespace Rj.Hd
open PySem PySem.Spec PyProof.Rows L2
def tops0 : List (Str × Nat) := [("is_whole", 11), ("is_from", 13), ("are_wholes", 14), ("require_from", 16), ("require_choice", 17), ("multiple_of", 18), ("raised_to", 19), ("lowest_of", 23), ("plus_of", 24), ("times_of", 25), ("joinings_in", 31), ("is_row", 32), ("require_row", 33), ("joinings", 34), ("bare_terms", 42), ("weights_in", 46), ("are_firm_rows", 47), ("made_mix", 52), ("require_mix", 53), ("scale_of", 57)]
def tops1 : List (Str × Nat) := [("scaled_sums", 58), ("sum_in", 59), ("cut_in", 60), ("slack_in", 61), ("require_bound", 62), ("require_bound_and_row", 63), ("cut_sum", 64), ("slack_sum", 65), ("cut_value", 66), ("slack_mix", 67), ("strict_mix", 68), ("plain_number", 74), ("added_to", 75), ("blocked_terms", 76), ("undone_terms", 77), ("require_few_entries", 78), ("_law_dice", 81), ("_law_roll", 82), ("_law_pick", 83), ("_law_gcd", 84)]
def tops2 : List (Str × Nat) := [("_law_lowest", 85), ("_law_plus", 86), ("_law_times", 87), ("_law_joinings", 88), ("_law_put", 89), ("_law_bare", 90), ("_law_mix_sum", 91), ("_law_row_drawn", 92), ("_law_signed", 93), ("_law_mixes_right", 94), ("_law_values_right", 95), ("_law_cuts_right", 96), ("_law_undone_right", 97), ("_law_back_right", 98), ("_law_right", 99), ("law", 100)]
def tops : List (Str × Nat) := tops0 ++ tops1 ++ tops2
def topD (p : Str × Nat) : DR := ⟨fun K => He.ga K p.1, p.1, p.1, top p.2, []⟩
def mixD (m qn : Str) (i : Nat) : DR := ⟨fun K => He.ma K (He.ga K "Mix") m, m, qn, inClass (top 49) i, []⟩
def fn : List DR := tops.map topD ++ [⟨fun K => He.ga K "undone", "undone", "undone", top 79, [("way", .str "joined")]⟩,
  ⟨fun K => He.ma K (He.ga K "KnownTerms") "__init__", "__init__", "KnownTerms.__init__", inClass (top 48) 1, []⟩,
  mixD "__init__" "Mix.__init__" 1, ⟨fun K => recA K (He.ma K (He.ga K "Mix") "of") "classmethod", "of", "Mix.of", inClass (top 49) 2, []⟩,
  ⟨fun K => recA K (He.ma K (He.ga K "Mix") "terms") "property", "terms", "Mix.terms", inClass (top 49) 3, []⟩, mixD "__len__" "Mix.__len__" 15]
def glos : List Str := tops.map (fun p => p.1) ++ (["undone", "KnownTerms", "Mix", "ZERO_mixes", "ONE_mixes", "ZERO_sums", "ZERO_ratios", "ONE_ratios", "UNDOABLE"] : List Str)
def frees : List Str := ["len", "range", "sorted", "list", "dict", "tuple", "isinstance", "all", "any", "sum", "int", "abs", "max", "min", "bool", "str"]
def wholes : List (Str × Int) := [("MAX_WEIGHT", 40), ("MOST_JOINED", 12), ("MAX_BOUND", 200), ("MOST_ENTRIES", 12)]
def tups : List (Str × List He.Dv) := [("ZERO_mixes", [.int 0, .int 1]), ("ONE_mixes", [.int 1, .int 1]), ("ZERO_sums", [.int 0, .int 1]), ("ZERO_ratios", [.int 0, .int 1]), ("ONE_ratios", [.int 1, .int 1]), ("UNDOABLE", [.str "laid", .str "joined"])]
def gcdB (K : PySem.W.Frag) : Bool := bltB K "gcd" "math.gcd"
def lenB (K : PySem.W.Frag) : Bool := He.eqO (PySem.W.findIn K (.ref (He.ga K "Mix")) "__len__") (some (some (.ref (He.ma K (He.ga K "Mix") "__len__")))) && PySem.W.isFn K (.ref (He.ma K (He.ga K "Mix") "__len__"))
/-- the tests of the classes, one by one -/
def cts : List (PySem.W.Frag → Bool) := [gcdB, fun K => (He.Fa.str "LAID" "laid").ok K, fun K => (He.Fa.mkr "KnownTerms").ok K, fun K => (He.Fa.mkr "Mix").ok K, fun K => clsB K "KnownTerms", fun K => clsB K "Mix",
  fun K => isiB K "KnownTerms", fun K => isiB K "Mix", fun K => slotB K "KnownTerms" "own_dict" 0, fun K => slotB K "Mix" "own_firm" 0, fun K => slotB K "Mix" "own_terms" 1, fun K => slotB K "Mix" "own_weights" 2,
  fun K => ofB K "Mix" "of", fun K => propB K "Mix" "terms", lenB]
def B (K : PySem.W.Frag) : Bool := (glos.all fun x => (He.Fa.glo x).ok K) && ((frees.all fun x => (He.Fa.free x).ok K) && ((wholes.all fun p => (He.Fa.int p.1 p.2).ok K) && ((tups.all fun p => He.tupB K p.1 p.2) && cts.all fun t => t K)))
end Rj.Hd
set_option Elab.async false
set_option linter.all false
set_option maxRecDepth 100000
set_option maxHeartbeats 0
/-! The run of the top. -/
namespace Rj.Hd
open PySem PySem.W PySem.Calls PyProof.Rows
abbrev OR : OpenRow := OpenLaw.row PySem.Challenge.rw_risewords_k30_whole_joinings_and_cuts
abbrev qv : Program := view OR.prog [0, 100]
def nm0 : List PySem.Str := ["_wall", "__name__", "RiseError", "InvalidRow", "InvalidMix", "InvalidNumber", "UnknownName", "TooMany", "GREATEST", "is_whole", "is_short", "is_from", "are_wholes", "are_short", "require_from", "require_choice", "multiple_of", "raised_to", "ZERO_ratios", "ONE_ratios", "lowest_of", "plus_of", "times_of", "is_pair_of_ratio", "is_ratio_in", "MAX_WEIGHT", "MOST_JOINED", "joinings_in", "is_row", "require_row"]
def nm1 : List PySem.Str := ["joinings", "MAX_TERMS", "MAX_PART", "ZERO_mixes", "ONE_mixes", "is_number_in", "ratio_of", "bare_terms", "scaled_terms", "combined_terms", "are_mix_terms", "weights_in", "are_firm_rows", "KnownTerms", "Mix", "ratio_terms", "part_terms", "made_mix", "require_mix", "MAX_BOUND", "ZERO_sums", "scale_of", "scaled_sums", "sum_in", "cut_in", "slack_in", "require_bound", "require_bound_and_row", "cut_sum", "slack_sum"]
def nm2 : List PySem.Str := ["cut_value", "slack_mix", "strict_mix", "MOST_ENTRIES", "LAID", "JOINED", "UNDOABLE", "plain_number", "added_to", "blocked_terms", "undone_terms", "require_few_entries", "undone", "_law_dice", "_law_roll", "_law_pick", "_law_gcd", "_law_lowest", "_law_plus", "_law_times", "_law_joinings", "_law_put", "_law_bare", "_law_mix_sum", "_law_row_drawn", "_law_signed", "_law_mixes_right", "_law_values_right", "_law_cuts_right", "_law_undone_right"]
def nm3 : List PySem.Str := ["_law_back_right", "_law_right"]
def names : List PySem.Str := nm0 ++ nm1 ++ nm2 ++ nm3
abbrev hkR : PySem.W.Hook := hookR B fn glos ["KnownTerms", "Mix"]
def ob (s : PySem.W.SharedT) : AlR := obsRG B fn glos ["KnownTerms", "Mix"] (HandSHeadRun.getT s)
theorem ob_eq (s : PySem.W.SharedT) : ob s = hkR.obs s.abs := obsRG_eq (HandSHeadRun.getT_eq s)
theorem run (w : World) : HandSHeadRun.RunEqI OR qv hkR ob 20000 names w := by
  unfold HandSHeadRun.RunEqI
  kernel_rfl
end Rj.Hd
set_option Elab.async false
set_option linter.all false
set_option maxRecDepth 100000
set_option maxHeartbeats 4000000
/-! The plain law: sums over chains, joinings, cuts (no program in sight). -/
set_option autoImplicit false
namespace Rj
/-! ### sums of rationals over lists -/
def sumQ : List Rat → Rat
  | [] => 0
  | a :: r => a + sumQ r
theorem sumQ_append : ∀ a b : List Rat, sumQ (a ++ b) = sumQ a + sumQ b
  | [], b => by simp [sumQ, Rat.zero_add]
  | x :: a, b => by
    show x + sumQ (a ++ b) = x + sumQ a + sumQ b
    rw [sumQ_append a b, Rat.add_assoc]
theorem sumQ_perm {a b : List Rat} (h : a.Perm b) : sumQ a = sumQ b := by
  induction h with
  | nil => rfl
  | cons x _ ih => show x + _ = x + _; rw [ih]
  | swap x y l => show y + (x + sumQ l) = x + (y + sumQ l); grind
  | trans _ _ h1 h2 => rw [h1, h2]
/-- the sum of f over a list of rows -/
def sm {α : Type} (f : α → Rat) (l : List α) : Rat := sumQ (l.map f)
theorem sm_nil {α : Type} (f : α → Rat) : sm f [] = 0 := rfl
theorem sm_cons {α : Type} (f : α → Rat) (a : α) (l : List α) : sm f (a :: l) = f a + sm f l := rfl
theorem sm_append {α : Type} (f : α → Rat) (a b : List α) : sm f (a ++ b) = sm f a + sm f b := by
  unfold sm; rw [List.map_append, sumQ_append]
theorem sm_map {α β : Type} (f : β → Rat) (g : α → β) (l : List α) : sm f (l.map g) = sm (fun x => f (g x)) l := by
  unfold sm; rw [List.map_map]; rfl
theorem sm_perm {α : Type} (f : α → Rat) {a b : List α} (h : a.Perm b) : sm f a = sm f b := sumQ_perm (h.map f)
theorem sm_congr {α : Type} {f g : α → Rat} : ∀ {l : List α}, (∀ x ∈ l, f x = g x) → sm f l = sm g l
  | [], _ => rfl
  | a :: l, h => by
    rw [sm_cons, sm_cons, h a (List.mem_cons_self ..), sm_congr fun x hx => h x (List.mem_cons_of_mem _ hx)]
theorem sm_add {α : Type} (f g : α → Rat) : ∀ l : List α, sm (fun x => f x + g x) l = sm f l + sm g l
  | [] => by simp [sm_nil, Rat.zero_add]
  | a :: l => by rw [sm_cons, sm_cons, sm_cons, sm_add f g l]; grind
theorem sm_mul {α : Type} (c : Rat) (f : α → Rat) : ∀ l : List α, sm (fun x => c * f x) l = c * sm f l
  | [] => by simp [sm_nil, Rat.mul_zero]
  | a :: l => by rw [sm_cons, sm_cons, sm_mul c f l]; grind
theorem sm_zero {α : Type} : ∀ l : List α, sm (fun _ => (0 : Rat)) l = 0
  | [] => rfl
  | a :: l => by rw [sm_cons, sm_zero l, Rat.add_zero]
theorem sm_flatMap {α β : Type} (f : β → Rat) (g : α → List β) : ∀ l : List α, sm f (l.flatMap g) = sm (fun x => sm f (g x)) l
  | [] => rfl
  | a :: l => by rw [List.flatMap_cons, sm_append, sm_flatMap f g l]; rfl
/-! ### sums 1 .. k -/
def acc (f : Nat → Rat) : Nat → Rat
  | 0 => 0
  | k + 1 => acc f k + f (k + 1)
theorem acc_congr {f g : Nat → Rat} : ∀ {k : Nat}, (∀ m, 1 ≤ m → m ≤ k → f m = g m) → acc f k = acc g k
  | 0, _ => rfl
  | k + 1, h => by
    show acc f k + f (k + 1) = acc g k + g (k + 1)
    rw [acc_congr fun m h1 h2 => h m h1 (Nat.le_succ_of_le h2), h (k + 1) (by omega) (Nat.le_refl _)]
theorem acc_add (f g : Nat → Rat) : ∀ k, acc (fun m => f m + g m) k = acc f k + acc g k
  | 0 => by simp [acc, Rat.zero_add]
  | k + 1 => by
    show acc (fun m => f m + g m) k + (f (k + 1) + g (k + 1)) = (acc f k + f (k + 1)) + (acc g k + g (k + 1))
    rw [acc_add f g k]; grind
theorem acc_mul (c : Rat) (f : Nat → Rat) : ∀ k, acc (fun m => c * f m) k = c * acc f k
  | 0 => by simp [acc, Rat.mul_zero]
  | k + 1 => by
    show acc (fun m => c * f m) k + c * f (k + 1) = c * (acc f k + f (k + 1))
    rw [acc_mul c f k]; grind
theorem acc_sm {α : Type} (f : α → Nat → Rat) : ∀ (l : List α) (k : Nat), sm (fun x => acc (f x) k) l = acc (fun m => sm (fun x => f x m) l) k
  | l, 0 => by show sm (fun _ => (0 : Rat)) l = 0; exact sm_zero l
  | l, k + 1 => by
    show sm (fun x => acc (f x) k + f x (k + 1)) l = acc (fun m => sm (fun x => f x m) l) k + sm (fun x => f x (k + 1)) l
    rw [sm_add, acc_sm f l k]
/-! ### the sums of a row: members 1 .. k; sl: slack -/
abbrev Row := List Int
/-- 1 / m ^ a -/
def rc (m : Nat) (a : Int) : Rat := 1 / ((m : Rat) ^ a.toNat)
def ch (sl : Bool) : Row → Nat → Rat
  | [], _ => 1
  | a :: r, k => acc (fun m => ch sl r (bif sl then m else m - 1) * rc m a) k
theorem ch_nil (sl : Bool) (k : Nat) : ch sl [] k = 1 := rfl
theorem ch_zero (sl : Bool) (a : Int) (r : Row) : ch sl (a :: r) 0 = 0 := rfl
theorem ch_cut (a : Int) (r : Row) (k : Nat) : ch false (a :: r) (k + 1) = ch false (a :: r) k + ch false r k * rc (k + 1) a := rfl
theorem ch_slack (a : Int) (r : Row) (k : Nat) : ch true (a :: r) (k + 1) = ch true (a :: r) k + ch true r (k + 1) * rc (k + 1) a := rfl
theorem pow_plus (x : Rat) (a : Nat) : ∀ b : Nat, x ^ (a + b) = x ^ a * x ^ b
  | 0 => by rw [Nat.add_zero, Rat.pow_zero, Rat.mul_one]
  | b + 1 => by rw [← Nat.add_assoc, Rat.pow_succ, Rat.pow_succ, pow_plus x a b, Rat.mul_assoc]
theorem rc_add {m : Nat} {a b : Int} (ha : 0 ≤ a) (hb : 0 ≤ b) : rc m (a + b) = rc m a * rc m b := by
  unfold rc
  have e : (a + b).toNat = a.toNat + b.toNat := by omega
  rw [e]
  have z : (m : Rat) ^ (a.toNat + b.toNat) = (m : Rat) ^ a.toNat * (m : Rat) ^ b.toNat := pow_plus _ _ _
  rw [z]
  grind
/-! ### joinings -/
/-- the last entry grows by e -/
def mrg (e : Int) (b : Row) : Row := b.dropLast ++ [b.getLastD 0 + e]
theorem mrg_snoc (e x : Int) (b : Row) : mrg e (b ++ [x]) = b ++ [x + e] := by
  unfold mrg
  simp
theorem mrg_one (e x : Int) : mrg e [x] = [x + e] := rfl
theorem snoc_of {b : Row} (h : b ≠ []) : ∃ b' x, b = b' ++ [x] := ⟨b.dropLast, b.getLast h, (List.dropLast_concat_getLast h).symm⟩
theorem mrg_cons (e a : Int) {b : Row} (h : b ≠ []) : mrg e (a :: b) = a :: mrg e b := by
  obtain ⟨b', x, rfl⟩ := snoc_of h
  rw [mrg_snoc, ← List.cons_append, mrg_snoc]
  rfl
theorem mrg_ne (e : Int) (b : Row) : mrg e b ≠ [] := by unfold mrg; simp
/-- one entry more: apart, or joined to the last one -/
def jstep (e : Int) (f : List Row) : List Row := f.map (· ++ [e]) ++ f.map (mrg e)
def jfold : List Row → Row → List Row
  | f, [] => f
  | f, e :: r => jfold (jstep e f) r
/-- all joinings of a row, in no told order -/
def jn (row : Row) : List Row := jfold [row.take 1] (row.drop 1)
theorem jfold_snoc (e : Int) : ∀ (r : Row) (f : List Row), jfold f (r ++ [e]) = jstep e (jfold f r)
  | [], f => rfl
  | a :: r, f => by
    show jfold (jstep a f) (r ++ [e]) = jstep e (jfold (jstep a f) r)
    exact jfold_snoc e r _
theorem jn_nil : jn [] = [[]] := rfl
theorem jn_one (a : Int) : jn [a] = [[a]] := rfl
theorem jn_snoc {s : Row} (h : s ≠ []) (e : Int) : jn (s ++ [e]) = jstep e (jn s) := by
  cases s with
  | nil => exact absurd rfl h
  | cons a r =>
    show jfold [[a]] (r ++ [e]) = jstep e (jfold [[a]] r)
    exact jfold_snoc e r _
theorem sm_jstep (f : Row → Rat) (e : Int) (l : List Row) : sm f (jstep e l) = sm (fun b => f (b ++ [e])) l + sm (fun b => f (mrg e b)) l := by
  unfold jstep
  rw [sm_append, sm_map, sm_map]
theorem sm_snoc (f : Row → Rat) {s : Row} (h : s ≠ []) (e : Int) : sm f (jn (s ++ [e])) = sm (fun b => f (b ++ [e])) (jn s) + sm (fun b => f (mrg e b)) (jn s) := by
  rw [jn_snoc h, sm_jstep]
/-- rows by their last entry -/
theorem snoc_ind {p : Row → Prop} (h0 : p []) (h1 : ∀ a, p [a]) (h2 : ∀ s e, s ≠ [] → p s → p (s ++ [e])) (s : Row) : p s := by
  have key : ∀ n (s : Row), s.length = n → p s := by
    intro n
    induction n with
    | zero => intro s hs; rw [List.length_eq_zero_iff.mp hs]; exact h0
    | succ n ih =>
      intro s hs
      have hne : s ≠ [] := by intro e; rw [e] at hs; simp at hs
      obtain ⟨b, x, rfl⟩ := snoc_of hne
      cases b with
      | nil => exact h1 x
      | cons a b => exact h2 _ x (by simp) (ih _ (by simp at hs ⊢; omega))
  exact key _ s rfl
structure Good (s j : Row) : Prop where
  pos : ∀ x ∈ j, 0 < x
  sum : j.sum = s.sum
  len : j.length ≤ s.length
  ne : s ≠ [] → j ≠ []
theorem sum_snoc (b : Row) (x : Int) : (b ++ [x]).sum = b.sum + x := by simp
theorem sum_mrg (e : Int) {b : Row} (h : b ≠ []) : (mrg e b).sum = b.sum + e := by
  obtain ⟨b', x, rfl⟩ := snoc_of h
  rw [mrg_snoc, sum_snoc, sum_snoc]
  omega
theorem len_mrg (e : Int) {b : Row} (h : b ≠ []) : (mrg e b).length = b.length := by
  obtain ⟨b', x, rfl⟩ := snoc_of h
  rw [mrg_snoc]; simp
theorem good_jn (s : Row) : (∀ x ∈ s, 0 < x) → ∀ j ∈ jn s, Good s j := by
  refine snoc_ind (p := fun s => (∀ x ∈ s, 0 < x) → ∀ j ∈ jn s, Good s j) ?_ ?_ ?_ s
  · intro _ j hj
    rw [jn_nil] at hj
    simp at hj
    subst hj
    exact ⟨by simp, rfl, Nat.le_refl _, fun h => h⟩
  · intro a hp j hj
    rw [jn_one] at hj
    simp at hj
    subst hj
    exact ⟨hp, rfl, Nat.le_refl _, fun h => h⟩
  · intro s e hs ih hp j hj
    have hp' : ∀ x ∈ s, 0 < x := fun x hx => hp x (List.mem_append_left _ hx)
    have he : 0 < e := hp e (by simp)
    rw [jn_snoc hs] at hj
    unfold jstep at hj
    rcases List.mem_append.mp hj with h | h
    · obtain ⟨b, hb, rfl⟩ := List.mem_map.mp h
      have g := ih hp' b hb
      refine ⟨fun x hx => ?_, by rw [sum_snoc, sum_snoc, g.sum], by have := g.len; simp; omega, fun _ => by simp⟩
      rcases List.mem_append.mp hx with q | q
      · exact g.pos x q
      · simp at q; subst q; exact he
    · obtain ⟨b, hb, rfl⟩ := List.mem_map.mp h
      have g := ih hp' b hb
      have nb := g.ne hs
      refine ⟨fun x hx => ?_, by rw [sum_mrg e nb, sum_snoc, g.sum], by rw [len_mrg e nb]; have := g.len; simp; omega, fun _ => mrg_ne e b⟩
      obtain ⟨b', y, rfl⟩ := snoc_of nb
      rw [mrg_snoc] at hx
      rcases List.mem_append.mp hx with q | q
      · exact g.pos x (List.mem_append_left _ q)
      · simp at q
        have := g.pos y (by simp)
        omega
theorem jn_ne {s j : Row} (hs : s ≠ []) (hj : j ∈ jn s) : j ≠ [] := by
  have h : s ≠ [] → ∀ j ∈ jn s, j ≠ [] := by
    refine snoc_ind (p := fun s => s ≠ [] → ∀ j ∈ jn s, j ≠ []) (fun h => absurd rfl h) ?_ ?_ s
    · intro a _ j hj
      rw [jn_one] at hj
      simp at hj
      subst hj
      simp
    · intro s e hs _ _ j hj
      rw [jn_snoc hs] at hj
      unfold jstep at hj
      rcases List.mem_append.mp hj with h | h
      · obtain ⟨b, _, rfl⟩ := List.mem_map.mp h
        simp
      · obtain ⟨b, _, rfl⟩ := List.mem_map.mp h
        exact mrg_ne e b
  exact h hs j hj
/-- by the first entry -/
theorem sm_head (r : Row) : ∀ (f : Row → Rat) (a b : Int), sm f (jn (a :: b :: r)) = sm (fun j => f (a :: j)) (jn (b :: r)) + sm f (jn ((a + b) :: r)) := by
  have key : ∀ n (r : Row), r.length = n → ∀ (f : Row → Rat) (a b : Int), sm f (jn (a :: b :: r)) = sm (fun j => f (a :: j)) (jn (b :: r)) + sm f (jn ((a + b) :: r)) := by
    intro n
    induction n with
    | zero =>
      intro r hr f a b
      rw [List.length_eq_zero_iff.mp hr]
      show f [a, b] + (f [a + b] + 0) = (f [a, b] + 0) + (f [a + b] + 0)
      grind
    | succ n ih =>
      intro r hr f a b
      have hne : r ≠ [] := by intro e; rw [e] at hr; simp at hr
      obtain ⟨r', e, rfl⟩ := snoc_of hne
      have hr' : r'.length = n := by simp at hr; omega
      have e1 : a :: b :: (r' ++ [e]) = (a :: b :: r') ++ [e] := rfl
      have e2 : b :: (r' ++ [e]) = (b :: r') ++ [e] := rfl
      have e3 : (a + b) :: (r' ++ [e]) = ((a + b) :: r') ++ [e] := rfl
      rw [e1, e2, e3, sm_snoc _ (by simp), sm_snoc _ (by simp), sm_snoc _ (by simp), ih r' hr', ih r' hr']
      have c1 : sm (fun j => f (mrg e (a :: j))) (jn (b :: r')) = sm (fun j => f (a :: mrg e j)) (jn (b :: r')) :=
        sm_congr fun j hj => by rw [mrg_cons e a (jn_ne (by simp) hj)]
      rw [c1]
      show sm (fun j => f (a :: (j ++ [e]))) (jn (b :: r')) + _ + _ = _
      grind
  exact key _ r rfl
/-! ### [7.4] -/
theorem ch_pos_zero {j : Row} (sl : Bool) (h : j ≠ []) : ch sl j 0 = 0 := by
  cases j with
  | nil => exact absurd rfl h
  | cons a r => rfl
theorem slack_step (a : Int) (r : Row) (k : Nat) (h : 1 ≤ k) : ch true (a :: r) k = ch true (a :: r) (k - 1) + ch true r k * rc k a := by
  cases k with
  | zero => omega
  | succ k => exact ch_slack a r k
theorem cut_step (a : Int) (r : Row) (k : Nat) (h : 1 ≤ k) : ch false (a :: r) k = ch false (a :: r) (k - 1) + ch false r (k - 1) * rc k a := by
  cases k with
  | zero => omega
  | succ k => exact ch_cut a r k
theorem slack_joined : ∀ (n : Nat) (s : Row), s.length = n → (∀ x ∈ s, 0 < x) → ∀ k, sm (fun j => ch false j k) (jn s) = ch true s k := by
  intro n
  induction n with
  | zero =>
    intro s hs _ k
    rw [List.length_eq_zero_iff.mp hs]
    show (1 : Rat) + 0 = 1
    exact Rat.add_zero _
  | succ n ih =>
    intro s hs hp k
    match s, hs, hp with
    | [a], _, _ =>
      rw [jn_one]
      show ch false [a] k + 0 = ch true [a] k
      rw [Rat.add_zero]
      exact acc_congr fun m _ _ => rfl
    | a :: b :: r, hs, hp =>
      have ha : 0 < a := hp a (by simp)
      have hb : 0 < b := hp b (by simp)
      have hr : ∀ x ∈ r, 0 < x := fun x hx => hp x (by simp [hx])
      have i1 := ih (b :: r) (by simp at hs ⊢; omega) (fun x hx => hp x (by simp at hx ⊢; exact .inr hx))
      have i2 := ih ((a + b) :: r) (by simp at hs ⊢; omega) (fun x hx => by
        rcases List.mem_cons.mp hx with e | e
        · omega
        · exact hr x e) k
      rw [sm_head, i2]
      have e1 : sm (fun j => ch false (a :: j) k) (jn (b :: r)) = acc (fun m => ch true (b :: r) (m - 1) * rc m a) k := by
        show sm (fun j => acc (fun m => ch false j (m - 1) * rc m a) k) (jn (b :: r)) = _
        rw [acc_sm]
        refine acc_congr fun m _ _ => ?_
        rw [← i1 (m - 1)]
        have z := sm_mul (rc m a) (fun j => ch false j (m - 1)) (jn (b :: r))
        rw [Rat.mul_comm, ← z]
        exact sm_congr fun j _ => Rat.mul_comm _ _
      rw [e1]
      show acc (fun m => ch true (b :: r) (m - 1) * rc m a) k + acc (fun m => ch true r m * rc m (a + b)) k = acc (fun m => ch true (b :: r) m * rc m a) k
      rw [← acc_add]
      refine acc_congr fun m h1 _ => ?_
      rw [slack_step b r m h1, rc_add (Int.le_of_lt ha) (Int.le_of_lt hb)]
      grind
/-- the sign of a number of steps -/
def sg (n : Nat) : Rat := if n % 2 = 0 then 1 else -1
theorem sg_succ (n : Nat) : sg (n + 1) = - sg n := by
  unfold sg
  by_cases h : n % 2 = 0
  · rw [if_pos h, if_neg (by omega)]
  · rw [if_neg h, if_pos (by omega)]; rfl
theorem sg_two (n : Nat) : sg (n + 2) = sg n := by rw [sg_succ, sg_succ]; grind
theorem sg_self (n : Nat) : sg (n + n) = 1 := by unfold sg; rw [if_pos (by omega)]
theorem cut_joined : ∀ (n : Nat) (s : Row), s.length = n → (∀ x ∈ s, 0 < x) → ∀ k, sm (fun j => sg (s.length + j.length) * ch true j k) (jn s) = ch false s k := by
  intro n
  induction n with
  | zero =>
    intro s hs _ k
    rw [List.length_eq_zero_iff.mp hs]
    show sg 0 * (1 : Rat) + 0 = 1
    rw [show sg 0 = 1 from rfl]
    grind
  | succ n ih =>
    intro s hs hp k
    match s, hs, hp with
    | [a], _, _ =>
      rw [jn_one]
      show sg (1 + 1) * ch true [a] k + 0 = ch false [a] k
      rw [Rat.add_zero, sg_self, Rat.one_mul]
      exact acc_congr fun m _ _ => rfl
    | a :: b :: r, hs, hp =>
      have ha : 0 < a := hp a (by simp)
      have hb : 0 < b := hp b (by simp)
      have hr : ∀ x ∈ r, 0 < x := fun x hx => hp x (by simp [hx])
      have i1 := ih (b :: r) (by simp at hs ⊢; omega) (fun x hx => hp x (by simp at hx ⊢; exact .inr hx))
      have i2 := ih ((a + b) :: r) (by simp at hs ⊢; omega) (fun x hx => by
        rcases List.mem_cons.mp hx with e | e
        · omega
        · exact hr x e) k
      rw [sm_head]
      have e2 : sm (fun j => sg ((a :: b :: r).length + j.length) * ch true j k) (jn ((a + b) :: r)) = - ch false ((a + b) :: r) k := by
        rw [← i2]
        have z := sm_mul (-1) (fun j => sg (((a + b) :: r).length + j.length) * ch true j k) (jn ((a + b) :: r))
        have z2 : (-1 : Rat) * sm (fun j => sg (((a + b) :: r).length + j.length) * ch true j k) (jn ((a + b) :: r)) = - sm (fun j => sg (((a + b) :: r).length + j.length) * ch true j k) (jn ((a + b) :: r)) := by grind
        rw [← z2, ← z]
        refine sm_congr fun j _ => ?_
        have e : (a :: b :: r).length + j.length = (((a + b) :: r).length + j.length) + 1 := by simp; omega
        rw [e, sg_succ]
        grind
      have e1 : sm (fun j => sg ((a :: b :: r).length + (a :: j).length) * ch true (a :: j) k) (jn (b :: r)) = acc (fun m => ch false (b :: r) m * rc m a) k := by
        have z : ∀ j : Row, sg ((a :: b :: r).length + (a :: j).length) * ch true (a :: j) k = acc (fun m => rc m a * (sg ((b :: r).length + j.length) * ch true j m)) k := fun j => by
          have e : (a :: b :: r).length + (a :: j).length = ((b :: r).length + j.length) + 2 := by simp; omega
          rw [e, sg_two]
          show _ * acc (fun m => ch true j m * rc m a) k = _
          rw [← acc_mul]
          exact acc_congr fun m _ _ => by grind
        rw [sm_congr (fun j _ => z j), acc_sm]
        refine acc_congr fun m _ _ => ?_
        rw [sm_mul, i1 m, Rat.mul_comm]
      rw [e1, e2]
      show acc (fun m => ch false (b :: r) m * rc m a) k + - acc (fun m => ch false r (m - 1) * rc m (a + b)) k = acc (fun m => ch false (b :: r) (m - 1) * rc m a) k
      have key : acc (fun m => ch false (b :: r) m * rc m a) k = acc (fun m => ch false (b :: r) (m - 1) * rc m a) k + acc (fun m => ch false r (m - 1) * rc m (a + b)) k := by
        rw [← acc_add]
        refine acc_congr fun m h1 _ => ?_
        rw [cut_step b r m h1, rc_add (Int.le_of_lt ha) (Int.le_of_lt hb)]
        grind
      rw [key]
      grind
/-! ### [7.5] -/
/-- all cuts of s, p being the front so far, read from its end -/
def cuts : Row → Row → Nat → Rat
  | p, [], k => ch true p k
  | p, a :: s, k => ch true p k * ch false (a :: s) k - cuts (a :: p) s k
def grow : Row → Nat → Rat
  | [], _ => 0
  | c :: p, k => ch true p (k + 1) * rc (k + 1) c
theorem ch_grow (p : Row) (k : Nat) : ch true p (k + 1) = ch true p k + grow p k := by
  cases p with
  | nil => show (1 : Rat) = 1 + 0; rw [Rat.add_zero]
  | cons c p => exact ch_slack c p k
theorem cuts_step : ∀ (s p : Row) (k : Nat), cuts p s (k + 1) = cuts p s k + grow p k * ch false s k
  | [], p, k => by
    show ch true p (k + 1) = ch true p k + grow p k * 1
    rw [ch_grow, Rat.mul_one]
  | a :: s, p, k => by
    show ch true p (k + 1) * ch false (a :: s) (k + 1) - cuts (a :: p) s (k + 1) = ch true p k * ch false (a :: s) k - cuts (a :: p) s k + grow p k * ch false (a :: s) k
    rw [cuts_step s (a :: p) k, ch_cut]
    have e1 : grow (a :: p) k = ch true p (k + 1) * rc (k + 1) a := rfl
    rw [e1, ch_grow p k]
    grind
theorem cuts_zero : ∀ (s p : Row), p ≠ [] → cuts p s 0 = 0
  | [], p, h => ch_pos_zero true h
  | a :: s, p, h => by
    show ch true p 0 * ch false (a :: s) 0 - cuts (a :: p) s 0 = 0
    rw [cuts_zero s (a :: p) (by simp), ch_pos_zero true h]
    grind
theorem cuts_all {s : Row} (h : s ≠ []) : ∀ k, cuts [] s k = 0
  | 0 => by
    cases s with
    | nil => exact absurd rfl h
    | cons a s =>
      show ch true [] 0 * ch false (a :: s) 0 - cuts [a] s 0 = 0
      rw [cuts_zero s [a] (by simp), ch_zero]
      grind
  | k + 1 => by
    rw [cuts_step, cuts_all h k]
    show (0 : Rat) + 0 * _ = 0
    grind
/-- the first n terms -/
def sumTo (f : Nat → Rat) : Nat → Rat
  | 0 => 0
  | n + 1 => sumTo f n + f n
theorem sumTo_front (f : Nat → Rat) : ∀ n, sumTo f (n + 1) = f 0 + sumTo (fun i => f (i + 1)) n
  | 0 => by show (0 : Rat) + f 0 = f 0 + 0; grind
  | n + 1 => by
    show sumTo f (n + 1) + f (n + 1) = f 0 + (sumTo (fun i => f (i + 1)) n + f (n + 1))
    rw [sumTo_front f n]
    grind
theorem sumTo_congr {f g : Nat → Rat} : ∀ {n : Nat}, (∀ i, i < n → f i = g i) → sumTo f n = sumTo g n
  | 0, _ => rfl
  | n + 1, h => by
    show sumTo f n + f n = sumTo g n + g n
    rw [sumTo_congr fun i hi => h i (Nat.lt_succ_of_lt hi), h n (Nat.lt_succ_self n)]
theorem sumTo_neg (f : Nat → Rat) : ∀ n, sumTo (fun i => - f i) n = - sumTo f n
  | 0 => by show (0 : Rat) = -0; rfl
  | n + 1 => by
    show sumTo (fun i => - f i) n + - f n = - (sumTo f n + f n)
    rw [sumTo_neg f n]
    grind
theorem cuts_sum : ∀ (s p : Row) (k : Nat), cuts p s k = sumTo (fun i => sg i * (ch true ((s.take i).reverse ++ p) k * ch false (s.drop i) k)) (s.length + 1)
  | [], p, k => by
    show ch true p k = 0 + sg 0 * (ch true p k * 1)
    have e : sg 0 = 1 := rfl
    rw [e]
    grind
  | a :: s, p, k => by
    show ch true p k * ch false (a :: s) k - cuts (a :: p) s k = _
    rw [cuts_sum s (a :: p) k, List.length_cons, sumTo_front (fun i => sg i * (ch true (((a :: s).take i).reverse ++ p) k * ch false ((a :: s).drop i) k)) (s.length + 1)]
    have e0 : sg 0 = 1 := rfl
    have e1 : sumTo (fun i => sg (i + 1) * (ch true (((a :: s).take (i + 1)).reverse ++ p) k * ch false ((a :: s).drop (i + 1)) k)) (s.length + 1)
        = sumTo (fun i => - (sg i * (ch true ((s.take i).reverse ++ a :: p) k * ch false (s.drop i) k))) (s.length + 1) := by
      refine sumTo_congr fun i _ => ?_
      rw [sg_succ, List.take_succ_cons, List.drop_succ_cons, List.reverse_cons, List.append_assoc]
      show _ * (ch true ((s.take i).reverse ++ (a :: p)) k * _) = _
      grind
    rw [e1, sumTo_neg, e0]
    show _ = 1 * (ch true ([] ++ p) k * ch false (a :: s) k) + _
    rw [List.nil_append]
    grind
/-- [7.5], in the order of the cuts -/
theorem cuts_done {s : Row} (h : s ≠ []) (k : Nat) : sumTo (fun i => sg i * (ch true (s.take i).reverse k * ch false (s.drop i) k)) (s.length + 1) = 0 := by
  have e := cuts_sum s [] k
  rw [cuts_all h k] at e
  rw [e]
  exact sumTo_congr fun i _ => by rw [List.append_nil]
/-! ### back -/
theorem sm_mrg (f : Row → Rat) (e : Int) {j : Row} (h : j ≠ []) : sm f (jn (mrg e j)) = sm (fun b => f (mrg e b)) (jn j) := by
  obtain ⟨j', x, rfl⟩ := snoc_of h
  rw [mrg_snoc]
  cases j' with
  | nil =>
    show sm f (jn [x + e]) = sm (fun b => f (mrg e b)) (jn [x])
    rfl
  | cons a j' =>
    rw [sm_snoc _ (by simp), sm_snoc _ (by simp)]
    have c1 : sm (fun b => f (mrg e (b ++ [x]))) (jn (a :: j')) = sm (fun b => f (b ++ [x + e])) (jn (a :: j')) := sm_congr fun b _ => by rw [mrg_snoc]
    have c2 : sm (fun b => f (mrg e (mrg x b))) (jn (a :: j')) = sm (fun b => f (mrg (x + e) b)) (jn (a :: j')) := sm_congr fun b hb => by
      obtain ⟨b', y, rfl⟩ := snoc_of (jn_ne (by simp) hb)
      rw [mrg_snoc, mrg_snoc, mrg_snoc, Int.add_assoc]
    rw [c1, c2]
theorem back_all (s : Row) : ∀ f : Row → Rat, sm (fun j => sg (s.length + j.length) * sm f (jn j)) (jn s) = f s := by
  refine snoc_ind (p := fun s => ∀ f : Row → Rat, sm (fun j => sg (s.length + j.length) * sm f (jn j)) (jn s) = f s) ?_ ?_ ?_ s
  · intro f
    show sg 0 * (f [] + 0) + 0 = f []
    have e : sg 0 = 1 := rfl
    rw [e]
    grind
  · intro a f
    rw [jn_one]
    show sg (1 + 1) * (f [a] + 0) + 0 = f [a]
    rw [sg_self]
    grind
  · intro s e hs ih f
    rw [sm_snoc _ hs]
    have c1 : sm (fun j => sg ((s ++ [e]).length + (j ++ [e]).length) * sm f (jn (j ++ [e]))) (jn s)
        = sm (fun j => sg (s.length + j.length) * sm (fun b => f (b ++ [e])) (jn j)) (jn s) + sm (fun j => sg (s.length + j.length) * sm (fun b => f (mrg e b)) (jn j)) (jn s) := by
      rw [← sm_add]
      refine sm_congr fun j hj => ?_
      have l : (s ++ [e]).length + (j ++ [e]).length = (s.length + j.length) + 2 := by simp; omega
      rw [l, sg_two, sm_snoc f (jn_ne hs hj) e]
      grind
    have c2 : sm (fun j => sg ((s ++ [e]).length + (mrg e j).length) * sm f (jn (mrg e j))) (jn s) = - sm (fun j => sg (s.length + j.length) * sm (fun b => f (mrg e b)) (jn j)) (jn s) := by
      have z := sm_mul (-1) (fun j => sg (s.length + j.length) * sm (fun b => f (mrg e b)) (jn j)) (jn s)
      have z2 : (-1 : Rat) * sm (fun j => sg (s.length + j.length) * sm (fun b => f (mrg e b)) (jn j)) (jn s) = - sm (fun j => sg (s.length + j.length) * sm (fun b => f (mrg e b)) (jn j)) (jn s) := by grind
      rw [← z2, ← z]
      refine sm_congr fun j hj => ?_
      have nj := jn_ne hs hj
      have l : (s ++ [e]).length + (mrg e j).length = (s.length + j.length) + 1 := by rw [len_mrg e nj]; simp; omega
      rw [l, sg_succ, sm_mrg f e nj]
      grind
    rw [c1, c2, ih fun b => f (b ++ [e])]
    grind
end Rj
set_option autoImplicit false
namespace Rj
/-! ### no row twice, how many -/
theorem mrg_inj {e : Int} {a b : Row} (ha : a ≠ []) (hb : b ≠ []) (h : mrg e a = mrg e b) : a = b := by
  obtain ⟨a', x, rfl⟩ := snoc_of ha
  obtain ⟨b', y, rfl⟩ := snoc_of hb
  rw [mrg_snoc, mrg_snoc] at h
  obtain ⟨h1, h2⟩ := List.append_inj' h rfl
  have h3 : x + e = y + e := by injection h2
  have h4 : x = y := by omega
  rw [h1, h4]
theorem nodup_map_on {α β : Type} {f : α → β} : ∀ {l : List α}, (∀ a ∈ l, ∀ b ∈ l, f a = f b → a = b) → l.Nodup → (l.map f).Nodup
  | [], _, _ => List.nodup_nil
  | a :: l, h, hn => by
    obtain ⟨h1, h2⟩ := List.nodup_cons.mp hn
    rw [List.map_cons]
    refine List.nodup_cons.mpr ⟨fun m => ?_, nodup_map_on (fun x hx y hy => h x (List.mem_cons_of_mem _ hx) y (List.mem_cons_of_mem _ hy)) h2⟩
    obtain ⟨b, hb, e⟩ := List.mem_map.mp m
    have e' := h b (List.mem_cons_of_mem _ hb) a (List.mem_cons_self ..) e
    rw [e'] at hb
    exact h1 hb
theorem jn_nodup (s : Row) : (∀ x ∈ s, 0 < x) → (jn s).Nodup := by
  refine snoc_ind (p := fun s => (∀ x ∈ s, 0 < x) → (jn s).Nodup) ?_ ?_ ?_ s
  · intro _; rw [jn_nil]; simp
  · intro a _; rw [jn_one]; simp
  · intro s e hs ih hp
    have hp' : ∀ x ∈ s, 0 < x := fun x hx => hp x (List.mem_append_left _ hx)
    rw [jn_snoc hs]
    unfold jstep
    refine List.nodup_append.mpr ⟨?_, ?_, ?_⟩
    · exact nodup_map_on (fun a _ b _ h => (List.append_inj' h rfl).1) (ih hp')
    · exact nodup_map_on (fun a ha b hb h => mrg_inj (jn_ne hs ha) (jn_ne hs hb) h) (ih hp')
    · intro a ha b hb hab
      obtain ⟨a', h1, rfl⟩ := List.mem_map.mp ha
      obtain ⟨b', h2, rfl⟩ := List.mem_map.mp hb
      have nb := jn_ne hs h2
      have g := good_jn s hp' b' h2
      obtain ⟨b'', y, rfl⟩ := snoc_of nb
      rw [mrg_snoc] at hab
      obtain ⟨_, h4⟩ := List.append_inj' hab rfl
      have h5 : e = y + e := by injection h4
      have := g.pos y (by simp)
      omega
theorem jfold_len : ∀ (r : Row) (f : List Row), (jfold f r).length = f.length * 2 ^ r.length
  | [], f => by simp [jfold]
  | e :: r, f => by
    show (jfold (jstep e f) r).length = _
    rw [jfold_len r, List.length_cons, Nat.pow_succ]
    unfold jstep
    rw [List.length_append, List.length_map, List.length_map, ← Nat.two_mul, Nat.mul_comm 2, Nat.mul_assoc, Nat.mul_comm 2]
theorem jn_len (a : Int) (r : Row) : (jn (a :: r)).length = 2 ^ r.length := by
  show (jfold [[a]] r).length = _
  rw [jfold_len]
  simp
theorem jn_len_le (s : Row) : (jn s).length ≤ 2 ^ s.length := by
  cases s with
  | nil => simp [jn_nil]
  | cons a r =>
    rw [jn_len, List.length_cons]
    exact Nat.pow_le_pow_right (by decide) (Nat.le_succ _)
/-! ### the program's way of joining: by turns -/
def jturn (e : Int) (f : List Row) : List Row := f.flatMap fun b => [b ++ [e], mrg e b]
theorem perm_weave {α β : Type} (g h : α → β) : ∀ f : List α, (f.flatMap fun b => [g b, h b]).Perm (f.map g ++ f.map h)
  | [] => List.Perm.refl _
  | a :: f => by
    rw [List.flatMap_cons, List.map_cons, List.map_cons]
    show (g a :: h a :: (f.flatMap fun b => [g b, h b])).Perm (g a :: (f.map g ++ h a :: f.map h))
    refine List.Perm.cons _ ?_
    exact ((perm_weave g h f).cons (h a)).trans List.perm_middle.symm
theorem jturn_perm {e : Int} {f f' : List Row} (h : f.Perm f') : (jturn e f).Perm (jstep e f') := by
  unfold jturn jstep
  exact (perm_weave _ _ f).trans ((h.map _).append (h.map _))
theorem jstep_perm {e : Int} {f f' : List Row} (h : f.Perm f') : (jstep e f).Perm (jstep e f') := (h.map _).append (h.map _)
/-! ### blockings, level by level -/
/-- the sum of the entries from st to before en -/
def seg (s : Row) (st en : Nat) : Int := ((s.take en).drop st).sum
def lvs (s : Row) : Nat → List (List Row)
  | 0 => [[[]]]
  | e + 1 => lvs s e ++ [(List.range (e + 1)).flatMap fun st => ((lvs s e).getD st []).map (· ++ [seg s st (e + 1)])]
def lev (s : Row) (i : Nat) : List Row := (lvs s i).getD i []
theorem lvs_len (s : Row) : ∀ n, (lvs s n).length = n + 1
  | 0 => rfl
  | n + 1 => by
    show (lvs s n ++ [_]).length = _
    rw [List.length_append, lvs_len s n]
    rfl
theorem lvs_get (s : Row) {i : Nat} : ∀ {n : Nat}, i ≤ n → (lvs s n)[i]? = some (lev s i)
  | 0, h => by
    have e : i = 0 := by omega
    subst e
    rfl
  | n + 1, h => by
    by_cases hi : i ≤ n
    · show (lvs s n ++ [_])[i]? = _
      rw [List.getElem?_append_left (by rw [lvs_len]; omega)]
      exact lvs_get s hi
    · have e : i = n + 1 := by omega
      subst e
      unfold lev
      have hl : n + 1 < (lvs s (n + 1)).length := by rw [lvs_len]; omega
      rw [List.getElem?_eq_getElem hl, List.getD_eq_getElem?_getD, List.getElem?_eq_getElem hl]
      rfl
theorem lvs_getD (s : Row) {i n : Nat} (h : i ≤ n) : (lvs s n).getD i [] = lev s i := by
  rw [List.getD_eq_getElem?_getD, lvs_get s h]
  rfl
theorem lev_zero (s : Row) : lev s 0 = [[]] := rfl
theorem flatMap_congr' {α β : Type} {f g : α → List β} : ∀ {l : List α}, (∀ x ∈ l, f x = g x) → l.flatMap f = l.flatMap g
  | [], _ => rfl
  | a :: l, h => by
    rw [List.flatMap_cons, List.flatMap_cons, h a (List.mem_cons_self ..), flatMap_congr' fun x hx => h x (List.mem_cons_of_mem _ hx)]
theorem lev_succ (s : Row) (n : Nat) : lev s (n + 1) = (List.range (n + 1)).flatMap fun st => (lev s st).map (· ++ [seg s st (n + 1)]) := by
  have h : (lvs s (n + 1))[n + 1]? = some (lev s (n + 1)) := lvs_get s (Nat.le_refl _)
  have e : lvs s (n + 1) = lvs s n ++ [(List.range (n + 1)).flatMap fun st => ((lvs s n).getD st []).map (· ++ [seg s st (n + 1)])] := rfl
  rw [e, List.getElem?_append_right (by rw [lvs_len]; omega)] at h
  have e2 : n + 1 - (lvs s n).length = 0 := by rw [lvs_len]; omega
  rw [e2] at h
  have h' := Option.some.inj h
  rw [← h']
  refine flatMap_congr' fun st hst => ?_
  rw [lvs_getD s (Nat.lt_succ_iff.mp (List.mem_range.mp hst))]
theorem seg_succ (s : Row) {st n : Nat} (h : st ≤ n) (hn : n < s.length) : seg s st (n + 1) = seg s st n + s[n] := by
  unfold seg
  rw [List.take_succ_eq_append_getElem hn, List.drop_append_of_le_length (by rw [List.length_take]; omega), List.sum_append]
  simp
theorem seg_one (s : Row) {n : Nat} (hn : n < s.length) : seg s n (n + 1) = s[n] := by
  rw [seg_succ s (Nat.le_refl n) hn]
  unfold seg
  rw [List.drop_eq_nil_of_le (by rw [List.length_take]; omega)]
  simp
theorem sm_range_succ {f : Nat → Rat} (n : Nat) : sm f (List.range (n + 1)) = sm f (List.range n) + f n := by
  rw [List.range_succ, sm_append]
  show _ + (f n + 0) = _
  rw [Rat.add_zero]
theorem sm_lev (s : Row) : ∀ (n : Nat), n ≤ s.length → ∀ f : Row → Rat, sm f (lev s n) = sm f (jn (s.take n)) := by
  intro n
  induction n with
  | zero =>
    intro _ f
    rw [lev_zero, List.take_zero, jn_nil]
  | succ n ih =>
    intro hn f
    have hn' : n < s.length := hn
    rw [lev_succ, sm_flatMap, sm_range_succ, List.take_succ_eq_append_getElem hn']
    have e1 : sm f ((lev s n).map (· ++ [seg s n (n + 1)])) = sm (fun b => f (b ++ [s[n]])) (lev s n) := by
      rw [sm_map, seg_one s hn']
    rw [e1]
    cases n with
    | zero =>
      have e2 : sm (fun st => sm f ((lev s st).map (· ++ [seg s st (0 + 1)]))) (List.range 0) = 0 := rfl
      rw [e2, Rat.zero_add, lev_zero, List.take_zero, List.nil_append, jn_one]
      rfl
    | succ m =>
      have hne : s.take (m + 1) ≠ [] := by
        intro e
        have hz := congrArg List.length e
        rw [List.length_take, List.length_nil] at hz
        omega
      rw [sm_snoc f hne, ← ih (by omega) (fun b => f (b ++ [s[m + 1]])), ← ih (by omega) (fun b => f (mrg s[m + 1] b))]
      have e2 : sm (fun st => sm f ((lev s st).map (· ++ [seg s st (m + 1 + 1)]))) (List.range (m + 1)) = sm (fun b => f (mrg s[m + 1] b)) (lev s (m + 1)) := by
        rw [lev_succ s m, sm_flatMap]
        refine sm_congr fun st hst => ?_
        rw [sm_map, sm_map]
        refine sm_congr fun b _ => ?_
        rw [mrg_snoc, seg_succ s (Nat.le_of_lt (List.mem_range.mp hst)) hn']
      rw [e2, Rat.add_comm]
/-! counting by sums -/
def ind (k : Row) : Row → Rat := fun j => if j = k then 1 else 0
theorem sm_ind (k : Row) : ∀ l : List Row, sm (ind k) l = ((l.count k : Nat) : Rat)
  | [] => by simp [sm_nil]
  | a :: l => by
    rw [sm_cons, sm_ind k l, List.count_cons]
    unfold ind
    by_cases h : a = k
    · rw [if_pos h, if_pos (by simp [h])]
      have : ((l.count k + 1 : Nat) : Rat) = (l.count k : Rat) + 1 := by norm_cast
      rw [this, Rat.add_comm]
    · rw [if_neg h, if_neg (by simp [h])]
      rw [Rat.zero_add, Nat.add_zero]
theorem nat_inj {a b : Nat} (h : (a : Rat) = (b : Rat)) : a = b := by exact_mod_cast h
theorem lev_perm (s : Row) {n : Nat} (hn : n ≤ s.length) : (lev s n).Perm (jn (s.take n)) := by
  refine List.perm_iff_count.mpr fun k => nat_inj ?_
  rw [← sm_ind, ← sm_ind, sm_lev s n hn]
theorem lev_all (s : Row) : (lev s s.length).Perm (jn s) := by
  have h := lev_perm s (Nat.le_refl s.length)
  rwa [List.take_length] at h
theorem jn_back {s : Row} (_ : s ≠ []) (f : Row → Rat) : sm f (jn s) = sm f (jn s) := rfl
/-! ### whole numbers: the program's sums, scaled -/
def accI (f : Nat → Int) : Nat → Int
  | 0 => 0
  | k + 1 => accI f k + f (k + 1)
/-- the sum of a row, times L to its weight -/
def sc (sl : Bool) (L : Int) : Row → Nat → Int
  | [], _ => 1
  | a :: r, k => accI (fun m => sc sl L r (bif sl then m else m - 1) * (L / (m : Int)) ^ a.toNat) k
def wt : Row → Nat
  | [] => 0
  | a :: r => a.toNat + wt r
theorem wt_sum : ∀ {s : Row}, (∀ x ∈ s, 0 < x) → (wt s : Int) = s.sum
  | [], _ => rfl
  | a :: r, h => by
    have ha := h a (List.mem_cons_self ..)
    have ih := wt_sum (s := r) fun x hx => h x (List.mem_cons_of_mem _ hx)
    show ((a.toNat + wt r : Nat) : Int) = _
    rw [List.sum_cons]
    omega
theorem accI_cast (f : Nat → Int) : ∀ k, ((accI f k : Int) : Rat) = acc (fun m => (f m : Rat)) k
  | 0 => rfl
  | k + 1 => by
    show ((accI f k + f (k + 1) : Int) : Rat) = acc (fun m => (f m : Rat)) k + (f (k + 1) : Rat)
    rw [← accI_cast f k]
    norm_cast
theorem cast_pow (x : Int) (n : Nat) : ((x ^ n : Int) : Rat) = (x : Rat) ^ n := by norm_cast
theorem mulpow (x y : Rat) : ∀ n : Nat, (x * y) ^ n = x ^ n * y ^ n
  | 0 => by rw [Rat.pow_zero, Rat.pow_zero, Rat.pow_zero, Rat.mul_one]
  | n + 1 => by
    rw [Rat.pow_succ, Rat.pow_succ, Rat.pow_succ, mulpow x y n]
    grind
theorem pow_nz {x : Rat} (h : x ≠ 0) : ∀ n : Nat, x ^ n ≠ 0
  | 0 => by rw [Rat.pow_zero]; decide
  | n + 1 => by
    rw [Rat.pow_succ]
    intro e
    rcases Rat.mul_eq_zero.mp e with q | q
    · exact pow_nz h n q
    · exact h q
theorem sc_ch (sl : Bool) (L : Int) (K : Nat) (hL : ∀ m : Nat, 1 ≤ m → m ≤ K → (m : Int) ∣ L) : ∀ (s : Row) (k : Nat), k ≤ K → ((sc sl L s k : Int) : Rat) = (L : Rat) ^ wt s * ch sl s k
  | [], k, _ => by
    show ((1 : Int) : Rat) = (L : Rat) ^ 0 * 1
    rw [Rat.pow_zero, Rat.mul_one]
    norm_cast
  | a :: r, k, hk => by
    show ((accI _ k : Int) : Rat) = (L : Rat) ^ (a.toNat + wt r) * acc _ k
    rw [accI_cast, ← acc_mul]
    refine acc_congr fun m h1 h2 => ?_
    have hm : (if sl then m else m - 1) ≤ K := by cases sl <;> simp <;> omega
    have ih := sc_ch sl L K hL r (bif sl then m else m - 1) (by cases sl <;> simp <;> omega)
    obtain ⟨c, hc⟩ := hL m h1 (by omega)
    have hm0 : (m : Int) ≠ 0 := by omega
    have hd : L / (m : Int) = c := by rw [hc]; exact Int.mul_ediv_cancel_left c hm0
    have hm1 : (m : Rat) ≠ 0 := by
      intro e
      have : m = 0 := by exact_mod_cast e
      omega
    have hLc : (L : Rat) = (m : Rat) * (c : Rat) := by rw [hc]; norm_cast
    have e1 : ((sc sl L r (bif sl then m else m - 1) * (L / (m : Int)) ^ a.toNat : Int) : Rat) = ((sc sl L r (bif sl then m else m - 1) : Int) : Rat) * (c : Rat) ^ a.toNat := by
      rw [hd]
      norm_cast
    rw [e1, ih, pow_plus]
    unfold rc
    have e2 : (L : Rat) ^ a.toNat = (m : Rat) ^ a.toNat * (c : Rat) ^ a.toNat := by rw [hLc]; exact mulpow _ _ _
    have hp : (m : Rat) ^ a.toNat ≠ 0 := pow_nz hm1 _
    rw [e2]
    grind
end Rj
set_option autoImplicit false
namespace Rj
/-! ### a ratio of two whole numbers, the second above 0 -/
def ratOf (top bottom : Int) : Rat := mkRat top bottom.toNat
theorem ratOf_num {t b : Int} (h : 0 < b) : (ratOf t b).num = t / ((Nat.gcd t.natAbs b.natAbs : Nat) : Int) := by
  unfold ratOf
  rw [Rat.num_mkRat, if_neg (by omega), Nat.gcd_comm]
  have e : b.toNat = b.natAbs := by omega
  rw [e]
theorem ratOf_den {t b : Int} (h : 0 < b) : (((ratOf t b).den : Nat) : Int) = b / ((Nat.gcd t.natAbs b.natAbs : Nat) : Int) := by
  unfold ratOf
  rw [Rat.den_mkRat, if_neg (by omega), Nat.gcd_comm]
  have e : b.toNat = b.natAbs := by omega
  rw [e, Int.natCast_ediv]
  have e2 : ((b.natAbs : Nat) : Int) = b := by omega
  rw [e2]
theorem gcd_pos {t b : Int} (h : 0 < b) : 0 < ((Nat.gcd t.natAbs b.natAbs : Nat) : Int) := by
  have : 0 < Nat.gcd t.natAbs b.natAbs := Nat.gcd_pos_of_pos_right _ (by omega)
  omega
theorem gcd_le {t b : Int} (h : 0 < b) : Nat.gcd t.natAbs b.natAbs ≤ b.natAbs := Nat.gcd_le_right _ (by omega)
theorem ratOf_add (p q : Rat) : ratOf (p.num * (q.den : Int) + q.num * (p.den : Int)) ((p.den : Int) * (q.den : Int)) = p + q := by
  have e : ((p.den : Int) * (q.den : Int)).toNat = p.den * q.den := by
    rw [← Int.natCast_mul]
    exact Int.toNat_natCast _
  unfold ratOf
  rw [e, ← Rat.mkRat_add_mkRat _ _ p.den_nz q.den_nz, Rat.mkRat_self, Rat.mkRat_self]
theorem ratOf_mul (p q : Rat) : ratOf (p.num * q.num) ((p.den : Int) * (q.den : Int)) = p * q := by
  have e : ((p.den : Int) * (q.den : Int)).toNat = p.den * q.den := by
    rw [← Int.natCast_mul]
    exact Int.toNat_natCast _
  unfold ratOf
  rw [e, ← Rat.mkRat_mul_mkRat, Rat.mkRat_self, Rat.mkRat_self]
theorem den_pos (p : Rat) : 0 < (p.den : Int) := by
  have := p.den_nz
  omega
theorem dens_pos (p q : Rat) : 0 < (p.den : Int) * (q.den : Int) := Int.mul_pos (den_pos p) (den_pos q)
/-! ### how long they are -/
/-- both parts have fewer than n bits (or so) -/
structure Sz (n : Nat) (q : Rat) : Prop where
  top : q.num.natAbs < 2 ^ n
  bot : q.den < 2 ^ n
theorem Sz.mono {n m : Nat} {q : Rat} (h : Sz n q) (l : n ≤ m) : Sz m q :=
  ⟨Nat.lt_of_lt_of_le h.top (Nat.pow_le_pow_right (by decide) l), Nat.lt_of_lt_of_le h.bot (Nat.pow_le_pow_right (by decide) l)⟩
/-- a whole number of at most z parts of D -/
def Bd (D z : Nat) (q : Rat) : Prop := ∃ m : Int, q = mkRat m D ∧ m.natAbs ≤ z
theorem Bd.sz {D z n : Nat} {q : Rat} (h : Bd D z q) (hD : D ≠ 0) (hz : z < 2 ^ n) (hd : D < 2 ^ n) : Sz n q := by
  obtain ⟨m, rfl, hm⟩ := h
  constructor
  · rw [Rat.num_mkRat, if_neg hD]
    refine Nat.lt_of_le_of_lt ?_ (Nat.lt_of_le_of_lt hm hz)
    rw [Int.natAbs_ediv_of_dvd (Int.ofNat_dvd_left.mpr (Nat.gcd_dvd_right _ _))]
    exact Nat.div_le_self _ _
  · rw [Rat.den_mkRat, if_neg hD]
    exact Nat.lt_of_le_of_lt (Nat.div_le_self _ _) hd
theorem Bd.zero (D z : Nat) : Bd D z 0 := ⟨0, (Rat.zero_mkRat D).symm, Nat.zero_le _⟩
theorem Bd.one : Bd 1 1 1 := ⟨1, rfl, Nat.le_refl _⟩
theorem Bd.mono {D z z' : Nat} {q : Rat} (h : Bd D z q) (l : z ≤ z') : Bd D z' q := by
  obtain ⟨m, e, hm⟩ := h
  exact ⟨m, e, Nat.le_trans hm l⟩
theorem Bd.add {D z z' : Nat} {p q : Rat} (hD : D ≠ 0) (h : Bd D z p) (h' : Bd D z' q) : Bd D (z + z') (p + q) := by
  obtain ⟨m, rfl, hm⟩ := h
  obtain ⟨n, rfl, hn⟩ := h'
  refine ⟨m + n, ?_, by omega⟩
  rw [Rat.mkRat_add_mkRat _ _ hD hD, ← Int.add_mul, Rat.mkRat_mul_right hD]
theorem Bd.mul {D D' z z' : Nat} {p q : Rat} (h : Bd D z p) (h' : Bd D' z' q) : Bd (D * D') (z * z') (p * q) := by
  obtain ⟨m, rfl, hm⟩ := h
  obtain ⟨n, rfl, hn⟩ := h'
  refine ⟨m * n, Rat.mkRat_mul_mkRat .., ?_⟩
  rw [Int.natAbs_mul]
  exact Nat.mul_le_mul hm hn
/-- 1 or -1 -/
def Pm (q : Rat) : Prop := q = 1 ∨ q = -1
theorem Pm.sg (n : Nat) : Pm (sg n) := by
  unfold Rj.sg
  by_cases h : n % 2 = 0
  · rw [if_pos h]; exact .inl rfl
  · rw [if_neg h]; exact .inr rfl
theorem Pm.bd {q : Rat} (h : Pm q) : Bd 1 1 q := by
  rcases h with rfl | rfl
  · exact ⟨1, rfl, Nat.le_refl _⟩
  · exact ⟨-1, rfl, Nat.le_refl _⟩
theorem Pm.times {D z : Nat} {c q : Rat} (hc : Pm c) (h : Bd D z q) : Bd D z (c * q) := by
  have e := hc.bd.mul h
  rwa [Nat.one_mul, Nat.one_mul] at e
theorem Pm.sz {q : Rat} (h : Pm q) : Sz 2 q := h.bd.sz (by decide) (by decide) (by decide)
theorem Pm.mul {p q : Rat} (h : Pm p) (h' : Pm q) : Pm (p * q) := by
  rcases h with rfl | rfl <;> rcases h' with rfl | rfl
  · left; grind
  · right; grind
  · right; grind
  · left; grind
/-- a whole number -/
theorem Bd.int (n : Int) : Bd 1 n.natAbs (n : Rat) := ⟨n, by
  have e := Rat.mkRat_self (n : Rat)
  rw [← e]
  rfl, Nat.le_refl _⟩
/-! ### the scale -/
def lcmTo : Nat → Nat
  | 0 => 1
  | k + 1 => lcmTo k * ((k + 1) / Nat.gcd (lcmTo k) (k + 1))
theorem lcm_small : ∀ k, k ≤ 19 → 0 < lcmTo k ∧ lcmTo k < 2 ^ 28 ∧ ∀ m, m ≤ k → 1 ≤ m → m ∣ lcmTo k := by decide +kernel
theorem accI_le {f : Nat → Int} {B : Nat} : ∀ {k : Nat}, (∀ m, 1 ≤ m → m ≤ k → (f m).natAbs ≤ B) → (accI f k).natAbs ≤ k * B
  | 0, _ => by simp [accI]
  | k + 1, h => by
    have h1 := accI_le (k := k) fun m a b => h m a (Nat.le_succ_of_le b)
    have h2 := h (k + 1) (by omega) (Nat.le_refl _)
    show (accI f k + f (k + 1)).natAbs ≤ (k + 1) * B
    rw [Nat.succ_mul]
    omega
theorem natAbs_pow (x : Int) : ∀ n : Nat, (x ^ n).natAbs = x.natAbs ^ n
  | 0 => by rw [Int.pow_zero, Nat.pow_zero]; rfl
  | n + 1 => by rw [Int.pow_succ, Int.natAbs_mul, natAbs_pow x n, Nat.pow_succ]
theorem part_le {L : Nat} (hL : L < 2 ^ 28) (m a : Nat) : (((L : Int) / (m : Int)) ^ a).natAbs ≤ 2 ^ (28 * a) := by
  rw [natAbs_pow, Nat.pow_mul]
  refine Nat.pow_le_pow_left ?_ a
  have e : ((L : Int) / (m : Int)).natAbs = L / m := by rw [← Int.natCast_ediv]; rfl
  rw [e]
  exact Nat.le_of_lt (Nat.lt_of_le_of_lt (Nat.div_le_self _ _) hL)
theorem sc_le (sl : Bool) {L : Nat} (hL : L < 2 ^ 28) : ∀ (s : Row), (∀ x ∈ s, 0 < x) → ∀ k, k ≤ 19 → (sc sl (L : Int) s k).natAbs ≤ 2 ^ (33 * wt s)
  | [], _, k, _ => by show (1 : Int).natAbs ≤ 2 ^ (33 * 0); decide
  | a :: r, hp, k, hk => by
    have ha := hp a (List.mem_cons_self ..)
    have ih := sc_le sl hL r fun x hx => hp x (List.mem_cons_of_mem _ hx)
    have h1 : (accI (fun m => sc sl (L : Int) r (bif sl then m else m - 1) * ((L : Int) / (m : Int)) ^ a.toNat) k).natAbs ≤ k * (2 ^ (33 * wt r) * 2 ^ (28 * a.toNat)) := by
      refine accI_le fun m h1 h2 => ?_
      rw [Int.natAbs_mul]
      exact Nat.mul_le_mul (ih _ (by cases sl <;> simp <;> omega)) (part_le hL m a.toNat)
    refine Nat.le_trans h1 ?_
    show k * (2 ^ (33 * wt r) * 2 ^ (28 * a.toNat)) ≤ 2 ^ (33 * (a.toNat + wt r))
    have h2 : k ≤ 2 ^ (5 * a.toNat) := by
      refine Nat.le_trans (m := 2 ^ 5) (by omega) (Nat.pow_le_pow_right (by decide) (by omega))
    have e : 33 * (a.toNat + wt r) = 5 * a.toNat + (33 * wt r + 28 * a.toNat) := by omega
    rw [e, Nat.pow_add, Nat.pow_add]
    exact Nat.mul_le_mul_right _ h2
theorem sc_nn (sl : Bool) (L : Nat) : ∀ (s : Row) (k : Nat), 0 ≤ sc sl (L : Int) s k
  | [], _ => by show (0 : Int) ≤ 1; decide
  | a :: r, k => by
    have acc0 : ∀ (f : Nat → Int) (k : Nat), (∀ m, 0 ≤ f m) → 0 ≤ accI f k := by
      intro f k h
      induction k with
      | zero => exact Int.le_refl _
      | succ k ih => exact Int.add_nonneg ih (h _)
    refine acc0 _ k fun m => Int.mul_nonneg (sc_nn sl L r _) ?_
    have h : (0 : Int) ≤ (L : Int) / (m : Int) := Int.ediv_nonneg (by omega) (by omega)
    exact Int.pow_nonneg h
/-- what the program reckons is the sum -/
theorem sc_rat (sl : Bool) (s : Row) {k : Nat} (hk : k ≤ 19) : ratOf (sc sl (lcmTo k : Int) s k) ((lcmTo k : Int) ^ wt s) = ch sl s k := by
  obtain ⟨h0, h1, h2⟩ := lcm_small k hk
  have e := sc_ch sl (lcmTo k : Int) k (fun m a b => by have := h2 m b a; exact_mod_cast this) s k (Nat.le_refl _)
  unfold ratOf
  rw [Rat.mkRat_eq_div]
  have e2 : (((lcmTo k : Int) ^ wt s).toNat : Int) = (lcmTo k : Int) ^ wt s := Int.toNat_of_nonneg (Int.pow_nonneg (by omega))
  have e3 : ((((lcmTo k : Int) ^ wt s).toNat : Nat) : Rat) = ((lcmTo k : Int) : Rat) ^ wt s := by
    rw [← cast_pow, ← e2]
    norm_cast
  rw [e3, e]
  have nz : ((lcmTo k : Int) : Rat) ≠ 0 := by
    intro z
    have : (lcmTo k : Int) = 0 := by exact_mod_cast z
    omega
  have nz2 := pow_nz nz (wt s)
  grind
theorem scale_pos {k : Nat} (hk : k ≤ 19) (n : Nat) : lcmTo k ^ n ≠ 0 := Nat.pos_iff_ne_zero.mp (Nat.pow_pos (lcm_small k hk).1)
theorem ch_bd (sl : Bool) {s : Row} (hp : ∀ x ∈ s, 0 < x) {k : Nat} (hk : k ≤ 19) : Bd (lcmTo k ^ wt s) (2 ^ (33 * wt s)) (ch sl s k) := by
  refine ⟨sc sl (lcmTo k : Int) s k, ?_, sc_le sl (lcm_small k hk).2.1 s hp k hk⟩
  rw [← sc_rat sl s hk]
  unfold ratOf
  have e : ((lcmTo k : Int) ^ wt s).toNat = lcmTo k ^ wt s := by
    have e1 : (lcmTo k : Int) ^ wt s = ((lcmTo k ^ wt s : Nat) : Int) := by norm_cast
    rw [e1]
    exact Int.toNat_natCast _
  rw [e]
theorem scale_lt {k : Nat} (hk : k ≤ 19) {w n : Nat} (hn : 28 * w < n) : lcmTo k ^ w < 2 ^ n := by
  refine Nat.lt_of_le_of_lt (m := 2 ^ (28 * w)) ?_ (Nat.pow_lt_pow_right (by decide) hn)
  rw [Nat.pow_mul]
  exact Nat.pow_le_pow_left (Nat.le_of_lt (lcm_small k hk).2.1) w
theorem ch_sz (sl : Bool) {s : Row} (hp : ∀ x ∈ s, 0 < x) {k : Nat} (hk : k ≤ 19) {n : Nat} (hn : 33 * wt s < n) : Sz n (ch sl s k) :=
  (ch_bd sl hp hk).sz (scale_pos hk _) (Nat.pow_lt_pow_right (by decide) hn) (scale_lt hk (by omega))
end Rj
set_option Elab.async false
set_option linter.all false
set_option maxRecDepth 100000
set_option maxHeartbeats 4000000
/-! The text by places, the bundle of a def that keeps its promise, short words. -/
namespace Rj
open PySem PySem.Spec PyProof.Rows L2
/-- a def of the top stands at its name, whole -/
structure At (K : PySem.W.Frag) (mg : Str → Option Value) (x : Str) (st : Stmt) : Prop where
  ex : ∃ f fd, FunD K x x (defArgs st) (defBody st) (defScope st) [] [] f fd ∧ mg x = some (.ref f)
/-- x names a def that keeps the promise sp, by k levels -/
structure Has (P : Program) (w : World) (K : PySem.W.Frag) (mg : Str → Option Value) (base : Heap) (k : Nat) (x : Str) (sp : Sp) : Prop where
  ex : ∃ f, mg x = some (.ref f) ∧ PySem.W.keepIn K (.ref f) = true ∧ FnR P w K mg base CX0 k f sp
section
variable {P : Program} {w : World} {K : PySem.W.Frag} {mg : Str → Option Value} {base : Heap}
theorem At.has {x : Str} {st : Stmt} {N ps : List Str} {k : Nat} {sp : Sp} (D : At K mg x st) (S : FnScope N ps (defScope st)) (len : ∀ vs H Q E, sp vs H Q E → vs.length = ps.length)
    (hb : ∀ (kV doc pm : Value) (an : Option Addr) (cdv ct : Value) (us : List Value), us.length = ps.length → bindArgs (PySem.W.fnOf x x (defArgs st) (defBody st) (defScope st) .none kV doc pm an cdv ct) ⟨us, []⟩ = pure (ps.zip us))
    (body : ∀ (f : Addr) (cdv : Value) (A : Around) (outer : List Env) (s : Shared) (H : Hp) (vs : List V) (Q : VK) (E : XK), Room k (A.deeper (envOfC x (defScope st) s.heap.objs.size f cdv)) → sp vs H Q E →
      ∃ t, PSs (cxOf CX0 P w K mg base N x (defScope st) f cdv A outer s H E).nox (defBody st) t ∧ t { nx := fun _ H' => Q .non H', rt := Q } (start N vs) H) : Has P w K mg base (k + 1) x sp := by
  obtain ⟨f, fd, F, hm⟩ := D.ex
  have ok : FnOk P w K mg base CX0 (k + 1) f fd ps sp := F.ok S len fun cdv A outer s H vs Q E hr h => by
    obtain ⟨t, h1, h2⟩ := body f cdv A outer s H vs Q E hr h
    exact ⟨t, h1.nox, h2⟩
  have r := ok.raw (F.bindsN hb) (dvs := []) .nil
  refine ⟨f, hm, F.kp, r.imp fun vs H Q E h => ?_⟩
  rw [List.append_nil]
  exact h
theorem Has.imp {k : Nat} {x : Str} {sp sp' : Sp} (h : Has P w K mg base k x sp) (g : ∀ vs H Q E, sp' vs H Q E → sp vs H Q E) : Has P w K mg base k x sp' := by
  obtain ⟨f, a, b, c⟩ := h.ex
  exact ⟨f, a, b, c.imp g⟩
end
/-- a call of such a def -/
def tCal (sp : Sp) (t : TA) : TE := fun σ H Q => t σ H fun vs H1 => sp vs H1 Q E0
section
variable {X : Cx} {j k : Nat} {x : Str} {sp : Sp} {p pos : Pos} {e : Expr} {es : List Expr} {t : TA}
theorem pe_cal (h : Has X.prog X.w X.K X.mg X.base k x sp) (hr : Room j X.A) (ha : PA X (e :: es) t) (hk : k ≤ j := by decide) (hg : Gl X x := by rfl) (hdb : (x == ("__debug__" : Str)) = false := by decide)
    (he : starEach (e :: es) X.env = (false, eval e X.env) :: starEach es X.env := by rfl) (hpl : (backTo pos (starEach es X.env)).any (·.1) = false := by rfl) :
    PE X (.Call (.Name x p) (e :: es) [] pos) (tCal sp t) := by
  obtain ⟨f, hm, kp, F⟩ := h.ex
  refine ⟨fun pins s σ H Q I hq => ?_⟩
  refine wpAny_Call_Name_kw (ld_glob I hg hm ?_ hdb)
  refine PySem.W.callWith_K (h₀ := X.base) I.ok.mod.kin kp (thn (ha.run pos pins s σ H _ I hq) fun us s1 ⟨vs, H1, I1, r, q⟩ => ⟨I1.kIn, ?_⟩) he hpl
  exact wpAny_call (run_fnR F (hr.mono hk) pass0 I1 r q)
/-- a way of the code that is never taken -/
theorem pe_no {e : Expr} : PE X e (fun _ _ _ => False) := ⟨fun _ _ _ _ _ _ h => h.elim⟩
theorem pt_no {e : Expr} : PT X e (fun _ _ _ => False) := ⟨fun _ _ _ _ _ _ h => h.elim⟩
end
/-! ### what is read from here on and written no more -/
def tFrz (t : TE) : TE := fun σ H Q => t σ H fun v H1 => ∃ d u, H1 d = some u ∧ Mut (some u) ∧ ∀ o, Q v (upd H1 d (.frz o u))
def tFrzS (t : TS) : TS := fun D σ H => ∃ d u, H d = some u ∧ Mut (some u) ∧ ∀ o, t D σ (upd H d (.frz o u))
theorem pe_frz {X : Cx} {e : Expr} {t : TE} (h : PE X e t) : PE X e (tFrz t) := ⟨fun pins s σ H Q I hq => thn (h.run pins s σ H _ I hq) fun v s1 ⟨x, H1, I1, r, d, u, hd, mu, q⟩ => by
  obtain ⟨od, I2⟩ := I1.lock hd mu
  exact ⟨x, _, I2, r, q od⟩⟩
theorem ps_frz {X : Cx} {st : Stmt} {t : TS} (h : PS X st t) : PS X st (tFrzS t) := ⟨fun pins s σ H D I hq => by
  obtain ⟨d, u, hd, mu, q⟩ := hq
  obtain ⟨od, I2⟩ := I.lock hd mu
  exact h.run pins s σ _ D I2 (q od)⟩
/-! ### rows, ratios, dicts of them in the heap -/
/-- at p stands a row, a tuple of its own -/
def RowAt (H : Hp) (p : Addr) (r : Row) : Prop := H p = some (.tup (r.map V.int))
/-- at p a ratio is to be read -/
def RatAt (K : PySem.W.Frag) (H : Hp) (p : Addr) (q : Rat) : Prop := SqT K H p [.int q.num, .int (q.den : Int)]
abbrev KR (r : Row) : List Key := r.map Sum.inl
theorem KR_kV (r : Row) : (KR r).map kV = r.map V.int := by
  unfold KR
  rw [List.map_map]
  rfl
theorem KR_inj {a b : Row} (h : KR a = KR b) : a = b := List.map_inj_right (fun _ _ e => Sum.inl.inj e) |>.mp h
theorem sameT {K : PySem.W.Frag} {H H' : Hp} {a : Addr} {xs : List V} (e : Same H H') (h : SqT K H a xs) : SqT K H' a xs := by
  rcases h with (h | ⟨o, h⟩) | h
  · exact .inl (.inl (e _ _ h))
  · exact .inl (.inr ⟨o, e _ _ h⟩)
  · exact .inr h
theorem RowAt.same {H H' : Hp} {p : Addr} {r : Row} (e : Same H H') (h : RowAt H p r) : RowAt H' p r := e _ _ h
theorem RatAt.same {K : PySem.W.Frag} {H H' : Hp} {p : Addr} {q : Rat} (e : Same H H') (h : RatAt K H p q) : RatAt K H' p q := sameT e h
theorem RowAt.sq {K : PySem.W.Frag} {H : Hp} {p : Addr} {r : Row} (h : RowAt H p r) : SqT K H p (r.map V.int) := .inl (.inl h)
/-- something new is laid -/
theorem same_new {H : Hp} {p : Addr} {o : HO} (h : H p = none) : Same H (upd H p o) := fun b u e => by
  rw [upd_ne (ne_of_none e h)]
  exact e
/-- all but the object at d is as it was -/
def But (d : Addr) (H H' : Hp) : Prop := ∀ b o, b ≠ d → H b = some o → H' b = some o
theorem But.refl (d : Addr) (H : Hp) : But d H H := fun _ _ _ h => h
theorem But.trans {d : Addr} {H H1 H2 : Hp} (a : But d H H1) (b : But d H1 H2) : But d H H2 := fun c o n h => b c o n (a c o n h)
theorem Same.but {d : Addr} {H H' : Hp} (a : Same H H') : But d H H' := fun b o _ h => a b o h
theorem but_upd {d : Addr} {H : Hp} {o : HO} : But d H (upd H d o) := fun b u n h => by rw [upd_ne n]; exact h
theorem But.free {d : Addr} {H H' : Hp} (e : But d H H') {l : Addr} (h : H' l = none) (n : l ≠ d) : H l = none := by
  cases q : H l with
  | none => rfl
  | some o =>
    rw [e l o n q] at h
    cases h
/-- a new object, changed since: what stood ahead of it stands -/
theorem But.same {d : Addr} {H H' : Hp} (a : But d H H') (h : H d = none) : Same H H' := fun b o e => a b o (ne_of_none e h) e
theorem But.row {d p : Addr} {H H' : Hp} {r : Row} {u : HO} (a : But d H H') (hd : H d = some u) (nt : ∀ xs, u ≠ .tup xs) (h : RowAt H p r) : RowAt H' p r := by
  refine a _ _ (fun z => ?_) h
  rw [z] at h
  have e := hd.symm.trans h
  exact nt _ (Option.some.inj e)
theorem But.sqT {K : PySem.W.Frag} {d p : Addr} {H H' : Hp} {xs : List V} {u : HO} (a : But d H H') (hd : H d = some u) (nt : ∀ xs, u ≠ .tup xs) (nf : ∀ o v, u ≠ .frz o v) (h : SqT K H p xs) : SqT K H' p xs := by
  rcases h with (h | ⟨o, h⟩) | h
  · refine .inl (.inl (a _ _ (fun z => ?_) h))
    rw [z] at h
    exact nt _ (Option.some.inj (hd.symm.trans h))
  · refine .inl (.inr ⟨o, a _ _ (fun z => ?_) h⟩)
    rw [z] at h
    exact nf _ _ (Option.some.inj (hd.symm.trans h))
  · exact .inr h
/-- an entry of such a dict -/
def EntR (K : PySem.W.Frag) (H : Hp) (e : List Key × V) (f : Row × Rat) : Prop := e.1 = KR f.1 ∧ ∃ p, e.2 = .ref p ∧ RatAt K H p f.2
abbrev Mx := List (Row × Rat)
/-- at d a dict from rows to ratios -/
def DAt (K : PySem.W.Frag) (H : Hp) (d : Addr) (m : Mx) : Prop := ∃ kvs, Rd H d (.dT kvs) ∧ Paired (EntR K H) kvs m
/-- .. which stays from here on -/
def FAt (K : PySem.W.Frag) (H : Hp) (d : Addr) (m : Mx) : Prop := ∃ o kvs, H d = some (.frz o (.dT kvs)) ∧ Paired (EntR K H) kvs m
theorem FAt.d {K : PySem.W.Frag} {H : Hp} {d : Addr} {m : Mx} (h : FAt K H d m) : DAt K H d m := by
  obtain ⟨o, kvs, a, b⟩ := h
  exact ⟨kvs, .inr ⟨o, a⟩, b⟩
theorem Rd.same {H H' : Hp} {d : Addr} {u : HO} (s : Same H H') (h : Rd H d u) : Rd H' d u := by
  rcases h with h | ⟨o, h⟩
  · exact .inl (s _ _ h)
  · exact .inr ⟨o, s _ _ h⟩
theorem paired_mono {α β : Type} {F G : α → β → Prop} (h : ∀ a b, F a b → G a b) : ∀ {xs : List α} {ys : List β}, Paired F xs ys → Paired G xs ys
  | _, _, .nil => .nil
  | _, _, .cons r t => .cons (h _ _ r) (paired_mono h t)
theorem EntR.same {K : PySem.W.Frag} {H H' : Hp} (s : Same H H') (e : List Key × V) (f : Row × Rat) (h : EntR K H e f) : EntR K H' e f :=
  ⟨h.1, let ⟨p, a, b⟩ := h.2; ⟨p, a, b.same s⟩⟩
theorem DAt.same {K : PySem.W.Frag} {H H' : Hp} {d : Addr} {m : Mx} (s : Same H H') (h : DAt K H d m) : DAt K H' d m := by
  obtain ⟨kvs, a, b⟩ := h
  exact ⟨kvs, Rd.same s a, paired_mono (EntR.same s) b⟩
theorem FAt.same {K : PySem.W.Frag} {H H' : Hp} {d : Addr} {m : Mx} (s : Same H H') (h : FAt K H d m) : FAt K H' d m := by
  obtain ⟨o, kvs, a, b⟩ := h
  exact ⟨o, kvs, s _ _ a, paired_mono (EntR.same s) b⟩
/-- what is left of a new object that is locked: all that stood ahead of it stands -/
theorem same_frz {H H' : Hp} {d : Addr} {u : HO} (a : Same H H') (n : H d = none) : Same H (upd H' d u) := fun b o e => by
  rw [upd_ne (ne_of_none e n)]
  exact a b o e
end Rj
set_option Elab.async false
set_option linter.all false
set_option maxRecDepth 100000
set_option maxHeartbeats 4000000
/-! What the walk asks of the top's names. -/
namespace Rj
open PySem PySem.Spec PyProof.Rows L2
structure Tx (K : PySem.W.Frag) (mg : Str → Option Value) : Prop where
  len : mg "len" = none
  range : mg "range" = none
  sorted : mg "sorted" = none
  list : mg "list" = none
  dict : mg "dict" = none
  tuple : mg "tuple" = none
  isi : mg "isinstance" = none
  all : mg "all" = none
  any : mg "any" = none
  sum : mg "sum" = none
  int : mg "int" = none
  abs : mg "abs" = none
  max : mg "max" = none
  min : mg "min" = none
  bool : mg "bool" = none
  str : mg "str" = none
  gcd : mg "gcd" = some (.builtin "math.gcd")
  maxW : ∃ t, mg "MAX_WEIGHT" = some (.int 40 t)
  mostJ : ∃ t, mg "MOST_JOINED" = some (.int 12 t)
  maxB : ∃ t, mg "MAX_BOUND" = some (.int 200 t)
  mostE : ∃ t, mg "MOST_ENTRIES" = some (.int 12 t)
  laid : ∃ t, mg "LAID" = some (.str "laid" t)
  zeroM : ∃ a, mg "ZERO_mixes" = some (.ref a) ∧ ∀ H, SqT K H a [.int 0, .int 1]
  oneM : ∃ a, mg "ONE_mixes" = some (.ref a) ∧ ∀ H, SqT K H a [.int 1, .int 1]
  zeroS : ∃ a, mg "ZERO_sums" = some (.ref a) ∧ ∀ H, SqT K H a [.int 0, .int 1]
  zeroR : ∃ a, mg "ZERO_ratios" = some (.ref a) ∧ ∀ H, SqT K H a [.int 0, .int 1]
  oneR : ∃ a, mg "ONE_ratios" = some (.ref a) ∧ ∀ H, SqT K H a [.int 1, .int 1]
  undoable : ∃ a, mg "UNDOABLE" = some (.ref a) ∧ ∀ H, SqT K H a [.str "laid", .str "joined"]
/-- a new ratio -/
def RNew (H : Hp) (p : Addr) (q : Rat) : Prop := H p = some (.tup [.int q.num, .int (q.den : Int)])
theorem RNew.at_ {K : PySem.W.Frag} {H : Hp} {p : Addr} {q : Rat} (h : RNew H p q) : RatAt K H p q := SqT.of h
/-- a test whose answer is known -/
theorem ifY {c : Prop} [Decidable c] {A B : Prop} (h : c) (a : A) : if decide c = true then A else B := by
  rw [decide_eq_true h]
  exact iteT a
theorem ifN {c : Prop} [Decidable c] {A B : Prop} (h : ¬ c) (b : B) : if decide c = true then A else B := by
  rw [decide_eq_false h]
  exact iteF b
theorem line2 : 2 ≤ sizeLine := by decide
end Rj
set_option Elab.async false
set_option linter.all false
set_option maxRecDepth 100000
set_option maxHeartbeats 4000000
set_option exponentiation.threshold 100000
/-! Ratios: the program's own. -/
namespace Rj
open PySem PySem.Spec PyProof.Rows L2
abbrev sLowest : Stmt := top 23
abbrev sPlus : Stmt := top 24
abbrev sTimes : Stmt := top 25
theorem scLowest : FnScope ["top", "bottom", "part"] ["top", "bottom"] (defScope sLowest) := ⟨rfl, rfl, rfl, by decide +kernel, rfl, by decide +kernel, by decide +kernel⟩
/-- the ratio of two whole numbers -/
def spLowest : Sp := fun vs H Q _ => ∃ t b : Int, vs = [.int t, .int b] ∧ 0 < b ∧ b.natAbs < 2 ^ 9000 ∧ ∀ p H', Same H H' → RNew H' p (ratOf t b) → Q (.ref p) H'
section
variable {P : Program} {w : World} {K : PySem.W.Frag} {mg : Str → Option Value} {base : Heap}
theorem gcd_div {t b : Int} (hb : 0 < b) (h9 : b.natAbs < 2 ^ 9000) (x : Int) : CDivW x ((Nat.gcd t.natAbs b.natAbs : Nat) : Int) :=
  wide_div (b := 9000) (gcd_pos hb) (by
    have := gcd_le (t := t) hb
    exact Nat.lt_of_le_of_lt (by omega) h9) (by decide) (by decide)
theorem has_lowest (D : At K mg "lowest_of" sLowest) (T : Tx K mg) : Has P w K mg base 1 "lowest_of" spLowest := by
  refine D.has scLowest (fun vs H Q E h => ?_) (fun _ _ _ _ _ _ us hl => match us, hl with | [_, _], _ => rfl) (fun f cdv A outer s H vs Q E hr h => ?_)
  · obtain ⟨t, b, rfl, _⟩ := h
    rfl
  · obtain ⟨t, b, rfl, hb, h9, k⟩ := h
    refine ⟨_, pss_cons (ps_set (i := 2) scLowest.nd rfl (Or.inl rfl) (pe_callBfun cr_gcd rfl T.gcd (pa_cons (pv 0) (pa_cons (pv 1) pa_nil))))
      (pss_cons (ps_set (i := 2) scLowest.nd rfl (Or.inl rfl) (pe_ifExp (pt_cmpR op_gt (pv 1) pe_int (nomark _)) (pv 2) (pe_un un_neg (pv 2))))
      (pss_one (ps_ret (pe_tup (pa_cons (pe_op op_fdivW (pv 0) (pv 2)) (pa_cons (pe_op op_fdivW (pv 1) (pv 2)) pa_nil)))))), ?_⟩
    refine ⟨_, rfl, _, rfl, _, _, rfl, ?_⟩
    refine ⟨_, rfl, _, _, rfl, rfl, _, rfl, ?_⟩
    refine ifY hb ⟨_, rfl, ?_⟩
    refine ⟨_, rfl, _, rfl, _, _, rfl, rfl, gcd_div hb h9 _, _, rfl, _, rfl, _, _, rfl, rfl, gcd_div hb h9 _, line2, fun p hp => ?_⟩
    refine k p _ (same_new hp) ?_
    unfold RNew
    rw [upd_same, ratOf_num hb, ratOf_den hb]
end
theorem scPlus : FnScope ["one", "other"] ["one", "other"] (defScope sPlus) := ⟨rfl, rfl, rfl, by decide +kernel, rfl, by decide +kernel, by decide +kernel⟩
theorem scTimes : FnScope ["one", "other"] ["one", "other"] (defScope sTimes) := ⟨rfl, rfl, rfl, by decide +kernel, rfl, by decide +kernel, by decide +kernel⟩
/-- a new ratio f p q -/
def spTwo (K : PySem.W.Frag) (f : Rat → Rat → Rat) : Sp := fun vs H Q _ => ∃ (a b : Addr) (p q : Rat), vs = [.ref a, .ref b] ∧ RatAt K H a p ∧ RatAt K H b q ∧ Sz 4000 p ∧ Sz 4000 q ∧
  ∀ c H', Same H H' → RNew H' c (f p q) → Q (.ref c) H'
theorem sz_den {q : Rat} (h : Sz 4000 q) : ((q.den : Nat) : Int).natAbs < 2 ^ 4000 := by
  have e : ((q.den : Nat) : Int).natAbs = q.den := by omega
  rw [e]
  exact h.bot
theorem sz_mul {i j : Int} (h1 : i.natAbs < 2 ^ 4000) (h2 : j.natAbs < 2 ^ 4000) : CMulW i j := wide_mul h1 h2 (by decide) (by decide) (by decide)
theorem sz_dens {p q : Rat} (h1 : Sz 4000 p) (h2 : Sz 4000 q) : ((p.den : Int) * (q.den : Int)).natAbs < 2 ^ 9000 := by
  have h := wide_lt (sz_den h1) (sz_den h2)
  exact Nat.lt_trans h (Nat.pow_lt_pow_right (by decide) (by decide))
section
variable {P : Program} {w : World} {K : PySem.W.Frag} {mg : Str → Option Value} {base : Heap}
theorem has_plus (D : At K mg "plus_of" sPlus) (L : Has P w K mg base 1 "lowest_of" spLowest) : Has P w K mg base 2 "plus_of" (spTwo K (· + ·)) := by
  refine D.has scPlus (fun vs H Q E h => ?_) (fun _ _ _ _ _ _ us hl => match us, hl with | [_, _], _ => rfl) (fun f cdv A outer s H vs Q E hr h => ?_)
  · obtain ⟨a, b, p, q, rfl, _⟩ := h
    rfl
  · obtain ⟨a, b, p, q, rfl, ha, hb, zp, zq, k⟩ := h
    refine ⟨_, pss_one (ps_ret (pe_cal L hr (pa_cons (pe_op op_add (pe_op op_mulW (pe_ix ix_tup (pv 0) pe_int (fun _ _ => rfl)) (pe_ix ix_tup (pv 1) pe_int (fun _ _ => rfl)))
        (pe_op op_mulW (pe_ix ix_tup (pv 1) pe_int (fun _ _ => rfl)) (pe_ix ix_tup (pv 0) pe_int (fun _ _ => rfl))))
      (pa_cons (pe_op op_mulW (pe_ix ix_tup (pv 0) pe_int (fun _ _ => rfl)) (pe_ix ix_tup (pv 1) pe_int (fun _ _ => rfl))) pa_nil)))), ?_⟩
    refine ⟨_, rfl, _, _, _, _, rfl, rfl, ha, rfl, _, rfl, _, _, _, _, rfl, rfl, hb, rfl, _, _, rfl, rfl, sz_mul zp.top (sz_den zq), ?_⟩
    refine ⟨_, rfl, _, _, _, _, rfl, rfl, hb, rfl, _, rfl, _, _, _, _, rfl, rfl, ha, rfl, _, _, rfl, rfl, sz_mul zq.top (sz_den zp), ?_⟩
    refine ⟨_, _, rfl, rfl, ?_⟩
    refine ⟨_, rfl, _, _, _, _, rfl, rfl, ha, rfl, _, rfl, _, _, _, _, rfl, rfl, hb, rfl, _, _, rfl, rfl, sz_mul (sz_den zp) (sz_den zq), ?_⟩
    refine ⟨_, _, rfl, dens_pos p q, sz_dens zp zq, fun c H' s' n => k c H' s' ?_⟩
    rw [ratOf_add] at n
    exact n
theorem has_times (D : At K mg "times_of" sTimes) (L : Has P w K mg base 1 "lowest_of" spLowest) : Has P w K mg base 2 "times_of" (spTwo K (· * ·)) := by
  refine D.has scTimes (fun vs H Q E h => ?_) (fun _ _ _ _ _ _ us hl => match us, hl with | [_, _], _ => rfl) (fun f cdv A outer s H vs Q E hr h => ?_)
  · obtain ⟨a, b, p, q, rfl, _⟩ := h
    rfl
  · obtain ⟨a, b, p, q, rfl, ha, hb, zp, zq, k⟩ := h
    refine ⟨_, pss_one (ps_ret (pe_cal L hr (pa_cons (pe_op op_mulW (pe_ix ix_tup (pv 0) pe_int (fun _ _ => rfl)) (pe_ix ix_tup (pv 1) pe_int (fun _ _ => rfl)))
      (pa_cons (pe_op op_mulW (pe_ix ix_tup (pv 0) pe_int (fun _ _ => rfl)) (pe_ix ix_tup (pv 1) pe_int (fun _ _ => rfl))) pa_nil)))), ?_⟩
    refine ⟨_, rfl, _, _, _, _, rfl, rfl, ha, rfl, _, rfl, _, _, _, _, rfl, rfl, hb, rfl, _, _, rfl, rfl, sz_mul zp.top zq.top, ?_⟩
    refine ⟨_, rfl, _, _, _, _, rfl, rfl, ha, rfl, _, rfl, _, _, _, _, rfl, rfl, hb, rfl, _, _, rfl, rfl, sz_mul (sz_den zp) (sz_den zq), ?_⟩
    refine ⟨_, _, rfl, dens_pos p q, sz_dens zp zq, fun c H' s' n => k c H' s' ?_⟩
    rw [ratOf_mul] at n
    exact n
end
end Rj
set_option Elab.async false
set_option linter.all false
set_option maxRecDepth 100000
set_option maxHeartbeats 4000000
/-! Own rules, first part: the sum of a tuple, a tuple backwards, len of an own instance, a class held by a local name. -/
namespace Rj
open PySem PySem.Spec PyProof.Rows L2
/-! ### sum of a tuple of ints -/
section
variable {prog : Program} {w : World} {A : Around} {E : Value → Shared → Prop} {s : Shared}
theorem sum_tup_raw {l : Addr} {its : List Value} {ns : List Int} {Q : Value → Shared → Prop} (hh : A.handled = none) (hl : IsTup s.heap l its.toArray) (hi : IntsAre its ns)
    (h : ∀ h' tk t', (∀ b o, s.heap.get? b = some o → h'.get? b = some o) → Q (.int ns.sum t') { s with heap := h', toks := tk }) : wpAny (model prog w) A (call (.builtin "sum") [.ref l]) Q E s := by
  obtain ⟨xs, e⟩ := hi.allInts.items
  have hn : numsOf (intItems xs).toList = ns := by rw [← e]; exact hi.numsOf
  rw [nums_intItems] at hn
  rw [e] at hl
  have hlt : l < s.heap.objs.size := hl.lt
  have hl0 : s.heap.IsTuple l (intItems xs) := hl
  refine call_sum_walkG (wpAny_pyIter_tuple hl0 ?_)
  refine ⟨s.heap.objs.size, [s.heap.objs.size, l], [s.heap.objs.size], _, _, _, numAt xs, rfl, Walks.tuple (A := A.in1) hh s.heap.objs.size l (Nat.ne_of_lt hlt) (intItems xs), ?_, ?_, (fun _ _ => intItems_at), fun h' tk t' hk => ?_⟩
  · refine ⟨⟨_, Heap.get?_push_size _ rfl, rfl, rfl⟩, ?_⟩
    obtain ⟨o, ho, hc, n, hd⟩ := hl
    exact ⟨o, Heap.get?_push_of_some _ ho, hc, n, hd⟩
  · intro b hb
    show b < (s.heap.push _).objs.size
    rw [Heap.size_push]
    rcases List.mem_cons.mp hb with q | q
    · rw [q]
      exact Nat.lt_succ_self _
    · have e9 : b = l := by simpa using q
      rw [e9]
      exact Nat.lt_succ_of_lt hlt
  · have z := h h' tk t' fun b o q => hk b o (fun m => by
      have e1 : b = s.heap.objs.size := by simpa using m
      rw [e1] at q
      exact absurd (Heap.lt_size q) (Nat.lt_irrefl _)) (Heap.get?_push_of_some _ q)
    have e2 : preSum (numAt xs) (intItems xs).size = ns.sum := by
      have e3 : (intItems xs).size = xs.size := by simp [intItems]
      rw [e3, preSum_eq, List.take_of_length_le (by simp), hn]
    rw [e2]
    exact z
end
def rSumT (K : PySem.W.Frag) : List V → Hp → VK → Prop := fun vs H Q => ∃ (a : Addr) (ns : List Int), vs = [V.ref a] ∧ SqT K H a (ns.map V.int) ∧ Q (.int ns.sum) H
section
variable {X : Cx}
theorem cr_sumT (hc : X.calm = true) : CallR X (.builtin "sum") (rSumT X.K) := by
  intro pins s σ H vs us Q I r h
  obtain ⟨a, ns, rfl, hs, q⟩ := h
  obtain ⟨its, rv, hl, _⟩ := I.tuple hs
  rw [Vals.ref1 r]
  exact sum_tup_raw (I.ok.hd hc) hl rv.ints fun h' tk t' hk => ⟨.int _, H, I.kept hk, ⟨_, rfl⟩, q⟩
end
/-! ### a tuple backwards -/
section
variable {prog : Program} {w : World} {A : Around} {E : Value → Shared → Prop} {s : Shared}
theorem adjust_back (n : Nat) : Builtin.Slice.sliceAdjust none none (-1) (n : Int) = ((n : Int) - 1, -1) := by
  have h1 : ((-1 : Int) < 0) := by decide
  unfold Builtin.Slice.sliceAdjust
  simp only [h1, if_true]
theorem places_back (n : Nat) : Builtin.Slice.slicePlaces ((n : Int) - 1) (-1) (-1) = n := by
  unfold Builtin.Slice.slicePlaces
  have h1 : ¬ ((-1 : Int) > 0) := by decide
  simp only [h1, if_false]
  split
  · have e : (- -1 : Int) = 1 := by decide
    rw [e, Int.ediv_one]
    omega
  · omega
theorem fm_congr {α β : Type} {f g : α → Option β} : ∀ {l : List α}, (∀ x ∈ l, f x = g x) → l.filterMap f = l.filterMap g
  | [], _ => rfl
  | a :: l, h => by
    rw [List.filterMap_cons, List.filterMap_cons, h a (List.mem_cons_self ..), fm_congr fun x hx => h x (List.mem_cons_of_mem _ hx)]
theorem pick_back (xs : Array Value) : ((List.range xs.size).filterMap fun (m : Nat) => xs[(((xs.size : Int) - 1) + (m : Int) * (-1)).toNat]?).toArray = xs.toList.reverse.toArray := by
  have e0 := PySem.W.krv_pick xs
  unfold slicePick at e0
  rw [PySem.W.krv_bounds] at e0
  have e1 : ((sliceRange ((xs.size : Int) - 1) (-1) (-1)).filterMap (xs[·]?)).toArray = xs.toList.reverse.toArray := e0
  rw [← e1, PySem.W.krv_sliceRange, List.filterMap_map]
  have e2 : (List.range xs.size).filterMap (fun (m : Nat) => xs[(((xs.size : Int) - 1) + (m : Int) * (-1)).toNat]?) = (List.range xs.size).filterMap ((fun k => xs[k]?) ∘ fun k => xs.size - 1 - k) := by
    refine fm_congr fun m hm => ?_
    have := List.mem_range.mp hm
    have e3 : (((xs.size : Int) - 1) + (m : Int) * (-1)).toNat = xs.size - 1 - m := by omega
    show xs[(((xs.size : Int) - 1) + (m : Int) * (-1)).toNat]? = xs[xs.size - 1 - m]?
    rw [e3]
  rw [e2]
theorem getItem_tuple_back {t sl : Addr} {items : Array Value} {vl vu vs : Value} {Q : Value → Shared → Prop} (ht : IsTup s.heap t items) (hs : s.heap.IsSliceOf sl vl vu vs) (pl : IsPart vl none) (pu : IsPart vu none) (ps : IsPart vs (some (-1)))
    (h : Q (.ref s.heap.objs.size) { s with heap := s.heap.push { cls := .type "tuple", data := .seq items.toList.reverse.toArray } }) (hsz : items.size ≤ sizeLine) : wpAny (model prog w) A (getItem (.ref t) (.ref sl)) Q E s := by
  have hz : sizeOk (.seq items.toList.reverse.toArray) := by
    show items.toList.reverse.toArray.size ≤ sizeLine
    rw [List.size_toArray, List.length_reverse, Array.length_toList]
    exact hsz
  obtain ⟨os, hos, hcs, hds⟩ := id hs
  have hTs : s.TypeIs (.ref sl) "slice" := ⟨os, hos, hcs⟩
  unfold getItem
  try with_reducible refine wpAny_holding ?_
  first | refine wpAny_bind (wpAny_pure ?_) | skip
  refine wpAny_bind (wpAny_sequenceKey ht.typeIs (by decide) ?_)
  refine wpAny_bind (wpAny_callSpecial?_slot (name := Str.ofString "__getitem__") ht.typeIs PyProof.Rows.slot_tuple_getitem
    (wpAny_call_entry PyProof.Rows.slot_tuple_getitem ht.typeIs PyProof.Rows.entry_tuple_getitem ?_ (PyProof.Rows.args_tuple_getitem _ _)))
  show wpAny _ _ (Builtin.Tuple.tupleItemsOf (.ref t) >>= _) _ _ s
  refine wpAny_bind (PyProof.Rows.tupleItemsOf_ ht ?_)
  refine wpAny_bind (wpAny_typeOf hTs ?_)
  rw [if_pos (by decide)]
  refine wpAny_bind ?_
  unfold Builtin.Slice.sliceApplied Builtin.Slice.sliceFields
  refine wpAny_bind (wpAny_bind (wpAny_field hos hds (x := vl) rfl (wpAny_bind (wpAny_field hos hds (x := vu) rfl (wpAny_bind (wpAny_field hos hds (x := vs) rfl (wpAny_pure ?_)))))))
  refine wpAny_bind (HT.slicePart_ ps ?_)
  show wpAny _ _ (if ((-1 : Int) == 0) = true then _ else _) _ _ s
  rw [if_neg (by decide)]
  refine wpAny_bind (HT.slicePart_ pl (wpAny_bind (HT.slicePart_ pu (wpAny_bind (wpAny_pure ?_)))))
  show wpAny _ _ (match Builtin.Slice.sliceAdjust none none (-1) (items.size : Int) with | (lo, hi) => pure (lo, (-1 : Int), Builtin.Slice.slicePlaces lo hi (-1))) _ _ s
  rw [adjust_back items.size]
  show wpAny _ _ (pure ((items.size : Int) - 1, (-1 : Int), Builtin.Slice.slicePlaces ((items.size : Int) - 1) (-1) (-1))) _ _ s
  rw [places_back]
  refine wpAny_pure ?_
  have hno : ¬ ((((items.size : Int) - 1) == 0 && (-1 : Int) == 1 && items.size == items.size) = true) := by
    intro q
    rw [Bool.and_eq_true, Bool.and_eq_true] at q
    exact absurd q.1.2 (by decide)
  show wpAny _ _ (if (((items.size : Int) - 1) == 0 && (-1 : Int) == 1 && items.size == items.size) = true then _ else _) _ _ s
  rw [if_neg hno, pick_back]
  first
    | exact wpAny_bind (m := Builtin.Tuple.tupleExact _) (wpAny_newObj_type (wpAny_pure ⟨_, rfl, wpAny_pure h⟩) hz)
    | exact wpAny_bind (m := Builtin.Tuple.tupleExact _) (wpAny_newObj_type (wpAny_bind (wpAny_pure (wpAny_pure ⟨_, rfl, wpAny_pure h⟩))) hz)
    | exact wpAny_bind (wpAny_bind (m := Builtin.Tuple.tupleExact _) (wpAny_newObj_type (wpAny_pure (wpAny_pure ⟨_, rfl, wpAny_pure h⟩)) hz))
    | exact wpAny_bind (wpAny_bind (m := Builtin.Tuple.tupleExact _) (wpAny_newObj_type (wpAny_pure ⟨_, rfl, wpAny_pure h⟩) hz))
end
def tRevT (K : PySem.W.Frag) (te : TE) : TE := fun σ H Q => te σ H fun x H1 => ∃ a xs, x = .ref a ∧ SqT K H1 a xs ∧ ∀ p, H1 p = none → Q (.ref p) (upd H1 p (.tup xs.reverse))
section
variable {X : Cx}
theorem pe_revT {e : Expr} {te : TE} {k : Nat} {p1 p2 p3 pos : Pos} (he : PE X e te) : PE X (.Subscript e (.Slice none none (some (.UnaryOp .USub (.Constant (.int 1) k p1) p2)) p3) pos) (tRevT X.K te) := by
  refine ⟨fun pins s σ H Q I h => ?_⟩
  refine Subscript_ (thn (he.run pins s σ H _ I h) fun v s1 ⟨x, H1, I1, r1, q1⟩ => ?_)
  obtain ⟨a, xs, ex, hx, q⟩ := q1
  subst ex
  cases r1
  have st : PO X (some (.UnaryOp .USub (.Constant (.int 1) k p1) p2)) (tPart (tUn (rU fun i => .int (-i)) (tC (.int 1)))) := po_some (pe_un un_neg pe_int)
  refine wpAny_Slice (thn (po_none.run pins s1 σ H1 (fun o H2 => o = none ∧ H2 = H1) I1 ⟨rfl, rfl⟩) fun vl s2 ⟨l, H2, I2, pl, el, e2⟩ => ?_)
  subst el e2
  refine thn (po_none.run pins s2 σ H2 (fun o H3 => o = none ∧ H3 = H2) I2 ⟨rfl, rfl⟩) fun vu s3 ⟨u, H3, I3, pu, eu, e3⟩ => ?_
  subst eu e3
  refine thn (st.run pins s3 σ H3 (fun o H4 => o = some (-1) ∧ H4 = H3) I3 ⟨1, rfl, -1, rfl, rfl, rfl⟩) fun vs s4 ⟨o, H4, I4, ps, eo, e4⟩ => ?_
  subst eo e4
  have I5 : Inv X pins σ H4 { s4 with heap := s4.heap.push { cls := .type "slice", data := .fields #[vl, vu, vs] } } := I4.kept (t' := s4.toks) fun b ob q => Heap.get?_push_of_some _ q
  obtain ⟨its, r, ht, hz⟩ := I5.tuple hx
  have hlen := r.length
  show wpAny (model X.prog X.w) X.A (subscriptTail e (.Slice none none (some (.UnaryOp .USub (.Constant (.int 1) k p1) p2)) p3) (.ref a) (.ref s4.heap.objs.size)) (EP X pins σ Q) X.xe { s4 with heap := s4.heap.push { cls := .type "slice", data := .fields #[vl, vu, vs] } }
  refine tail_any (ops := [.ref a, .ref s4.heap.objs.size]) ht.typeIs PyProof.Rows.slot_tuple_getitem.lookup ?_ (by with_unfolding_all rfl)
  refine getItem_tuple_back ht (Heap.IsSliceOf.new _ vl vu vs) pl pu ps ?_ (by rw [List.size_toArray]; omega)
  refine ⟨.ref _, _, I5.laid (t' := s4.toks) (o := .tup xs.reverse) (fun b ob q => Heap.get?_push_of_some _ q) (Nat.le_refl _) ?_, rfl, q _ (I5.hok.fresh (Nat.le_refl _))⟩
  exact ⟨by rw [List.length_reverse]; exact hz, _, r.reverse, ⟨_, Heap.get?_push_size _ rfl, rfl, _, rfl⟩⟩
end
/-! ### len of an instance with slots and an own __len__ -/
def rLenSl (C : Addr) (sp : Sp) : List V → Hp → VK → Prop := fun xs H Q => ∃ a dx vs, xs = [V.ref a] ∧ SlX.Slt H a C dx vs ∧ sp [.ref a] H (fun z H' => ∃ n : Nat, z = .int (n : Int) ∧ n < 2 ^ 63 ∧ Q z H') E0
section
variable {X : Cx} {C g : Addr} {k : Nat} {sp : Sp}
theorem call_lenSl (hs : PySem.W.findIn X.K (.ref C) "__len__" = some (some (.ref g))) (hf : PySem.W.isFn X.K (.ref g) = true) (F : FnR X.prog X.w X.K X.mg X.base CX0 k g sp) (hr : Room (k + 1) X.A) : CallR X (.builtin "len") (rLenSl C sp) := by
  intro pins s σ H xs us Q I r h
  obtain ⟨a, dx, vs, rfl, hsl, q⟩ := h
  obtain ⟨u, rfl, ru⟩ := r.one
  cases (show u = Value.ref a from ru)
  obtain ⟨sl, od, _, J, _⟩ := SlX.slt_inst I hsl
  obtain ⟨m, hF⟩ := I.fr
  refine PySem.W.len_K hF I.ok.mod.kin J hs hf (wpAny_mono (wpAny_call (SlX.run_at (us := [.ref a]) (ws := [.ref a]) F (Room.in1 hr) I.env0.in1 pass0 I (.cons rfl .nil) q)) (fun w s' z => ?_) fun _ _ x => x)
  obtain ⟨z', H', I', rz, n, ei, hn, qz⟩ := z
  subst ei
  obtain ⟨t, e⟩ := (show ∃ t, w = Value.int n t from rz)
  subst e
  exact ⟨⟨by omega, by exact_mod_cast hn⟩, .int n, H', I'.tok _, ⟨_, rfl⟩, qz⟩
end
/-! ### C(e, ..), C held by the local name in slot i -/
def tMakeL (i : Nat) (C : Addr) (sp : Sp) (t : TA) : TE := fun σ H Q => σ[i]? = some (some (.ref C)) ∧ t σ H fun vs H1 => ∀ x dx, H1 x = none → H1 dx = none → dx ≠ x →
  sp (.ref x :: vs) (upd (upd H1 dx (.own x)) x (.ins C dx [])) (fun v H2 => v = .non ∧ Q (.ref x) H2) E0
section
variable {X : Cx} {k i : Nat} {f C : Addr} {sp : Sp} {x : Str} {e : Expr} {es : List Expr} {t : TA} {p pos : Pos}
theorem pe_makeL (M : Mk X.K C f) (F : FnR X.prog X.w X.K X.mg X.base CX0 k f sp) (hr : Room (k + 1) X.A) (ha : PA X (e :: es) t) (hN : X.N[i]? = some x := by rfl) (hv : Vis X.env.scope x := by first | exact Or.inl rfl | exact Or.inr (Or.inl rfl))
    (hdb : (x == ("__debug__" : Str)) = false := by decide) (hcd : (x == ("__classdict__" : Str)) = false := by decide)
    (he : starEach (e :: es) X.env = (false, eval e X.env) :: starEach es X.env := by rfl) (hpl : (backTo pos (starEach es X.env)).any (·.1) = false := by rfl) : PE X (.Call (.Name x p) (e :: es) [] pos) (tMakeL i C sp t) := by
  refine ⟨fun pins s σ H Q I h => ?_⟩
  obtain ⟨hs, ht⟩ := h
  refine wpAny_Call_Name_kw (thn ((pe_var (pos := p) hN hv hdb hcd).run pins s σ H (fun v H1 => v = .ref C ∧ H1 = H) I ⟨.ref C, hs, rfl, rfl⟩) fun u s1 ⟨v, H1, I1, r1, q1⟩ => ?_)
  obtain ⟨rfl, rfl⟩ := q1
  cases r1
  refine PySem.W.callWith_K (h₀ := X.base) I.ok.mod.kin M.kp (thn (ha.run pos pins s1 σ _ _ I1 ht) fun us s2 ⟨vs, H2, I2, r, q⟩ => ⟨I2.kIn, ?_⟩) he hpl
  exact StX.run_makeR M F hr pass0 I2 r q
end
end Rj
set_option Elab.async false
set_option linter.all false
set_option maxRecDepth 100000
set_option maxHeartbeats 4000000
/-! Own rules, second part: rows sorted, out of a list, out of a dict. -/
namespace Rj
open PySem PySem.Spec PyProof.Rows L2 PySem.W
/-- the data that a row is -/
def encR (r : Row) : PyData := .tuple (r.map .int)
theorem reads_ints {h : Heap} : ∀ {ns : List Int} {us : List Value}, Vals (ns.map V.int) us → ReadsAll h us (ns.map .int) []
  | [], _, r => by
    cases r
    exact .nil
  | n :: ns, _, r => by
    cases r with
    | cons a b =>
      obtain ⟨t, rfl⟩ := a
      exact .cons (as := []) (bs := []) (.int n t) (reads_ints b)
theorem reads_row {h : Heap} {p : Addr} {r : Row} {its : List Value} (rv : Vals (r.map V.int) its) (ht : IsTup h p its.toArray) : Reads h (.ref p) (encR r) [] := by
  obtain ⟨o, ho, hc, n, hd⟩ := ht
  exact .tuple ho hc hd (by simpa using reads_ints rv)
theorem alike_rows (a b : Row) : alike (encR a) (encR b) = true := by
  unfold encR
  rw [alike]
  exact alike_ints a b
theorem depth_row (r : Row) : (encR r).depth ≤ 1 := by
  unfold encR
  rw [PyData.depth, depth_ints]
  exact Nat.le_refl _
theorem keyLt_gen (x y : Value) : keyLt' general' x y = oneLt' false x y := rfl
theorem each_rows {h : Heap} : ∀ {bs : List (Addr × Row)}, (∀ b ∈ bs, ∃ as, Reads h (.ref b.1) (encR b.2) as) → EachIs (fun v d => ∃ as, Reads h v d as) (bs.map fun b => Value.ref b.1) (bs.map fun b => encR b.2)
  | [], _ => .nil
  | b :: bs, h => .cons (h b (List.mem_cons_self ..)) (each_rows fun c hc => h c (List.mem_cons_of_mem _ hc))
section
variable {prog : Program} {w : World} {A : Around} {E : Value → Shared → Prop} {s : Shared}
/-- rows can be sorted: none is empty, or there is one at most -/
theorem sorts_rows {bs : List (Addr × Row)} (hr : ∀ b ∈ bs, ∃ as, Reads s.heap (.ref b.1) (encR b.2) as) (hne : (∀ b ∈ bs, b.2 ≠ []) ∨ bs.length ≤ 1) (hu : A.units + 2 < cLine) :
    SortsAt prog w A s (dataKind s.heap (bs.map fun b => encR b.2)) (bs.map fun b => Value.ref b.1) := by
  have hal : AllAlike (bs.map fun b => encR b.2) := by
    intro d hd d' hd'
    obtain ⟨b, _, rfl⟩ := List.mem_map.mp hd
    obtain ⟨b', _, rfl⟩ := List.mem_map.mp hd'
    exact alike_rows _ _
  have hdep : ∀ d ∈ bs.map (fun b => encR b.2), d.depth ≤ 1 := by
    intro d hd
    obtain ⟨b, _, rfl⟩ := List.mem_map.mp hd
    exact depth_row _
  rcases hne with hne | hone
  · refine SortsAt.data (each_rows hr) hal (.inl fun d hd => ?_) fun d hd => ?_
    · obtain ⟨b, hb, rfl⟩ := List.mem_map.mp hd
      have nb := hne b hb
      unfold encR
      cases e : b.2 with
      | nil => exact absurd e nb
      | cons x r => exact ⟨.int x, r.map .int, rfl⟩
    · have := hdep d hd
      omega
  · refine ⟨fun v hv => ?_, general', ?_, fun h2 => ?_⟩
    · obtain ⟨b, hb, rfl⟩ := List.mem_map.mp hv
      obtain ⟨as, r⟩ := hr b hb
      exact ⟨_, dataKind_some hal (List.mem_map.mpr ⟨b, hb, rfl⟩) r⟩
    · intro E x y a b Q ha hb hq
      obtain ⟨d, as, hd, ra, rfl⟩ := dataKind_inv ha
      obtain ⟨d', as', hd', rb, rfl⟩ := dataKind_inv hb
      rw [keyLt_gen]
      refine oneLt_alike (fun z => nomatch z) ra rb (hal d hd d' hd') (fun z => ?_) ?_ hq
      · obtain ⟨b, _, e⟩ := List.mem_map.mp hd
        rw [← e] at z
        unfold encR at z
        cases z
      · have := hdep d hd
        have := Nat.min_le_left d.depth d'.depth
        omega
    · rw [List.length_map] at h2
      omega
end
theorem sortVals_perm (κ : PyProof.Rows.KeyKind) (vs : List Value) : (sortVals κ false vs vs).Perm vs := by
  unfold sortVals
  have h := (List.mergeSort_perm (vs.zip vs) (sortLe κ.toKeyOrd false fun p : Keyed => keyD κ p.1)).map Prod.snd
  have e : ∀ l : List Value, (l.zip l).map Prod.snd = l := fun l => by
    induction l with
    | nil => rfl
    | cons a l ih => rw [List.zip_cons_cons, List.map_cons, ih]
  rw [e] at h
  exact h
theorem perm_map_of {α β : Type} (f : α → β) {l : List β} : ∀ {m : List α}, l.Perm (m.map f) → ∃ m' : List α, m'.Perm m ∧ l = m'.map f := by
  intro m h
  generalize he : m.map f = k at h
  induction h generalizing m with
  | nil => exact ⟨[], by rw [List.map_eq_nil_iff.mp he], rfl⟩
  | @cons x l1 l2 _ ih =>
    cases m with
    | nil => cases he
    | cons a m =>
      rw [List.map_cons] at he
      injection he with h1 h2
      obtain ⟨m', p, e⟩ := ih h2
      exact ⟨a :: m', p.cons a, by rw [List.map_cons, h1, e]⟩
  | swap x y l =>
    match m, he with
    | a :: b :: m, he =>
      rw [List.map_cons, List.map_cons] at he
      injection he with h1 h2
      injection h2 with h2 h3
      exact ⟨b :: a :: m, List.Perm.swap a b m, by rw [List.map_cons, List.map_cons, h1, h2, h3]⟩
  | trans _ _ ih1 ih2 =>
    obtain ⟨m2, p2, e2⟩ := ih2 he
    obtain ⟨m1, p1, e1⟩ := ih1 e2.symm
    exact ⟨m1, p1.trans p2, e1⟩
theorem refs_of : ∀ {bs : List (Addr × Row)} {us : List Value}, Vals (bs.map fun b => V.ref b.1) us → us = bs.map fun b => Value.ref b.1
  | [], _, r => by
    cases r
    rfl
  | b :: bs, _, r => by
    cases r with
    | cons x y =>
      cases x
      rw [refs_of y]
      rfl
theorem vals_of (bs : List (Addr × Row)) : Vals (bs.map fun b => V.ref b.1) (bs.map fun b => Value.ref b.1) := by
  induction bs with
  | nil => exact .nil
  | cons b bs ih => exact .cons rfl ih
section
variable {X : Cx} {pins : List (Addr × Obj)} {σ : L2.St} {H : Hp} {s : Shared}
theorem row_reads (I : Inv X pins σ H s) {p : Addr} {r : Row} (h : RowAt H p r) : ∃ as, Reads s.heap (.ref p) (encR r) as := by
  obtain ⟨_, its, rv, ht⟩ := (show ObjOk X.prog X.w H s.heap p (.tup (r.map V.int)) from I.hok p _ h)
  exact ⟨[], reads_row rv ht⟩
/-- what is read off objects that are no lists stays while a list is sorted -/
theorem reads_keep {h h' : Heap} {L p : Addr} {r : Row} (k : ∀ b o, b ≠ L → h.get? b = some o → h'.get? b = some o) (hL : ∀ o, h.get? L = some o → o.cls = .type "list") (x : ∃ as, Reads h (.ref p) (encR r) as) : ∃ as, Reads h' (.ref p) (encR r) as := by
  obtain ⟨as, x⟩ := x
  unfold encR at x ⊢
  cases x with
  | @tuple a o vs n xs _ h1 h2 h3 h4 =>
    have hp : p ≠ L := by
      rintro rfl
      have q := hL o h1
      rw [h2] at q
      injection q with q
      exact absurd q (by decide)
    refine ⟨as, .tuple (k p o hp h1) h2 h3 ?_⟩
    clear h1 h3
    generalize vs.toList = us at h4
    induction r generalizing us as with
    | nil =>
      cases h4
      exact .nil
    | cons x r ih =>
      have h4' : ReadsAll h us (PyData.int x :: r.map .int) as := h4
      cases h4' with
      | cons q1 q2 =>
        cases q1
        exact .cons (.int _ _) (ih _ _ q2)
end
def rSortR (K : PySem.W.Frag) : List V → Hp → VK → Prop := fun vs H Q => ∃ (a : Addr) (bs : List (Addr × Row)), vs = [V.ref a] ∧ SqL K H a (bs.map fun b => V.ref b.1) ∧ (∀ b ∈ bs, RowAt H b.1 b.2) ∧
  ((∀ b ∈ bs, b.2 ≠ []) ∨ bs.length ≤ 1) ∧ ∀ (bs' : List (Addr × Row)) (p : Addr), bs'.Perm bs → H p = none → Q (.ref p) (upd H p (.lst (bs'.map fun b => V.ref b.1)))
section
variable {X : Cx}
/-- sorted(rows) -/
theorem cr_sortR (hu : X.A.units + 8 < cLine) : CallR X (.builtin "sorted") (rSortR X.K) := by
  intro pins s σ H vs us Q I r h
  obtain ⟨a, bs, rfl, hs, hrow, hne, q⟩ := h
  obtain ⟨its, rv, pl, hz⟩ := I.list hs
  rw [Vals.ref1 r]
  have ei := refs_of rv
  subst ei
  have hl : s.heap.IsList a (bs.map fun b => Value.ref b.1).toArray := pl.isList
  rw [List.length_map] at hz
  have S : SortsAt X.prog X.w X.A.in1.in1 { s with heap := sortingHeap (copyHeap s.heap (bs.map fun b => Value.ref b.1)) (s.heap.objs.size + 1) (bs.map fun b => Value.ref b.1) }
      (dataKind (sortingHeap (copyHeap s.heap (bs.map fun b => Value.ref b.1)) (s.heap.objs.size + 1) (bs.map fun b => Value.ref b.1)) (bs.map fun b => encR b.2)) (bs.map fun b => Value.ref b.1) := by
    refine sorts_rows (s := { s with heap := sortingHeap (copyHeap s.heap (bs.map fun b => Value.ref b.1)) (s.heap.objs.size + 1) (bs.map fun b => Value.ref b.1) }) (fun b hb => ?_) hne (by show X.A.units + 1 + 1 + 2 < cLine; omega)
    obtain ⟨as, x⟩ := row_reads I (hrow b hb)
    exact ⟨as, PyProof.Rows.Reads.keeps (fun _ _ => sorting_copy_old) x⟩
  refine sorted_vals hl S (by rw [List.length_map]; exact hz) ?_
  obtain ⟨bs', hp, eo⟩ := perm_map_of (fun b : Addr × Row => Value.ref b.1) (sortVals_perm (dataKind (sortingHeap (copyHeap s.heap (bs.map fun b => Value.ref b.1)) (s.heap.objs.size + 1) (bs.map fun b => Value.ref b.1)) (bs.map fun b => encR b.2)) (bs.map fun b => Value.ref b.1))
  rw [eo]
  obtain ⟨c, hc⟩ := sortedAll_at s.heap (bs.map fun b => Value.ref b.1) (bs'.map fun b => Value.ref b.1).toArray
  refine ⟨.ref (s.heap.objs.size + 1), _, I.laid (t' := s.toks) (a := s.heap.objs.size + 1) (o := .lst (bs'.map fun b => V.ref b.1)) (fun b o e => sortedAll_old e) (Nat.le_succ _) ?_, rfl, q bs' _ hp (I.hok.fresh (Nat.le_succ _))⟩
  exact ⟨by rw [List.length_map, hp.length_eq]; exact hz, _, c, vals_of bs', hc⟩
/-- the keys of a dict, as rows -/
def rSortD : List V → Hp → VK → Prop := fun vs H Q => ∃ (d : Addr) (kvs : List (List Key × V)) (rs : List Row), vs = [V.ref d] ∧ Rd H d (.dT kvs) ∧ kvs.map (·.1) = rs.map KR ∧
  ((∀ r ∈ rs, r ≠ []) ∨ rs.length ≤ 1) ∧ ∀ (bs : List (Addr × Row)) (p : Addr), (bs.map (·.2)).Perm rs → (∀ b ∈ bs, RowAt H b.1 b.2) → H p = none → Q (.ref p) (upd H p (.lst (bs.map fun b => V.ref b.1)))
theorem keys_rows {H : Hp} : ∀ {kvs : List (List Key × V)} {ks : List (List Key × Addr × Value)} {rs : List Row}, KT H kvs ks → kvs.map (·.1) = rs.map KR →
    ∃ bs : List (Addr × Row), bs.map (·.2) = rs ∧ bs.map (·.1) = ks.map (fun x => x.2.1) ∧ ∀ b ∈ bs, RowAt H b.1 b.2
  | _, _, rs, .nil, e => by
    cases rs with
    | nil => exact ⟨[], rfl, rfl, fun b hb => by cases hb⟩
    | cons r rs => cases e
  | _, _, rs, .cons h t, e => by
    cases rs with
    | nil => cases e
    | cons r rs =>
      rw [List.map_cons, List.map_cons] at e
      injection e with e1 e2
      obtain ⟨bs, h1, h2, h3⟩ := keys_rows (rs := rs) t e2
      rename_i p q _ _
      refine ⟨(q.2.1, r) :: bs, by rw [List.map_cons, h1], by rw [List.map_cons, List.map_cons, h2], fun b hb => ?_⟩
      rcases List.mem_cons.mp hb with z | z
      · rw [z]
        have := h.2.1
        rw [e1, KR_kV] at this
        exact this
      · exact h3 b z
theorem cr_sortD (hc : X.calm = true) (hu : X.A.units + 8 < cLine) : CallR X (.builtin "sorted") rSortD := by
  intro pins s σ H xs us Q I r h
  obtain ⟨d, kvs, rs, rfl, hd, hks, hne, q⟩ := h
  obtain ⟨u, rfl, rx⟩ := r.one
  cases rx
  obtain ⟨z, hs, ks, pr, o, es, ep, ho, hx, hdt, he, hn⟩ := (show ObjOk X.prog X.w H s.heap d (.dT kvs) from hd.ok I.hok)
  have l1 : es.size = ks.length := size_of_entries he
  have l2 : kvs.length = ks.length := Paired.length pr
  obtain ⟨bs, b1, b2, b3⟩ := keys_rows pr hks
  have lb : bs.length = ks.length := by
    have := congrArg List.length b2
    rw [List.length_map, List.length_map] at this
    exact this
  refine Calls.call_function_entry PyProof.Rows.kind_sorted PyProof.Rows.plain_sorted PyProof.Rows.entry_sorted (PyProof.Rows.args_sorted1 _) ?_
  unfold Builtin.«sorted»
  refine wpAny_bind (m := checkCount "sorted" 1 1 _) (wpAny_pure ?_)
  refine wpAny_bind (PySem.W.kdu_collect (A := X.A.in1) (kdl_raw hs hx hdt) (I.ok.hd hc) ho (by omega) fun h' tk acc hk it => ?_)
  have ea : acc.toList = bs.map fun b => Value.ref b.1 := by
    have hl : acc.toList.length = ks.length := by rw [Array.length_toList, it.1]; exact l1
    have e0 : (bs.map fun b => Value.ref b.1) = (ks.map fun x => x.2.1).map Value.ref := by
      rw [← b2, List.map_map]
      rfl
    rw [e0, List.map_map]
    apply List.ext_getElem?
    intro j
    rw [List.getElem?_map]
    cases hj : acc.toList[j]? with
    | none =>
      have h1 := List.getElem?_eq_none_iff.mp hj
      rw [List.getElem?_eq_none (by omega)]
      rfl
    | some v =>
      obtain ⟨en, hen, hv⟩ := it.2 j v (by rw [← Array.getElem?_toList]; exact hj)
      have qe := entry_at he j
      rw [hen] at qe
      cases hb : ks[j]? with
      | none =>
        rw [hb] at qe
        exact nomatch (show some en = none from qe)
      | some b =>
        rw [hb] at qe
        have e2 : en = entryOfKey (tupleKind (mixKind X.prog X.w)) b := Option.some.inj qe
        rw [hv, e2]
        rfl
  have I1 : Inv X pins σ H { s with heap := h', toks := tk } := I.kept hk
  have hbl : bs.length ≤ sizeLine := by omega
  rw [ea]
  refine wpAny_bind (wpAny_newList ?_ (by rw [List.length_map]; exact hbl))
  have hoL : (h'.push (seqObj "list" (bs.map fun b => Value.ref b.1).toArray 0)).get? h'.objs.size = some (seqObj "list" (bs.map fun b => Value.ref b.1).toArray 0) := Heap.get?_push_size _ rfl
  show wpAny _ _ _ _ _ { s with heap := h'.push (seqObj "list" (bs.map fun b => Value.ref b.1).toArray 0), toks := tk }
  have S : SortsAt X.prog X.w X.A.in1.in1 { s with heap := sortingHeap (h'.push (seqObj "list" (bs.map fun b => Value.ref b.1).toArray 0)) h'.objs.size (bs.map fun b => Value.ref b.1), toks := tk }
      (dataKind (sortingHeap (h'.push (seqObj "list" (bs.map fun b => Value.ref b.1).toArray 0)) h'.objs.size (bs.map fun b => Value.ref b.1)) (bs.map fun b => encR b.2)) (bs.map fun b => Value.ref b.1) := by
    refine sorts_rows (s := { s with heap := sortingHeap (h'.push (seqObj "list" (bs.map fun b => Value.ref b.1).toArray 0)) h'.objs.size (bs.map fun b => Value.ref b.1), toks := tk }) (fun b hb => ?_) ?_ (by show X.A.units + 1 + 1 + 2 < cLine; omega)
    · have x : ∃ as, Reads h' (.ref b.1) (encR b.2) as := row_reads I1 (b3 b hb)
      refine reads_keep (L := h'.objs.size) (h := h'.push (seqObj "list" (bs.map fun b => Value.ref b.1).toArray 0)) (fun c o hc' e => sortingHeap_old hc' e) (fun o e => ?_) ?_
      · rw [hoL] at e
        rw [← Option.some.inj e]
      · obtain ⟨as, x⟩ := x
        exact ⟨as, PyProof.Rows.Reads.keeps (fun _ _ e => Heap.get?_push_of_some _ e) x⟩
    · rcases hne with hne | hone
      · exact .inl fun b hb => hne b.2 (by rw [← b1]; exact List.mem_map.mpr ⟨b, hb, rfl⟩)
      · exact .inr (by rw [← b1, List.length_map] at hone; exact hone)
  obtain ⟨bs', hp, eo⟩ := perm_map_of (fun b : Addr × Row => Value.ref b.1) (sortVals_perm (dataKind (sortingHeap (h'.push (seqObj "list" (bs.map fun b => Value.ref b.1).toArray 0)) h'.objs.size (bs.map fun b => Value.ref b.1)) (bs.map fun b => encR b.2)) (bs.map fun b => Value.ref b.1))
  refine wpAny_bind (wpAny_holding (wpAny_call_entry PyProof.Rows.slot_list_sort ⟨_, hoL, rfl⟩ PyProof.Rows.entry_list_sort
    (list_sort_vals (s := { s with heap := h'.push (seqObj "list" (bs.map fun b => Value.ref b.1).toArray 0), toks := tk }) hoL S (by rw [List.length_map]; exact hbl) ⟨_, rfl, ?_⟩) (PyProof.Rows.args_list_sort _)))
  rw [eo]
  obtain ⟨c, hc'⟩ := PyProof.Rows.sortedHeap_at (vs := bs.map fun b => Value.ref b.1) (out := (bs'.map fun b => Value.ref b.1).toArray) hoL
  refine wpAny_pure ⟨_, rfl, .ref h'.objs.size, upd H h'.objs.size (.lst (bs'.map fun b => V.ref b.1)), I1.laid (t' := tk) (fun b u e => ?_) (Nat.le_refl _) ?_, rfl, q bs' _ ?_ (fun b hb => b3 b (hp.mem_iff.mp hb)) (I1.hok.fresh (Nat.le_refl _))⟩
  · have hlt := Heap.lt_size e
    rw [PyProof.Rows.sortedHeap_old (Nat.ne_of_lt hlt) (by rw [Heap.size_push]; exact Nat.lt_succ_of_lt hlt)]
    exact Heap.get?_push_of_some _ e
  · exact ⟨by rw [List.length_map, hp.length_eq]; exact hbl, _, c, vals_of bs', hc'⟩
  · rw [← b1]
    exact hp.map _
end
end Rj
set_option Elab.async false
set_option linter.all false
set_option maxRecDepth 100000
set_option maxHeartbeats 4000000
/-! Own rules, third part: dicts whose keys are rows: walked by items, comprehended. -/
namespace Rj
open PySem PySem.Spec PyProof.Rows L2
/-! ### for k, v in d.items() -/
section
variable {X : Cx} {pins : List (Addr × Obj)} {σ : L2.St} {H : Hp} {s : Shared} {d : Addr} {o : Obj}
/-- a locked dict: its object, its entries -/
theorem frz_raw {kvs : List (List Key × V)} (I : Inv X pins σ H s) (h : H d = some (.frz o (.dT kvs))) :
    (d == sysModules) = false ∧ s.heap.get? d = some o ∧ o.ExactDict ∧ kvs.length ≤ sizeLine ∧ ∃ (es : Array DictEntry) (ep : Nat), o.data = .dict es ep ∧ es.size = kvs.length ∧ s.heap.DictRaw d es ep ∧
      ∀ (i : Nat) (k : List Key) (v : V), kvs[i]? = some (k, v) → ∃ (en : DictEntry) (q : Addr), es[i]? = some en ∧ en.key = .ref q ∧ H q = some (.tup (k.map kV)) ∧ RelV v en.val := by
  obtain ⟨hd, z, hs, xs, pr, o', es, ep, ho, hx, hdt, he, _⟩ := I.hok d _ h
  rw [hd] at ho
  cases ho
  have l1 : es.size = xs.length := size_of_entries he
  have l2 : kvs.length = xs.length := Paired.length pr
  refine ⟨hs, hd, hx, z, es, ep, hdt, by omega, ⟨o, hd, hx, hdt⟩, fun i k v e => ?_⟩
  obtain ⟨b, hb, e1, e2, e3⟩ := paired_get pr e
  have q := entry_at he i
  rw [hb] at q
  exact ⟨_, b.2.1, q, rfl, e2, e3⟩
end
/-- the pairs of the locked dict at d, each a new tuple of the key's own tuple and the value -/
def Itit (d : Addr) (o : Obj) (kvs : List (List Key × V)) : It :=
  ⟨fun i H => H d = some (.frz o (.dT kvs)) ∧ i < kvs.length,
   fun i H x H' => ∃ T k v q, kvs[i]? = some (k, v) ∧ x = .ref T ∧ H T = none ∧ H q = some (.tup (k.map kV)) ∧ H' = upd H T (.tup [.ref q, v]),
   fun i H => H d = some (.frz o (.dT kvs)) ∧ kvs.length ≤ i⟩
section
variable {P : Program} {w : World} {K : PySem.W.Frag} {d : Addr} {o : Obj} {es : Array DictEntry} {ep : Nat}
theorem turn_itemsT {kvs : List (List Key × V)} {elts : List Expr} {kk : Nat} {tpos : Pos} (it : Addr) (hod : o.data = .dict es ep) :
    Turn P w K (.Tuple elts kk tpos) (Itit d o kvs) [it] it (fun i h => ∃ ok ov, IsItemIter h it d i kvs.length ep ok ov) where
  mem := by simp
  obj := fun i h st b hb => by
    have e : b = it := by simpa using hb
    subst e
    obtain ⟨ok, ov, e⟩ := st
    exact ⟨_, e, fun v z => nomatch z⟩
  keep := fun i h h' st k => let ⟨ok, ov, e⟩ := st; ⟨ok, ov, k it (by simp) _ e⟩
  item := by
    intro X hP hw hK hc i pins s σ H E I hf st hg
    subst hP hw hK
    obtain ⟨hd, hi⟩ := hg
    obtain ⟨hs, hgd, hx, _, es', ep', hdt, hsz, raw, ent⟩ := frz_raw I hd
    obtain ⟨rfl, rfl⟩ := dict_ep hod hdt
    obtain ⟨⟨k, v⟩, hkv⟩ : ∃ p, kvs[i]? = some p := ⟨kvs[i], List.getElem?_eq_getElem hi⟩
    obtain ⟨en, q, hen, hkey, hq, hrel⟩ := ent i k v hkv
    obtain ⟨ok, ov, he⟩ := st
    rw [← hsz] at he
    have hlt : it < s.heap.objs.size := Heap.lt_size he
    have hil : i < es'.size := by rw [hsz]; exact hi
    have hen' : es'[i] = en := by
      rw [Array.getElem?_eq_getElem hil] at hen
      exact Option.some.inj hen
    refine wpAny_pyNext_items_item_raw he raw hil fun h' ho hT hz hk => ?_
    refine ⟨_, rfl, wpAny_letOwnedTupleGo_items (s := { s with heap := h' }) ho fun h'' he' sb => ?_⟩
    have hT2 : h''.get? s.heap.objs.size = some { cls := .type "tuple", data := .seq #[es'[i].key, es'[i].val] } := (sb.2 _ (Nat.ne_of_gt hlt)).trans hT
    rw [hen', hkey] at hT2
    have new : ObjOk X.prog X.w (upd H s.heap.objs.size (.tup [.ref q, v])) h'' s.heap.objs.size (.tup [.ref q, v]) :=
      ⟨by show 2 ≤ sizeLine; decide, [.ref q, en.val], .cons rfl (.cons hrel .nil), ⟨_, hT2, rfl, _, rfl⟩⟩
    have I1 : Inv X pins σ (upd H s.heap.objs.size (.tup [.ref q, v])) { s with heap := h'' } :=
      I.turnedNew (t' := s.toks) (ch := [it]) (fun b ob hb e => (sb.2 b (by simpa using hb)).trans (hk b ob (by simpa using hb) e)) hf (Nat.le_refl _) new
    refine ⟨.ref s.heap.objs.size, _, I1, rfl, ⟨_, k, v, q, hkv, rfl, I.hok.fresh (Nat.le_refl _), hq, rfl⟩, ⟨es'[i].key, es'[i].val, ?_⟩, fun b hb => ?_⟩
    · rw [← hsz]
      exact he'
    · have e : b = it := by simpa using hb
      rw [e, upd_ne (Nat.ne_of_lt hlt)]
      exact (hf it (by simp)).1
  done := by
    intro X hP hw hK hc i pins s σ H E I hf st hg
    subst hP hw hK
    obtain ⟨hd, hi⟩ := hg
    obtain ⟨f0, f1, f2, f3, f4, f5⟩ := hf it (by simp)
    obtain ⟨hs, hgd, hx, _, es', ep', hdt, hsz, raw, ent⟩ := frz_raw I hd
    obtain ⟨rfl, rfl⟩ := dict_ep hod hdt
    obtain ⟨ok, ov, he⟩ := st
    rw [← hsz] at he
    exact wpAny_pyNext_items_end_raw (I.ok.hd hc) he raw (by rw [hsz]; exact hi) fun h' eb => ⟨rfl, I.turned (t' := s.toks) (fun b ob hb e => eb b ob hb e) f0 f1 f3 f4 f5⟩
  self := fun A i s Q E st h => let ⟨_, _, e⟩ := st; PySem.W.kcp_self e h
end
theorem raw_noDict {s : Shared} {d : Addr} {es : Array DictEntry} {ep : Nat} (m : s.heap.DictRaw d es ep) : ∀ a, Value.ref d = .ref a → ∃ ob, s.heap.get? a = some ob ∧ ob.dict = none := fun a e => by
  injection e with e
  subst e
  obtain ⟨o, ho, hx, _⟩ := m
  exact ⟨o, ho, hx.2.1⟩
/-- d is locked already -/
def iItemsT (td : TE) : TI := fun σ H R => td σ H fun x H1 => ∃ d o kvs, x = .ref d ∧ H1 d = some (.frz o (.dT kvs)) ∧ R (Itit d o kvs) H1
/-- d is locked from here on -/
def iItemsN (td : TE) : TI := fun σ H R => td σ H fun x H1 => ∃ d kvs, x = .ref d ∧ H1 d = some (.dT kvs) ∧ ∀ o, R (Itit d o kvs) (upd H1 d (.frz o (.dT kvs)))
section
variable {X : Cx} {e : Expr} {td : TE} {apos cpos : Pos} {elts : List Expr} {kk : Nat} {tpos : Pos}
theorem items_go {pins : List (Addr × Obj)} {σ : L2.St} {H1 : Hp} {s1 : Shared} {R : It → Hp → Prop} {d : Addr} {o : Obj} {kvs : List (List Key × V)} (I1 : Inv X pins σ H1 s1) (hd : H1 d = some (.frz o (.dT kvs))) (q : R (Itit d o kvs) H1) :
    s1.TypeIs (.ref d) "dict" ∧ (∀ a, Value.ref d = .ref a → ∃ ob, s1.heap.get? a = some ob ∧ ob.dict = none) ∧
      wpAny (model X.prog X.w) X.A (callWith cpos (.builtin "dict.items") [.ref d] [] []) (fun v s => wpAny (model X.prog X.w) X.A (pyIter v) (PIE X pins σ (.Tuple elts kk tpos) R) X.xe s) X.xe s1 := by
  obtain ⟨hs, hgd, hx, _, es, ep, hdt, hsz, raw, ent⟩ := frz_raw I1 hd
  refine ⟨raw.typeIs, raw_noDict raw, ?_⟩
  have I2 : Inv X pins σ H1 { s1 with heap := s1.heap.push { cls := .type "dict_items", data := .fields #[.ref d] } } := I1.kept (t' := s1.toks) fun b ob q => Heap.get?_push_of_some _ q
  have raw2 : (s1.heap.push { cls := .type "dict_items", data := .fields #[.ref d] }).DictRaw d es ep := raw.at fun ob q => Heap.get?_push_of_some _ q
  have fin : wpAny (model X.prog X.w) X.A (pyIter (.ref s1.heap.objs.size)) (PIE X pins σ (.Tuple elts kk tpos) R) X.xe { s1 with heap := s1.heap.push { cls := .type "dict_items", data := .fields #[.ref d] } } := by
    refine wpAny_pyIter_items_raw (d := d) ⟨_, Heap.get?_push_size _ rfl, rfl, rfl⟩ raw2 (pi_one (tk := s1.toks) I2 _ (turn_itemsT _ hdt) ⟨.none, .none, ?_⟩ q)
    rw [← hsz]
    exact Heap.get?_push_size _ rfl
  exact method_meetsIn F.slot_dict_items F.entry_dict_items rfl (PySem.evalArgs_none ⟨rfl, raw.typeIs, F.args_dict_items_1 _, _, meets_dict_items_raw d hs, ⟨es, ep, raw⟩, fin⟩)
theorem pi_itemsT (he : PE X e td) (hbase : attributeBase e "items" X.env (eval e X.env) = eval e X.env := by rfl) (hline : (apos.endLine == cpos.line) = true := by rfl) :
    PI X (.Tuple elts kk tpos) (.Call (.Attribute e "items" apos) [] [] cpos) (iItemsT td) := by
  refine ⟨fun pins s σ H R I h => ?_⟩
  refine wpAny_Call_method (T := "dict") (id := "dict.items") hbase rfl hline F.plainAttrs_dict F.slot_dict_items F.type_dict_items (thn (he.run pins s σ H _ I h) fun u s1 ⟨x, H1, I1, rx, d, o, kvs, ex, hd, q⟩ => ?_)
  subst ex
  obtain rfl : u = Value.ref d := rx
  exact items_go I1 hd q
theorem pi_itemsN (he : PE X e td) (hbase : attributeBase e "items" X.env (eval e X.env) = eval e X.env := by rfl) (hline : (apos.endLine == cpos.line) = true := by rfl) :
    PI X (.Tuple elts kk tpos) (.Call (.Attribute e "items" apos) [] [] cpos) (iItemsN td) := by
  refine ⟨fun pins s σ H R I h => ?_⟩
  refine wpAny_Call_method (T := "dict") (id := "dict.items") hbase rfl hline F.plainAttrs_dict F.slot_dict_items F.type_dict_items (thn (he.run pins s σ H _ I h) fun u s1 ⟨x, H1, I1, rx, d, kvs, ex, hd, q⟩ => ?_)
  subst ex
  obtain rfl : u = Value.ref d := rx
  obtain ⟨od, I2⟩ := I1.lock hd True.intro
  exact items_go I2 upd_same (q od)
end
/-! ### {k: v for target in iter if ..}, keys rows -/
theorem set_row {X : Cx} {pins : List (Addr × Obj)} {σ : L2.St} {H : Hp} {s : Shared} {E : Value → Shared → Prop} {D b : Addr} {kvs : List (List Key × V)} {k : List Key} {v : V} {r : Value} {Q : Unit → Shared → Prop} (hu : X.A.units < cLine) (I : Inv X pins σ H s)
    (hD : H D = some (.dT kvs)) (hb : H b = some (.tup (k.map kV))) (hz : kvs.length < sizeLine) (rv : RelV v r) (h : ∀ s', Inv X pins σ (upd H D (.dT (putK kvs k v))) s' → Q () s') : wpAny (model X.prog X.w) X.A (dictSet D (.ref b) r) Q E s := by
  obtain ⟨z, hd, xs, rel, dd⟩ := dt_of I.hok hD
  have hzv : xs.length ≤ sizeLine := by rw [← Paired.length rel]; exact z
  have hl : (putK kvs k v).length ≤ sizeLine := by have := length_putK kvs k v; omega
  refine wpAny_dictSet_heap (hsz := hzv) hu (key_of I.hok hb) dd fun h' dd' hs => h _ ?_
  obtain ⟨q, es, ep, hq, h2, h3, h4, _, h5⟩ := dd'
  refine d_write I (by rw [hD]; exact True.intro) hs ⟨q, hq⟩ ⟨hl, hd, _, (rel.put k hb rv).keeps fun c ys ec => ?_, q, es, ep, hq, h2, h3, h4, h5⟩
  rw [upd_ne (ne_of ec hD (fun z => nomatch z))]
  exact ec
/-- D the new dict -/
def tDcT (wi : TI) (g : TG) (tt : TT) (tk tv : TE) (vs : List Nat) : TE := fun σ H Q => wi σ H fun J H1 => ∀ D, H1 D = none → ∃ W : Nat → Nat → Hp → Prop, (∃ m, W 0 m (upd H1 D (.dT []))) ∧ ∀ i m H, W i m H →
  (J.stop i H ∧ Q (.ref D) H) ∨ (J.go i H ∧ ∃ Nx : Hp → Prop, (∀ H', Nx H' → ∃ m', m' < m ∧ W (i + 1) m' H') ∧ ∀ x H', J.yld i H x H' → g x (wipe σ vs) H' fun σ2 H2 => wipe σ2 vs = wipe σ vs ∧ tt σ2 H2 fun b H3 =>
    if b = true then tk σ2 H3 fun y H4 => tv σ2 H4 fun z H5 => ∃ kvs k p, y = .ref p ∧ H5 p = some (.tup (k.map kV)) ∧ H5 D = some (.dT kvs) ∧ kvs.length < sizeLine ∧ Nx (upd H5 D (.dT (putK kvs k z))) else Nx H3)
section
variable {X : Cx}
theorem dcT_run {pins : List (Addr × Obj)} {s : Shared} {σ : L2.St} {H : Hp} {Q : VK} {kx vx tg iter : Expr} {ifs : List Expr} {scope : Scope} {own : List (Str × Nat)} {pos pos' : Pos} {wi : TI} {g : TG} {tt : TT} {tk tv : TE} {use : Option (Value → Sem Unit)} {Qf : Value → Shared → Prop}
    (hu : X.A.units < cLine) (hc : X.calm = true) (hN : X.N.Nodup) (I : Inv X pins σ H s) (hi : PI X tg iter wi) (ok : BlkOk X.N X.env.scope scope own)
    (hg : ∀ (s : Shared) (H : Hp) (C : Addr) (cl : List (Str × Addr)) (fp : List Addr), PG (X.blk s H scope (compEnvC scope cl C X.env) fp) tg g) (ht : ∀ (s : Shared) (H : Hp) (C : Addr) (cl : List (Str × Addr)) (fp : List Addr), PTs (X.blk s H scope (compEnvC scope cl C X.env) fp) ifs tt)
    (hk : ∀ (s : Shared) (H : Hp) (C : Addr) (cl : List (Str × Addr)) (fp : List Addr), PE (X.blk s H scope (compEnvC scope cl C X.env) fp) kx tk)
    (he : ∀ (s : Shared) (H : Hp) (C : Addr) (cl : List (Str × Addr)) (fp : List Addr), PE (X.blk s H scope (compEnvC scope cl C X.env) fp) vx tv) (hs : ∀ x, foldedSetIterable iter X.env x = pure x)
    (h : tDcT wi g tt tk tv (own.map (·.2)) σ H Q)
    (fin : ∀ D C s' m H', Inv X pins σ H' s' → Q (.ref D) H' → s'.heap.Ns C m → FpOk X pins H' C → compPost (model X.prog X.w) X.A X.xe use Qf (.ref D) C (.ok .next) s') :
    wpAny (model X.prog X.w) X.A (comprehension (.DictComp kx vx [⟨tg, iter, ifs, 0⟩] scope pos) scope X.env pos' newDict false (eval iter X.env) use) Qf X.xe s := by
  have captured : ∀ y ∈ scope.names, y.2 = .free → ∃ c, X.env.cells.lookup y.1 = some c := fun y hy e => by
    rcases ok.free y hy e with z | z
    · exact I.ok.has _ (.inl z)
    · exact I.ok.has _ (.inr z)
  refine wpAny_comprehension_free (use := use) rfl hs (closure_ok captured) ok.kind (fun y hy e => by rw [ok.uniq y hy, e])
    (thn (hi.run pins s σ H _ I h) fun xv s1 hx => thn hx fun itv s2 h2 => ?_)
  obtain ⟨it, fp, tn, J, H2, e, I2, T, st2, f2, q⟩ := h2
  subst e
  refine wpAny_newObj_type (newEnv_comp ?_)
  generalize hD : s2.heap.objs.size = D
  have newD : H2 D = none := I2.hok.fresh (Nat.le_of_eq hD)
  obtain ⟨W, ⟨m0, w0⟩, turn⟩ := q D newD
  generalize es3 : ({ s2 with heap := s2.heap.push { cls := .type "dict", data := .dict #[] } } : Shared) = s3
  have I3 : Inv X pins σ (upd H2 D (.dT [])) s3 := by
    rw [← es3]
    refine I2.laid (t' := s2.toks) (fun b o e => Heap.get?_push_of_some _ e) (Nat.le_of_eq hD) ?_
    rw [← hD]
    exact dt_empty s2.heap I2.big
  have h3 : s3.heap = s2.heap.push { cls := .type "dict", data := .dict #[] } := by rw [← es3]
  have low : ∀ b ∈ fp, b < s2.heap.objs.size := fun b hb => by
    obtain ⟨o, e, _⟩ := T.obj _ _ st2 b hb
    exact Heap.lt_size e
  have f3 : ∀ b ∈ fp, FpOk X pins (upd H2 D (.dT [])) b ∧ b < s3.heap.objs.size := fun b hb => by
    have hlt := low b hb
    refine ⟨⟨?_, (f2 b hb).2⟩, by rw [h3, Heap.size_push]; exact Nat.lt_succ_of_lt hlt⟩
    rw [upd_ne (by rw [← hD]; exact Nat.ne_of_lt hlt)]
    exact (f2 b hb).1
  have st3 : tn 0 s3.heap := T.keep _ _ _ st2 fun b _ o e => by rw [h3]; exact Heap.get?_push_of_some _ e
  have I4 := block_start I3 ok hN f3
  have pg := hg s3 (upd H2 D (.dT [])) s3.heap.objs.size (cellsFrom (s3.heap.objs.size + 1) scope.names (cloFrom X.env.cells scope.names [])) fp
  have pt := ht s3 (upd H2 D (.dT [])) s3.heap.objs.size (cellsFrom (s3.heap.objs.size + 1) scope.names (cloFrom X.env.cells scope.names [])) fp
  have pk := hk s3 (upd H2 D (.dT [])) s3.heap.objs.size (cellsFrom (s3.heap.objs.size + 1) scope.names (cloFrom X.env.cells scope.names [])) fp
  have pv := he s3 (upd H2 D (.dT [])) s3.heap.objs.size (cellsFrom (s3.heap.objs.size + 1) scope.names (cloFrom X.env.cells scope.names [])) fp
  show codeAny _ _ (.compStart (.DictComp kx vx [⟨tg, iter, ifs, 0⟩] scope pos) 0 (.ref it) (.ref D) (compEnvC scope (cellsFrom (s3.heap.objs.size + 1) scope.names (cloFrom X.env.cells scope.names [])) s3.heap.objs.size X.env)) (compPost (model X.prog X.w) X.A X.xe use Qf (.ref D) s3.heap.objs.size) { s3 with heap := pushCells (s3.heap.push { cls := .type "dict", data := .dict #[] }) scope.names }
  have nfp : ∀ b ∈ fp, (upd H2 D (.dT [])) b = none := fun b hb => (f3 b hb).1.1
  generalize ece : compEnvC scope (cellsFrom (s3.heap.objs.size + 1) scope.names (cloFrom X.env.cells scope.names [])) s3.heap.objs.size X.env = ce at I4 pg pt pk pv ⊢
  have cL : ce.locals = s3.heap.objs.size := by subst ece; rfl
  generalize eH3 : upd H2 D (.dT []) = H3 at I3 I4 pg pt pk pv w0 nfp f3
  generalize es4 : ({ s3 with heap := pushCells (s3.heap.push { cls := .type "dict", data := .dict #[] }) scope.names } : Shared) = s4 at I4 ⊢
  have st4 : tn 0 s4.heap := T.keep _ _ _ st3 fun b _ o e => by rw [← es4]; exact pushCells_keeps _ _ _ _ (Heap.get?_push_of_some _ e)
  have still : ∀ {σ' : L2.St} {H' : Hp} {s' : Shared}, Inv (X.blk s3 H3 scope ce fp) [] σ' H' s' → (∀ b ∈ fp, H' b = none) → ∀ b ∈ fp, FpOk (X.blk s3 H3 scope ce fp) [] H' b := fun {σ' H' s'} I' hn b hb =>
    ⟨hn b hb, (I'.ok.exf b hb).1, I'.ok.exfs b hb, .inl hb, fun x c e => (I'.ok.exf b hb).2 x c e, fun p hp => absurd (show p ∈ ([] : List (Addr × Obj)) ++ [] from hp) (by simp)⟩
  have loop : codeAny (model X.prog X.w) X.A (.compLoop (.DictComp kx vx [⟨tg, iter, ifs, 0⟩] scope pos) 0 (.ref it) (.ref D) ce) (compPost (model X.prog X.w) X.A X.xe use Qf (.ref D) s3.heap.objs.size) s4 := by
    refine compLoop_anyD (fun n s' => ∃ i H', Inv (X.blk s3 H3 scope ce fp) [] (wipe σ (own.map (·.2))) H' s' ∧ tn i s'.heap ∧ (∀ b ∈ fp, H' b = none) ∧ W i n H') ?_ m0 ⟨0, H3, I4, st4, nfp, w0⟩
    rintro n s5 ⟨i, H5, I5, st5, n5, w5⟩
    rcases turn i n H5 w5 with ⟨stop, qq⟩ | ⟨go, Nx, hNx, step⟩
    · have td := T.done (X.blk s3 H3 scope ce fp) rfl rfl rfl hc i [] s5 _ H5 (fun _ _ => False) I5 (still I5 n5) st5 stop
      refine thnF td fun r s6 ⟨hr, I6⟩ => ?_
      subst hr
      have I7 : Inv X pins σ H5 s6 := I3.call' (ch := fp) I6.os I6.base I6.hok I6.bare fun b hb => ⟨(f3 b hb).1.2.2.2.1, (f3 b hb).1.2.1, (f3 b hb).1.2.2.2.2.1, (f3 b hb).1.2.2.2.2.2⟩
      have nC : H5 s3.heap.objs.size = none := by
        have z : H5 ce.locals = none := I6.free
        rw [cL] at z
        exact z
      obtain ⟨m, hn, _⟩ := I6.loc
      have hn : s6.heap.Ns ce.locals m := hn
      rw [cL] at hn
      exact fin D s3.heap.objs.size s6 m H5 I7 qq hn (I3.fpOk (Nat.le_refl _) nC)
    · have ti := T.item (X.blk s3 H3 scope ce fp) rfl rfl rfl hc i [] s5 _ H5 (fun _ _ => False) I5 (still I5 n5) st5 go
      refine thnF ti fun r s6 ⟨u, hr, h6⟩ => ?_
      subst hr
      refine thnF h6 fun _ s7 ⟨x, H7, I7, r7, y7, st7, n7⟩ => ?_
      have I7' := I7.pinned (still I7 n7) (T.obj _ _ st7)
      refine thnF (pg.run _ s7 _ H7 x u _ I7' r7 (step x H7 y7)) fun _ s8 ⟨σ8, H8, I8, hw8, q8⟩ => ?_
      refine thnF (pt.run _ s8 σ8 H8 _ I8 q8) fun b s9 ⟨H9, I9, q9⟩ => ?_
      have again : ∀ {s' : Shared} {H' : Hp}, Inv (X.blk s3 H3 scope ce fp) ([] ++ pinsAt fp s7.heap) σ8 H' s' → Nx H' → ∃ m, m < n ∧ ∃ i H', Inv (X.blk s3 H3 scope ce fp) [] (wipe σ (own.map (·.2))) H' s' ∧ tn i s'.heap ∧ (∀ b ∈ fp, H' b = none) ∧ W i m H' := fun {s' H'} I' nx => by
        obtain ⟨m', hm, w'⟩ := hNx H' nx
        have pin' : ∀ b ∈ fp, ∀ o, s7.heap.get? b = some o → s'.heap.get? b = some o ∧ H' b = none := fun b hb o e =>
          let z := I'.pin (b, o) (List.mem_append_right _ (List.mem_append_right _ (mem_pinsAt hb e)))
          ⟨z.1, z.2.1⟩
        have hl : (wipe σ (own.map (·.2))).length = σ8.length := by rw [← hw8, wipe_length]
        refine ⟨m', hm, i + 1, H', (I'.unpinned (pins := [])).weak hl (fun j v e => ?_), T.keep _ _ _ st7 fun b hb o e => (pin' b hb o e).1, fun b hb => ?_, w'⟩
        · rw [← hw8] at e
          exact (wipe_some e).1
        · obtain ⟨o, e, _⟩ := T.obj _ _ st7 b hb
          exact (pin' b hb o e).2
      cases b with
      | false =>
        simp only [Bool.false_eq_true, if_false] at q9 ⊢
        exact again I9 q9
      | true =>
        simp only [if_true] at q9 ⊢
        refine thnF (pk.run _ s9 σ8 H9 _ I9 q9) fun z s10 ⟨yk, H10, I10, r10, q10⟩ => ?_
        refine thnF (pv.run _ s10 σ8 H10 _ I10 q10) fun z2 s11 ⟨yv, H11, I11, r11, kvs, k, p, ek, hp, hD11, hz11, nx⟩ => ?_
        subst ek
        cases (show z = Value.ref p from r10)
        exact set_row (X := X.blk s3 H3 scope ce fp) hu I11 hD11 hp hz11 r11 fun s12 I12 => again I12 nx
  exact codeAny_compStart_dict loop (T.self X.A 0 _ _ _ st4 loop)
theorem pe_dcT {kx vx tg iter : Expr} {ifs : List Expr} {scope : Scope} {own : List (Str × Nat)} {pos : Pos} {wi : TI} {g : TG} {tt : TT} {tk tv : TE} (hu : X.A.units < cLine) (hc : X.calm = true) (hN : X.N.Nodup) (hi : PI X tg iter wi) (ok : BlkOk X.N X.env.scope scope own)
    (hg : ∀ (s : Shared) (H : Hp) (C : Addr) (cl : List (Str × Addr)) (fp : List Addr), PG (X.blk s H scope (compEnvC scope cl C X.env) fp) tg g) (ht : ∀ (s : Shared) (H : Hp) (C : Addr) (cl : List (Str × Addr)) (fp : List Addr), PTs (X.blk s H scope (compEnvC scope cl C X.env) fp) ifs tt)
    (hk : ∀ (s : Shared) (H : Hp) (C : Addr) (cl : List (Str × Addr)) (fp : List Addr), PE (X.blk s H scope (compEnvC scope cl C X.env) fp) kx tk)
    (he : ∀ (s : Shared) (H : Hp) (C : Addr) (cl : List (Str × Addr)) (fp : List Addr), PE (X.blk s H scope (compEnvC scope cl C X.env) fp) vx tv) (hs : ∀ x, foldedSetIterable iter X.env x = pure x := by intro _; rfl) :
    PE X (.DictComp kx vx [⟨tg, iter, ifs, 0⟩] scope pos) (tDcT wi g tt tk tv (own.map (·.2))) := by
  refine ⟨fun pins s σ H Q I h => ?_⟩
  rw [arm_eval_DictComp]
  refine dcT_run hu hc hN I hi ok hg ht hk he hs h fun D C s' m H' I' q hn f => ⟨m, hn, fun h'' sb => ?_⟩
  obtain ⟨f0, f1, f2, f3, f4, f5⟩ := f
  exact ⟨.ref D, H', I'.turned (t' := s'.toks) (fun b o hb e => (sb.2 b hb).trans e) f0 f1 f3 f4 f5, rfl, q⟩
end
/-- over a tuple, a list that stays -/
theorem dcT_tup {K : PySem.W.Frag} {a : Addr} {xs : List V} {g : TG} {tt : TT} {tk tv : TE} {vs : List Nat} {σ : L2.St} {H1 : Hp} {D : Addr} {Qd : Hp → Prop} (Pv : Nat → Hp → Prop) (h0 : Pv 0 (upd H1 D (.dT []))) (hl : ∀ i H, i ≤ xs.length → Pv i H → SqT K H a xs)
    (hs : ∀ i x H, xs[i]? = some x → Pv i H → g x (wipe σ vs) H fun σ2 H2 => wipe σ2 vs = wipe σ vs ∧ tt σ2 H2 fun b H3 =>
      if b = true then tk σ2 H3 fun y H4 => tv σ2 H4 fun z H5 => ∃ kvs k p, y = .ref p ∧ H5 p = some (.tup (k.map kV)) ∧ H5 D = some (.dT kvs) ∧ kvs.length < sizeLine ∧ Pv (i + 1) (upd H5 D (.dT (putK kvs k z))) else Pv (i + 1) H3) (hd : ∀ H, Pv xs.length H → Qd H) :
    ∃ W : Nat → Nat → Hp → Prop, (∃ m, W 0 m (upd H1 D (.dT []))) ∧ ∀ i m H, W i m H →
      ((Itt K a).stop i H ∧ Qd H) ∨ ((Itt K a).go i H ∧ ∃ Nx : Hp → Prop, (∀ H', Nx H' → ∃ m', m' < m ∧ W (i + 1) m' H') ∧ ∀ x H', (Itt K a).yld i H x H' → g x (wipe σ vs) H' fun σ2 H2 => wipe σ2 vs = wipe σ vs ∧ tt σ2 H2 fun b H3 =>
        if b = true then tk σ2 H3 fun y H4 => tv σ2 H4 fun z H5 => ∃ kvs k p, y = .ref p ∧ H5 p = some (.tup (k.map kV)) ∧ H5 D = some (.dT kvs) ∧ kvs.length < sizeLine ∧ Nx (upd H5 D (.dT (putK kvs k z))) else Nx H3) := by
  refine ⟨fun i m H => m = xs.length - i ∧ i ≤ xs.length ∧ Pv i H, ⟨xs.length, by simp, Nat.zero_le _, h0⟩, ?_⟩
  rintro i m H ⟨rfl, hi, p⟩
  have q := hl i H hi p
  by_cases hlt : i < xs.length
  · refine .inr ⟨⟨xs, xs[i], q, by simp [hlt]⟩, Pv (i + 1), fun H' p' => ⟨xs.length - (i + 1), by omega, rfl, hlt, p'⟩, fun x H' y => ?_⟩
    obtain ⟨e, y⟩ := y
    subst e
    exact hs i x _ (y xs q) p
  · have e : i = xs.length := by omega
    subst e
    exact .inl ⟨⟨xs, q, Nat.le_refl _⟩, hd H p⟩
theorem dcT_list {K : PySem.W.Frag} {a : Addr} {xs : List V} {g : TG} {tt : TT} {tk tv : TE} {vs : List Nat} {σ : L2.St} {H1 : Hp} {D : Addr} {Qd : Hp → Prop} (Pv : Nat → Hp → Prop) (h0 : Pv 0 (upd H1 D (.dT []))) (hl : ∀ i H, i ≤ xs.length → Pv i H → SqL K H a xs)
    (hs : ∀ i x H, xs[i]? = some x → Pv i H → g x (wipe σ vs) H fun σ2 H2 => wipe σ2 vs = wipe σ vs ∧ tt σ2 H2 fun b H3 =>
      if b = true then tk σ2 H3 fun y H4 => tv σ2 H4 fun z H5 => ∃ kvs k p, y = .ref p ∧ H5 p = some (.tup (k.map kV)) ∧ H5 D = some (.dT kvs) ∧ kvs.length < sizeLine ∧ Pv (i + 1) (upd H5 D (.dT (putK kvs k z))) else Pv (i + 1) H3) (hd : ∀ H, Pv xs.length H → Qd H) :
    ∃ W : Nat → Nat → Hp → Prop, (∃ m, W 0 m (upd H1 D (.dT []))) ∧ ∀ i m H, W i m H →
      ((Itl K a).stop i H ∧ Qd H) ∨ ((Itl K a).go i H ∧ ∃ Nx : Hp → Prop, (∀ H', Nx H' → ∃ m', m' < m ∧ W (i + 1) m' H') ∧ ∀ x H', (Itl K a).yld i H x H' → g x (wipe σ vs) H' fun σ2 H2 => wipe σ2 vs = wipe σ vs ∧ tt σ2 H2 fun b H3 =>
        if b = true then tk σ2 H3 fun y H4 => tv σ2 H4 fun z H5 => ∃ kvs k p, y = .ref p ∧ H5 p = some (.tup (k.map kV)) ∧ H5 D = some (.dT kvs) ∧ kvs.length < sizeLine ∧ Nx (upd H5 D (.dT (putK kvs k z))) else Nx H3) := by
  refine ⟨fun i m H => m = xs.length - i ∧ i ≤ xs.length ∧ Pv i H, ⟨xs.length, by simp, Nat.zero_le _, h0⟩, ?_⟩
  rintro i m H ⟨rfl, hi, p⟩
  have q := hl i H hi p
  by_cases hlt : i < xs.length
  · refine .inr ⟨⟨xs, xs[i], q, by simp [hlt]⟩, Pv (i + 1), fun H' p' => ⟨xs.length - (i + 1), by omega, rfl, hlt, p'⟩, fun x H' y => ?_⟩
    obtain ⟨e, y⟩ := y
    subst e
    exact hs i x _ (y xs q) p
  · have e : i = xs.length := by omega
    subst e
    exact .inl ⟨⟨xs, q, Nat.le_refl _⟩, hd H p⟩
end Rj
set_option Elab.async false
set_option linter.all false
set_option maxRecDepth 100000
set_option maxHeartbeats 4000000
/-! Own rules, fourth part: dict(d), dict(pairs), list(d.items()), keys rows. -/
namespace Rj
open PySem PySem.Spec PyProof.Rows L2 PySem.W
/-- no two keys hash alike -/
def Apart (P : Program) (w : World) (kvs : List (List Key × V)) : Prop := (kvs.map fun p => (tupleKind (mixKind P w)).hash p.1).Nodup
def rDictDT (P : Program) (w : World) : List V → Hp → VK → Prop := fun xs H Q => ∃ d kvs, xs = [V.ref d] ∧ Rd H d (.dT kvs) ∧ Apart P w kvs ∧ ∀ p, H p = none → Q (.ref p) (upd H p (.dT kvs))
theorem KT.hashes {P : Program} {w : World} {H : Hp} {kvs : List (List Key × V)} {xs : List (List Key × Addr × Value)} (r : KT H kvs xs) : (xs.map fun x => (tupleKind (mixKind P w)).hash x.1) = kvs.map fun p => (tupleKind (mixKind P w)).hash p.1 := by
  induction r with
  | nil => rfl
  | cons h t ih => rw [List.map_cons, List.map_cons, ih, h.1]
theorem rd_new {H : Hp} {d p : Addr} {u v : HO} (hn : H p = none) (h : Rd H d u) : Rd (upd H p v) d u := by
  rcases h with h | ⟨o, h⟩
  · exact .inl (by rw [upd_ne (ne_of_none h hn)]; exact h)
  · exact .inr ⟨o, by rw [upd_ne (ne_of_none h hn)]; exact h⟩
theorem rd_ne {H : Hp} {d p : Addr} {u : HO} (hn : H p = none) (h : Rd H d u) : p ≠ d := by
  rintro rfl
  rcases h with h | ⟨o, h⟩ <;> · rw [hn] at h; cases h
section
variable {X : Cx}
theorem cr_dictDT (hu : X.A.units + 4 < cLine) : CallR X (.type "dict") (rDictDT X.prog X.w) := by
  intro pins s σ H xs us Q I r h
  obtain ⟨d, kvs, rfl, hd, hap, q⟩ := h
  obtain ⟨u, rfl, ru⟩ := r.one
  cases ru
  generalize hp : s.heap.objs.size = p
  have pn : H p = none := I.hok.fresh (Nat.le_of_eq hp)
  have I1 : Inv X pins σ (upd H p (.dT [])) { s with heap := s.heap.push { cls := .type "dict", data := .dict #[] } } := by
    refine I.laid (t' := s.toks) (fun b o e => Heap.get?_push_of_some _ e) (Nat.le_of_eq hp) ?_
    rw [← hp]
    exact dt_empty s.heap I.big
  obtain ⟨z, hs, ys, rel, dd⟩ := dt_rd I1.hok (rd_new pn hd)
  obtain ⟨_, _, zs, rel0, dn⟩ := dt_rd I1.hok (show Rd (upd H p (.dT [])) p (.dT []) from .inl upd_same)
  cases rel0
  refine callType_codes (Q₁ := fun obj s₁ => obj = .ref p ∧ s₁ = { s with heap := s.heap.push { cls := .type "dict", data := .dict #[] } }) F.kt_called_dict (F.kt_typeCall_dict_1 _) F.entry_dict_init (kt_code_dict_new _ ⟨by rw [hp], rfl⟩) ?_
  rintro obj s₁ ⟨rfl, rfl⟩
  have hT : Shared.TypeIs { s with heap := s.heap.push { cls := .type "dict", data := .dict #[] } } (.ref p) "dict" := ⟨_, by rw [← hp]; exact Heap.get?_push_size _ rfl, rfl⟩
  refine ⟨hT, F.args_dict_init_2 _ _, ?_⟩
  unfold Builtin.«dict.__init__»
  refine wpAny_bind ?_
  unfold Builtin.Dict.selfAndRest
  refine wpAny_bind (wpAny_notOrdered_dict hT ?_)
  show wpAny _ _ (pure (p, [Value.ref d])) _ _ _
  refine wpAny_pure ?_
  show wpAny _ _ (Builtin.Dict.updateFrom "dict.__init__" p (.ref d) [] .none) _ _ _
  refine updateFrom_dictH (A := X.A.in1) (knd := tupleKind (mixKind X.prog X.w)) (kvs := []) (more := ys) .none (tupleKind_room_in1 (by show X.A.units + 1 + 1 < cLine; omega)) (rd_ne pn hd) hs dn dd
    (.inr ⟨keyed_apart tupleKind_stays dd, by rw [KT.hashes rel]; exact hap⟩) (by rw [List.length_nil, Nat.zero_add, ← Paired.length rel]; exact z) fun h' dp dd' sb => ?_
  rw [storedAllH_nil_of_nodup ys dd.nodup] at dp
  obtain ⟨o, es, ep, h1, h2, h3, h4, _, h5⟩ := dp
  have J : Inv X pins σ (upd H p (.dT kvs)) { s with heap := h' } := by
    refine I.laid (t' := s.toks) (fun b o e => ?_) (Nat.le_of_eq hp) ?_
    · rw [sb.2 b (by rw [← hp]; exact Nat.ne_of_lt (Heap.lt_size e))]
      exact Heap.get?_push_of_some _ e
    · refine ⟨z, beq_eq_false_iff_ne.mpr (by rw [← hp]; exact Nat.ne_of_gt I.big), ys, rel.keeps fun b vs e => ?_, o, es, ep, h1, h2, h3, h4, h5⟩
      by_cases eb : b = p
      · rw [eb, upd_same] at e
        cases e
      · rw [upd_ne eb] at e ⊢
        exact e
  exact ⟨rfl, .ref p, upd H p (.dT kvs), J, rfl, q p pn⟩
end
/-- the pairs put one by one -/
def putsK (kvs ps : List (List Key × V)) : List (List Key × V) := ps.foldl (fun acc p => putK acc p.1 p.2) kvs
theorem putsK_len (ps : List (List Key × V)) : ∀ kvs : List (List Key × V), (putsK kvs ps).length ≤ kvs.length + ps.length := by
  induction ps with
  | nil => intro kvs; exact Nat.le_refl _
  | cons p ps ih =>
    intro kvs
    have h := ih (putK kvs p.1 p.2)
    have := length_putK kvs p.1 p.2
    show (putsK (putK kvs p.1 p.2) ps).length ≤ kvs.length + (ps.length + 1)
    omega
theorem KT.puts {H : Hp} {kvs : List (List Key × V)} {xs : List (List Key × Addr × Value)} (r : KT H kvs xs) {ps : List (List Key × V)} {ys : List (List Key × Addr × Value)} (t : KT H ps ys) : KT H (putsK kvs ps) (storedAllH xs ys) := by
  induction t generalizing kvs xs with
  | nil => exact r
  | @cons p q ps qs h t ih =>
    obtain ⟨h1, h2, h3⟩ := h
    have k := KT.put r p.1 h2 h3
    show KT H (putsK (putK kvs p.1 p.2) ps) (storedAllH (storedH xs q.1 q.2.1 q.2.2) qs)
    rw [h1] at k ⊢
    exact ih k
theorem KT.is {P : Program} {w : World} {H : Hp} {h : Heap} {kvs : List (List Key × V)} {xs : List (List Key × Addr × Value)} (ok : HOk P w H h) (r : KT H kvs xs) : ∀ x ∈ xs, (tupleKind (mixKind P w)).is h x.1 x.2.1 := by
  induction r with
  | nil => intro x hx; cases hx
  | @cons p q ps qs hq t ih =>
    intro x hx
    rcases List.mem_cons.mp hx with e | hx
    · subst e
      exact key_of ok (by rw [← hq.1]; exact hq.2.1)
    · exact ih x hx
def rDictPT (K : PySem.W.Frag) : List V → Hp → VK → Prop := fun xs H Q => ∃ (a : Addr) (ps : List Addr) (kvs : List (List Key × V)), xs = [V.ref a] ∧ SqL K H a (ps.map V.ref) ∧
  Paired (fun p (kv : List Key × V) => ∃ b, SqT K H p [.ref b, kv.2] ∧ H b = some (.tup (kv.1.map kV))) ps kvs ∧ ∀ p, H p = none → Q (.ref p) (upd H p (.dT (putsK [] kvs)))
section
variable {X : Cx}
theorem pairs_in {pins : List (Addr × Obj)} {σ : L2.St} {H : Hp} {s : Shared} (I : Inv X pins σ H s) : ∀ {ps : List Addr} {kvs : List (List Key × V)}, Paired (fun p (kv : List Key × V) => ∃ b, SqT X.K H p [.ref b, kv.2] ∧ H b = some (.tup (kv.1.map kV))) ps kvs →
    ∃ xs : List (List Key × Addr × Value), KT H kvs xs ∧ xs.length = ps.length ∧ ∀ (j : Nat) (x : List Key × Addr × Value), xs[j]? = some x → ∃ b, ps[j]? = some b ∧ IsTup s.heap b #[.ref x.2.1, x.2.2]
  | _, _, .nil => ⟨[], .nil, rfl, fun j q e => by simp at e⟩
  | _, _, .cons (a := p) (b := kv) h t => by
    obtain ⟨xs, r, hl, hp⟩ := pairs_in I t
    obtain ⟨c, h1, h2⟩ := h
    obtain ⟨its, rv, ht, _⟩ := I.tuple h1
    obtain ⟨u, y, ei, ru, ry⟩ := vals2 rv
    subst ei
    cases (show u = Value.ref c from ru)
    refine ⟨(kv.1, c, y) :: xs, .cons ⟨rfl, h2, ry⟩ r, by rw [List.length_cons, List.length_cons, hl], fun j q e => ?_⟩
    cases j with
    | zero =>
      have e' : (kv.1, c, y) = q := Option.some.inj e
      subst e'
      exact ⟨p, rfl, ht⟩
    | succ j =>
      obtain ⟨b, e1, e2⟩ := hp j q (by simpa using e)
      exact ⟨b, by simpa using e1, e2⟩
theorem cr_dictPT (hc : X.calm = true) (hu : X.A.units + 4 < cLine) : CallR X (.type "dict") (rDictPT X.K) := by
  intro pins s σ H xs us Q I r h
  obtain ⟨a, ps, kvs, rfl, hs, hp, q⟩ := h
  obtain ⟨u, rfl, ru⟩ := r.one
  cases ru
  obtain ⟨its, rv, pl, hz⟩ := I.list hs
  have ei := refs_at rv
  subst ei
  rw [List.length_map] at hz
  obtain ⟨ys, rel, hl, hpr⟩ := pairs_in I hp
  let vs : List (Value × Value) := ys.map fun x => (Value.ref x.2.1, x.2.2)
  have PA := PairArg.list (prog := X.prog) (w := X.w) a (ps.map Value.ref).toArray (fun j => ps.getD j 0) vs
  have lv : vs.length = ys.length := List.length_map ..
  have items : PairItems s.heap (ps.map Value.ref).toArray (fun j => ps.getD j 0) vs := by
    refine ⟨by rw [List.size_toArray, List.length_map, lv, hl], fun j k v hj => ?_⟩
    have hj' : (ys.map fun x => (Value.ref x.2.1, x.2.2))[j]? = some (k, v) := hj
    rw [List.getElem?_map] at hj'
    obtain ⟨x, hx, ex⟩ := Option.map_eq_some_iff.mp hj'
    obtain ⟨b, hb, ht⟩ := hpr j x hx
    injection ex with e1 e2
    subst e1 e2
    have eb : ps.getD j 0 = b := by rw [List.getD_eq_getElem?_getD, hb]; rfl
    refine ⟨?_, ?_⟩
    · rw [List.getElem?_toArray, List.getElem?_map, hb]
      show some (Value.ref b) = some (Value.ref (ps.getD j 0))
      rw [eb]
    · show PairAt s.heap (ps.getD j 0) _ _
      rw [eb]
      obtain ⟨o, ho, hc', n, hd'⟩ := ht
      exact .inl ⟨o, ho, hc', n, hd'⟩
  have have_ : PairsHaveH (tupleKind (mixKind X.prog X.w)) vs.length (PairRel vs) ys := by
    refine ⟨lv.symm, fun i key v hr => ?_⟩
    have hr' : (ys.map fun x => (Value.ref x.2.1, x.2.2))[i]? = some (key, v) := hr
    rw [List.getElem?_map] at hr'
    obtain ⟨x, hx, ex⟩ := Option.map_eq_some_iff.mp hr'
    injection ex with e1 e2
    subst e1 e2
    exact ⟨x.1, x.2.1, hx, rfl⟩
  have pseq : PlainSeq "list" s.heap a (ps.map Value.ref).toArray := by
    obtain ⟨o, n, ho, hc1, hd1, hdat⟩ := pl
    exact ⟨o, n, ho, hc1, hd1, hdat⟩
  refine call_dict_pairsH PA (I.ok.hd hc) (tupleKind_room_in1 (by show X.A.units + 1 + 1 < cLine; omega)) ⟨pseq, items⟩ have_ (fun h' hk x hx => ?_) (by rw [lv, hl]; exact hz) fun h' tk dp hk => ?_
  · exact tupleKind_stays.stays (fun b o vs n e hd => hk b o (Nat.ne_of_lt (Heap.lt_size e)) (by simp) e) (KT.is I.hok rel x hx)
  · obtain ⟨o, es, ep, h1, h2, h3, h4, _, h5⟩ := dp
    have pn : H s.heap.objs.size = none := I.hok.fresh (Nat.le_refl _)
    refine ⟨.ref s.heap.objs.size, upd H s.heap.objs.size (.dT (putsK [] kvs)), I.laid (t' := tk) (fun b o e => hk b o (by simp) e) (Nat.le_refl _) ?_, rfl, q _ pn⟩
    refine ⟨?_, beq_eq_false_iff_ne.mpr (Nat.ne_of_gt I.big), _, (KT.puts .nil rel).keeps fun b ys e => ?_, o, es, ep, h1, h2, h3, h4, h5⟩
    · have := putsK_len kvs []
      have e := Paired.length rel
      rw [List.length_nil] at this
      omega
    · rw [upd_ne (ne_of_none e pn)]
      exact e
end
end Rj
set_option Elab.async false
set_option linter.all false
set_option maxRecDepth 100000
set_option maxHeartbeats 4000000
/-! Own rules, fifth part: == and != of dicts from rows to ratios, of lists that hold such dicts. -/
namespace Rj
open PySem PySem.Spec PyProof.Rows L2 PySem.W
section
variable {prog : Program} {w : World} {K : Type} [DecidableEq K] {knd : HeapKind prog w K} {A : Around} {E : Value → Shared → Prop} {s : Shared}
/-- two such dicts hold the same -/
theorem same_pairs {nm : String} {a b : Addr} {xa xb : List (K × Addr × Value)} {Q : Bool → Shared → Prop} (hu : knd.room A) (ya : (a == sysModules) = false) (yb : (b == sysModules) = false) (da : s.heap.DictOfH knd a xa) (db : s.heap.DictOfH knd b xb)
    (hl : xa.length = xb.length) (hits : ∀ x ∈ xa, ∃ y, atKey xb x.1 = some y ∧ SeqAt.EqP prog w A s x.2.2 y.2 true) (h : Q true s) : wpAny (model prog w) A (Builtin.Dict.samePairs nm a b) Q E s := by
  obtain ⟨oa, es, ep, hoa, _, hda, hea, hia, _⟩ := da
  obtain ⟨ob, es', ep', hob, _, hdb, heb, hib, hnb⟩ := db
  have la : es.size = xa.length := size_of_entries hea
  have lb : es'.size = xb.length := size_of_entries heb
  unfold Builtin.Dict.samePairs Builtin.Dict.showsAll
  rw [if_neg (show ¬ (a == sysModules) = true by rw [ya]; exact Bool.false_ne_true), if_neg (show ¬ (b == sysModules) = true by rw [yb]; exact Bool.false_ne_true)]
  refine wpAny_bind (wpAny_pure (wpAny_bind (wpAny_pure ?_)))
  refine wpAny_bind (wpAny_dictEntries hoa hda ?_)
  dsimp only
  refine wpAny_bind (wpAny_dictEntries hob hdb ?_)
  have hsz : es.size = es'.size := by omega
  rw [if_neg (by rw [hsz]; simp)]
  refine wpAny_bind (wpAny_dictEpoch hoa hda ?_)
  refine wpAny_bind ?_
  rw [Std.Legacy.Range.forIn_eq_forIn_range']
  simp only [Std.Legacy.Range.size, Nat.sub_zero, Nat.add_sub_cancel, Nat.div_one]
  refine wpAny_forIn_list _ (fun rest q s' => s' = s ∧ q = (none, ()) ∧ ∃ i, rest = List.range' i (es.size - i) ∧ i ≤ es.size) _ ?_ ?_ _ _ ⟨rfl, rfl, 0, by simp, Nat.zero_le _⟩
  · rintro x rest q s' ⟨rfl, rfl, i, hr, hi⟩
    have hlt : i < es.size := by
      rcases Nat.lt_or_ge i es.size with h | h
      · exact h
      · rw [Nat.sub_eq_zero_of_le h] at hr; simp at hr
    obtain ⟨rfl, hrest⟩ : x = i ∧ rest = List.range' (i + 1) (es.size - (i + 1)) := by
      have e : es.size - i = (es.size - (i + 1)) + 1 := by omega
      rw [e, List.range'_succ] at hr
      injection hr with h1 h2
      exact ⟨h1, h2⟩
    refine wpAny_bind (wpAny_dictEntries hoa hda ?_)
    obtain ⟨⟨k, c, v⟩, hkv⟩ : ∃ y, xa[x]? = some y := ⟨xa[x]'(by rw [← la]; exact hlt), List.getElem?_eq_getElem _⟩
    rw [entry_at hea x, hkv]
    have mem := List.mem_of_getElem? hkv
    show wpAny _ _ (holding [Value.ref c, v] _ >>= _) _ _ _
    obtain ⟨⟨c2, v2⟩, hy, heq⟩ := hits _ mem
    refine wpAny_bind (wpAny_holding (wpAny_bind (wpAny_dictFind_heap hu (hia _ mem) hob hdb heb hib hnb (fun hno => ?_) (fun j p hj => ?_))))
    · exact absurd (atKey_none_of_get hno) (by rw [hy]; exact fun z => nomatch z)
    · have ep : p = (c2, v2) := Option.some.inj ((atKey_of_get hnb hj).symm.trans hy)
      subst ep
      refine wpAny_bind (wpAny_dictEntries hob hdb ?_)
      rw [entry_at heb j, hj]
      refine wpAny_holding (heq _ _ ?_)
      show wpAny _ _ (if (!true) = true then _ else _) _ _ _
      rw [if_neg (by decide)]
      refine wpAny_bind (wpAny_dictEpoch hoa hda ?_)
      rw [if_neg (by simp)]
      exact wpAny_pure ⟨rfl, rfl, x + 1, hrest, hlt⟩
  · rintro q s' ⟨rfl, rfl, i, hr, hi⟩
    exact wpAny_pure h
theorem rich_eqT {a b : Addr} {xa xb : List (K × Addr × Value)} {Q : Value → Shared → Prop} (hu : knd.room A.in1) (hr : A.units < cLine) (ya : (a == sysModules) = false) (yb : (b == sysModules) = false) (da : s.heap.DictOfH knd a xa) (db : s.heap.DictOfH knd b xb)
    (hl : xa.length = xb.length) (hits : ∀ x ∈ xa, ∃ y, atKey xb x.1 = some y ∧ SeqAt.EqP prog w A.in1 s x.2.2 y.2 true) (h : Q (.bool true) s) : wpAny (model prog w) A (richCompare .Eq (.ref a) (.ref b)) Q E s := by
  refine wpAny_richCompare_same_room (op := .Eq) da.typeIs db.typeIs PySem.F.slot_dict_eq (wpAny_call_entry PySem.F.slot_dict_eq da.typeIs PySem.F.entry_dict_eq ?_ (PySem.F.args_dict_eq_2 _ _)) hr
  show wpAny _ _ (Builtin.Dict.dictSlotArgs "__eq__" ⟨[.ref a, .ref b], []⟩ >>= _) _ _ s
  refine wpAny_bind ?_
  unfold Builtin.Dict.dictSlotArgs
  refine wpAny_bind (wpAny_notOrdered_dict da.typeIs ?_)
  show wpAny _ _ (pure (Value.ref a, Value.ref b)) _ _ s
  refine wpAny_pure ?_
  refine wpAny_bind (wpAny_isInstance (T := "dict") db.typeIs PySem.F.sub_dict_dict ?_)
  simp only [Bool.not_true, Bool.false_eq_true, if_false]
  refine wpAny_bind (wpAny_pure (wpAny_bind (wpAny_pure ?_)))
  refine wpAny_bind (same_pairs hu ya yb da db hl hits ?_)
  refine wpAny_pure ⟨_, rfl, ?_, ?_⟩
  · exact fun x => nomatch x
  · simpa using h
theorem rich_neT {a b : Addr} {xa xb : List (K × Addr × Value)} {Q : Value → Shared → Prop} (hu : knd.room A.in1) (hr : A.units < cLine) (ya : (a == sysModules) = false) (yb : (b == sysModules) = false) (da : s.heap.DictOfH knd a xa) (db : s.heap.DictOfH knd b xb)
    (hl : xa.length = xb.length) (hits : ∀ x ∈ xa, ∃ y, atKey xb x.1 = some y ∧ SeqAt.EqP prog w A.in1 s x.2.2 y.2 true) (h : Q (.bool false) s) : wpAny (model prog w) A (richCompare .NotEq (.ref a) (.ref b)) Q E s := by
  refine wpAny_richCompare_same_room (op := .NotEq) da.typeIs db.typeIs PySem.F.slot_dict_ne (wpAny_call_entry PySem.F.slot_dict_ne da.typeIs PySem.F.entry_dict_ne ?_ (PySem.F.args_dict_ne_2 _ _)) hr
  show wpAny _ _ (Builtin.Dict.dictSlotArgs "__ne__" ⟨[.ref a, .ref b], []⟩ >>= _) _ _ s
  refine wpAny_bind ?_
  unfold Builtin.Dict.dictSlotArgs
  refine wpAny_bind (wpAny_notOrdered_dict da.typeIs ?_)
  show wpAny _ _ (pure (Value.ref a, Value.ref b)) _ _ s
  refine wpAny_pure ?_
  refine wpAny_bind (wpAny_isInstance (T := "dict") db.typeIs PySem.F.sub_dict_dict ?_)
  simp only [Bool.not_true, Bool.false_eq_true, if_false]
  refine wpAny_bind (wpAny_pure (wpAny_bind (wpAny_pure ?_)))
  refine wpAny_bind (same_pairs hu ya yb da db hl hits ?_)
  refine wpAny_pure ⟨_, rfl, ?_, ?_⟩
  · exact fun x => nomatch x
  · simpa using h
end
section
variable {X : Cx} {pins : List (Addr × Obj)} {σ : L2.St} {H : Hp} {s : Shared}
theorem rat_eq {A : Around} (I : Inv X pins σ H s) (hu : A.in1.units + 64 < cLine) {p p' : Addr} {q : Rat} (h : RatAt X.K H p q) (h' : RatAt X.K H p' q) : SeqAt.EqP X.prog X.w A.in1 s (.ref p) (.ref p') true := by
  obtain ⟨us, r1, t1, _⟩ := I.tuple h
  obtain ⟨ws, r2, t2, _⟩ := I.tuple h'
  have x := keq_at (A := A) (reads_row (r := [q.num, (q.den : Int)]) r1 t1) (reads_row (r := [q.num, (q.den : Int)]) r2 t2) rfl rfl hu
  have e : PyData.eqv (encR [q.num, (q.den : Int)]) (encR [q.num, (q.den : Int)]) = true := by
    unfold encR
    simp [PyData.eqv, PyData.eqvAll]
  rw [e] at x
  exact x.eqP
theorem hits_mx (I : Inv X pins σ H s) {A : Around} (hu : A.in1.units + 64 < cLine) {ka kb : List (List Key × V)} {xa xb : List (List Key × Addr × Value)} {m m' : Mx} (ra : KT H ka xa) (rb : KT H kb xb) (nb : (xb.map (·.1)).Nodup) (ea : Paired (EntR X.K H) ka m) (eb : Paired (EntR X.K H) kb m')
    (sub : ∀ e ∈ m, e ∈ m') : ∀ x ∈ xa, ∃ y, atKey xb x.1 = some y ∧ SeqAt.EqP X.prog X.w A.in1 s x.2.2 y.2 true := by
  intro x hx
  obtain ⟨j, hj⟩ := List.mem_iff_getElem?.mp hx
  have fwd : ∀ {k : List (List Key × V)} {xs : List (List Key × Addr × Value)} {m : Mx}, KT H k xs → Paired (EntR X.K H) k m → ∀ {j : Nat} {x : List Key × Addr × Value}, xs[j]? = some x → ∃ e p, m[j]? = some e ∧ x.1 = KR e.1 ∧ x.2.2 = .ref p ∧ RatAt X.K H p e.2 := by
    intro k xs m r
    induction r generalizing m with
    | nil => intro _ j x hx; simp at hx
    | @cons p q ps qs h t ih =>
      intro e j x hx
      cases e with
      | @cons _ f _ ms g u =>
        cases j with
        | zero =>
          have : q = x := Option.some.inj hx
          subst this
          obtain ⟨g1, pp, g2, g3⟩ := g
          refine ⟨f, pp, rfl, h.1.symm.trans g1, ?_, g3⟩
          have := h.2.2
          rw [g2] at this
          exact this
        | succ j => exact ih u (by simpa using hx)
  have bwd : ∀ {k : List (List Key × V)} {xs : List (List Key × Addr × Value)} {m : Mx}, KT H k xs → Paired (EntR X.K H) k m → ∀ {e : Row × Rat}, e ∈ m → ∃ (j : Nat) (c p : Addr), xs[j]? = some (KR e.1, c, .ref p) ∧ RatAt X.K H p e.2 := by
    intro k xs m r
    induction r generalizing m with
    | nil => intro w e he; cases w; cases he
    | @cons p q ps qs h t ih =>
      intro w e he
      cases w with
      | @cons _ f _ ms g u =>
        rcases List.mem_cons.mp he with rfl | he
        · obtain ⟨g1, pp, g2, g3⟩ := g
          have z := h.2.2
          rw [g2] at z
          have z' : q.2.2 = Value.ref pp := z
          refine ⟨0, q.2.1, pp, ?_, g3⟩
          show some q = _
          rw [← g1, h.1, ← z']
        · obtain ⟨j, c, pp, h1, h2⟩ := ih u he
          exact ⟨j + 1, c, pp, by simpa using h1, h2⟩
  obtain ⟨e, p, h1, h2, h3, h4⟩ := fwd ra ea hj
  obtain ⟨i, c, p', g1, g2⟩ := bwd rb eb (sub e (List.mem_of_getElem? h1))
  refine ⟨(c, .ref p'), ?_, ?_⟩
  · rw [h2]
    exact atKey_of_get nb g1
  · rw [h3]
    exact rat_eq I hu h4 g2
theorem mx_eq (I : Inv X pins σ H s) {A : Around} {E Q : Value → Shared → Prop} (hu : A.units + 80 < cLine) {a b : Addr} {m m' : Mx} (ha : DAt X.K H a m) (hb : DAt X.K H b m') (hp : m.Perm m') (h : Q (.bool true) s) : wpAny (model X.prog X.w) A (richCompare .Eq (.ref a) (.ref b)) Q E s := by
  obtain ⟨ka, ha, ea⟩ := ha
  obtain ⟨kb, hb, eb⟩ := hb
  obtain ⟨_, ya, xa, ra, da⟩ := dt_rd I.hok ha
  obtain ⟨_, yb, xb, rb, db⟩ := dt_rd I.hok hb
  refine rich_eqT (knd := tupleKind (mixKind X.prog X.w)) (tupleKind_room_in1 (by omega)) (by omega) ya yb da db ?_ (hits_mx I (by show A.units + 1 + 64 < cLine; omega) ra rb db.nodup ea eb fun e he => hp.mem_iff.mp he) h
  have l1 := Paired.length ra
  have l2 := Paired.length rb
  have l3 := Paired.length ea
  have l4 := Paired.length eb
  have l5 := hp.length_eq
  omega
theorem mx_ne (I : Inv X pins σ H s) {A : Around} {E Q : Value → Shared → Prop} (hu : A.units + 80 < cLine) {a b : Addr} {m m' : Mx} (ha : DAt X.K H a m) (hb : DAt X.K H b m') (hp : m.Perm m') (h : Q (.bool false) s) : wpAny (model X.prog X.w) A (richCompare .NotEq (.ref a) (.ref b)) Q E s := by
  obtain ⟨ka, ha, ea⟩ := ha
  obtain ⟨kb, hb, eb⟩ := hb
  obtain ⟨_, ya, xa, ra, da⟩ := dt_rd I.hok ha
  obtain ⟨_, yb, xb, rb, db⟩ := dt_rd I.hok hb
  refine rich_neT (knd := tupleKind (mixKind X.prog X.w)) (tupleKind_room_in1 (by omega)) (by omega) ya yb da db ?_ (hits_mx I (by show A.units + 1 + 64 < cLine; omega) ra rb db.nodup ea eb fun e he => hp.mem_iff.mp he) h
  have l1 := Paired.length ra
  have l2 := Paired.length rb
  have l3 := Paired.length ea
  have l4 := Paired.length eb
  have l5 := hp.length_eq
  omega
end
def rEqT (K : PySem.W.Frag) : R2 := fun x y H Q => ∃ a b m m', x = V.ref a ∧ y = V.ref b ∧ DAt K H a m ∧ DAt K H b m' ∧ m.Perm m' ∧ Q (.bl true) H
def rNeT (K : PySem.W.Frag) : R2 := fun x y H Q => ∃ a b m m', x = V.ref a ∧ y = V.ref b ∧ DAt K H a m ∧ DAt K H b m' ∧ m.Perm m' ∧ Q (.bl false) H
section
variable {X : Cx}
theorem op_eqT (hu : X.A.units + 80 < cLine) : OpR X (compareOp .Eq) (rEqT X.K) := by
  intro pins s σ H x y v u Q I rx ry h
  obtain ⟨a, b, m, m', rfl, rfl, ha, hb, hp, q⟩ := h
  cases rx
  cases ry
  exact mx_eq I hu ha hb hp ⟨.bl true, H, I, rfl, q⟩
theorem op_neT (hu : X.A.units + 80 < cLine) : OpR X (compareOp .NotEq) (rNeT X.K) := by
  intro pins s σ H x y v u Q I rx ry h
  obtain ⟨a, b, m, m', rfl, rfl, ha, hb, hp, q⟩ := h
  cases rx
  cases ry
  exact mx_ne I hu ha hb hp ⟨.bl false, H, I, rfl, q⟩
end
/-! ### lists that hold such dicts and ints -/
section
open SeqAt
open AutoSeq1 (wpAny_loadPart')
open MeetsSeq MeetsSeq2 MeetsSeq3 SeqRoads2
variable {prog : Program} {w : World}
theorem ne_turns (l b : Addr) (its its2 : Array Value) (n n2 : Nat) (dd dd2 : Option Addr) (sl sl2 : Array (Option Value)) (hsz : its.size = its2.size) (k : Nat) :
    ∀ i : Nat, its.size - i = k → MeetsIn prog w (Builtin.«list.__eq__.loop» ⟨[.ref l, .ref b, rawInt i, rawInt 3], []⟩)
      (fun A R s => s.heap.get? l = some { cls := .type "list", dict := dd, data := .seq its n, slots := sl } ∧ s.heap.get? b = some { cls := .type "list", dict := dd2, data := .seq its2 n2, slots := sl2 } ∧
        (∀ j (h1 : j < its.size) (h2 : j < its2.size), EqP prog w A.in1 s its[j] its2[j] true) ∧ R (.ok (.ret (.bool false))) s) := by
  induction k with
  | zero =>
    intro i hk A R s h
    obtain ⟨hp, g, d, tk, os⟩ := s; obtain ⟨hl, hb, he, h⟩ := h
    wp_walk using wpAny_loadPart' hl, wpAny_loadPart' hb
    have hi1 : its[((i : Nat) : Int).toNat]? = none := by simp; omega
    have hi2 : its2[((i : Nat) : Int).toNat]? = none := by simp; omega
    rw [hi1, hi2]
    wp_walk using wpAny_loadPart' hl, wpAny_loadPart' hb
    show R (.ok (.ret (.bool (its.size != its2.size)))) _
    rw [hsz]
    simpa using h
  | succ k ih =>
    intro i hk A R s h
    obtain ⟨hp, g, d, tk, os⟩ := s; obtain ⟨hl, hb, he, h⟩ := h
    wp_walk using wpAny_loadPart' hl, wpAny_loadPart' hb
    have hlt : i < its.size := by omega
    have hlt2 : i < its2.size := by omega
    have hi1 : its[((i : Nat) : Int).toNat]? = some its[i] := by simp [hlt]
    have hi2 : its2[((i : Nat) : Int).toNat]? = some its2[i] := by simp [hlt2]
    have hc : ((i : Int) + 1) = ((i + 1 : Nat) : Int) := by push_cast; rfl
    rw [hi1, hi2]
    refine wpAny_bind (he i hlt hlt2 _ _ ?_)
    wp_walk
    rw [hc]
    exact ⟨plainId_quiet plain_eq_loop _, codeAny_builtin entry_eq_loop (by
      rw [Around.under_plainId plain_eq_loop _]
      exact ih (i + 1) (by omega) A R _ ⟨hl, hb, he, by simpa using h⟩)⟩
theorem ne_lists (l b : Addr) (its its2 : Array Value) (n n2 : Nat) (dd dd2 : Option Addr) (sl sl2 : Array (Option Value)) (hsz : its.size = its2.size) :
    MeetsIn prog w (Builtin.«list.__ne__» ⟨[.ref l, .ref b], []⟩)
      (fun A R s => s.heap.get? l = some { cls := .type "list", dict := dd, data := .seq its n, slots := sl } ∧ s.heap.get? b = some { cls := .type "list", dict := dd2, data := .seq its2 n2, slots := sl2 } ∧
        (∀ j (h1 : j < its.size) (h2 : j < its2.size), EqP prog w A.in1 s its[j] its2[j] true) ∧ R (.ok (.ret (.bool false))) s) := by
  intro A R s h
  obtain ⟨hp, g, d, tk, os⟩ := s; obtain ⟨hl, hb, he, h⟩ := h
  have f3 := AutoSeq1.sub_list_list
  have hne : ¬ (its.size != its2.size) = true := by simp [hsz]
  wp_walk using wpAny_loadPart' hl, wpAny_loadPart' hb
  exact ⟨plainId_quiet plain_eq_loop _, codeAny_builtin entry_eq_loop (by
    rw [Around.under_plainId plain_eq_loop _]
    exact ne_turns l b its its2 n n2 dd dd2 sl sl2 hsz _ 0 rfl A R _ ⟨hl, hb, he, by simpa using h⟩)⟩
theorem rich_neL {A : Around} {s : Shared} {l b : Addr} {its its2 : Array Value} (hl : s.heap.IsList l its) (hb : s.heap.IsList b its2) (hsz : its.size = its2.size) (hu : A.units < cLine)
    (he : ∀ j (h1 : j < its.size) (h2 : j < its2.size), EqP prog w A.in1 s its[j] its2[j] true) (E Q : Value → Shared → Prop) (h : Q (.bool false) s) : wpAny (model prog w) A (richCompare .NotEq (.ref l) (.ref b)) Q E s := by
  obtain ⟨⟨cls, dd, data, sl⟩, ho, hc, n, hd⟩ := id hl
  obtain ⟨⟨cls2, dd2, data2, sl2⟩, ho2, hc2, n2, hd2⟩ := id hb
  simp only at hc hd hc2 hd2
  subst hc hd hc2 hd2
  have ta : s.TypeIs (.ref l) "list" := ⟨_, ho, rfl⟩
  have tb : s.TypeIs (.ref b) "list" := ⟨_, ho2, rfl⟩
  exact wpAny_richCompare_same_room (op := .NotEq) ta tb F.slot_list_ne (call_meetsIn F.slot_list_ne ta F.entry_list_ne (F.args_list_ne_2 _ _) (ne_lists l b its its2 n n2 dd dd2 sl sl2 hsz)
    ⟨ho, ho2, he, show Value.bool false ≠ Value.notImplemented ∧ Q (.bool false) s from ⟨(fun x => nomatch x), h⟩⟩) hu
end
/-- alike: ints, or dicts that hold the same -/
def AlikeV (K : PySem.W.Frag) (H : Hp) (x y : V) : Prop := (∃ n : Int, x = .int n ∧ y = .int n) ∨ ∃ a b m m', x = .ref a ∧ y = .ref b ∧ a ≠ b ∧ DAt K H a m ∧ DAt K H b m' ∧ m.Perm m'
def rNeLT (K : PySem.W.Frag) : R2 := fun x y H Q => ∃ a b xs ys, x = V.ref a ∧ y = V.ref b ∧ SqL K H a xs ∧ SqL K H b ys ∧ Paired (AlikeV K H) xs ys ∧ Q (.bl false) H
section
variable {X : Cx}
theorem op_neLT (hu : X.A.units + 90 < cLine) : OpR X (compareOp .NotEq) (rNeLT X.K) := by
  intro pins s σ H x y v u Q I rx ry h
  obtain ⟨a, b, xs, ys, rfl, rfl, ha, hb, hp, q⟩ := h
  cases rx
  cases ry
  obtain ⟨us, r1, p1, _⟩ := I.list ha
  obtain ⟨ws, r2, p2, _⟩ := I.list hb
  have hsz : us.toArray.size = ws.toArray.size := by
    rw [List.size_toArray, List.size_toArray, ← r1.length, ← r2.length]
    exact Paired.length hp
  refine rich_neL p1.isList p2.isList hsz (by omega) (fun j h1 h2 => ?_) _ _ ⟨.bl false, H, I, rfl, q⟩
  have k := items_run (P := X.prog) (w := X.w) (A := X.A.in1) (s := s) (F := AlikeV X.K H) (fun x y v u h rx ry => ?_) hp r1 r2 j (by simpa using h1) (by simpa using h2)
  · simpa using k
  · rcases h with ⟨n, rfl, rfl⟩ | ⟨c, d, m, m', rfl, rfl, ne, hc, hd, pm⟩
    · obtain ⟨t, rfl⟩ := rx
      obtain ⟨t', rfl⟩ := ry
      exact ((SeqAt.EqAt.int_int n t n t').cast (by simp)).eqP
    · cases rx
      cases ry
      exact SeqAt.eqP_refs ne fun E Q h => mx_eq I (by show X.A.units + 1 + 80 < cLine; omega) hc hd pm h
end
end Rj
set_option Elab.async false
set_option linter.all false
set_option maxRecDepth 100000
set_option maxHeartbeats 4000000
/-! Own rules, sixth part: displays with row keys, list(d.items()), the set of ints that a block makes. -/
namespace Rj
open PySem PySem.Spec PyProof.Rows L2 PySem.W
/-- what a display's pairs are: each key a row there -/
def PairK (H : Hp) (p : V × V) (e : List Key × V) : Prop := ∃ b, p.1 = .ref b ∧ H b = some (.tup (e.1.map kV)) ∧ p.2 = e.2
theorem pairK_KT {H : Hp} : ∀ {ps : List (V × V)} {ws : List (Value × Value)} {kvs : List (List Key × V)}, VV ps ws → Paired (PairK H) ps kvs → ∃ xs : List (List Key × Addr × Value), KT H kvs xs ∧ ws = xs.map fun x => (Value.ref x.2.1, x.2.2)
  | _, _, _, r, .nil => by
    cases r
    exact ⟨[], .nil, rfl⟩
  | _, _, _, r, .cons (b := e) h t => by
    cases r with
    | @cons a c as cs g u =>
      obtain ⟨xs, h1, h2⟩ := pairK_KT u t
      obtain ⟨b, e1, e2, e3⟩ := h
      obtain ⟨g1, g2⟩ := g
      rw [e1] at g1
      have g1' : c.1 = Value.ref b := g1
      rw [e3] at g2
      refine ⟨(e.1, b, c.2) :: xs, .cons ⟨rfl, e2, g2⟩ h1, ?_⟩
      rw [h2, List.map_cons, ← g1']
theorem carriesH_of {P : Program} {w : World} {H : Hp} {h : Heap} (ok : HOk P w H h) {kvs : List (List Key × V)} {xs : List (List Key × Addr × Value)} (r : KT H kvs xs) : CarriesH (tupleKind (mixKind P w)) h (xs.map fun x => (Value.ref x.2.1, x.2.2)) xs := by
  induction r with
  | nil => exact True.intro
  | @cons p q ps qs hq t ih => exact ⟨rfl, rfl, key_of ok (by rw [← hq.1]; exact hq.2.1), ih⟩
def tDispT (trs : List (TE × TE)) : TE := fun σ H Q => ∀ p, H p = none → tPairs trs σ (upd H p (.dT [])) fun ps H2 => H2 p = some (.dT []) ∧ ∃ kvs, Paired (PairK H2) ps kvs ∧ kvs.length ≤ 15 ∧ Q (.ref p) (upd H2 p (.dT (putsK [] kvs)))
section
variable {X : Cx}
theorem pe_dispT {pos : Pos} {keys : List (Option Expr)} {values : List Expr} {trs : List (TE × TE)} (hu : X.A.units + 2 < cLine) (h : PPs X pos keys values trs) (hall : keys.all (·.isSome) = true := by rfl) (hl : keys.length = values.length := by rfl) (h0 : keys ≠ [] := by exact fun z => nomatch z)
    (h15 : keys.length ≤ 15 := by decide) : PE X (.Dict keys values pos) (tDispT trs) := by
  refine ⟨fun pins s σ H Q I q => ?_⟩
  have pn := I.hok.fresh (Nat.le_refl s.heap.objs.size)
  have I1 := I.laid (a := s.heap.objs.size) (o := .dT []) (h' := s.heap.push { cls := .type "dict", data := .dict #[] }) (t' := s.toks) (fun _ _ q => Heap.get?_push_of_some _ q) (Nat.le_refl _) (dt_empty s.heap I.big)
  have ln := pairTrees_length keys values X.env pos hall hl
  have ne : pairTrees keys values X.env pos ≠ [] := fun he => by
    rw [he] at ln
    exact h0 (List.length_eq_zero_iff.mp ln.symm)
  rw [arm_eval_Dict, zip_pairTrees keys values X.env pos hall hl, dictDisplay_pairs (pairTrees keys values X.env pos) ne (by omega)]
  refine wpAny_bind (wpAny_standAt (wpAny_bind (wpAny_subDictH (knd := tupleKind (mixKind X.prog X.w)) (Q := fun d s' => wpAny (model X.prog X.w) X.A (pure (Value.ref d)) (EP X pins σ Q) X.xe s') (by show X.A.units < cLine; omega) (by rw [ln]; exact h15)
    (thn (h.run pins _ σ _ _ I1 (q _ pn)) fun ws s2 ⟨ps, H2, I2, rel, e, kvs, pk, lk, q2⟩ => ?_))))
  obtain ⟨xs, rk, ew⟩ := pairK_KT rel pk
  subst ew
  obtain ⟨z, hd, ys0, r0, dd⟩ := dt_of I2.hok e
  cases r0
  refine ⟨xs, carriesH_of I2.hok rk, dd, fun h' tk dk hs => wpAny_pure ?_⟩
  obtain ⟨o, es, ep, h1, h2, h3, h4, hk, h5⟩ := dk
  have J : Inv X pins σ (upd H2 s.heap.objs.size (.dT (putsK [] kvs))) { s2 with heap := h', toks := tk } := by
    have J0 : Inv X pins σ (upd H2 s.heap.objs.size (.dT (putsK [] kvs))) { s2 with heap := h', toks := s2.toks } := by
      refine d_write I2 (by rw [e]; exact True.intro) hs ⟨o, h1⟩ ⟨?_, hd, _, (KT.puts .nil rk).keeps fun b ys eb => ?_, o, es, ep, h1, h2, h3, h4, h5⟩
      · have := putsK_len kvs []
        rw [List.length_nil] at this
        rw [sizeLine_eq]
        omega
      · rw [upd_ne (ne_of eb e (fun z => nomatch z))]
        exact eb
    exact J0.tok tk
  exact ⟨.ref _, _, J, rfl, q2⟩
end
/-! ### list(d.items()) -/
theorem paired_of {α β : Type} {F : α → β → Prop} : ∀ {xs : List α} {ys : List β}, xs.length = ys.length → (∀ (j : Nat) (x : α) (y : β), xs[j]? = some x → ys[j]? = some y → F x y) → Paired F xs ys
  | [], [], _, _ => .nil
  | [], _ :: _, h, _ => by simp at h
  | _ :: _, [], h, _ => by simp at h
  | x :: xs, y :: ys, h, f => .cons (f 0 x y rfl rfl) (paired_of (by simpa using h) fun j a b h1 h2 => f (j + 1) a b (by simpa using h1) (by simpa using h2))
def rItemsLT : V → Hp → VK → Prop := fun x H Q => ∃ (d : Addr) (kvs : List (List Key × V)), x = .ref d ∧ Rd H d (.dT kvs) ∧
  ∀ (H' : Hp) (p : Addr) (ts : List Addr), Same H H' → H p = none → H' p = some (.lst (ts.map V.ref)) → Paired (fun (t : Addr) (q : List Key × V) => ∃ b, H' t = some (.tup [.ref b, q.2]) ∧ H' b = some (.tup (q.1.map kV))) ts kvs → Q (.ref p) H'
def tListItemsT (te : TE) : TE := fun σ H Q => te σ H fun x H1 => rItemsLT x H1 Q
section
variable {X : Cx} {e : Expr} {te : TE} {p apos cpos pos : Pos}
theorem items_new {pins : List (Addr × Obj)} {σ : L2.St} {H : Hp} {s : Shared} {h' : Heap} {tk : Nat} {kvs : List (List Key × V)} {xs : List (List Key × Addr × Value)} {es : Array DictEntry} {acc : Array Value} {c : Nat} {as : List Addr} (I : Inv X pins σ H s) (hz : kvs.length ≤ sizeLine) (kt : KT H kvs xs)
    (he : es.toList = xs.map (entryOfKey (tupleKind (mixKind X.prog X.w)))) (hk : ∀ b o, s.heap.get? b = some o → h'.get? b = some o) (hS : h'.get? s.heap.objs.size = some { cls := .type "list", dict := none, data := .seq acc c, slots := #[] }) (hl : as.length = es.size)
    (hG : PySem.W.DilG es s.heap.objs.size h' as) (hacc : acc.toList = as.map Value.ref) :
    ∃ H' : Hp, Same H H' ∧ H s.heap.objs.size = none ∧ H' s.heap.objs.size = some (.lst (as.map V.ref)) ∧ Paired (fun (t : Addr) (q : List Key × V) => ∃ b, H' t = some (.tup [.ref b, q.2]) ∧ H' b = some (.tup (q.1.map kV))) as kvs ∧ Inv X pins σ H' { s with heap := h', toks := tk } := by
  have lk : kvs.length = xs.length := Paired.length kt
  have le : es.size = xs.length := size_of_entries he
  have nd : as.Nodup := List.Pairwise.imp (fun {a b} (h : a < b) => Nat.ne_of_lt h) hG.rise
  have newS : H s.heap.objs.size = none := I.hok.fresh (Nat.le_refl _)
  have J : Inv X pins σ (upd H s.heap.objs.size (.lst (as.map V.ref))) { s with heap := h', toks := tk } := by
    refine I.laid (t' := tk) hk (Nat.le_refl _) ⟨by rw [List.length_map]; omega, acc.toList, c, by rw [hacc]; exact LiI.vals_refs as, ?_⟩
    rw [Array.toArray_toList]
    exact hS
  obtain ⟨H2, J2, k2, r2⟩ := L2.DX.takeT (P := fun a vs => ∃ (j : Nat) (q : List Key × V) (b : Addr), as[j]? = some a ∧ kvs[j]? = some q ∧ vs = [.ref b, q.2] ∧ H b = some (.tup (q.1.map kV))) I as _ J nd fun a ha => by
    have hlt := hG.above a ha
    refine ⟨Nat.le_of_lt hlt, ?_, ?_⟩
    · rw [upd_ne (Nat.ne_of_gt hlt)]
      exact I.hok.fresh (Nat.le_of_lt hlt)
    · obtain ⟨j, hj⟩ := List.mem_iff_getElem?.mp ha
      obtain ⟨hje, hg⟩ := hG.pairs j a hj
      have hx : ∃ x, xs[j]? = some x := ⟨xs[j]'(by omega), List.getElem?_eq_getElem _⟩
      obtain ⟨x, hx⟩ := hx
      obtain ⟨q, hq⟩ : ∃ q, kvs[j]? = some q := ⟨kvs[j]'(by omega), List.getElem?_eq_getElem _⟩
      have ent := entry_at he j
      rw [hx, Array.getElem?_eq_getElem hje] at ent
      have ent' := Option.some.inj ent
      obtain ⟨y, hy, f1, f2, f3⟩ := LiI.paired_get kt hq
      rw [hx] at hy
      cases hy
      refine ⟨[.ref x.2.1, q.2], ⟨j, q, x.2.1, hj, hq, rfl, f2⟩, fun H2 => ⟨by show 2 ≤ sizeLine; decide, [.ref x.2.1, x.2.2], .cons rfl (.cons f3 .nil), ⟨{ cls := .type "tuple", data := .seq #[Value.ref x.2.1, x.2.2] }, ?_, rfl, _, rfl⟩⟩⟩
      rw [hg, ent']
      rfl
  have same : Same H H2 := fun b o e => k2 b o (by rw [upd_ne (ne_of_none e newS)]; exact e)
  refine ⟨H2, same, newS, k2 _ _ upd_same, paired_of (by omega) fun j a q h1 h2 => ?_, J2⟩
  obtain ⟨vs, ⟨i, q', b, g1, g2, g3, g4⟩, hH⟩ := r2 a (List.mem_of_getElem? h1)
  have ei : i = j := (List.getElem?_inj (List.getElem?_eq_some_iff.mp g1).1 nd).mp (g1.trans h1.symm)
  subst ei
  rw [h2] at g2
  cases g2
  rw [g3] at hH
  exact ⟨b, hH, same _ _ g4⟩
theorem pe_listItemsT (hc : X.calm = true) (he : PE X e te) (hg : Gl X "list") (hm : X.mg "list" = none) (hv : bootBuiltins "list" = some (.type "list") := by exact PyProof.Rows.boot_list) (hbase : attributeBase e "items" X.env (eval e X.env) = eval e X.env := by rfl) (hline : (apos.endLine == cpos.line) = true := by rfl)
    (hs : starEach [.Call (.Attribute e "items" apos) [] [] cpos] X.env = (false, eval (.Call (.Attribute e "items" apos) [] [] cpos) X.env) :: starEach [] X.env := by rfl) :
    PE X (.Call (.Name "list" p) [.Call (.Attribute e "items" apos) [] [] cpos] [] pos) (tListItemsT te) := by
  refine ⟨fun pins s σ H Q I hq => ?_⟩
  refine wpAny_Call_Name_kw (ld_blt I hg hm hv ?_)
  refine PyProof.Rows.callWith_type1 ?_ hs rfl
  rw [hs]
  show wpAny _ _ (spliced ((false, eval (.Call (.Attribute e "items" apos) [] [] cpos) X.env) :: backTo pos (starEach [] X.env))) _ _ s
  refine Calls.spliced_cons ?_
  refine wpAny_Call_method (T := "dict") (id := "dict.items") hbase rfl hline F.plainAttrs_dict F.slot_dict_items F.type_dict_items (thn (he.run pins s σ H _ I hq) fun u s1 ⟨x, H1, I1, rx, d, kvs, ex, hd, q⟩ => ?_)
  subst ex
  obtain rfl : u = Value.ref d := rx
  obtain ⟨hz, hs0, xs, kt, o, es, ep, h1, h2, h3, h4, h5⟩ := (show ObjOk X.prog X.w H1 s1.heap d (.dT kvs) from hd.ok I1.hok)
  have raw : s1.heap.DictRaw d es ep := ⟨o, h1, h2, h3⟩
  have I2 : Inv X pins σ H1 { s1 with heap := s1.heap.push { cls := .type "dict_items", data := .fields #[.ref d] } } := I1.kept (t' := s1.toks) fun b ob q => Heap.get?_push_of_some _ q
  have hsz : es.size ≤ sizeLine := by rw [size_of_entries h4, ← Paired.length kt]; exact hz
  refine ⟨raw.typeIs, raw_noDict raw, ?_⟩
  show wpAny _ _ (callWith cpos (.builtin "dict.items") [.ref d] [] []) _ X.xe s1
  refine method_meetsIn F.slot_dict_items F.entry_dict_items rfl (PySem.evalArgs_none ⟨rfl, raw.typeIs, F.args_dict_items_1 _, _, meets_dict_items_raw d hs0, ⟨es, ep, raw⟩, ?_⟩)
  refine Calls.spliced_nil ?_
  refine PySem.W.dil_call (es := es) (ep := ep) (I1.ok.hd hc) ⟨_, Heap.get?_push_size _ rfl, rfl, rfl⟩ (raw.push _) hsz fun h' tk acc c as hk hS hl hG hacc => ?_
  obtain ⟨H', k1, k2, k3, k4, J⟩ := items_new (tk := tk) I2 hz kt h4 hk hS hl hG hacc
  exact ⟨.ref _, H', J, rfl, q H' _ as k1 k2 k3 k4⟩
end
end Rj
set_option Elab.async false
set_option linter.all false
set_option maxRecDepth 100000
set_option maxHeartbeats 4000000
/-! Own rules, seventh part: the set of ints that a block makes. -/
namespace Rj
open PySem PySem.Spec PyProof.Rows L2
abbrev freshSet (w : World) : Obj := { cls := .type "set", dict := none, data := .set #[] 0 (.fresh 0 0 (!w.params.followText "set-order")) }
section
variable {X : Cx}
theorem addI_ok {pins : List (Addr × Obj)} {σ : L2.St} {H : Hp} {s : Shared} {E : Value → Shared → Prop} {D : Addr} {S : Int → Bool} {n : Nat} {k : Int} {tk : Tok} {Q : Value → Shared → Prop} (I : Inv X pins σ H s) (hD : H D = some (SetO X.w D S n)) (room : n + 1 < scanBound)
    (h : ∀ s', Inv X pins σ (upd H D (SetO X.w D (fun j => S j || decide (j = k)) (if S k = true then n else n + 1))) s' → Q .none s') : wpAny (model X.prog X.w) X.A (call (.builtin "set.add") [.ref D, .int k tk]) Q E s := by
  refine setR_add (setO_get I hD) room fun h' sb new => h _ (I.write (e := D) (t' := s.toks + 1) (by rw [hD]; trivial) (.inl rfl) (fun b u hb hu => (sb.2 b hb).trans hu) ?_ (setO_new new))
  have ⟨o, _, _, _, ho, _⟩ := new
  exact ⟨o, ho⟩
end
/-- D the new set -/
def tScI (w : World) (wi : TI) (g : TG) (tt : TT) (te : TE) (vs : List Nat) : TE := fun σ H Q => wi σ H fun J H1 => ∀ D, H1 D = none → ∃ W : Nat → Nat → Hp → Prop, (∃ m, W 0 m (upd H1 D (SetO w D (fun _ => false) 0))) ∧ ∀ i m H, W i m H →
  (J.stop i H ∧ Q (.ref D) H) ∨ (J.go i H ∧ ∃ Nx : Hp → Prop, (∀ H', Nx H' → ∃ m', m' < m ∧ W (i + 1) m' H') ∧ ∀ x H', J.yld i H x H' → g x (wipe σ vs) H' fun σ2 H2 => wipe σ2 vs = wipe σ vs ∧ tt σ2 H2 fun b H3 =>
    if b = true then te σ2 H3 fun y H4 => ∃ (c : Int) (S : Int → Bool) (n : Nat), y = .int c ∧ H4 D = some (SetO w D S n) ∧ n + 1 < scanBound ∧ Nx (upd H4 D (SetO w D (fun j => S j || decide (j = c)) (if S c = true then n else n + 1))) else Nx H3)
section
variable {X : Cx}
theorem scI_run {pins : List (Addr × Obj)} {s : Shared} {σ : L2.St} {H : Hp} {Q : VK} {elt tg iter : Expr} {ifs : List Expr} {scope : Scope} {own : List (Str × Nat)} {pos pos' : Pos} {wi : TI} {g : TG} {tt : TT} {te : TE} {use : Option (Value → Sem Unit)} {Qf : Value → Shared → Prop}
    (hc : X.calm = true) (hN : X.N.Nodup) (I : Inv X pins σ H s) (hi : PI X tg iter wi) (ok : BlkOk X.N X.env.scope scope own)
    (hg : ∀ (s : Shared) (H : Hp) (C : Addr) (cl : List (Str × Addr)) (fp : List Addr), PG (X.blk s H scope (compEnvC scope cl C X.env) fp) tg g) (ht : ∀ (s : Shared) (H : Hp) (C : Addr) (cl : List (Str × Addr)) (fp : List Addr), PTs (X.blk s H scope (compEnvC scope cl C X.env) fp) ifs tt)
    (he : ∀ (s : Shared) (H : Hp) (C : Addr) (cl : List (Str × Addr)) (fp : List Addr), PE (X.blk s H scope (compEnvC scope cl C X.env) fp) elt te) (hs : ∀ x, foldedSetIterable iter X.env x = pure x)
    (h : tScI X.w wi g tt te (own.map (·.2)) σ H Q)
    (fin : ∀ D C s' m H', Inv X pins σ H' s' → Q (.ref D) H' → s'.heap.Ns C m → FpOk X pins H' C → compPost (model X.prog X.w) X.A X.xe use Qf (.ref D) C (.ok .next) s') :
    wpAny (model X.prog X.w) X.A (comprehension (.SetComp elt [⟨tg, iter, ifs, 0⟩] scope pos) scope X.env pos' (newSet (.type "set")) false (eval iter X.env) use) Qf X.xe s := by
  have captured : ∀ y ∈ scope.names, y.2 = .free → ∃ c, X.env.cells.lookup y.1 = some c := fun y hy e => by
    rcases ok.free y hy e with z | z
    · exact I.ok.has _ (.inl z)
    · exact I.ok.has _ (.inr z)
  refine wpAny_comprehension_free (use := use) rfl hs (closure_ok captured) ok.kind (fun y hy e => by rw [ok.uniq y hy, e])
    (thn (hi.run pins s σ H _ I h) fun xv s1 hx => thn hx fun itv s2 h2 => ?_)
  obtain ⟨it, fp, tn, J, H2, e, I2, T, st2, f2, q⟩ := h2
  subst e
  refine PpSet.newSet_ok (newEnv_comp ?_)
  generalize hD : s2.heap.objs.size = D
  have newD : H2 D = none := I2.hok.fresh (Nat.le_of_eq hD)
  obtain ⟨W, ⟨m0, w0⟩, turn⟩ := q D newD
  generalize es3 : ({ s2 with heap := s2.heap.push (freshSet X.w) } : Shared) = s3
  have I3 : Inv X pins σ (upd H2 D (SetO X.w D (fun _ => false) 0)) s3 := by
    rw [← es3]
    refine I2.laid (t' := s2.toks) (fun b o e => Heap.get?_push_of_some _ e) (Nat.le_of_eq hD) ?_
    rw [← hD]
    exact setO_new (setR_fresh X.w)
  have h3 : s3.heap = s2.heap.push (freshSet X.w) := by rw [← es3]
  have low : ∀ b ∈ fp, b < s2.heap.objs.size := fun b hb => by
    obtain ⟨o, e, _⟩ := T.obj _ _ st2 b hb
    exact Heap.lt_size e
  have f3 : ∀ b ∈ fp, FpOk X pins (upd H2 D (SetO X.w D (fun _ => false) 0)) b ∧ b < s3.heap.objs.size := fun b hb => by
    have hlt := low b hb
    refine ⟨⟨?_, (f2 b hb).2⟩, by rw [h3, Heap.size_push]; exact Nat.lt_succ_of_lt hlt⟩
    rw [upd_ne (by rw [← hD]; exact Nat.ne_of_lt hlt)]
    exact (f2 b hb).1
  have st3 : tn 0 s3.heap := T.keep _ _ _ st2 fun b _ o e => by rw [h3]; exact Heap.get?_push_of_some _ e
  have I4 := block_start I3 ok hN f3
  have pg := hg s3 (upd H2 D (SetO X.w D (fun _ => false) 0)) s3.heap.objs.size (cellsFrom (s3.heap.objs.size + 1) scope.names (cloFrom X.env.cells scope.names [])) fp
  have pt := ht s3 (upd H2 D (SetO X.w D (fun _ => false) 0)) s3.heap.objs.size (cellsFrom (s3.heap.objs.size + 1) scope.names (cloFrom X.env.cells scope.names [])) fp
  have pv := he s3 (upd H2 D (SetO X.w D (fun _ => false) 0)) s3.heap.objs.size (cellsFrom (s3.heap.objs.size + 1) scope.names (cloFrom X.env.cells scope.names [])) fp
  show codeAny _ _ (.compStart (.SetComp elt [⟨tg, iter, ifs, 0⟩] scope pos) 0 (.ref it) (.ref D) (compEnvC scope (cellsFrom (s3.heap.objs.size + 1) scope.names (cloFrom X.env.cells scope.names [])) s3.heap.objs.size X.env)) (compPost (model X.prog X.w) X.A X.xe use Qf (.ref D) s3.heap.objs.size) { s3 with heap := pushCells (s3.heap.push { cls := .type "dict", data := .dict #[] }) scope.names }
  have nfp : ∀ b ∈ fp, (upd H2 D (SetO X.w D (fun _ => false) 0)) b = none := fun b hb => (f3 b hb).1.1
  generalize ece : compEnvC scope (cellsFrom (s3.heap.objs.size + 1) scope.names (cloFrom X.env.cells scope.names [])) s3.heap.objs.size X.env = ce at I4 pg pt pv ⊢
  have cL : ce.locals = s3.heap.objs.size := by subst ece; rfl
  generalize eH3 : upd H2 D (SetO X.w D (fun _ => false) 0) = H3 at I3 I4 pg pt pv w0 nfp f3
  generalize es4 : ({ s3 with heap := pushCells (s3.heap.push { cls := .type "dict", data := .dict #[] }) scope.names } : Shared) = s4 at I4 ⊢
  have st4 : tn 0 s4.heap := T.keep _ _ _ st3 fun b _ o e => by rw [← es4]; exact pushCells_keeps _ _ _ _ (Heap.get?_push_of_some _ e)
  have still : ∀ {σ' : L2.St} {H' : Hp} {s' : Shared}, Inv (X.blk s3 H3 scope ce fp) [] σ' H' s' → (∀ b ∈ fp, H' b = none) → ∀ b ∈ fp, FpOk (X.blk s3 H3 scope ce fp) [] H' b := fun {σ' H' s'} I' hn b hb =>
    ⟨hn b hb, (I'.ok.exf b hb).1, I'.ok.exfs b hb, .inl hb, fun x c e => (I'.ok.exf b hb).2 x c e, fun p hp => absurd (show p ∈ ([] : List (Addr × Obj)) ++ [] from hp) (by simp)⟩
  have loop : codeAny (model X.prog X.w) X.A (.compLoop (.SetComp elt [⟨tg, iter, ifs, 0⟩] scope pos) 0 (.ref it) (.ref D) ce) (compPost (model X.prog X.w) X.A X.xe use Qf (.ref D) s3.heap.objs.size) s4 := by
    refine PpSet.compLoopS_any (fun n s' => ∃ i H', Inv (X.blk s3 H3 scope ce fp) [] (wipe σ (own.map (·.2))) H' s' ∧ tn i s'.heap ∧ (∀ b ∈ fp, H' b = none) ∧ W i n H') ?_ m0 ⟨0, H3, I4, st4, nfp, w0⟩
    rintro n s5 ⟨i, H5, I5, st5, n5, w5⟩
    rcases turn i n H5 w5 with ⟨stop, qq⟩ | ⟨go, Nx, hNx, step⟩
    · have td := T.done (X.blk s3 H3 scope ce fp) rfl rfl rfl hc i [] s5 _ H5 (fun _ _ => False) I5 (still I5 n5) st5 stop
      refine thnF td fun r s6 ⟨hr, I6⟩ => ?_
      subst hr
      have I7 : Inv X pins σ H5 s6 := I3.call' (ch := fp) I6.os I6.base I6.hok I6.bare fun b hb => ⟨(f3 b hb).1.2.2.2.1, (f3 b hb).1.2.1, (f3 b hb).1.2.2.2.2.1, (f3 b hb).1.2.2.2.2.2⟩
      have nC : H5 s3.heap.objs.size = none := by
        have z : H5 ce.locals = none := I6.free
        rw [cL] at z
        exact z
      obtain ⟨m, hn, _⟩ := I6.loc
      have hn : s6.heap.Ns ce.locals m := hn
      rw [cL] at hn
      exact fin D s3.heap.objs.size s6 m H5 I7 qq hn (I3.fpOk (Nat.le_refl _) nC)
    · have ti := T.item (X.blk s3 H3 scope ce fp) rfl rfl rfl hc i [] s5 _ H5 (fun _ _ => False) I5 (still I5 n5) st5 go
      refine thnF ti fun r s6 ⟨u, hr, h6⟩ => ?_
      subst hr
      refine thnF h6 fun _ s7 ⟨x, H7, I7, r7, y7, st7, n7⟩ => ?_
      have I7' := I7.pinned (still I7 n7) (T.obj _ _ st7)
      refine thnF (pg.run _ s7 _ H7 x u _ I7' r7 (step x H7 y7)) fun _ s8 ⟨σ8, H8, I8, hw8, q8⟩ => ?_
      refine thnF (pt.run _ s8 σ8 H8 _ I8 q8) fun b s9 ⟨H9, I9, q9⟩ => ?_
      have again : ∀ {s' : Shared} {H' : Hp}, Inv (X.blk s3 H3 scope ce fp) ([] ++ pinsAt fp s7.heap) σ8 H' s' → Nx H' → ∃ m, m < n ∧ ∃ i H', Inv (X.blk s3 H3 scope ce fp) [] (wipe σ (own.map (·.2))) H' s' ∧ tn i s'.heap ∧ (∀ b ∈ fp, H' b = none) ∧ W i m H' := fun {s' H'} I' nx => by
        obtain ⟨m', hm, w'⟩ := hNx H' nx
        have pin' : ∀ b ∈ fp, ∀ o, s7.heap.get? b = some o → s'.heap.get? b = some o ∧ H' b = none := fun b hb o e =>
          let z := I'.pin (b, o) (List.mem_append_right _ (List.mem_append_right _ (mem_pinsAt hb e)))
          ⟨z.1, z.2.1⟩
        have hl : (wipe σ (own.map (·.2))).length = σ8.length := by rw [← hw8, wipe_length]
        refine ⟨m', hm, i + 1, H', (I'.unpinned (pins := [])).weak hl (fun j v e => ?_), T.keep _ _ _ st7 fun b hb o e => (pin' b hb o e).1, fun b hb => ?_, w'⟩
        · rw [← hw8] at e
          exact (wipe_some e).1
        · obtain ⟨o, e, _⟩ := T.obj _ _ st7 b hb
          exact (pin' b hb o e).2
      cases b with
      | false =>
        simp only [Bool.false_eq_true, if_false] at q9 ⊢
        exact again I9 q9
      | true =>
        simp only [if_true] at q9 ⊢
        refine thnF (pv.run _ s9 σ8 H9 _ I9 q9) fun z s11 ⟨yv, H11, I11, r11, c, S, n1, ek, hD11, hz11, nx⟩ => ?_
        subst ek
        obtain ⟨tz, rfl⟩ := (show ∃ t, z = Value.int c t from r11)
        exact addI_ok (X := X.blk s3 H3 scope ce fp) I11 hD11 hz11 fun s12 I12 => again I12 nx
  exact PpSet.codeAny_compStart_set loop (T.self X.A 0 _ _ _ st4 loop)
theorem pe_scI {elt tg iter : Expr} {ifs : List Expr} {scope : Scope} {own : List (Str × Nat)} {pos : Pos} {wi : TI} {g : TG} {tt : TT} {te : TE} (hc : X.calm = true) (hN : X.N.Nodup) (hi : PI X tg iter wi) (ok : BlkOk X.N X.env.scope scope own)
    (hg : ∀ (s : Shared) (H : Hp) (C : Addr) (cl : List (Str × Addr)) (fp : List Addr), PG (X.blk s H scope (compEnvC scope cl C X.env) fp) tg g) (ht : ∀ (s : Shared) (H : Hp) (C : Addr) (cl : List (Str × Addr)) (fp : List Addr), PTs (X.blk s H scope (compEnvC scope cl C X.env) fp) ifs tt)
    (he : ∀ (s : Shared) (H : Hp) (C : Addr) (cl : List (Str × Addr)) (fp : List Addr), PE (X.blk s H scope (compEnvC scope cl C X.env) fp) elt te) (hs : ∀ x, foldedSetIterable iter X.env x = pure x := by intro _; rfl) :
    PE X (.SetComp elt [⟨tg, iter, ifs, 0⟩] scope pos) (tScI X.w wi g tt te (own.map (·.2))) := by
  refine ⟨fun pins s σ H Q I h => ?_⟩
  rw [PpSet.eval_SetComp]
  refine scI_run hc hN I hi ok hg ht he hs h fun D C s' m H' I' q hn f => ⟨m, hn, fun h'' sb => ?_⟩
  obtain ⟨f0, f1, f2, f3, f4, f5⟩ := f
  exact ⟨.ref D, H', I'.turned (t' := s'.toks) (fun b o hb e => (sb.2 b hb).trans e) f0 f1 f3 f4 f5, rfl, q⟩
end
end Rj
set_option Elab.async false
set_option linter.all false
set_option maxRecDepth 100000
set_option maxHeartbeats 4000000
/-! Loops and blocks over what stays as it is. -/
namespace Rj
open PySem PySem.Spec PyProof.Rows L2
theorem Same.rfl' (H : Hp) : Same H H := fun _ _ e => e
theorem Same.tr {H H1 H2 : Hp} (a : Same H H1) (b : Same H1 H2) : Same H H2 := fun x o e => b x o (a x o e)
/-- what is never written stays: tuples, what is locked -/
def Tup (H H' : Hp) : Prop := (∀ b xs, H b = some (.tup xs) → H' b = some (.tup xs)) ∧ ∀ b o u, H b = some (.frz o u) → H' b = some (.frz o u)
theorem Tup.rfl' (H : Hp) : Tup H H := ⟨fun _ _ e => e, fun _ _ _ e => e⟩
theorem Tup.tr {H H1 H2 : Hp} (a : Tup H H1) (b : Tup H1 H2) : Tup H H2 := ⟨fun x o e => b.1 x o (a.1 x o e), fun x o u e => b.2 x o u (a.2 x o u e)⟩
theorem Same.tup {H H' : Hp} (a : Same H H') : Tup H H' := ⟨fun b xs e => a b _ e, fun b o u e => a b _ e⟩
theorem tup_upd {H : Hp} {d : Addr} {u v : HO} (h : H d = some u) (nt : ∀ xs, u ≠ .tup xs) (nf : ∀ o v, u ≠ .frz o v) : Tup H (upd H d v) := by
  refine ⟨fun b xs e => ?_, fun b o w e => ?_⟩
  · rw [upd_ne (fun z => by rw [z, h] at e; exact nt _ (Option.some.inj e))]
    exact e
  · rw [upd_ne (fun z => by rw [z, h] at e; exact nf _ _ (Option.some.inj e))]
    exact e
theorem tup_lst {H : Hp} {d : Addr} {xs : List V} {v : HO} (h : H d = some (.lst xs)) : Tup H (upd H d v) := tup_upd h (fun _ z => nomatch z) fun _ _ z => nomatch z
theorem tup_dT {H : Hp} {d : Addr} {kvs : List (List Key × V)} {v : HO} (h : H d = some (.dT kvs)) : Tup H (upd H d v) := tup_upd h (fun _ z => nomatch z) fun _ _ z => nomatch z
theorem Tup.sqT {K : PySem.W.Frag} {H H' : Hp} {a : Addr} {xs : List V} (s : Tup H H') (h : SqT K H a xs) : SqT K H' a xs := by
  rcases h with (h | ⟨o, h⟩) | h
  · exact .inl (.inl (s.1 _ _ h))
  · exact .inl (.inr ⟨o, s.2 _ _ _ h⟩)
  · exact .inr h
theorem Tup.row {H H' : Hp} {p : Addr} {r : Row} (s : Tup H H') (h : RowAt H p r) : RowAt H' p r := s.1 _ _ h
theorem Tup.rat {K : PySem.W.Frag} {H H' : Hp} {p : Addr} {q : Rat} (s : Tup H H') (h : RatAt K H p q) : RatAt K H' p q := s.sqT h
theorem Tup.ent {K : PySem.W.Frag} {H H' : Hp} (s : Tup H H') (e : List Key × V) (f : Row × Rat) (h : EntR K H e f) : EntR K H' e f := ⟨h.1, let ⟨p, a, b⟩ := h.2; ⟨p, a, s.rat b⟩⟩
theorem Tup.fat {K : PySem.W.Frag} {H H' : Hp} {d : Addr} {m : Mx} (s : Tup H H') (h : FAt K H d m) : FAt K H' d m := by
  obtain ⟨o, kvs, a, b⟩ := h
  exact ⟨o, kvs, s.2 _ _ _ a, paired_mono s.ent b⟩
/-- n things are walked while I holds; the i-th one is as Y says -/
structure Over (J : It) (I : Hp → Prop) (n : Nat) (Y : Nat → V → Hp → Prop) : Prop where
  go : ∀ i H, I H → i < n → J.go i H
  stop : ∀ H, I H → J.stop n H
  yld : ∀ i H x H', I H → i < n → J.yld i H x H' → Same H H' ∧ Y i x H'
theorem over_tup {K : PySem.W.Frag} {a : Addr} {xs : List V} : Over (Itt K a) (fun H => SqT K H a xs) xs.length (fun i x _ => xs[i]? = some x) := by
  refine ⟨fun i H h hi => ⟨xs, xs[i], h, by simp [hi]⟩, fun H h => ⟨xs, h, Nat.le_refl _⟩, fun i H x H' h hi y => ?_⟩
  obtain ⟨e, y⟩ := y
  subst e
  exact ⟨Same.rfl' _, y xs h⟩
theorem over_list {K : PySem.W.Frag} {a : Addr} {xs : List V} : Over (Itl K a) (fun H => SqL K H a xs) xs.length (fun i x _ => xs[i]? = some x) := by
  refine ⟨fun i H h hi => ⟨xs, xs[i], h, by simp [hi]⟩, fun H h => ⟨xs, h, Nat.le_refl _⟩, fun i H x H' h hi y => ?_⟩
  obtain ⟨e, y⟩ := y
  subst e
  exact ⟨Same.rfl' _, y xs h⟩
theorem over_range {lo : Int} {n : Nat} : Over (Itr lo n) (fun _ => True) n (fun i x _ => x = .int (lo + (i : Nat))) := by
  refine ⟨fun i H _ hi => hi, fun H _ => Nat.le_refl _, fun i H x H' _ hi y => ?_⟩
  obtain ⟨e, y⟩ := y
  subst e
  exact ⟨Same.rfl' _, y⟩
theorem over_keys {d : Addr} {o : Obj} {kvs : List (List Key × V)} : Over (Itkt d o kvs) (fun H => H d = some (.frz o (.dT kvs))) kvs.length (fun i x H => ∃ k v q, kvs[i]? = some (k, v) ∧ x = .ref q ∧ H q = some (.tup (k.map kV))) := by
  refine ⟨fun i H h hi => ⟨h, hi⟩, fun H h => ⟨h, Nat.le_refl _⟩, fun i H x H' h hi y => ?_⟩
  obtain ⟨e, y⟩ := y
  subst e
  exact ⟨Same.rfl' _, y⟩
theorem over_items {d : Addr} {o : Obj} {kvs : List (List Key × V)} : Over (Itit d o kvs) (fun H => H d = some (.frz o (.dT kvs))) kvs.length (fun i x H => ∃ T k v q, kvs[i]? = some (k, v) ∧ x = .ref T ∧ H T = some (.tup [.ref q, v]) ∧ H q = some (.tup (k.map kV))) := by
  refine ⟨fun i H h hi => ⟨h, hi⟩, fun H h => ⟨h, Nat.le_refl _⟩, fun i H x H' h hi y => ?_⟩
  obtain ⟨T, k, v, q, e1, e2, e3, e4, e5⟩ := y
  subst e5
  exact ⟨same_new e3, T, k, v, q, e1, e2, upd_same, by rw [upd_ne (ne_of_none e4 e3)]; exact e4⟩
theorem Over.cast {J : It} {I : Hp → Prop} {n m : Nat} {Y : Nat → V → Hp → Prop} (O : Over J I n Y) (e : n = m) : Over J I m Y := e ▸ O
theorem Over.imp {J : It} {I I' : Hp → Prop} {n : Nat} {Y Y' : Nat → V → Hp → Prop} (O : Over J I n Y) (hi : ∀ H, I' H → I H) (hy : ∀ i x H H', I' H → Same H H' → Y i x H' → Y' i x H') : Over J I' n Y' :=
  ⟨fun i H h => O.go i H (hi H h), fun H h => O.stop H (hi H h), fun i H x H' h l y => let ⟨a, b⟩ := O.yld i H x H' (hi H h) l y; ⟨a, hy i x H H' h a b⟩⟩
theorem over_tupM {α : Type} {K : PySem.W.Frag} {a : Addr} {as : List α} {f : α → V} : Over (Itt K a) (fun H => SqT K H a (as.map f)) as.length (fun i x _ => ∃ y, as[i]? = some y ∧ x = f y) :=
  (over_tup.imp (fun _ h => h) fun i x H _ _ _ h => by
    rw [List.getElem?_map] at h
    obtain ⟨y, e1, e2⟩ := Option.map_eq_some_iff.mp h
    exact ⟨y, e1, e2.symm⟩).cast (List.length_map ..)
theorem over_listM {α : Type} {K : PySem.W.Frag} {a : Addr} {as : List α} {f : α → V} : Over (Itl K a) (fun H => SqL K H a (as.map f)) as.length (fun i x _ => ∃ y, as[i]? = some y ∧ x = f y) :=
  (over_list.imp (fun _ h => h) fun i x H _ _ _ h => by
    rw [List.getElem?_map] at h
    obtain ⟨y, e1, e2⟩ := Option.map_eq_some_iff.mp h
    exact ⟨y, e1, e2.symm⟩).cast (List.length_map ..)
theorem over_keysM {K : PySem.W.Frag} {d : Addr} {o : Obj} {kvs : List (List Key × V)} {m : Mx} {H0 : Hp} (h : Paired (EntR K H0) kvs m) : Over (Itkt d o kvs) (fun H => H d = some (.frz o (.dT kvs))) m.length (fun i x H => ∃ e q, m[i]? = some e ∧ x = .ref q ∧ RowAt H q e.1) :=
  (over_keys.imp (fun _ h => h) fun i x H _ _ _ ⟨k, v, q, e1, e2, e3⟩ => by
    obtain ⟨y, g1, g2⟩ := LiI.paired_get h e1
    refine ⟨y, q, g1, e2, ?_⟩
    have g3 : k = KR y.1 := g2.1
    rw [g3, KR_kV] at e3
    exact e3).cast (Paired.length h)
theorem over_itemsM {K : PySem.W.Frag} {d : Addr} {o : Obj} {kvs : List (List Key × V)} {m : Mx} {H0 : Hp} (h : Paired (EntR K H0) kvs m) :
    Over (Itit d o kvs) (fun H => H d = some (.frz o (.dT kvs)) ∧ Tup H0 H) m.length (fun i x H => ∃ T e q p, m[i]? = some e ∧ x = .ref T ∧ SqT K H T [.ref q, .ref p] ∧ RowAt H q e.1 ∧ RatAt K H p e.2) :=
  (over_items.imp (fun _ h => h.1) fun i x H H' hI s ⟨T, k, v, q, e1, e2, e3, e4⟩ => by
    obtain ⟨y, g1, g2⟩ := LiI.paired_get h e1
    obtain ⟨g3, p, g4, g5⟩ := g2
    refine ⟨T, y, q, p, g1, e2, ?_, ?_, (Tup.tr hI.2 (Same.tup s)).rat g5⟩
    · have g4' : v = .ref p := g4
      rw [← g4']
      exact SqT.of e3
    · have g3' : k = KR y.1 := g3
      rw [g3', KR_kV] at e4
      exact e4).cast (Paired.length h)
/-- a for loop -/
theorem forF {J : It} {I : Hp → Prop} {n : Nat} {Y : Nat → V → Hp → Prop} (O : Over J I n Y) {g : TG} {tb : TS} {D : Ends} {σ : L2.St} {H : Hp} (Pv : Nat → L2.St → Hp → Prop) (h0 : Pv 0 σ H) (hI : ∀ i σ H, i ≤ n → Pv i σ H → I H)
    (hs : ∀ i σ H x H', i < n → Pv i σ H → Same H H' → Y i x H' → g x σ H' fun σ2 H2 => tb { D with nx := Pv (i + 1), ct := Pv (i + 1), bk := D.nx } σ2 H2) (hd : ∀ σ H, Pv n σ H → D.nx σ H) :
    ∃ W : Nat → Nat → L2.St → Hp → Prop, (∃ m, W 0 m σ H) ∧ ∀ i m σ H, W i m σ H →
      (J.stop i H ∧ D.nx σ H) ∨ (J.go i H ∧ ∃ N : L2.St → Hp → Prop, (∀ σ' H', N σ' H' → ∃ m', m' < m ∧ W (i + 1) m' σ' H') ∧ ∀ x H', J.yld i H x H' → g x σ H' fun σ2 H2 => tb { D with nx := N, ct := N, bk := D.nx } σ2 H2) := by
  refine ⟨fun i m σ H => m = n - i ∧ i ≤ n ∧ Pv i σ H, ⟨n, by simp, Nat.zero_le _, h0⟩, ?_⟩
  rintro i m σ H ⟨rfl, hi, p⟩
  by_cases hlt : i < n
  · refine .inr ⟨O.go i H (hI i σ H hi p) hlt, Pv (i + 1), fun σ' H' p' => ⟨n - (i + 1), by omega, rfl, hlt, p'⟩, fun x H' y => ?_⟩
    obtain ⟨s, y⟩ := O.yld i H x H' (hI i σ H hi p) hlt y
    exact hs i σ H x H' hlt p s y
  · have e : i = n := by omega
    subst e
    exact .inl ⟨O.stop H (hI i σ H hi p), hd σ H p⟩
/-- a list made by a block: what is made of each thing -/
theorem lcF {α β : Type} {J : It} {I : Hp → Prop} {Y : Nat → V → Hp → Prop} {as : List α} (O : Over J I as.length Y) {g : TG} {tt : TT} {te : TE} {vs : List Nat} {σ : L2.St} {H1 : Hp} {D : Addr} {Qd : Hp → Prop} (hD : H1 D = none) (f : α → Option β) (F : Hp → V → β → Prop)
    (mono : ∀ H H' v y, Tup H H' → F H v y → F H' v y) (hz : as.length ≤ sizeLine) (hI : ∀ H, Same H1 H → I H)
    (hs : ∀ i x a H (C : VK) (R : Hp → Prop), as[i]? = some a → Y i x H → Same H1 H → (∀ v y H', f a = some y → Same H H' → F H' v y → C v H') → (f a = none → ∀ H', Same H H' → R H') →
      g x (wipe σ vs) H fun σ2 H2 => wipe σ2 vs = wipe σ vs ∧ tt σ2 H2 fun b H3 => if b = true then te σ2 H3 C else R H3)
    (hd : ∀ H ws, Same H1 H → H D = some (.lst ws) → Paired (F H) ws (as.filterMap f) → Qd H) :
    ∃ W : Nat → Nat → Hp → Prop, (∃ m, W 0 m (upd H1 D (.lst []))) ∧ ∀ i m H, W i m H →
      (J.stop i H ∧ Qd H) ∨ (J.go i H ∧ ∃ Nx : Hp → Prop, (∀ H', Nx H' → ∃ m', m' < m ∧ W (i + 1) m' H') ∧ ∀ x H', J.yld i H x H' → g x (wipe σ vs) H' fun σ2 H2 => wipe σ2 vs = wipe σ vs ∧ tt σ2 H2 fun b H3 =>
        if b = true then te σ2 H3 fun y H4 => ∃ acc, H4 D = some (.lst acc) ∧ acc.length < sizeLine ∧ Nx (upd H4 D (.lst (acc ++ [y]))) else Nx H3) := by
  let Pv : Nat → Hp → Prop := fun i H => Same H1 H ∧ ∃ ws, H D = some (.lst ws) ∧ Paired (F H) ws ((as.take i).filterMap f) ∧ ws.length ≤ i
  refine ⟨fun i m H => m = as.length - i ∧ i ≤ as.length ∧ Pv i H, ⟨as.length, by simp, Nat.zero_le _, same_new hD, [], upd_same, by simpa using Paired.nil, Nat.le_refl _⟩, ?_⟩
  rintro i m H ⟨rfl, hi, p⟩
  obtain ⟨sm, ws, hw, pr, lw⟩ := id p
  by_cases hlt : i < as.length
  · refine .inr ⟨O.go i H (hI H sm) hlt, Pv (i + 1), fun H' p' => ⟨as.length - (i + 1), by omega, rfl, hlt, p'⟩, fun x H' y => ?_⟩
    obtain ⟨s, y⟩ := O.yld i H x H' (hI H sm) hlt y
    have ea : as[i]? = some as[i] := List.getElem?_eq_getElem hlt
    have et : as.take (i + 1) = as.take i ++ [as[i]] := by rw [List.take_succ, ea]; rfl
    refine hs i x as[i] H' _ _ ea y (Same.tr sm s) (fun v b H4 e s4 hf => ?_) (fun e H4 s4 => ?_)
    · have k : Same H H4 := Same.tr s s4
      refine ⟨ws, k _ _ hw, by omega, ?_⟩
      have kd : Same H1 (upd H4 D (.lst (ws ++ [v]))) := fun c o q => by rw [upd_ne (ne_of_none q hD)]; exact k _ _ (sm _ _ q)
      have tp : Tup H4 (upd H4 D (.lst (ws ++ [v]))) := tup_lst (k _ _ hw)
      refine ⟨kd, ws ++ [v], upd_same, ?_, by rw [List.length_append]; exact Nat.succ_le_succ lw⟩
      rw [et, List.filterMap_append]
      have e9 : [as[i]].filterMap f = [b] := by simp [e]
      rw [e9]
      exact Paired.snoc (paired_mono (fun a c => mono _ _ a c (Tup.tr (Same.tup k) tp)) pr) (mono _ _ v b tp hf)
    · have k : Same H H4 := Same.tr s s4
      refine ⟨Same.tr sm k, ws, k _ _ hw, ?_, by omega⟩
      rw [et, List.filterMap_append]
      have e9 : [as[i]].filterMap f = [] := by simp [e]
      rw [e9, List.append_nil]
      exact paired_mono (fun a b => mono _ _ a b (Same.tup k)) pr
  · have e : i = as.length := by omega
    subst e
    rw [List.take_length] at pr
    exact .inl ⟨O.stop H (hI H sm), hd H ws sm hw pr⟩
theorem mx_put {K : PySem.W.Frag} {H : Hp} {kvs : List (List Key × V)} {m : Mx} (h : Paired (EntR K H) kvs m) {r : Row} {v : V} {q : Rat} (hn : r ∉ m.map (·.1)) (hv : ∃ p, v = .ref p ∧ RatAt K H p q) : Paired (EntR K H) (putK kvs (KR r) v) (m ++ [(r, q)]) := by
  have hno : ¬ (kvs.any fun kv => decide (kv.1 = KR r)) = true := by
    rw [List.any_eq_true]
    rintro ⟨e, he, hk⟩
    have hk' := of_decide_eq_true hk
    obtain ⟨j, y, e1, e2, e3⟩ := LiI.paired_ix h he
    have e4 : y.1 = r := KR_inj (e3.1.symm.trans hk')
    exact hn (List.mem_map.mpr ⟨y, List.mem_of_getElem? e2, e4⟩)
  unfold putK
  rw [if_neg hno]
  exact Paired.snoc h ⟨rfl, hv⟩
/-- a dict made by a block, its rows all different -/
theorem dcF {K : PySem.W.Frag} {α : Type} {J : It} {I : Hp → Prop} {Y : Nat → V → Hp → Prop} {as : List α} (O : Over J I as.length Y) {g : TG} {tt : TT} {tk tv : TE} {vs : List Nat} {σ : L2.St} {H1 : Hp} {D : Addr} {Qd : Hp → Prop} (hD : H1 D = none) (f : α → Option (Row × Rat))
    (hz : as.length ≤ sizeLine) (hn : ((as.filterMap f).map (·.1)).Nodup) (hI : ∀ H, Same H1 H → I H)
    (hs : ∀ i x a H (C : V → V → Hp → Prop) (R : Hp → Prop), as[i]? = some a → Y i x H → Same H1 H → (∀ y z H' e, f a = some e → Same H H' → (∃ p, y = .ref p ∧ RowAt H' p e.1) → (∃ q, z = .ref q ∧ RatAt K H' q e.2) → C y z H') → (f a = none → ∀ H', Same H H' → R H') →
      g x (wipe σ vs) H fun σ2 H2 => wipe σ2 vs = wipe σ vs ∧ tt σ2 H2 fun b H3 => if b = true then tk σ2 H3 fun y H4 => tv σ2 H4 fun z H5 => C y z H5 else R H3)
    (hd : ∀ H kvs, Same H1 H → H D = some (.dT kvs) → Paired (EntR K H) kvs (as.filterMap f) → Qd H) :
    ∃ W : Nat → Nat → Hp → Prop, (∃ m, W 0 m (upd H1 D (.dT []))) ∧ ∀ i m H, W i m H →
      (J.stop i H ∧ Qd H) ∨ (J.go i H ∧ ∃ Nx : Hp → Prop, (∀ H', Nx H' → ∃ m', m' < m ∧ W (i + 1) m' H') ∧ ∀ x H', J.yld i H x H' → g x (wipe σ vs) H' fun σ2 H2 => wipe σ2 vs = wipe σ vs ∧ tt σ2 H2 fun b H3 =>
        if b = true then tk σ2 H3 fun y H4 => tv σ2 H4 fun z H5 => ∃ kvs k p, y = .ref p ∧ H5 p = some (.tup (k.map kV)) ∧ H5 D = some (.dT kvs) ∧ kvs.length < sizeLine ∧ Nx (upd H5 D (.dT (putK kvs k z))) else Nx H3) := by
  let Pv : Nat → Hp → Prop := fun i H => Same H1 H ∧ ∃ kvs, H D = some (.dT kvs) ∧ Paired (EntR K H) kvs ((as.take i).filterMap f) ∧ kvs.length ≤ i
  refine ⟨fun i m H => m = as.length - i ∧ i ≤ as.length ∧ Pv i H, ⟨as.length, by simp, Nat.zero_le _, same_new hD, [], upd_same, by simpa using Paired.nil, Nat.le_refl _⟩, ?_⟩
  rintro i m H ⟨rfl, hi, p⟩
  obtain ⟨sm, ws, hw, pr, lw⟩ := id p
  by_cases hlt : i < as.length
  · refine .inr ⟨O.go i H (hI H sm) hlt, Pv (i + 1), fun H' p' => ⟨as.length - (i + 1), by omega, rfl, hlt, p'⟩, fun x H' y => ?_⟩
    obtain ⟨s, y⟩ := O.yld i H x H' (hI H sm) hlt y
    have ea : as[i]? = some as[i] := List.getElem?_eq_getElem hlt
    have et : as.take (i + 1) = as.take i ++ [as[i]] := by rw [List.take_succ, ea]; rfl
    refine hs i x as[i] H' _ _ ea y (Same.tr sm s) (fun v z H4 e he s4 hr hq => ?_) (fun e H4 s4 => ?_)
    · have k : Same H H4 := Same.tr s s4
      obtain ⟨pk, rfl, hr⟩ := hr
      refine ⟨ws, KR e.1, pk, rfl, by rw [KR_kV]; exact hr, k _ _ hw, by omega, ?_⟩
      have kd : Same H1 (upd H4 D (.dT (putK ws (KR e.1) z))) := fun c o q => by rw [upd_ne (ne_of_none q hD)]; exact k _ _ (sm _ _ q)
      have tp : Tup H4 (upd H4 D (.dT (putK ws (KR e.1) z))) := tup_dT (k _ _ hw)
      refine ⟨kd, _, upd_same, ?_, by have := length_putK ws (KR e.1) z; omega⟩
      rw [et, List.filterMap_append]
      have e9 : [as[i]].filterMap f = [e] := by simp [he]
      rw [e9]
      obtain ⟨q, rfl, hq⟩ := hq
      refine mx_put (paired_mono (Tup.ent (Tup.tr (Same.tup k) tp)) pr) ?_ ⟨q, rfl, tp.rat hq⟩
      have e8 : as.filterMap f = ((as.take i).filterMap f ++ [e]) ++ (as.drop (i + 1)).filterMap f := by
        rw [← e9, ← List.filterMap_append, ← et, ← List.filterMap_append, List.take_append_drop]
      rw [e8, List.map_append, List.map_append] at hn
      have h1 := (List.nodup_append.mp (List.nodup_append.mp hn).1).2.2
      exact fun hm => h1 _ hm _ (by simp) rfl
    · have k : Same H H4 := Same.tr s s4
      refine ⟨Same.tr sm k, ws, k _ _ hw, ?_, by omega⟩
      rw [et, List.filterMap_append]
      have e9 : [as[i]].filterMap f = [] := by simp [e]
      rw [e9, List.append_nil]
      exact paired_mono (Tup.ent (Same.tup k)) pr
  · have e : i = as.length := by omega
    subst e
    rw [List.take_length] at pr
    exact .inl ⟨O.stop H (hI H sm), hd H ws sm hw pr⟩
/-- the set of ints made by a block where all are k -/
theorem scF {w : World} {J : It} {I : Hp → Prop} {n : Nat} {Y : Nat → V → Hp → Prop} (O : Over J I n Y) {g : TG} {tt : TT} {te : TE} {vs : List Nat} {σ : L2.St} {H1 : Hp} {D : Addr} {Qd : Hp → Prop} (hD : H1 D = none) (k : Int) (hI : ∀ H, Same H1 H → I H)
    (hs : ∀ i x H (C : VK) (R : Hp → Prop), i < n → Y i x H → Same H1 H → (∀ H', Same H H' → C (.int k) H') → g x (wipe σ vs) H fun σ2 H2 => wipe σ2 vs = wipe σ vs ∧ tt σ2 H2 fun b H3 => if b = true then te σ2 H3 C else R H3)
    (hd : ∀ H S m, Same H1 H → H D = some (SetO w D S m) → m ≤ 1 → Qd H) :
    ∃ W : Nat → Nat → Hp → Prop, (∃ m, W 0 m (upd H1 D (SetO w D (fun _ => false) 0))) ∧ ∀ i m H, W i m H →
      (J.stop i H ∧ Qd H) ∨ (J.go i H ∧ ∃ Nx : Hp → Prop, (∀ H', Nx H' → ∃ m', m' < m ∧ W (i + 1) m' H') ∧ ∀ x H', J.yld i H x H' → g x (wipe σ vs) H' fun σ2 H2 => wipe σ2 vs = wipe σ vs ∧ tt σ2 H2 fun b H3 =>
        if b = true then te σ2 H3 fun y H4 => ∃ (c : Int) (S : Int → Bool) (n : Nat), y = .int c ∧ H4 D = some (SetO w D S n) ∧ n + 1 < scanBound ∧ Nx (upd H4 D (SetO w D (fun j => S j || decide (j = c)) (if S c = true then n else n + 1))) else Nx H3) := by
  let Pv : Hp → Prop := fun H => Same H1 H ∧ ∃ S m, H D = some (SetO w D S m) ∧ ((S k = true ∧ m ≤ 1) ∨ m = 0)
  refine ⟨fun i m H => m = n - i ∧ i ≤ n ∧ Pv H, ⟨n, by simp, Nat.zero_le _, same_new hD, _, 0, upd_same, .inr rfl⟩, ?_⟩
  rintro i m H ⟨rfl, hi, p⟩
  obtain ⟨sm, S, c, hw, hc⟩ := id p
  by_cases hlt : i < n
  · refine .inr ⟨O.go i H (hI H sm) hlt, Pv, fun H' p' => ⟨n - (i + 1), by omega, rfl, hlt, p'⟩, fun x H' y => ?_⟩
    obtain ⟨s, y⟩ := O.yld i H x H' (hI H sm) hlt y
    refine hs i x H' _ _ hlt y (Same.tr sm s) fun H4 s4 => ?_
    have q : Same H H4 := Same.tr s s4
    have hb : 1 + 1 < scanBound := by unfold scanBound; decide
    refine ⟨k, S, c, rfl, q _ _ hw, by rcases hc with ⟨_, h⟩ | h <;> omega, fun a o e => by rw [upd_ne (ne_of_none e hD)]; exact q _ _ (sm _ _ e), _, _, upd_same, .inl ⟨by simp, ?_⟩⟩
    by_cases e : S k = true
    · rw [if_pos e]
      rcases hc with ⟨_, h⟩ | h <;> omega
    · rw [if_neg e]
      rcases hc with ⟨h, _⟩ | h
      · exact absurd h e
      · omega
  · have e : i = n := by omega
    subst e
    exact .inl ⟨O.stop H (hI H sm), hd H S c sm hw (by rcases hc with ⟨_, h⟩ | h <;> omega)⟩
end Rj
set_option Elab.async false
set_option linter.all false
set_option maxRecDepth 100000
set_option maxHeartbeats 4000000
/-! What is asked of the arguments. -/
namespace Rj
open PySem PySem.Spec PyProof.Rows L2
/-- the answer is true -/
def spYes (pre : List V → Hp → Prop) : Sp := fun vs H Q _ => pre vs H ∧ ∀ H', Same H H' → Q (.bl true) H'
/-- nothing happens -/
def spOk (pre : List V → Hp → Prop) : Sp := fun vs H Q _ => pre vs H ∧ ∀ H', Same H H' → Q .non H'
/-- a row of entries above 0 with a sum of 40 at most -/
structure Small (r : Row) : Prop where
  pos : ∀ x ∈ r, 0 < x
  sum : r.sum ≤ 40
theorem pos_len : ∀ {r : Row}, (∀ x ∈ r, 0 < x) → (r.length : Int) ≤ r.sum
  | [], _ => by simp
  | a :: r, h => by
    have h1 := h a (by simp)
    have h2 := pos_len (r := r) fun x hx => h x (List.mem_cons_of_mem _ hx)
    rw [List.sum_cons, List.length_cons]
    push_cast
    omega
theorem Small.len {r : Row} (h : Small r) : r.length ≤ 40 := by
  have := pos_len h.pos
  have := h.sum
  omega
theorem Small.line {r : Row} (h : Small r) : r.length ≤ sizeLine := by
  have := h.len
  rw [sizeLine_eq]
  omega
theorem blT {c : Prop} [Decidable c] {Q : VK} {H : Hp} (h : c) (q : Q (.bl true) H) : Q (.bl (decide c)) H := by
  rw [decide_eq_true h]
  exact q
theorem blF {c : Prop} [Decidable c] {Q : VK} {H : Hp} (h : ¬ c) (q : Q (.bl false) H) : Q (.bl (decide c)) H := by
  rw [decide_eq_false h]
  exact q
theorem dT {c : Prop} [Decidable c] (h : c) : V.bl (decide c) = .bl true := by rw [decide_eq_true h]
theorem dF {c : Prop} [Decidable c] (h : ¬ c) : V.bl (decide c) = .bl false := by rw [decide_eq_false h]
theorem pair_map {β : Type} {g : β → V} : ∀ {ws : List V} {bs : List β}, Paired (fun v b => v = g b) ws bs → ws = bs.map g
  | _, _, .nil => rfl
  | _, _, .cons h t => by rw [h, pair_map t, List.map_cons]
theorem all_const {α : Type} (as : List α) : (as.filterMap fun _ => some true).all id = true := by
  induction as with
  | nil => rfl
  | cons a as ih => simpa using ih
theorem any_const {α : Type} (as : List α) : (as.filterMap fun _ => some false).any id = false := by
  induction as with
  | nil => rfl
  | cons a as ih => simpa using ih
abbrev sWhole : Stmt := top 11
abbrev sFrom : Stmt := top 13
abbrev sWholes : Stmt := top 14
abbrev sReqFrom : Stmt := top 16
abbrev sChoice : Stmt := top 17
abbrev sIsRow : Stmt := top 32
abbrev sReqRow : Stmt := top 33
abbrev sReqBound : Stmt := top 62
abbrev sReqBoth : Stmt := top 63
theorem scWhole : FnScope ["value"] ["value"] (defScope sWhole) := ⟨rfl, rfl, rfl, by decide +kernel, rfl, by decide +kernel, by decide +kernel⟩
theorem scFrom : FnScope ["value", "least", "most"] ["value", "least", "most"] (defScope sFrom) := ⟨rfl, rfl, rfl, by decide +kernel, rfl, by decide +kernel, by decide +kernel⟩
theorem scWholes : FnScope ["value", "entry"] ["value"] (defScope sWholes) := ⟨rfl, rfl, rfl, by decide +kernel, rfl, by decide +kernel, by decide +kernel⟩
theorem scReqFrom : FnScope ["value", "least", "most"] ["value", "least", "most"] (defScope sReqFrom) := ⟨rfl, rfl, rfl, by decide +kernel, rfl, by decide +kernel, by decide +kernel⟩
theorem scChoice : FnScope ["value", "names"] ["value", "names"] (defScope sChoice) := ⟨rfl, rfl, rfl, by decide +kernel, rfl, by decide +kernel, by decide +kernel⟩
theorem scIsRow : FnScope ["value", "entry"] ["value"] (defScope sIsRow) := ⟨rfl, rfl, rfl, by decide +kernel, rfl, by decide +kernel, by decide +kernel⟩
theorem scReqRow : FnScope ["value"] ["value"] (defScope sReqRow) := ⟨rfl, rfl, rfl, by decide +kernel, rfl, by decide +kernel, by decide +kernel⟩
theorem scReqBound : FnScope ["value"] ["value"] (defScope sReqBound) := ⟨rfl, rfl, rfl, by decide +kernel, rfl, by decide +kernel, by decide +kernel⟩
theorem scReqBoth : FnScope ["bound", "row"] ["bound", "row"] (defScope sReqBoth) := ⟨rfl, rfl, rfl, by decide +kernel, rfl, by decide +kernel, by decide +kernel⟩
def isInt (vs : List V) (_ : Hp) : Prop := ∃ n : Int, vs = [.int n]
def isIn (vs : List V) (_ : Hp) : Prop := ∃ n a b : Int, vs = [.int n, .int a, .int b] ∧ a ≤ n ∧ n ≤ b
def isTupI (vs : List V) (H : Hp) : Prop := ∃ (a : Addr) (r : Row), vs = [.ref a] ∧ RowAt H a r ∧ r.length ≤ sizeLine
def isSmall (vs : List V) (H : Hp) : Prop := ∃ (a : Addr) (r : Row), vs = [.ref a] ∧ RowAt H a r ∧ Small r
section
variable {P : Program} {w : World} {K : PySem.W.Frag} {mg : Str → Option Value} {base : Heap}
theorem ty_tup {H : Hp} {a : Addr} {r : Row} (h : RowAt H a r) : TyX K H (.ref a) (.type "tuple") := .base (.tup h)
theorem has_whole (D : At K mg "is_whole" sWhole) (T : Tx K mg) : Has P w K mg base 1 "is_whole" (spYes isInt) := by
  refine D.has scWhole (fun vs H Q E h => ?_) (fun _ _ _ _ _ _ us hl => match us, hl with | [_], _ => rfl) (fun f cdv A outer s H vs Q E hr h => ?_)
  · obtain ⟨⟨n, rfl⟩, _⟩ := h
    rfl
  · obtain ⟨⟨n, rfl⟩, k⟩ := h
    refine ⟨_, pss_one (ps_ret (pe_and (pe_callB call_isi rfl T.isi PyProof.Rows.boot_isinstance (pa_cons (pv 0) (pa_cons (pe_bltn (v := .ty "int") rfl T.int PyProof.Rows.boot_int rfl) pa_nil)))
      (pe_one (pe_not (pe_callB call_isi rfl T.isi PyProof.Rows.boot_isinstance (pa_cons (pv 0) (pa_cons (pe_bltn (v := .ty "bool") rfl T.bool PyProof.Rows.boot_bool rfl) pa_nil))))))), ?_⟩
    refine ⟨_, rfl, .int n, .ty "int", _, _, true, rfl, .ty _, .base (.int n), kit_ty (by decide +kernel), true, rfl, iteT ?_⟩
    refine ⟨_, rfl, .int n, .ty "bool", _, _, false, rfl, .ty _, .base (.int n), kit_ty (by decide +kernel), false, rfl, ?_⟩
    exact k _ (Same.rfl' _)
theorem has_from (D : At K mg "is_from" sFrom) (W : Has P w K mg base 1 "is_whole" (spYes isInt)) : Has P w K mg base 2 "is_from" (spYes isIn) := by
  refine D.has scFrom (fun vs H Q E h => ?_) (fun _ _ _ _ _ _ us hl => match us, hl with | [_, _, _], _ => rfl) (fun f cdv A outer s H vs Q E hr h => ?_)
  · obtain ⟨⟨n, a, b, rfl, _⟩, _⟩ := h
    rfl
  · obtain ⟨⟨n, a, b, rfl, h1, h2⟩, k⟩ := h
    refine ⟨_, pss_one (ps_ret (pe_and (pe_cal W hr (pa_cons (pv 0) pa_nil)) (pe_one (pe_chain op_le op_le (pv 1) (pv 0) (pv 2))))), ?_⟩
    refine ⟨_, rfl, ⟨n, rfl⟩, fun H1 s1 => ⟨true, rfl, iteT ?_⟩⟩
    refine ⟨_, rfl, _, rfl, _, _, rfl, rfl, true, dT h1, iteT ⟨_, rfl, _, _, rfl, rfl, ?_⟩⟩
    exact blT (Q := Q) h2 (k _ s1)
theorem has_wholes (D : At K mg "are_wholes" sWholes) (T : Tx K mg) (W : Has P w K mg base 1 "is_whole" (spYes isInt)) : Has P w K mg base 2 "are_wholes" (spYes isTupI) := by
  refine D.has scWholes (fun vs H Q E h => ?_) (fun _ _ _ _ _ _ us hl => match us, hl with | [_], _ => rfl) (fun f cdv A outer s H vs Q E hr h => ?_)
  · obtain ⟨⟨a, r, rfl, _⟩, _⟩ := h
    rfl
  · obtain ⟨⟨a, r, rfl, ha, hz⟩, k⟩ := h
    refine ⟨_, pss_one (ps_ret (pe_and (pe_callB call_isi rfl T.isi PyProof.Rows.boot_isinstance (pa_cons (pv 0) (pa_cons (pe_bltn (v := .ty "tuple") rfl T.tuple PyProof.Rows.boot_tuple rfl) pa_nil)))
      (pe_one (pe_callB (cr_all (by rfl)) rfl T.all PyProof.Rows.boot_all (pa_cons (pe_lc (own := [("entry", 1)]) (g := gName 1) (tt := tYes) rfl scWholes.nd (pi_tup (pv 0)) (blkOk_by (N := ["value", "entry"]) (sc := defScope sWholes) (by decide +kernel)) (fun _ _ _ _ _ => pg_name (i := 1) scWholes.nd rfl (Or.inl rfl)) (fun _ _ _ _ _ => pts_nil)
        (fun _ _ _ _ _ => pe_cal W hr (pa_cons (pv 1) pa_nil))) pa_nil))))), ?_⟩
    refine ⟨_, rfl, .ref a, .ty "tuple", _, _, true, rfl, .ty _, ty_tup ha, kit_ty (by decide +kernel), true, rfl, iteT ?_⟩
    refine ⟨_, rfl, a, rfl, ⟨_, ha.sq⟩, fun D hD => ?_⟩
    refine lcF (as := r) over_tupM (f := fun _ => some true) (F := fun _ v b => v = .bl b) hD (fun _ _ _ _ _ h => h) hz (fun H1 s1 => (RowAt.same s1 ha).sq) (fun i x n H1 C R e y s1 c _ => ?_) fun H1 ws s1 hw pr => ?_
    · obtain ⟨n', e', rfl⟩ := y
      refine ⟨rfl, iteT (B := True) ?_⟩
      exact ⟨_, rfl, ⟨n', rfl⟩, fun H2 s2 => c _ _ _ rfl s2 rfl⟩
    · refine ⟨D, (r.filterMap fun _ => some true), rfl, SqL.of ?_, ?_⟩
      · rw [← pair_map pr]
        exact hw
      · rw [all_const]
        exact k _ s1
theorem has_reqFrom (D : At K mg "require_from" sReqFrom) (W : Has P w K mg base 2 "is_from" (spYes isIn)) : Has P w K mg base 3 "require_from" (spOk isIn) := by
  refine D.has scReqFrom (fun vs H Q E h => ?_) (fun _ _ _ _ _ _ us hl => match us, hl with | [_, _, _], _ => rfl) (fun f cdv A outer s H vs Q E hr h => ?_)
  · obtain ⟨⟨n, a, b, rfl, _⟩, _⟩ := h
    rfl
  · obtain ⟨⟨n, a, b, rfl, h1, h2⟩, k⟩ := h
    refine ⟨_, pss_one (ps_if (pt_not (pt_val (pe_cal W hr (pa_cons (pv 0) (pa_cons (pv 1) (pa_cons (pv 2) pa_nil)))))) (pss_one ps_never) pss_nil), ?_⟩
    exact ⟨_, rfl, _, rfl, _, rfl, ⟨n, a, b, rfl, h1, h2⟩, fun H1 s1 => ⟨true, rfl, iteF (k _ s1)⟩⟩
theorem has_isRow (D : At K mg "is_row" sIsRow) (T : Tx K mg) (W : Has P w K mg base 2 "are_wholes" (spYes isTupI)) : Has P w K mg base 3 "is_row" (spYes isSmall) := by
  refine D.has scIsRow (fun vs H Q E h => ?_) (fun _ _ _ _ _ _ us hl => match us, hl with | [_], _ => rfl) (fun f cdv A outer s H vs Q E hr h => ?_)
  · obtain ⟨⟨a, r, rfl, _⟩, _⟩ := h
    rfl
  · obtain ⟨⟨a, r, rfl, ha, hr0⟩, k⟩ := h
    obtain ⟨t40, m40⟩ := T.maxW
    refine ⟨_, pss_one (ps_ret (pe_and (pe_cal W hr (pa_cons (pv 0) pa_nil)) (pe_and
      (pe_callB (cr_all (by rfl)) rfl T.all PyProof.Rows.boot_all (pa_cons (pe_lc (own := [("entry", 1)]) (g := gName 1) (tt := tYes) rfl scIsRow.nd (pi_tup (pv 0)) (blkOk_by (N := ["value", "entry"]) (sc := defScope sIsRow) (by decide +kernel)) (fun _ _ _ _ _ => pg_name (i := 1) scIsRow.nd rfl (Or.inl rfl)) (fun _ _ _ _ _ => pts_nil)
        (fun _ _ _ _ _ => pe_cmpR op_gt (pv 1) pe_int (nomark _))) pa_nil))
      (pe_one (pe_cmpR op_le (pe_callB (cr_sumT (by rfl)) rfl T.sum PyProof.Rows.boot_sum (pa_cons (pv 0) pa_nil)) (pe_glob (v := .int 40) rfl m40 ⟨_, rfl⟩) (nomark _)))))), ?_⟩
    refine ⟨_, rfl, ⟨a, r, rfl, ha, hr0.line⟩, fun H0 s0 => ⟨true, rfl, iteT ?_⟩⟩
    have ha0 := RowAt.same s0 ha
    refine ⟨_, rfl, a, rfl, ⟨_, ha0.sq⟩, fun D hD => ?_⟩
    refine lcF (as := r) over_tupM (f := fun _ => some true) (F := fun _ v b => v = .bl b) hD (fun _ _ _ _ _ h => h) hr0.line (fun H1 s1 => (RowAt.same s1 ha0).sq) (fun i x n H1 C R e y s1 c _ => ?_) fun H1 ws s1 hw pr => ?_
    · obtain ⟨n', e', rfl⟩ := y
      have hn : n' = n := Option.some.inj (e'.symm.trans e)
      subst hn
      exact ⟨rfl, iteT (B := True) ⟨_, rfl, _, _, rfl, rfl, c _ true _ rfl (Same.rfl' _) (dT (hr0.pos n' (List.mem_of_getElem? e)))⟩⟩
    · refine ⟨D, (r.filterMap fun _ => some true), rfl, SqL.of ?_, ?_⟩
      · rw [← pair_map pr]
        exact hw
      · rw [all_const]
        refine ⟨true, rfl, iteT ⟨_, rfl, a, r, rfl, (RowAt.same s1 ha0).sq, _, _, rfl, rfl, blT (Q := Q) hr0.sum (k _ (Same.tr s0 s1))⟩⟩
theorem has_reqRow (D : At K mg "require_row" sReqRow) (W : Has P w K mg base 3 "is_row" (spYes isSmall)) : Has P w K mg base 4 "require_row" (spOk isSmall) := by
  refine D.has scReqRow (fun vs H Q E h => ?_) (fun _ _ _ _ _ _ us hl => match us, hl with | [_], _ => rfl) (fun f cdv A outer s H vs Q E hr h => ?_)
  · obtain ⟨⟨a, r, rfl, _⟩, _⟩ := h
    rfl
  · obtain ⟨⟨a, r, rfl, ha, hs⟩, k⟩ := h
    refine ⟨_, pss_one (ps_if (pt_not (pt_val (pe_cal W hr (pa_cons (pv 0) pa_nil)))) (pss_one ps_never) pss_nil), ?_⟩
    exact ⟨_, rfl, ⟨a, r, rfl, ha, hs⟩, fun H1 s1 => ⟨true, rfl, iteF (k _ s1)⟩⟩
/-- a bound of 20 at most -/
def isBound (vs : List V) (_ : Hp) : Prop := ∃ b : Nat, vs = [.int (b : Int)] ∧ 1 ≤ b ∧ b ≤ 20
def isBoth (vs : List V) (H : Hp) : Prop := ∃ (b : Nat) (a : Addr) (r : Row), vs = [.int (b : Int), .ref a] ∧ 1 ≤ b ∧ b ≤ 20 ∧ RowAt H a r ∧ Small r
theorem has_reqBound (D : At K mg "require_bound" sReqBound) (T : Tx K mg) (W : Has P w K mg base 3 "require_from" (spOk isIn)) : Has P w K mg base 4 "require_bound" (spOk isBound) := by
  refine D.has scReqBound (fun vs H Q E h => ?_) (fun _ _ _ _ _ _ us hl => match us, hl with | [_], _ => rfl) (fun f cdv A outer s H vs Q E hr h => ?_)
  · obtain ⟨⟨a, rfl, _⟩, _⟩ := h
    rfl
  · obtain ⟨⟨b, rfl, h1, h2⟩, k⟩ := h
    obtain ⟨t, m200⟩ := T.maxB
    refine ⟨_, pss_one (ps_expr (pe_cal W hr (pa_cons (pv 0) (pa_cons pe_int (pa_cons (pe_glob (v := .int 200) rfl m200 ⟨_, rfl⟩) pa_nil))))), ?_⟩
    exact ⟨_, rfl, ⟨_, _, _, rfl, by omega, by omega⟩, fun H1 s1 => k _ s1⟩
theorem has_reqBoth (D : At K mg "require_bound_and_row" sReqBoth) (B : Has P w K mg base 4 "require_bound" (spOk isBound)) (R : Has P w K mg base 4 "require_row" (spOk isSmall)) : Has P w K mg base 5 "require_bound_and_row" (spOk isBoth) := by
  refine D.has scReqBoth (fun vs H Q E h => ?_) (fun _ _ _ _ _ _ us hl => match us, hl with | [_, _], _ => rfl) (fun f cdv A outer s H vs Q E hr h => ?_)
  · obtain ⟨⟨b, a, r, rfl, _⟩, _⟩ := h
    rfl
  · obtain ⟨⟨b, a, r, rfl, h1, h2, ha, hs⟩, k⟩ := h
    refine ⟨_, pss_cons (ps_expr (pe_cal B hr (pa_cons (pv 0) pa_nil))) (pss_one (ps_expr (pe_cal R hr (pa_cons (pv 1) pa_nil)))), ?_⟩
    exact ⟨_, rfl, ⟨b, rfl, h1, h2⟩, fun H1 s1 => ⟨_, rfl, ⟨a, r, rfl, RowAt.same s1 ha, hs⟩, fun H2 s2 => k _ (Same.tr s1 s2)⟩⟩
end
end Rj
set_option Elab.async false
set_option linter.all false
set_option maxRecDepth 100000
set_option maxHeartbeats 4000000
set_option exponentiation.threshold 100000
/-! The sums over chains: the program's way. -/
namespace Rj
open PySem PySem.Spec PyProof.Rows L2
abbrev sMult : Stmt := top 18
abbrev sRaise : Stmt := top 19
abbrev sScale : Stmt := top 57
theorem scMult : FnScope ["numbers", "found", "number"] ["numbers"] (defScope sMult) := ⟨rfl, rfl, rfl, by decide +kernel, rfl, by decide +kernel, by decide +kernel⟩
theorem scRaise : FnScope ["number", "many", "found", "turn"] ["number", "many"] (defScope sRaise) := ⟨rfl, rfl, rfl, by decide +kernel, rfl, by decide +kernel, by decide +kernel⟩
theorem scScale : FnScope ["bound"] ["bound"] (defScope sScale) := ⟨rfl, rfl, rfl, by decide +kernel, rfl, by decide +kernel, by decide +kernel⟩
theorem ip_mulW {X : Cx} : PIp X .Mult (fun x y H Q => ∃ i j, x = .int i ∧ y = .int j ∧ CMulW i j ∧ Q (.int (i * j)) H) := by
  intro pins s σ H x y v u Q I r1 r2 h
  obtain ⟨i, j, rfl, rfl, c, q⟩ := h
  obtain ⟨t, rfl⟩ := r1
  obtain ⟨t', rfl⟩ := r2
  exact imul_int ⟨.int _, H, I.tok _, ⟨_, rfl⟩, q⟩ c.ok
/-- the least number that all of 1 .. k divide -/
def spMult (K : PySem.W.Frag) : Sp := fun vs H Q _ => ∃ (a : Addr) (k : Nat), vs = [.ref a] ∧ k ≤ 19 ∧ SqL K H a ((List.range k).map fun i => V.int (1 + (i : Nat))) ∧ ∀ H', Same H H' → Q (.int (lcmTo k : Int)) H'
theorem abs_lt {n : Nat} {z : Nat} (h : n < z) : ((n : Int)).natAbs < z := by omega
section
variable {P : Program} {w : World} {K : PySem.W.Frag} {mg : Str → Option Value} {base : Heap}
theorem has_mult (D : At K mg "multiple_of" sMult) (T : Tx K mg) : Has P w K mg base 1 "multiple_of" (spMult K) := by
  refine D.has scMult (fun vs H Q E h => ?_) (fun _ _ _ _ _ _ us hl => match us, hl with | [_], _ => rfl) (fun f cdv A outer s H vs Q E hr h => ?_)
  · obtain ⟨a, k, rfl, _⟩ := h
    rfl
  · obtain ⟨a, k, rfl, hk, ha, q⟩ := h
    refine ⟨_, pss_cons (ps_set (i := 1) scMult.nd rfl (Or.inl rfl) pe_int)
      (pss_cons (ps_for PassesOwn.never rfl (pi_list (pv 0)) (pg_name (i := 2) scMult.nd rfl (Or.inl rfl)) (pss_one (ps_set (i := 1) scMult.nd rfl (Or.inl rfl)
        (pe_op op_mulW (pv 1) (pe_op op_fdivW (pv 2) (pe_callBfun cr_gcd rfl T.gcd (pa_cons (pv 1) (pa_cons (pv 2) pa_nil))))))))
      (pss_one (ps_ret (pv 1)))), ?_⟩
    refine ⟨_, rfl, a, rfl, ⟨_, ha⟩, ?_⟩
    refine forF (over_listM (as := List.range k)) (fun i σ H' => Same H H' ∧ ∃ v, σ = [some (.ref a), some (.int (lcmTo i : Int)), v]) ⟨Same.rfl' _, _, rfl⟩ (fun i σ H' _ h => h.1.seq ha) (fun i σ H1 x H2 hi p s1 y => ?_) (fun σ H' p => ?_)
    · obtain ⟨s0, v, rfl⟩ := p
      obtain ⟨j, ej, rfl⟩ := y
      rw [List.length_range] at hi
      rw [List.getElem?_range hi] at ej
      cases ej
      have l1 := (lcm_small i (by omega)).2.1
      have g1 : 0 < Nat.gcd (lcmTo i) (i + 1) := Nat.gcd_pos_of_pos_right _ (by omega)
      have g2 : Nat.gcd (lcmTo i) (i + 1) ≤ i + 1 := Nat.gcd_le_right _ (by omega)
      have e1 : (1 + (i : Int)) = ((i + 1 : Nat) : Int) := by push_cast; omega
      have e2 : Nat.gcd ((lcmTo i : Int)).natAbs (((i + 1 : Nat) : Int)).natAbs = Nat.gcd (lcmTo i) (i + 1) := rfl
      have q1 : (i + 1) / Nat.gcd (lcmTo i) (i + 1) ≤ i + 1 := Nat.div_le_self _ _
      refine ⟨_, rfl, _, rfl, _, rfl, _, rfl, _, _, rfl, ?_⟩
      rw [e1, e2]
      have z60 : (2 : Nat) ^ 28 < 2 ^ 60 := by decide
      have b1 : i + 1 < 2 ^ 60 := by omega
      have b2 : Nat.gcd (lcmTo i) (i + 1) < 2 ^ 60 := by omega
      have b3 : lcmTo i < 2 ^ 60 := by omega
      have b4 : (i + 1) / Nat.gcd (lcmTo i) (i + 1) < 2 ^ 60 := by omega
      refine ⟨_, _, rfl, rfl, wide_div (b := 60) (by exact_mod_cast g1) (abs_lt b2) (by decide) (by decide), ?_⟩
      refine ⟨_, _, rfl, rfl, wide_mul (a := 60) (b := 60) (abs_lt b3) (by rw [← Int.natCast_ediv]; exact abs_lt b4) (by decide) (by decide) (by decide), ?_⟩
      refine ⟨Same.tr s0 s1, some (.int ((i + 1 : Nat) : Int)), ?_⟩
      rw [← Int.natCast_ediv]
      show [some (V.ref a), some (V.int ((lcmTo i : Int) * (((i + 1) / Nat.gcd (lcmTo i) (i + 1) : Nat) : Int))), some (V.int ((i + 1 : Nat) : Int))] = _
      rw [← Int.natCast_mul]
      rfl
    · obtain ⟨s0, v, rfl⟩ := p
      rw [List.length_range]
      exact ⟨_, rfl, q _ s0⟩
/-- a power -/
def spRaise : Sp := fun vs H Q _ => ∃ (x : Int) (n : Nat), vs = [.int x, .int (n : Int)] ∧ x.natAbs < 2 ^ 28 ∧ n ≤ 40 ∧ ∀ H', Same H H' → Q (.int (x ^ n)) H'
theorem pow_lt {x : Int} (h : x.natAbs < 2 ^ 28) : ∀ n : Nat, (x ^ n).natAbs < 2 ^ (28 * n + 1)
  | 0 => by rw [Int.pow_zero]; decide
  | n + 1 => by
    have ih := pow_lt h n
    rw [Int.pow_succ, Int.natAbs_mul, show 28 * (n + 1) + 1 = 28 * n + 1 + 28 by omega, Nat.pow_add]
    exact Nat.mul_lt_mul'' ih h
theorem has_raise (D : At K mg "raised_to" sRaise) (T : Tx K mg) : Has P w K mg base 1 "raised_to" spRaise := by
  refine D.has scRaise (fun vs H Q E h => ?_) (fun _ _ _ _ _ _ us hl => match us, hl with | [_, _], _ => rfl) (fun f cdv A outer s H vs Q E hr h => ?_)
  · obtain ⟨x, n, rfl, _⟩ := h
    rfl
  · obtain ⟨x, n, rfl, hx, hn, q⟩ := h
    refine ⟨_, pss_cons (ps_set (i := 2) scRaise.nd rfl (Or.inl rfl) pe_int)
      (pss_cons (ps_for PassesOwn.never rfl (pi_range1 rfl T.range (pa_cons (pv 1) pa_nil)) (pg_name (i := 3) scRaise.nd rfl (Or.inl rfl)) (pss_one (ps_aug (i := 2) scRaise.nd rfl (Or.inl rfl) (pv 0) ip_mulW)))
      (pss_one (ps_ret (pv 2)))), ?_⟩
    refine ⟨_, rfl, _, rfl, by omega, by omega, ?_⟩
    refine forF over_range (fun i σ H' => Same H H' ∧ ∃ v, σ = [some (.int x), some (.int (n : Int)), some (.int (x ^ i)), v]) ⟨Same.rfl' _, _, by rw [Int.pow_zero]; rfl⟩ (fun i σ H' _ h => trivial) (fun i σ H1 y H2 hi p s1 e => ?_) (fun σ H' p => ?_)
    · obtain ⟨s0, v, rfl⟩ := p
      have hi' : i ≤ 40 := by omega
      refine ⟨_, rfl, _, rfl, _, _, rfl, rfl, wide_mul (a := 28 * i + 1) (b := 28) (pow_lt hx i) hx (by omega) (by decide) (by omega), Same.tr s0 s1, some y, ?_⟩
      rw [Int.pow_succ]
      rfl
    · obtain ⟨s0, v, rfl⟩ := p
      exact ⟨_, rfl, q _ s0⟩
/-- the scale of a bound -/
def spScale : Sp := fun vs H Q _ => ∃ k : Nat, vs = [.int ((k : Int) + 1)] ∧ k ≤ 19 ∧ ∀ H', Same H H' → Q (.int (lcmTo k : Int)) H'
theorem has_scale (D : At K mg "scale_of" sScale) (T : Tx K mg) (M : Has P w K mg base 1 "multiple_of" (spMult K)) : Has P w K mg base 2 "scale_of" spScale := by
  refine D.has scScale (fun vs H Q E h => ?_) (fun _ _ _ _ _ _ us hl => match us, hl with | [_], _ => rfl) (fun f cdv A outer s H vs Q E hr h => ?_)
  · obtain ⟨k, rfl, _⟩ := h
    rfl
  · obtain ⟨k, rfl, hk, q⟩ := h
    refine ⟨_, pss_one (ps_ret (pe_cal M hr (pa_cons (pe_listRg rfl rfl T.list (prg_2 rfl T.range pe_int (pv 0))) pa_nil))), ?_⟩
    refine ⟨_, rfl, _, _, rfl, rfl, RgOk.of_le (by decide) (by omega) (by decide) (by omega), fun p hp => ⟨p, k, rfl, hk, SqL.of ?_, fun H' s' => q _ (Same.tr (same_new hp) s')⟩⟩
    rw [upd_same]
    have e : rgV 1 ((k : Int) + 1) = (List.range k).map fun i => V.int (1 + (i : Nat)) := by
      unfold rgV
      have : ((k : Int) + 1 - 1).toNat = k := by omega
      rw [this]
    rw [e]
end
end Rj
set_option Elab.async false
set_option linter.all false
set_option maxRecDepth 100000
set_option maxHeartbeats 4000000
set_option exponentiation.threshold 100000
/-! The sums over chains: scaled, then lowest. -/
namespace Rj
open PySem PySem.Spec PyProof.Rows L2
abbrev sScaled : Stmt := top 58
abbrev sSumIn : Stmt := top 59
abbrev sCutIn : Stmt := top 60
abbrev sSlackIn : Stmt := top 61
abbrev sCutSum : Stmt := top 64
abbrev sSlackSum : Stmt := top 65
theorem scScaled : FnScope ["bound", "row", "is_slack", "scale", "found", "entry", "longer", "member", "rest"] ["bound", "row", "is_slack"] (defScope sScaled) := ⟨rfl, rfl, rfl, by decide +kernel, rfl, by decide +kernel, by decide +kernel⟩
theorem scSumIn : FnScope ["bound", "row", "is_slack"] ["bound", "row", "is_slack"] (defScope sSumIn) := ⟨rfl, rfl, rfl, by decide +kernel, rfl, by decide +kernel, by decide +kernel⟩
theorem scCutIn : FnScope ["bound", "row"] ["bound", "row"] (defScope sCutIn) := ⟨rfl, rfl, rfl, by decide +kernel, rfl, by decide +kernel, by decide +kernel⟩
theorem scSlackIn : FnScope ["bound", "row"] ["bound", "row"] (defScope sSlackIn) := ⟨rfl, rfl, rfl, by decide +kernel, rfl, by decide +kernel, by decide +kernel⟩
theorem scCutSum : FnScope ["bound", "row"] ["bound", "row"] (defScope sCutSum) := ⟨rfl, rfl, rfl, by decide +kernel, rfl, by decide +kernel, by decide +kernel⟩
theorem scSlackSum : FnScope ["bound", "row"] ["bound", "row"] (defScope sSlackSum) := ⟨rfl, rfl, rfl, by decide +kernel, rfl, by decide +kernel, by decide +kernel⟩
/-- the last i entries -/
def suf (r : Row) (i : Nat) : Row := (r.reverse.take i).reverse
theorem suf_zero (r : Row) : suf r 0 = [] := rfl
theorem suf_all (r : Row) : suf r r.length = r := by
  unfold suf
  rw [List.take_of_length_le (by simp), List.reverse_reverse]
theorem suf_succ {r : Row} {i : Nat} {x : Int} (h : r.reverse[i]? = some x) : suf r (i + 1) = x :: suf r i := by
  unfold suf
  rw [List.take_succ, h]
  simp
theorem sum_take_le : ∀ {l : Row} (i : Nat), (∀ x ∈ l, 0 < x) → (l.take i).sum ≤ l.sum
  | [], i, _ => by simp
  | a :: l, 0, h => by
    have := pos_len h
    simp only [List.take_zero, List.sum_nil]
    omega
  | a :: l, i + 1, h => by
    have := sum_take_le (l := l) i fun x hx => h x (List.mem_cons_of_mem _ hx)
    rw [List.take_succ_cons, List.sum_cons, List.sum_cons]
    omega
theorem sum_rev (l : Row) : l.reverse.sum = l.sum := by
  induction l with
  | nil => rfl
  | cons a l ih => rw [List.reverse_cons, List.sum_append, ih, List.sum_cons, List.sum_cons, List.sum_nil]; omega
theorem small_rev {r : Row} (h : Small r) : Small r.reverse := ⟨fun x hx => h.pos x (List.mem_reverse.mp hx), by rw [sum_rev]; exact h.sum⟩
theorem small_take {r : Row} (h : Small r) (i : Nat) : Small (r.take i) := ⟨fun x hx => h.pos x (List.mem_of_mem_take hx), Int.le_trans (sum_take_le i h.pos) h.sum⟩
theorem small_suf {r : Row} (h : Small r) (i : Nat) : Small (suf r i) := small_rev (small_take (small_rev h) i)
theorem Small.wt {r : Row} (h : Small r) : wt r ≤ 40 := by
  have := wt_sum h.pos
  have := h.sum
  omega
theorem Small.entry {r : Row} (h : Small r) {x : Int} (hx : x ∈ r) : 0 < x ∧ x ≤ 40 := by
  refine ⟨h.pos x hx, ?_⟩
  have key : ∀ {l : Row}, (∀ y ∈ l, 0 < y) → ∀ y ∈ l, y ≤ l.sum := by
    intro l
    induction l with
    | nil => intro _ y hy; cases hy
    | cons a l ih =>
      intro hp y hy
      have h1 := pos_len (r := l) fun z hz => hp z (List.mem_cons_of_mem _ hz)
      rw [List.sum_cons]
      rcases List.mem_cons.mp hy with rfl | hy
      · omega
      · have := ih (fun z hz => hp z (List.mem_cons_of_mem _ hz)) y hy
        have := hp a (by simp)
        omega
  exact Int.le_trans (key h.pos x hx) h.sum
/-- the row of sums, as a list -/
def tab (sl : Bool) (L : Nat) (r : Row) (n : Nat) : List V := (List.range n).map fun m => V.int (sc sl (L : Int) r m)
theorem tab_nil (sl : Bool) (L n : Nat) : (List.replicate n [V.int 1]).flatten = tab sl L [] n := by
  unfold tab
  induction n with
  | zero => rfl
  | succ n ih =>
    rw [List.replicate_succ', List.flatten_append, ih, List.range_succ, List.map_append]
    rfl
theorem tab_get {sl : Bool} {L : Nat} {r : Row} {n j : Nat} (h : j < n) : (tab sl L r n)[j]? = some (.int (sc sl (L : Int) r j)) := by
  unfold tab
  rw [List.getElem?_map, List.getElem?_range h]
  rfl
theorem tab_succ (sl : Bool) (L : Nat) (r : Row) (n : Nat) : tab sl L r (n + 1) = tab sl L r n ++ [.int (sc sl (L : Int) r n)] := by
  unfold tab
  rw [List.range_succ, List.map_append]
  rfl
theorem tab_len (sl : Bool) (L : Nat) (r : Row) (n : Nat) : (tab sl L r n).length = n := by
  unfold tab
  rw [List.length_map, List.length_range]
theorem pick {ta tb : TE} {i : Nat} {σ : L2.St} {H : Hp} {C : VK} {c : Bool} (z : V) (hc : σ[i]? = some (some (.bl c))) (h1 : c = true → ∀ C : VK, C z H → ta σ H C) (h2 : c = false → ∀ C : VK, C z H → tb σ H C) (h : C z H) : tIf (tB (tVar i)) ta tb σ H C := by
  refine ⟨_, hc, c, rfl, ?_⟩
  cases c with
  | true => exact iteT (h1 rfl C h)
  | false => exact iteF (h2 rfl C h)
def spScaled : Sp := fun vs H Q _ => ∃ (k : Nat) (a : Addr) (r : Row) (sl : Bool), vs = [.int ((k : Int) + 1), .ref a, .bl sl] ∧ k ≤ 19 ∧ RowAt H a r ∧ Small r ∧
  ∀ p H', Same H H' → H' p = some (.lst (tab sl (lcmTo k) r (k + 1))) → Q (.ref p) H'
section
variable {P : Program} {w : World} {K : PySem.W.Frag} {mg : Str → Option Value} {base : Heap}
theorem has_scaled (D : At K mg "scaled_sums" sScaled) (T : Tx K mg) (S : Has P w K mg base 2 "scale_of" spScale) (R : Has P w K mg base 1 "raised_to" spRaise) : Has P w K mg base 3 "scaled_sums" spScaled := by
  refine D.has scScaled (fun vs H Q E h => ?_) (fun _ _ _ _ _ _ us hl => match us, hl with | [_, _, _], _ => rfl) (fun f cdv A outer s H vs Q E hr h => ?_)
  · obtain ⟨k, a, r, sl, rfl, _⟩ := h
    rfl
  · obtain ⟨k, a, r, sl, rfl, hk, ha, hs, q⟩ := h
    refine ⟨_, pss_cons (ps_par (i := 3) (j := 4) rfl scScaled.nd rfl rfl (by decide) rfl rfl (pa_cons (pe_cal S hr (pa_cons (pv 0) pa_nil)) (pa_cons (pe_op op_rep (pe_lst (pa_cons pe_int pa_nil)) (pv 0)) pa_nil)) (by rfl))
      (pss_cons (ps_for PassesOwn.never rfl (pi_tup (pe_revT (pv 1))) (pg_name (i := 5) scScaled.nd rfl (Or.inl rfl)) (pss_cons (ps_set (i := 6) scScaled.nd rfl (Or.inl rfl) (pe_lst (pa_cons pe_int pa_nil)))
        (pss_cons (ps_for PassesOwn.never rfl (pi_range2 rfl T.range (pa_cons pe_int (pa_cons (pv 0) pa_nil))) (pg_name (i := 7) scScaled.nd rfl (Or.inl rfl))
          (pss_cons (ps_set (i := 8) scScaled.nd rfl (Or.inl rfl) (pe_ifExp (pt_val (pv 2)) (pe_ix ix_list (pv 4) (pv 7) (fun _ _ => rfl)) (pe_ix ix_list (pv 4) (pe_op op_sub (pv 7) pe_int) (fun _ _ => rfl))))
          (pss_one (ps_expr (pe_bm PySem.F.plainAttrs_list PySem.F.slot_list_append PySem.F.type_list_append mt_append (pv 6) (pa_cons (pe_op op_add (pe_ix ix_list (pv 6) (pe_un un_neg pe_int) (fun _ _ => rfl))
            (pe_op op_mulW (pv 8) (pe_cal R hr (pa_cons (pe_op op_fdivW (pv 3) (pv 7)) (pa_cons (pv 5) pa_nil))))) pa_nil))))))
        (pss_one (ps_set (i := 4) scScaled.nd rfl (Or.inl rfl) (pv 6))))))
      (pss_one (ps_ret (pv 4)))), ?_⟩
    have hL := lcm_small k hk
    refine ⟨_, rfl, k, rfl, hk, fun H1 s1 => ?_⟩
    refine ⟨by show 1 ≤ sizeLine; decide, fun l0 h0 => ⟨_, rfl, l0, _, _, rfl, rfl, upd_same, by omega, by omega, ?_, fun p0 hp0 => ⟨_, _, rfl, ?_⟩⟩⟩
    · rw [sizeLine_eq]
      show 1 * ((k : Int) + 1).toNat ≤ 16777216
      omega
    have e0 : ((k : Int) + 1).toNat = k + 1 := by omega
    rw [e0, tab_nil sl (lcmTo k)]
    have s2 : Same H (upd (upd H1 l0 (.lst [.int 1])) p0 (.lst (tab sl (lcmTo k) [] (k + 1)))) := Same.tr s1 (Same.tr (same_new h0) (same_new hp0))
    have f2 : (upd (upd H1 l0 (.lst [.int 1])) p0 (.lst (tab sl (lcmTo k) [] (k + 1)))) p0 = some (.lst (tab sl (lcmTo k) [] (k + 1))) := upd_same
    generalize hB : upd (upd H1 l0 (.lst [.int 1])) p0 (.lst (tab sl (lcmTo k) [] (k + 1))) = HB at s2 f2 ⊢
    refine ⟨_, rfl, a, r.map V.int, rfl, (RowAt.same s2 ha).sq, fun q0 hq0 => ⟨q0, rfl, ⟨_, SqT.of upd_same⟩, ?_⟩⟩
    have eq0 : (upd HB q0 (.tup (r.map V.int).reverse)) q0 = some (.tup (r.reverse.map V.int)) := by rw [upd_same, List.map_reverse]
    have s3 : Same H (upd HB q0 (.tup (r.map V.int).reverse)) := Same.tr s2 (same_new hq0)
    have f3 : (upd HB q0 (.tup (r.map V.int).reverse)) p0 = some (.lst (tab sl (lcmTo k) [] (k + 1))) := by rw [upd_ne (ne_of_none f2 hq0)]; exact f2
    generalize upd HB q0 (.tup (r.map V.int).reverse) = HC at eq0 s3 f3 ⊢
    refine forF (over_tupM (as := r.reverse) (f := V.int)) (fun i σ H' => Same HC H' ∧ ∃ p v5 v6 v7 v8, σ = [some (.int ((k : Int) + 1)), some (.ref a), some (.bl sl), some (.int (lcmTo k : Int)), some (.ref p), v5, v6, v7, v8] ∧ H' p = some (.lst (tab sl (lcmTo k) (suf r i) (k + 1))))
      ⟨Same.rfl' _, p0, _, _, _, _, rfl, f3⟩ (fun i σ H' _ h => sameT h.1 (SqT.of eq0)) (fun i σ H4 x H5 hi p s5 y => ?_) (fun σ H' p => ?_)
    · obtain ⟨s4, p, v5, v6, v7, v8, rfl, hp⟩ := p
      obtain ⟨e, ee, rfl⟩ := y
      have hp5 := s5 _ _ hp
      have ent := hs.entry (List.mem_reverse.mp (List.mem_of_getElem? ee))
      have ss := small_suf hs i
      have eS := suf_succ ee
      refine ⟨by show 1 ≤ sizeLine; decide, fun l hl => ⟨_, rfl, _, _, rfl, ⟨by omega, by omega, by omega, by omega⟩, ?_⟩⟩
      have er : (((k : Int) + 1) - 1).toNat = k := by omega
      rw [er]
      have hl6 : (upd H5 l (.lst [.int 0])) l = some (.lst (tab sl (lcmTo k) (e :: suf r i) 1)) := by rw [upd_same]; rfl
      have s6 : Same H5 (upd H5 l (.lst [.int 0])) := same_new hl
      generalize upd H5 l (.lst [.int 0]) = H6 at hl6 s6 ⊢
      refine forF over_range (fun j σ H' => Same H5 H' ∧ H' l = some (.lst (tab sl (lcmTo k) (e :: suf r i) (j + 1))) ∧ ∃ v7 v8, σ = [some (.int ((k : Int) + 1)), some (.ref a), some (.bl sl), some (.int (lcmTo k : Int)), some (.ref p), some (.int e), some (.ref l), v7, v8])
        ⟨s6, hl6, _, _, rfl⟩ (fun _ _ _ _ _ => trivial) (fun j σ H7 x H8 hj p s8 y => ?_) (fun σ H' p => ?_)
      · obtain ⟨s7, hl7, v7, v8, rfl⟩ := p
        subst y
        have e1 : (1 + (j : Int)) = ((j + 1 : Nat) : Int) := by push_cast; omega
        have hp8 : H8 p = some (.lst (tab sl (lcmTo k) (suf r i) (k + 1))) := s8 _ _ (s7 _ _ hp5)
        have hl8 := s8 _ _ hl7
        rw [e1]
        refine pick (c := sl) (.int (sc sl (lcmTo k : Int) (suf r i) (bif sl then j + 1 else j))) rfl (fun e C h => ?_) (fun e C h => ?_) ?_
        · subst e
          exact ⟨_, rfl, _, rfl, p, _, _, _, rfl, rfl, SqL.of hp8, atI_nat (tab_get (by omega)), h⟩
        · subst e
          refine ⟨_, rfl, _, rfl, _, _, rfl, rfl, p, _, _, _, rfl, rfl, SqL.of hp8, ?_, h⟩
          have e2 : (((j + 1 : Nat) : Int) - 1) = (j : Int) := by omega
          rw [e2]
          exact atI_nat (tab_get (by omega))
        have bm : (bif sl then j + 1 else j) ≤ 19 := by cases sl <;> simp <;> omega
        generalize em : (bif sl then j + 1 else j) = m at bm ⊢
        have z1 := sc_le sl hL.2.1 (suf r i) ss.pos m bm
        have z2 : (sc sl (lcmTo k : Int) (suf r i) m).natAbs < 2 ^ (33 * 40 + 1) := by
          refine Nat.lt_of_le_of_lt z1 (Nat.pow_lt_pow_right (by decide) ?_)
          have := ss.wt
          omega
        have z3 : ((lcmTo k : Int) / ((j + 1 : Nat) : Int)).natAbs < 2 ^ 28 := by
          rw [← Int.natCast_ediv]
          exact abs_lt (Nat.lt_of_le_of_lt (Nat.div_le_self _ _) hL.2.1)
        have e4 : (e.toNat : Int) = e := by omega
        refine ⟨_, rfl, .inl ⟨rfl, _, SqL.of hl8⟩, ?_⟩
        refine ⟨_, rfl, _, rfl, l, _, _, _, rfl, rfl, SqL.of hl8, by rw [tab_succ]; exact atI_last _ _, ?_⟩
        have z5 : j + 1 < 2 ^ 60 := Nat.lt_of_le_of_lt (show j + 1 ≤ 20 by omega) (by decide)
        refine ⟨_, rfl, _, rfl, _, rfl, _, _, rfl, rfl, wide_div (b := 60) (by omega) (abs_lt z5) (by decide) (by decide), _, rfl, ?_⟩
        refine ⟨_, e.toNat, by rw [e4], z3, by omega, fun H9 s9 => ?_⟩
        refine ⟨_, _, rfl, rfl, wide_mul (a := 33 * 40 + 1) (b := 28 * e.toNat + 1) z2 (pow_lt z3 _) (by decide) (by omega) (by omega), _, _, rfl, rfl, ?_⟩
        refine ⟨l, _, _, rfl, rfl, s9 _ _ hl8, by rw [tab_len, sizeLine_eq]; omega, ?_⟩
        refine ⟨fun b o q => ?_, ?_, some (.int ((j + 1 : Nat) : Int)), some (.int (sc sl (lcmTo k : Int) (suf r i) m)), rfl⟩
        · rw [upd_ne (ne_of_none q hl)]
          exact s9 _ _ (s8 _ _ (s7 _ _ q))
        · rw [upd_same, tab_succ sl (lcmTo k) (e :: suf r i) (j + 1), ← em]
          rfl
      · obtain ⟨s7, hl7, v7, v8, rfl⟩ := p
        refine ⟨_, rfl, fun b o q => s7 _ _ (s5 _ _ (s4 _ _ q)), l, some (.int e), some (.ref l), v7, v8, rfl, ?_⟩
        rw [eS]
        exact hl7
    · obtain ⟨s4, p, v5, v6, v7, v8, rfl, hp⟩ := p
      rw [List.length_reverse, suf_all] at hp
      exact ⟨_, rfl, q _ _ (Same.tr s3 s4) hp⟩
/-- a sum over chains -/
def spSum : Sp := fun vs H Q _ => ∃ (k : Nat) (a : Addr) (r : Row) (sl : Bool), vs = [.int ((k : Int) + 1), .ref a, .bl sl] ∧ k ≤ 19 ∧ RowAt H a r ∧ Small r ∧ ∀ p H', Same H H' → RNew H' p (ch sl r k) → Q (.ref p) H'
def spOne (sl : Bool) : Sp := fun vs H Q _ => ∃ (k : Nat) (a : Addr) (r : Row), vs = [.int ((k : Int) + 1), .ref a] ∧ k ≤ 19 ∧ RowAt H a r ∧ Small r ∧ ∀ p H', Same H H' → RNew H' p (ch sl r k) → Q (.ref p) H'
theorem has_sumIn (D : At K mg "sum_in" sSumIn) (T : Tx K mg) (L : Has P w K mg base 1 "lowest_of" spLowest) (C : Has P w K mg base 3 "scaled_sums" spScaled) (S : Has P w K mg base 2 "scale_of" spScale) (R : Has P w K mg base 1 "raised_to" spRaise) : Has P w K mg base 4 "sum_in" spSum := by
  refine D.has scSumIn (fun vs H Q E h => ?_) (fun _ _ _ _ _ _ us hl => match us, hl with | [_, _, _], _ => rfl) (fun f cdv A outer s H vs Q E hr h => ?_)
  · obtain ⟨k, a, r, sl, rfl, _⟩ := h
    rfl
  · obtain ⟨k, a, r, sl, rfl, hk, ha, hs, q⟩ := h
    refine ⟨_, pss_one (ps_ret (pe_cal L hr (pa_cons (pe_ix ix_list (pe_cal C hr (pa_cons (pv 0) (pa_cons (pv 1) (pa_cons (pv 2) pa_nil)))) (pe_un un_neg pe_int) (fun _ _ => rfl))
      (pa_cons (pe_cal R hr (pa_cons (pe_cal S hr (pa_cons (pv 0) pa_nil)) (pa_cons (pe_callB (cr_sumT (by rfl)) rfl T.sum PyProof.Rows.boot_sum (pa_cons (pv 1) pa_nil)) pa_nil))) pa_nil)))), ?_⟩
    have hL := lcm_small k hk
    refine ⟨_, rfl, _, rfl, _, rfl, k, a, r, sl, rfl, hk, ha, hs, fun p H1 s1 hp => ?_⟩
    refine ⟨_, rfl, p, _, _, _, rfl, rfl, SqL.of hp, by rw [tab_succ]; exact atI_last _ _, ?_⟩
    refine ⟨_, rfl, k, rfl, hk, fun H2 s2 => ?_⟩
    have s12 := Same.tr s1 s2
    refine ⟨_, rfl, a, r, rfl, (RowAt.same s12 ha).sq, lcmTo k, wt r, by rw [wt_sum hs.pos], abs_lt hL.2.1, hs.wt, fun H3 s3 => ?_⟩
    have b0 : (0 : Int) < (lcmTo k : Int) ^ wt r := Int.pow_pos (by exact_mod_cast hL.1)
    refine ⟨_, _, rfl, b0, ?_, fun c H4 s4 n => q c H4 (Same.tr s12 (Same.tr s3 s4)) ?_⟩
    · refine Nat.lt_of_lt_of_le (pow_lt (abs_lt hL.2.1) (wt r)) (Nat.pow_le_pow_right (by decide) ?_)
      have := hs.wt
      omega
    · rw [sc_rat sl r hk] at n
      exact n
theorem has_cutIn (D : At K mg "cut_in" sCutIn) (S : Has P w K mg base 4 "sum_in" spSum) : Has P w K mg base 5 "cut_in" (spOne false) := by
  refine D.has scCutIn (fun vs H Q E h => ?_) (fun _ _ _ _ _ _ us hl => match us, hl with | [_, _], _ => rfl) (fun f cdv A outer s H vs Q E hr h => ?_)
  · obtain ⟨k, a, r, rfl, _⟩ := h
    rfl
  · obtain ⟨k, a, r, rfl, hk, ha, hs, q⟩ := h
    refine ⟨_, pss_one (ps_ret (pe_cal S hr (pa_cons (pv 0) (pa_cons (pv 1) (pa_cons pe_bl pa_nil))))), ?_⟩
    exact ⟨_, rfl, _, rfl, k, a, r, false, rfl, hk, ha, hs, q⟩
theorem has_slackIn (D : At K mg "slack_in" sSlackIn) (S : Has P w K mg base 4 "sum_in" spSum) : Has P w K mg base 5 "slack_in" (spOne true) := by
  refine D.has scSlackIn (fun vs H Q E h => ?_) (fun _ _ _ _ _ _ us hl => match us, hl with | [_, _], _ => rfl) (fun f cdv A outer s H vs Q E hr h => ?_)
  · obtain ⟨k, a, r, rfl, _⟩ := h
    rfl
  · obtain ⟨k, a, r, rfl, hk, ha, hs, q⟩ := h
    refine ⟨_, pss_one (ps_ret (pe_cal S hr (pa_cons (pv 0) (pa_cons (pv 1) (pa_cons pe_bl pa_nil))))), ?_⟩
    exact ⟨_, rfl, _, rfl, k, a, r, true, rfl, hk, ha, hs, q⟩
theorem has_cutSum (D : At K mg "cut_sum" sCutSum) (B : Has P w K mg base 5 "require_bound_and_row" (spOk isBoth)) (S : Has P w K mg base 5 "cut_in" (spOne false)) : Has P w K mg base 6 "cut_sum" (spOne false) := by
  refine D.has scCutSum (fun vs H Q E h => ?_) (fun _ _ _ _ _ _ us hl => match us, hl with | [_, _], _ => rfl) (fun f cdv A outer s H vs Q E hr h => ?_)
  · obtain ⟨k, a, r, rfl, _⟩ := h
    rfl
  · obtain ⟨k, a, r, rfl, hk, ha, hs, q⟩ := h
    refine ⟨_, pss_cons (ps_expr (pe_cal B hr (pa_cons (pv 0) (pa_cons (pv 1) pa_nil)))) (pss_one (ps_ret (pe_cal S hr (pa_cons (pv 0) (pa_cons (pv 1) pa_nil))))), ?_⟩
    exact ⟨_, rfl, _, rfl, ⟨k + 1, a, r, rfl, by omega, by omega, ha, hs⟩, fun H1 s1 => ⟨_, rfl, _, rfl, k, a, r, rfl, hk, RowAt.same s1 ha, hs, fun p H' s' n => q p H' (Same.tr s1 s') n⟩⟩
theorem has_slackSum (D : At K mg "slack_sum" sSlackSum) (B : Has P w K mg base 5 "require_bound_and_row" (spOk isBoth)) (S : Has P w K mg base 5 "slack_in" (spOne true)) : Has P w K mg base 6 "slack_sum" (spOne true) := by
  refine D.has scSlackSum (fun vs H Q E h => ?_) (fun _ _ _ _ _ _ us hl => match us, hl with | [_, _], _ => rfl) (fun f cdv A outer s H vs Q E hr h => ?_)
  · obtain ⟨k, a, r, rfl, _⟩ := h
    rfl
  · obtain ⟨k, a, r, rfl, hk, ha, hs, q⟩ := h
    refine ⟨_, pss_cons (ps_expr (pe_cal B hr (pa_cons (pv 0) (pa_cons (pv 1) pa_nil)))) (pss_one (ps_ret (pe_cal S hr (pa_cons (pv 0) (pa_cons (pv 1) pa_nil))))), ?_⟩
    exact ⟨_, rfl, _, rfl, ⟨k + 1, a, r, rfl, by omega, by omega, ha, hs⟩, fun H1 s1 => ⟨_, rfl, _, rfl, k, a, r, rfl, hk, RowAt.same s1 ha, hs, fun p H' s' n => q p H' (Same.tr s1 s') n⟩⟩
/-- the way is one of the two -/
def isWay (K : PySem.W.Frag) (vs : List V) (H : Hp) : Prop := ∃ a : Addr, vs = [.str "joined", .ref a] ∧ SqT K H a [.str "laid", .str "joined"]
theorem has_choice (D : At K mg "require_choice" sChoice) (T : Tx K mg) : Has P w K mg base 1 "require_choice" (spOk (isWay K)) := by
  refine D.has scChoice (fun vs H Q E h => ?_) (fun _ _ _ _ _ _ us hl => match us, hl with | [_, _], _ => rfl) (fun f cdv A outer s H vs Q E hr h => ?_)
  · obtain ⟨⟨a, rfl, _⟩, _⟩ := h
    rfl
  · obtain ⟨⟨a, rfl, ha⟩, k⟩ := h
    refine ⟨_, pss_one (ps_if (PW.pt (pw_or (pt_not (pt_val (pe_callB call_isi rfl T.isi PyProof.Rows.boot_isinstance (pa_cons (pv 0) (pa_cons (pe_bltn (v := .ty "str") rfl T.str PyProof.Rows.boot_str rfl) pa_nil)))))
      (pw_or1 (pt_cmpR op_notIn_seq (pv 0) (pv 1) (by with_unfolding_all rfl))))) (pss_one ps_never) pss_nil), ?_⟩
    refine ⟨_, rfl, .str "joined", .ty "str", _, _, true, rfl, .ty _, .base (.str "joined"), kit_ty (by decide +kernel), true, rfl, iteF ?_⟩
    refine ⟨_, rfl, _, rfl, a, _, rfl, .inr ha, rfl, rfl, false, by decide, iteF (k _ (Same.rfl' _))⟩
end
end Rj
set_option Elab.async false
set_option linter.all false
set_option maxRecDepth 100000
set_option maxHeartbeats 4000000
/-! Joinings. -/
namespace Rj
open PySem PySem.Spec PyProof.Rows L2
def rcut (r : Row) (lo hi : Option Int) : Row := (r.drop (HT.sIx r.length 0 lo)).take (HT.sIx r.length r.length hi - HT.sIx r.length 0 lo)
theorem rcut_V (r : Row) (lo hi : Option Int) : cutV (r.map V.int) lo hi = (rcut r lo hi).map V.int := by
  unfold cutV rcut
  rw [List.length_map, List.map_take, List.map_drop]
theorem rcut_front (r : Row) (n : Nat) : rcut r none (some (n : Int)) = r.take n := by
  unfold rcut
  rw [HT.sIx_none, HT.sIx_nat, Nat.sub_zero, List.drop_zero]
  by_cases h : n ≤ r.length
  · rw [Nat.min_eq_left h]
  · rw [Nat.min_eq_right (by omega), List.take_of_length_le (Nat.le_refl _), List.take_of_length_le (by omega)]
theorem rcut_rear (r : Row) (n : Nat) : rcut r (some (n : Int)) none = r.drop n := by
  unfold rcut
  rw [HT.sIx_none, HT.sIx_nat]
  by_cases h : n ≤ r.length
  · rw [Nat.min_eq_left h, List.take_of_length_le (by rw [List.length_drop]; omega)]
  · rw [Nat.min_eq_right (by omega), List.drop_of_length_le (Nat.le_refl _), List.drop_of_length_le (by omega), List.take_nil]
theorem rcut_mid (r : Row) {a b : Nat} (h : a ≤ b) (hb : b ≤ r.length) : rcut r (some (a : Int)) (some (b : Int)) = (r.take b).drop a := by
  unfold rcut
  rw [HT.sIx_nat, HT.sIx_nat, Nat.min_eq_left (by omega), Nat.min_eq_left (by omega), List.drop_take]
theorem rcut_last (b : Row) (x : Int) : rcut (b ++ [x]) none (some (-1)) = b := by
  unfold rcut HT.sIx
  have e : (-1 + (((b ++ [x]).length : Nat) : Int)).toNat = b.length := by rw [List.length_append]; simp; omega
  simp only [Nat.sub_zero, List.drop_zero]
  rw [if_pos (by decide), e, List.take_left' rfl]
theorem roomU {k n : Nat} {A : Around} (r : Room k A) (h : n ≤ 200 := by decide) : A.units + n < cLine := by
  have := r.un
  omega
section
variable {X : Cx}
def rSlRow : V → Option Int → Option Int → Hp → VK → Prop := fun x lo hi H Q => ∃ a r, x = .ref a ∧ RowAt H a r ∧ ∀ p H', Same H H' → RowAt H' p (rcut r lo hi) → Q (.ref p) H'
theorem sl_row : SlR X rSlRow := by
  intro pins s σ H x v vl vu lo hi sl Q I rx hs pl pu h
  obtain ⟨a, r, rfl, ha, q⟩ := h
  refine sl_tupA pins s σ H _ v vl vu lo hi sl Q I rx hs pl pu ⟨a, _, rfl, ha.sq, fun hw => q a H (Same.rfl' _) ?_, fun _ p hp => q p _ (same_new hp) ?_⟩
  · rw [List.length_map] at hw
    unfold rcut
    rw [hw.1, hw.2, List.drop_zero, Nat.sub_zero, List.take_of_length_le (Nat.le_refl _)]
    exact ha
  · unfold RowAt
    rw [upd_same, rcut_V]
def rCatRow : R2 := fun x y H Q => ∃ a b r s, x = .ref a ∧ y = .ref b ∧ RowAt H a r ∧ RowAt H b s ∧ r.length + s.length ≤ 1000 ∧ ∀ p H', Same H H' → RowAt H' p (r ++ s) → Q (.ref p) H'
theorem op_catRow : OpR X (binaryOp .Add) rCatRow := by
  intro pins s σ H x y v u Q I rx ry h
  obtain ⟨a, b, r, t, rfl, rfl, ha, hb, hz, q⟩ := h
  refine op_catA pins s σ H _ _ v u Q I rx ry ⟨a, b, _, _, rfl, rfl, ha.sq, hb.sq, by rw [List.length_map, List.length_map, sizeLine_eq]; omega, fun e => ?_, fun _ e => ?_, fun _ _ p hp => ?_⟩
  · have : r = [] := List.map_eq_nil_iff.mp e
    subst this
    exact q b H (Same.rfl' _) hb
  · have : t = [] := List.map_eq_nil_iff.mp e
    subst this
    exact q a H (Same.rfl' _) (by rw [List.append_nil]; exact ha)
  · refine q p _ (same_new hp) ?_
    unfold RowAt
    rw [upd_same, List.map_append]
end
theorem row_at_last {b : Row} {x : Int} : atI ((b ++ [x]).map V.int) (-1) = some (.int x) := by
  rw [List.map_append]
  exact atI_last _ _
/-- the rows of a list, where they stand -/
def RowsAt (H : Hp) (bs : List (Addr × Row)) : Prop := ∀ b ∈ bs, RowAt H b.1 b.2
theorem RowsAt.same {H H' : Hp} {bs : List (Addr × Row)} (s : Same H H') (h : RowsAt H bs) : RowsAt H' bs := fun b hb => RowAt.same s (h b hb)
theorem RowsAt.tup {H H' : Hp} {bs : List (Addr × Row)} (s : Tup H H') (h : RowsAt H bs) : RowsAt H' bs := fun b hb => s.row (h b hb)
abbrev refs (bs : List (Addr × Row)) : List V := bs.map fun b => V.ref b.1
abbrev sJoinIn : Stmt := top 31
theorem scJoinIn : FnScope ["row", "found", "entry", "longer", "begun"] ["row"] (defScope sJoinIn) := ⟨rfl, rfl, rfl, by decide +kernel, rfl, by decide +kernel, by decide +kernel⟩
def spJoinIn : Sp := fun vs H Q _ => ∃ (a : Addr) (r : Row), vs = [.ref a] ∧ RowAt H a r ∧ Small r ∧ r.length ≤ 12 ∧ ∀ p bs H', Same H H' → H' p = some (.lst (refs bs)) → RowsAt H' bs → (bs.map (·.2)).Perm (jn r) → Q (.ref p) H'
section
variable {P : Program} {w : World} {K : PySem.W.Frag} {mg : Str → Option Value} {base : Heap}
theorem has_joinIn (D : At K mg "joinings_in" sJoinIn) (T : Tx K mg) : Has P w K mg base 1 "joinings_in" spJoinIn := by
  refine D.has scJoinIn (fun vs H Q E h => ?_) (fun _ _ _ _ _ _ us hl => match us, hl with | [_], _ => rfl) (fun f cdv A outer s H vs Q E hr h => ?_)
  · obtain ⟨a, r, rfl, _⟩ := h
    rfl
  · obtain ⟨a, r, rfl, ha, hs, h12, q⟩ := h
    refine ⟨_, pss_cons (ps_set (i := 1) scJoinIn.nd rfl (Or.inl rfl) (pe_lst (pa_cons (pe_slice sl_row (pv 0) po_none (po_some pe_int)) pa_nil)))
      (pss_cons (ps_for PassesOwn.never rfl (pi_tup (pe_slice sl_row (pv 0) (po_some pe_int) po_none)) (pg_name (i := 2) scJoinIn.nd rfl (Or.inl rfl)) (pss_cons (ps_set (i := 3) scJoinIn.nd rfl (Or.inl rfl) (pe_lst pa_nil))
        (pss_cons (ps_for PassesOwn.never rfl (pi_list (pe_callTy call_list_of rfl T.list PyProof.Rows.boot_list (pa_cons (pv 1) pa_nil))) (pg_name (i := 4) scJoinIn.nd rfl (Or.inl rfl))
          (pss_one (ps_expr (pe_bm PySem.F.plainAttrs_list PySem.F.slot_list_extend PySem.F.type_list_extend mt_extend (pv 3) (pa_cons (pe_lst (pa_cons (pe_tup (StX.pa_star (pv 4) (pa_cons (pv 2) pa_nil)))
            (pa_cons (pe_tup (StX.pa_star (pe_slice sl_row (pv 4) po_none (po_some (pe_un un_neg pe_int))) (pa_cons (pe_op op_add (pe_ix ix_tup (pv 4) (pe_un un_neg pe_int) (fun _ _ => rfl)) (pv 2)) pa_nil))) pa_nil))) pa_nil)))))
        (pss_one (ps_set (i := 1) scJoinIn.nd rfl (Or.inl rfl) (pv 3))))))
      (pss_one (ps_ret (pe_callB (cr_sortR (roomU hr)) rfl T.sorted PyProof.Rows.boot_sorted (pa_cons (pv 1) pa_nil))))), ?_⟩
    refine ⟨_, rfl, _, rfl, a, r, rfl, ha, fun p1 H1 s1 hp1 => ⟨by show 1 ≤ sizeLine; decide, fun l1 hl1 => ?_⟩⟩
    have c1 : rcut r none (some 1) = r.take 1 := rcut_front r 1
    have c2 : rcut r (some 1) none = r.drop 1 := rcut_rear r 1
    rw [c1] at hp1
    have sA : Same H (upd H1 l1 (.lst [.ref p1])) := Same.tr s1 (same_new hl1)
    have hpA : RowAt (upd H1 l1 (.lst [.ref p1])) p1 (r.take 1) := RowAt.same (same_new hl1) hp1
    have hlA : (upd H1 l1 (.lst [.ref p1])) l1 = some (.lst [.ref p1]) := upd_same
    generalize upd H1 l1 (.lst [.ref p1]) = HA at sA hpA hlA ⊢
    refine ⟨_, rfl, _, rfl, a, r, rfl, RowAt.same sA ha, fun p2 H2 s2 hp2 => ⟨p2, rfl, ⟨_, hp2.sq⟩, ?_⟩⟩
    rw [c2] at hp2
    refine forF (over_tupM (as := r.drop 1) (f := V.int)) (fun i σ H' => Same H2 H' ∧ ∃ p bs v2 v3 v4, σ = [some (.ref a), some (.ref p), v2, v3, v4] ∧ H' p = some (.lst (refs bs)) ∧ RowsAt H' bs ∧ (bs.map (·.2)).Perm (jfold [r.take 1] ((r.drop 1).take i)))
      ⟨Same.rfl' _, l1, [(p1, r.take 1)], none, none, none, rfl, s2 _ _ hlA, fun b hb => ?_, by simp [jfold]⟩ (fun i σ H' _ h => (RowAt.same h.1 hp2).sq) (fun i σ H4 x H5 hi p s5 y => ?_) (fun σ H' p => ?_)
    · have : b = (p1, r.take 1) := by simpa using hb
      rw [this]
      exact RowAt.same s2 hpA
    · obtain ⟨s4, p, bs, v2, v3, v4, rfl, hp, hrow, hperm⟩ := p
      obtain ⟨e, ee, rfl⟩ := y
      have hi' : i < (r.drop 1).length := hi
      rw [List.length_drop] at hi'
      have hne : r ≠ [] := by
        rintro rfl
        simp at hi'
      have hjs : (bs.map (·.2)).Perm (jn (r.take (i + 1))) := by
        have e1 : jn (r.take (i + 1)) = jfold [r.take 1] ((r.drop 1).take i) := by
          unfold jn
          rw [List.take_take, Nat.min_eq_left (by omega), List.drop_take]
          rfl
        rw [e1]
        exact hperm
      have tne : r.take (i + 1) ≠ [] := by
        cases r with
        | nil => exact absurd rfl hne
        | cons a r => simp
      have bne : ∀ b ∈ bs, b.2 ≠ [] := fun b hb => jn_ne tne (hjs.mem_iff.mp (List.mem_map.mpr ⟨b, hb, rfl⟩))
      have blen : ∀ b ∈ bs, b.2.length ≤ 40 := fun b hb => by
        have g := (good_jn _ (small_take hs (i + 1)).pos b.2 (hjs.mem_iff.mp (List.mem_map.mpr ⟨b, hb, rfl⟩))).len
        have := (small_take hs (i + 1)).len
        omega
      have bsl : bs.length ≤ 2048 := by
        have h1 := hjs.length_eq
        have h2 := jn_len_le (r.take (i + 1))
        rw [List.length_map] at h1
        cases r with
        | nil => exact absurd rfl hne
        | cons a r' =>
          rw [List.take_succ_cons, jn_len] at h1
          rw [h1]
          refine Nat.le_trans (Nat.pow_le_pow_right (by decide) (show _ ≤ 11 from ?_)) (by decide)
          rw [List.length_take]
          rw [List.length_cons] at h12
          omega
      have hp5 := s5 _ _ hp
      have hrow5 := RowsAt.same s5 hrow
      refine ⟨Nat.zero_le _, fun l hl => ?_⟩
      refine ⟨_, rfl, p, _, rfl, .inl (SqL.of (same_new hl _ _ hp5)), fun l2 hl2 => ⟨l2, rfl, ⟨_, SqL.of upd_same⟩, ?_⟩⟩
      have hl6 : (upd H5 l (.lst [])) l = some (.lst []) := upd_same
      have ne2 : l2 ≠ l := ne_of_none hl6 hl2 |>.symm
      have s67 : Same H5 (upd (upd H5 l (.lst [])) l2 (.lst (refs bs))) := Same.tr (same_new hl) (same_new hl2)
      have hl7 : (upd (upd H5 l (.lst [])) l2 (.lst (refs bs))) l = some (.lst []) := same_new hl2 _ _ hl6
      have hq7 : (upd (upd H5 l (.lst [])) l2 (.lst (refs bs))) l2 = some (.lst (refs bs)) := upd_same
      have h5l2 : H5 l2 = none := by
        rw [upd_ne ne2] at hl2
        exact hl2
      generalize upd (upd H5 l (.lst [])) l2 (.lst (refs bs)) = H7 at s67 hl7 hq7 ⊢
      refine forF (over_listM (as := bs) (f := fun b => V.ref b.1)) (fun j σ H' => Same H5 H' ∧ H' l2 = some (.lst (refs bs)) ∧ ∃ v4 cs, σ = [some (.ref a), some (.ref p), some (.int e), some (.ref l), v4] ∧ H' l = some (.lst (refs cs)) ∧ RowsAt H' cs ∧ cs.map (·.2) = jturn e ((bs.take j).map (·.2)))
        ⟨s67, hq7, v4, [], rfl, hl7, (fun b hb => by cases hb), rfl⟩ (fun j σ H' _ h => SqL.of h.2.1) (fun j σ H8 x H9 hj p s9 y => ?_) (fun σ H' p => ?_)
      · obtain ⟨s8, hq8, v4, cs, rfl, hl8, hcs, ecs⟩ := p
        obtain ⟨b, eb, rfl⟩ := y
        have mb := List.mem_of_getElem? eb
        have hb9 : RowAt H9 b.1 b.2 := RowAt.same (Same.tr s8 s9) (hrow5 b mb)
        have hl9 := s9 _ _ hl8
        obtain ⟨b', z, ez⟩ := snoc_of (bne b mb)
        have bl := blen b mb
        refine ⟨_, rfl, .inl ⟨rfl, _, SqL.of hl9⟩, ?_⟩
        refine ⟨_, rfl, b.1, _, rfl, .inl hb9.sq, _, rfl, by
          show (b.2.map V.int ++ [V.int e]).length ≤ sizeLine
          rw [List.length_append, List.length_map, sizeLine_eq]
          show b.2.length + 1 ≤ 16777216
          omega, fun t1 ht1 => ?_⟩
        have r1 : RowAt (upd H9 t1 (.tup (b.2.map V.int ++ [V.int e]))) t1 (b.2 ++ [e]) := by
          unfold RowAt
          rw [upd_same, List.map_append]
          rfl
        have q1 : Same H9 (upd H9 t1 (.tup (b.2.map V.int ++ [V.int e]))) := same_new ht1
        generalize upd H9 t1 (.tup (b.2.map V.int ++ [V.int e])) = Ha at r1 q1 ⊢
        refine ⟨_, rfl, _, rfl, _, rfl, b.1, b.2, rfl, RowAt.same q1 hb9, fun p4 Hb sb hp4 => ?_⟩
        have hp4' : RowAt Hb p4 b' := by
          rw [ez, rcut_last] at hp4
          exact hp4
        have hbb : RowAt Hb b.1 (b' ++ [z]) := by
          rw [← ez]
          exact RowAt.same (Same.tr q1 sb) hb9
        refine ⟨p4, _, rfl, .inl hp4'.sq, _, rfl, _, rfl, b.1, _, _, _, rfl, rfl, hbb.sq, row_at_last, _, rfl, _, _, rfl, rfl, by
          show (b'.map V.int ++ [V.int (z + e)]).length ≤ sizeLine
          rw [List.length_append, List.length_map, sizeLine_eq]
          have : b'.length ≤ 40 := by
            rw [ez, List.length_append] at bl
            omega
          show b'.length + 1 ≤ 16777216
          omega, fun t2 ht2 => ?_⟩
        have r2 : RowAt (upd Hb t2 (.tup (b'.map V.int ++ [V.int (z + e)]))) t2 (mrg e b.2) := by
          unfold RowAt
          rw [upd_same, ez, mrg_snoc, List.map_append]
          rfl
        have q2 : Same Hb (upd Hb t2 (.tup (b'.map V.int ++ [V.int (z + e)]))) := same_new ht2
        generalize upd Hb t2 (.tup (b'.map V.int ++ [V.int (z + e)])) = Hc at r2 q2 ⊢
        refine ⟨by show 2 ≤ sizeLine; decide, fun l3 hl3 => ?_⟩
        have q3 : Same H9 (upd Hc l3 (.lst [.ref t1, .ref t2])) := Same.tr (Same.tr q1 (Same.tr sb q2)) (same_new hl3)
        have r1' : RowAt (upd Hc l3 (.lst [.ref t1, .ref t2])) t1 (b.2 ++ [e]) := RowAt.same (Same.tr sb (Same.tr q2 (same_new hl3))) r1
        have r2' : RowAt (upd Hc l3 (.lst [.ref t1, .ref t2])) t2 (mrg e b.2) := RowAt.same (same_new hl3) r2
        have r3' : (upd Hc l3 (.lst [.ref t1, .ref t2])) l3 = some (.lst [.ref t1, .ref t2]) := upd_same
        generalize upd Hc l3 (.lst [.ref t1, .ref t2]) = Hd at q3 r1' r2' r3' ⊢
        have hld := q3 _ _ hl9
        have ccs : cs.length ≤ 4096 := by
          have h1 := congrArg List.length ecs
          rw [List.length_map, (jturn_perm (List.Perm.refl _)).length_eq] at h1
          unfold jstep at h1
          simp at h1
          omega
        refine ⟨l, l3, _, _, rfl, rfl, hld, r3', by
          rw [List.length_map, sizeLine_eq]
          show cs.length + 2 ≤ 16777216
          omega, ?_⟩
        have tp : Tup Hd (upd Hd l (.lst (refs cs ++ [.ref t1, .ref t2]))) := tup_lst hld
        refine ⟨fun c o q => ?_, ?_, some (.ref b.1), cs ++ [(t1, b.2 ++ [e]), (t2, mrg e b.2)], rfl, ?_, fun c hc => ?_, ?_⟩
        · rw [upd_ne (ne_of_none q hl)]
          exact q3 _ _ (s9 _ _ (s8 _ _ q))
        · rw [upd_ne ne2]
          exact q3 _ _ (s9 _ _ hq8)
        · rw [upd_same]
          unfold refs
          rw [List.map_append]
          rfl
        · rcases List.mem_append.mp hc with hc | hc
          · exact tp.row (RowAt.same (Same.tr s9 q3) (hcs c hc))
          · rcases List.mem_cons.mp hc with rfl | hc
            · exact tp.row r1'
            · have : c = (t2, mrg e b.2) := by simpa using hc
              rw [this]
              exact tp.row r2'
        · have et : bs.take (j + 1) = bs.take j ++ [b] := by rw [List.take_succ, eb]; rfl
          rw [et, List.map_append, List.map_append, ecs]
          unfold jturn
          rw [List.flatMap_append]
          rfl
      · obtain ⟨s8, hq8, v4, cs, rfl, hl8, hcs, ecs⟩ := p
        rw [List.take_of_length_le (Nat.le_refl _)] at ecs
        refine ⟨_, rfl, fun c o q => s8 _ _ (s5 _ _ (s4 _ _ q)), l, cs, some (.int e), some (.ref l), v4, rfl, hl8, hcs, ?_⟩
        have et : (r.drop 1).take (i + 1) = (r.drop 1).take i ++ [e] := by rw [List.take_succ, ee]; rfl
        rw [et, jfold_snoc, ecs]
        exact jturn_perm hperm
    · obtain ⟨s4, p, bs, v2, v3, v4, rfl, hp, hrow, hperm⟩ := p
      rw [List.take_of_length_le (Nat.le_refl _)] at hperm
      have hj : (bs.map (·.2)).Perm (jn r) := hperm
      have sH := Same.tr sA (Same.tr s2 s4)
      refine ⟨_, rfl, p, bs, rfl, SqL.of hp, hrow, ?_, fun bs' l pm hl => q l bs' _ (Same.tr sH (same_new hl)) upd_same (RowsAt.same (same_new hl) fun b hb => hrow b (pm.mem_iff.mp hb)) ((pm.map (·.2)).trans hj)⟩
      by_cases hne : r = []
      · refine .inr ?_
        have := hj.length_eq
        rw [hne, jn_nil, List.length_map] at this
        simp at this
        omega
      · refine .inl fun b hb => ?_
        exact jn_ne hne (hj.mem_iff.mp (List.mem_map.mpr ⟨b, hb, rfl⟩))
end
end Rj
set_option Elab.async false
set_option linter.all false
set_option maxRecDepth 100000
set_option maxHeartbeats 4000000
/-! Dicts from rows to ratios: their entries, what is bare. -/
namespace Rj
open PySem PySem.Spec PyProof.Rows L2
/-! ### tuples of ints are compared -/
theorem shaped_row (r : Row) : SeqAt.shaped (encR r) = true := by
  have h1 := PySem.W.depthAll_ints r
  have h2 : PyData.depth (encR r) ≤ 64 := by unfold encR; simp only [PyData.depth]; omega
  show (PyData.canLay0 (encR r) && decide (PyData.depth (encR r) ≤ 64)) = true
  rw [Bool.and_eq_true]
  exact ⟨by unfold encR; simp only [PyData.canLay0]; exact PySem.W.canLayAll0_ints r, decide_eq_true h2⟩
theorem eqv_rows (r s : Row) : PyData.eqv (encR r) (encR s) = decide (r = s) := by
  unfold encR
  rw [← SeqAt.same_eq_eqv _ _ (by simp only [SeqAt.noMix]; exact PySem.W.noMix_ints r s)]
  simp only [PySem.Spec.same]
  exact PySem.W.same_ints r s
section
variable {X : Cx}
def rEqI (K : PySem.W.Frag) : R2 := fun x y H Q => ∃ a b, ∃ r s : Row, x = V.ref a ∧ y = V.ref b ∧ SqT K H a (r.map V.int) ∧ SqT K H b (s.map V.int) ∧ Q (.bl (decide (r = s))) H
def rNeI (K : PySem.W.Frag) : R2 := fun x y H Q => ∃ a b, ∃ r s : Row, x = V.ref a ∧ y = V.ref b ∧ SqT K H a (r.map V.int) ∧ SqT K H b (s.map V.int) ∧ Q (.bl (!decide (r = s))) H
theorem op_eqI (hu : X.A.units + 64 < cLine) : OpR X (compareOp .Eq) (rEqI X.K) := by
  intro pins s σ H x y v u Q I rx ry h
  obtain ⟨a, b, r, t, rfl, rfl, ha, hb, q⟩ := h
  cases rx
  cases ry
  obtain ⟨us, r1, t1, _⟩ := I.tuple ha
  obtain ⟨ws, r2, t2, _⟩ := I.tuple hb
  refine SeqAt.compareEq_shaped (reads_row r1 t1) (reads_row r2 t2) (shaped_row r) (shaped_row t) hu ⟨.bl _, H, I, rfl, ?_⟩
  rw [eqv_rows]
  exact q
theorem op_neI (hu : X.A.units + 64 < cLine) : OpR X (compareOp .NotEq) (rNeI X.K) := by
  intro pins s σ H x y v u Q I rx ry h
  obtain ⟨a, b, r, t, rfl, rfl, ha, hb, q⟩ := h
  cases rx
  cases ry
  obtain ⟨us, r1, t1, _⟩ := I.tuple ha
  obtain ⟨ws, r2, t2, _⟩ := I.tuple hb
  refine SeqAt.compareNe_shaped (reads_row r1 t1) (reads_row r2 t2) (shaped_row r) (shaped_row t) hu ⟨.bl _, H, I, rfl, ?_⟩
  rw [eqv_rows]
  exact q
end
/-! ### entries -/
theorem lookup_mem : ∀ {m : Mx} {e : Row × Rat}, (m.map (·.1)).Nodup → e ∈ m → m.lookup e.1 = some e.2
  | [], _, _, h => by cases h
  | f :: m, e, hn, h => by
    rw [List.map_cons, List.nodup_cons] at hn
    rcases List.mem_cons.mp h with rfl | hm
    · rw [List.lookup_cons_self]
    · have ne : ¬ e.1 = f.1 := fun z => hn.1 (by rw [← z]; exact List.mem_map.mpr ⟨e, hm, rfl⟩)
      have hn2 := hn.2
      clear hn
      obtain ⟨r, q⟩ := f
      rw [List.lookup_cons, beq_eq_false_iff_ne.mpr ne]
      exact lookup_mem hn2 hm
theorem mx_get {K : PySem.W.Frag} {H : Hp} {kvs : List (List Key × V)} {m : Mx} (h : Paired (EntR K H) kvs m) {r : Row} {q : Rat} (e : m.lookup r = some q) : ∃ p, valV kvs (KR r) = some (.ref p) ∧ RatAt K H p q := by
  induction h with
  | nil => cases e
  | @cons a b as bs g t ih =>
    obtain ⟨g1, p, g2, g3⟩ := g
    obtain ⟨br, bq⟩ := b
    rw [List.lookup_cons] at e
    by_cases z : r = br
    · subst z
      rw [beq_self_eq_true] at e
      cases e
      exact ⟨p, by rw [valV_pos g1, g2], g3⟩
    · rw [beq_eq_false_iff_ne.mpr z] at e
      obtain ⟨p', h1, h2⟩ := ih e
      exact ⟨p', by rw [valV_neg (fun y => z (KR_inj (g1.symm.trans y)).symm), h1], h2⟩
theorem mx_none {K : PySem.W.Frag} {H : Hp} {kvs : List (List Key × V)} {m : Mx} (h : Paired (EntR K H) kvs m) {r : Row} (e : m.lookup r = none) : valV kvs (KR r) = none := by
  induction h with
  | nil => rfl
  | @cons a b as bs g t ih =>
    obtain ⟨g1, p, g2, g3⟩ := g
    obtain ⟨br, bq⟩ := b
    rw [List.lookup_cons] at e
    by_cases z : r = br
    · subst z
      rw [beq_self_eq_true] at e
      cases e
    · rw [beq_eq_false_iff_ne.mpr z] at e
      rw [valV_neg (fun y => z (KR_inj (g1.symm.trans y)).symm), ih e]
theorem mx_keys {K : PySem.W.Frag} {H : Hp} {kvs : List (List Key × V)} {m : Mx} (h : Paired (EntR K H) kvs m) : kvs.map (·.1) = (m.map (·.1)).map KR := by
  induction h with
  | nil => rfl
  | cons g t ih => rw [List.map_cons, List.map_cons, List.map_cons, ih, g.1]
/-- what is left when the entries that are 0 go -/
def bare (m : Mx) : Mx := m.filter fun e => decide (e.2 ≠ 0)
def bareOf (m : Mx) (r : Row) : Option (Row × Rat) := if (m.lookup r).getD 0 = 0 then none else some (r, (m.lookup r).getD 0)
theorem bare_of {m : Mx} (hn : (m.map (·.1)).Nodup) : (m.map (·.1)).filterMap (bareOf m) = bare m := by
  have key : ∀ l : Mx, (∀ e ∈ l, e ∈ m) → (l.map (·.1)).filterMap (bareOf m) = bare l := by
    intro l
    induction l with
    | nil => intro _; rfl
    | cons e l ih =>
      intro hs
      have h1 := lookup_mem hn (hs e (by simp))
      have h2 := ih fun f hf => hs f (List.mem_cons_of_mem _ hf)
      unfold bare at h2 ⊢
      rw [List.map_cons, List.filterMap_cons, List.filter_cons, h2]
      unfold bareOf
      rw [h1]
      by_cases z : e.2 = 0
      · simp [z]
      · simp [z]
  exact key m fun _ h => h
theorem bare_perm {m : Mx} (hn : (m.map (·.1)).Nodup) {rs : List Row} (h : rs.Perm (m.map (·.1))) : (rs.filterMap (bareOf m)).Perm (bare m) := by
  rw [← bare_of hn]
  exact h.filterMap _
theorem bare_nodup {m : Mx} (hn : (m.map (·.1)).Nodup) : ((bare m).map (·.1)).Nodup := by
  unfold bare
  exact List.Nodup.sublist (List.Sublist.map _ (List.filter_sublist)) hn
theorem bare_all {m : Mx} (h : ∀ e ∈ m, e.2 ≠ 0) : bare m = m := by
  unfold bare
  rw [List.filter_eq_self]
  intro e he
  simpa using h e he
theorem num_zero {q : Rat} : q.num = 0 ↔ q = 0 := Rat.num_eq_zero
end Rj
set_option Elab.async false
set_option linter.all false
set_option maxRecDepth 100000
set_option maxHeartbeats 4000000
/-! Joinings of a row that is asked about; bare terms; the weights; firm rows. -/
namespace Rj
open PySem PySem.Spec PyProof.Rows L2
abbrev sJoinings : Stmt := top 34
abbrev sBare : Stmt := top 42
abbrev sWeights : Stmt := top 46
abbrev sFirm : Stmt := top 47
theorem scJoinings : FnScope ["row"] ["row"] (defScope sJoinings) := ⟨rfl, rfl, rfl, by decide +kernel, rfl, by decide +kernel, by decide +kernel⟩
theorem scBare : FnScope ["terms", "row"] ["terms"] (defScope sBare) := ⟨rfl, rfl, rfl, by decide +kernel, rfl, by decide +kernel, by decide +kernel⟩
theorem scWeights : FnScope ["terms", "row"] ["terms"] (defScope sWeights) := ⟨rfl, rfl, rfl, by decide +kernel, rfl, by decide +kernel, by decide +kernel⟩
theorem scFirm : FnScope ["terms", "row"] ["terms"] (defScope sFirm) := ⟨rfl, rfl, rfl, by decide +kernel, rfl, by decide +kernel, by decide +kernel⟩
def spJoin (K : PySem.W.Frag) : Sp := fun vs H Q _ => ∃ (a : Addr) (r : Row), vs = [.ref a] ∧ RowAt H a r ∧ Small r ∧ r.length ≤ 12 ∧ ∀ p bs H', Same H H' → SqT K H' p (refs bs) → RowsAt H' bs → (bs.map (·.2)).Perm (jn r) → Q (.ref p) H'
/-- none is empty, or there is one at most -/
def Sortable (rs : List Row) : Prop := (∀ r ∈ rs, r ≠ []) ∨ rs.length ≤ 1
structure Mixed (m : Mx) : Prop where
  nd : (m.map (·.1)).Nodup
  so : Sortable (m.map (·.1))
  sz : m.length ≤ 4096
theorem Mixed.perm {m m' : Mx} (h : Mixed m) (p : m'.Perm m) : Mixed m' := by
  have q := p.map (·.1)
  refine ⟨(q.nodup_iff).mpr h.nd, ?_, by rw [p.length_eq]; exact h.sz⟩
  rcases h.so with a | a
  · exact .inl fun r hr => a r (q.mem_iff.mp hr)
  · exact .inr (by rw [q.length_eq]; exact a)
theorem Mixed.bare {m : Mx} (h : Mixed m) : Mixed (bare m) := by
  have sub : List.Sublist ((Rj.bare m).map (·.1)) (m.map (·.1)) := List.Sublist.map _ (List.filter_sublist)
  refine ⟨bare_nodup h.nd, ?_, Nat.le_trans (List.length_filter_le _ _) h.sz⟩
  rcases h.so with a | a
  · exact .inl fun r hr => a r (sub.subset hr)
  · exact .inr (Nat.le_trans sub.length_le a)
/-- the dict without its zeros, to stay -/
def spBare (K : PySem.W.Frag) : Sp := fun vs H Q _ => ∃ (d : Addr) (m : Mx), vs = [.ref d] ∧ DAt K H d m ∧ Mixed m ∧ ∀ p m' H', Same H H' → FAt K H' p m' → m'.Perm (bare m) → Q (.ref p) H'
section
variable {P : Program} {w : World} {K : PySem.W.Frag} {mg : Str → Option Value} {base : Heap}
theorem has_joinings (D : At K mg "joinings" sJoinings) (T : Tx K mg) (R : Has P w K mg base 4 "require_row" (spOk isSmall)) (J : Has P w K mg base 1 "joinings_in" spJoinIn) : Has P w K mg base 5 "joinings" (spJoin K) := by
  refine D.has scJoinings (fun vs H Q E h => ?_) (fun _ _ _ _ _ _ us hl => match us, hl with | [_], _ => rfl) (fun f cdv A outer s H vs Q E hr h => ?_)
  · obtain ⟨a, r, rfl, _⟩ := h
    rfl
  · obtain ⟨a, r, rfl, ha, hs, h12, q⟩ := h
    obtain ⟨t, mj⟩ := T.mostJ
    refine ⟨_, pss_cons (ps_expr (pe_cal R hr (pa_cons (pv 0) pa_nil)))
      (pss_cons (ps_if (pt_cmpR op_gt (pe_callB call_len_seq rfl T.len PySem.boot_len (pa_cons (pv 0) pa_nil)) (pe_glob (v := .int 12) rfl mj ⟨_, rfl⟩) (nomark _)) (pss_one ps_never) pss_nil)
      (pss_one (ps_ret (pe_tupleOf rfl T.tuple (pe_cal J hr (pa_cons (pv 0) pa_nil)))))), ?_⟩
    refine ⟨_, rfl, ⟨a, r, rfl, ha, hs⟩, fun H1 s1 => ?_⟩
    have ha1 := RowAt.same s1 ha
    refine ⟨_, rfl, a, _, rfl, .inr ha1.sq, _, _, rfl, rfl, false, ?_, iteF ?_⟩
    · rw [List.length_map]
      exact dF (by omega)
    · refine ⟨_, rfl, a, r, rfl, ha1, hs, h12, fun p bs H2 s2 hp hrow pm => .inl ⟨p, _, rfl, SqL.of hp, fun q0 hq0 => q q0 bs _ (Same.tr s1 (Same.tr s2 (same_new hq0))) (SqT.of upd_same) (RowsAt.same (same_new hq0) hrow) pm⟩⟩
theorem has_bare (D : At K mg "bare_terms" sBare) (T : Tx K mg) : Has P w K mg base 1 "bare_terms" (spBare K) := by
  refine D.has scBare (fun vs H Q E h => ?_) (fun _ _ _ _ _ _ us hl => match us, hl with | [_], _ => rfl) (fun f cdv A outer s H vs Q E hr h => ?_)
  · obtain ⟨d, m, rfl, _⟩ := h
    rfl
  · obtain ⟨d, m, rfl, hd, hm, q⟩ := h
    have u1 := roomU (n := 1) hr
    refine ⟨_, pss_one (ps_ret (pe_frz (pe_dcT (own := [("row", 1)]) (g := gName 1) (roomU (n := 0) hr) rfl scBare.nd (pi_list (pe_callB (cr_sortD (by rfl) (roomU hr)) rfl T.sorted PyProof.Rows.boot_sorted (pa_cons (pv 0) pa_nil)))
      (blkOk_by (N := ["terms", "row"]) (sc := defScope sBare) (by decide +kernel)) (fun _ _ _ _ _ => pg_name (i := 1) scBare.nd rfl (Or.inl rfl))
      (fun _ _ _ _ _ => pts_one (pt_cmpR op_ne (pe_ix (r := rIxT K) ix_tup (pe_dget u1 (pv 0) (pv 1) (fun _ _ => rfl)) pe_int (fun _ _ => rfl)) pe_int (nomark _)))
      (fun _ _ _ _ _ => pv 1) (fun _ _ _ _ _ => pe_dget u1 (pv 0) (pv 1) (fun _ _ => rfl))))), ?_⟩
    obtain ⟨kvs, hr0, pr⟩ := hd
    refine ⟨_, rfl, d, kvs, m.map (·.1), rfl, hr0, mx_keys pr, (show (∀ r ∈ m.map (·.1), r ≠ []) ∨ (m.map (·.1)).length ≤ 1 from hm.so), fun bs p pm hrow hp => ⟨p, rfl, ⟨_, SqL.of upd_same⟩, fun D hD => ?_⟩⟩
    have hrow1 : RowsAt (upd H p (.lst (refs bs))) bs := RowsAt.same (same_new hp) hrow
    have s1 : Same H (upd H p (.lst (refs bs))) := same_new hp
    have hp1 : (upd H p (.lst (refs bs))) p = some (.lst (refs bs)) := upd_same
    change (upd H p (.lst (refs bs))) D = none at hD
    change ∃ W : Nat → Nat → Hp → Prop, (∃ m, W 0 m (upd (upd H p (.lst (refs bs))) D (.dT []))) ∧ _
    generalize upd H p (.lst (refs bs)) = H1 at hrow1 s1 hp1 hD ⊢
    have bp := bare_perm hm.nd pm
    have efm : bs.filterMap (fun b => bareOf m b.2) = (bs.map (·.2)).filterMap (bareOf m) := by rw [List.filterMap_map]; rfl
    refine dcF (K := K) (as := bs) (over_listM (f := fun b => V.ref b.1)) hD (fun b => bareOf m b.2) ?_ ?_ (fun H' s' => SqL.of (s' _ _ hp1)) (fun i x b H2 C R e y s2 hC hR => ?_) (fun H2 ks s2 hk pr2 => ?_)
    · have := pm.length_eq
      rw [List.length_map, List.length_map] at this
      have := hm.sz
      rw [sizeLine_eq]
      omega
    · rw [efm]
      exact ((bp.map (·.1)).nodup_iff).mpr (bare_nodup hm.nd)
    · obtain ⟨b', eb, rfl⟩ := y
      cases (e.symm.trans eb)
      have mb := List.mem_of_getElem? e
      have hb2 : RowAt H2 b.1 b.2 := RowAt.same s2 (hrow1 b mb)
      have hin : b.2 ∈ m.map (·.1) := pm.mem_iff.mp (List.mem_map.mpr ⟨b, mb, rfl⟩)
      obtain ⟨ent, hent, e1⟩ := List.mem_map.mp hin
      have lk : m.lookup b.2 = some ent.2 := by rw [← e1]; exact lookup_mem hm.nd hent
      have pr2 := paired_mono (EntR.same (Same.tr s1 s2)) pr
      have rd2 : Rd H2 d (.dT kvs) := Rd.same (Same.tr s1 s2) hr0
      obtain ⟨pq, hv, hq⟩ := mx_get pr2 lk
      have dg : DGet H2 d (.ref b.1) (some (.ref pq)) := .inr ⟨kvs, KR b.2, b.1, rd2, rfl, by rw [KR_kV]; exact hb2, hv.symm⟩
      refine ⟨rfl, _, rfl, _, rfl, d, _, rfl, dg, pq, _, _, _, rfl, rfl, hq, rfl, rfl, _, rfl, ?_⟩
      have fe : bareOf m b.2 = if ent.2 = 0 then none else some (b.2, ent.2) := by
        unfold bareOf
        rw [lk]
        rfl
      by_cases z : ent.2 = 0
      · have nz : (V.int ent.2.num = V.int 0) := by rw [num_zero.mpr z]
        rw [decide_eq_true nz]
        refine iteF (hR ?_ H2 (Same.rfl' _))
        rw [fe, if_pos z]
      · have nz : ¬ (V.int ent.2.num = V.int 0) := by
          intro y
          injection y with y
          exact z (num_zero.mp y)
        rw [decide_eq_false nz]
        refine iteT ⟨_, rfl, _, rfl, _, rfl, d, _, rfl, dg, ?_⟩
        refine hC _ _ H2 (b.2, ent.2) ?_ (Same.rfl' _) ⟨_, rfl, hb2⟩ ⟨_, rfl, hq⟩
        rw [fe, if_neg z]
    · refine ⟨D, _, hk, trivial, fun o => ?_⟩
      refine q D _ _ (same_frz (Same.tr s1 s2) ?_) ⟨o, ks, upd_same, paired_mono (Tup.ent (tup_dT hk)) pr2⟩ (by rw [efm]; exact bp)
      cases hz : H D with
      | none => rfl
      | some z =>
        have := s1 _ _ hz
        rw [hD] at this
        cases this
/-- some answer -/
def spAny (pre : List V → Hp → Prop) : Sp := fun vs H Q _ => pre vs H ∧ ∀ v H', Same H H' → Q v H'
def spBit (pre : List V → Hp → Prop) : Sp := fun vs H Q _ => pre vs H ∧ ∀ b H', Same H H' → Q (.bl b) H'
/-- a dict that stays, its rows of one weight -/
def isEven (K : PySem.W.Frag) (vs : List V) (H : Hp) : Prop := ∃ (d : Addr) (m : Mx) (k : Int), vs = [.ref d] ∧ FAt K H d m ∧ m.length ≤ 4096 ∧ ∀ e ∈ m, e.1.sum = k
theorem has_weights (D : At K mg "weights_in" sWeights) (T : Tx K mg) : Has P w K mg base 1 "weights_in" (spAny (isEven K)) := by
  refine D.has scWeights (fun vs H Q E h => ?_) (fun _ _ _ _ _ _ us hl => match us, hl with | [_], _ => rfl) (fun f cdv A outer s H vs Q E hr h => ?_)
  · obtain ⟨⟨d, m, k, rfl, _⟩, _⟩ := h
    rfl
  · obtain ⟨⟨d, m, k, rfl, hd, hz, hk⟩, q⟩ := h
    refine ⟨_, pss_one (ps_ret (pe_callB (cr_sortedSet (by rfl)) rfl T.sorted PyProof.Rows.boot_sorted (pa_cons (pe_scI (own := [("row", 1)]) (g := gName 1) (tt := tYes) rfl scWeights.nd (pi_keys (pv 0))
      (blkOk_by (N := ["terms", "row"]) (sc := defScope sWeights) (by decide +kernel)) (fun _ _ _ _ _ => pg_name (i := 1) scWeights.nd rfl (Or.inl rfl)) (fun _ _ _ _ _ => pts_nil)
      (fun _ _ _ _ _ => pe_callB (r := rSumT K) (cr_sumT (by rfl)) rfl T.sum PyProof.Rows.boot_sum (pa_cons (pv 1) pa_nil))) pa_nil))), ?_⟩
    obtain ⟨o, kvs, hf, pr⟩ := hd
    refine ⟨_, rfl, d, o, rfl, .inr ⟨kvs, hf, fun D hD => ?_⟩⟩
    refine scF (over_keysM pr) hD k (fun H' s' => s' _ _ hf) (fun i x H1 C R hi y s1 c => ?_) (fun H1 S n s1 hS hn => ?_)
    · obtain ⟨e, p, ee, rfl, hp⟩ := y
      have ek := hk e (List.mem_of_getElem? ee)
      refine ⟨rfl, ?_⟩
      refine iteT (B := True) ?_
      refine ⟨_, rfl, p, e.1, rfl, hp.sq, ?_⟩
      rw [ek]
      exact c H1 (Same.rfl' _)
    · exact ⟨D, S, n, rfl, hS, by omega, fun ns p _ _ _ hp => q _ _ (Same.tr s1 (same_new hp))⟩
theorem has_firm (D : At K mg "are_firm_rows" sFirm) (T : Tx K mg) : Has P w K mg base 1 "are_firm_rows" (spBit (isEven K)) := by
  refine D.has scFirm (fun vs H Q E h => ?_) (fun _ _ _ _ _ _ us hl => match us, hl with | [_], _ => rfl) (fun f cdv A outer s H vs Q E hr h => ?_)
  · obtain ⟨⟨d, m, k, rfl, _⟩, _⟩ := h
    rfl
  · obtain ⟨⟨d, m, k, rfl, hd, hz, hk⟩, q⟩ := h
    have u64 := roomU (n := 64) hr
    refine ⟨_, pss_one (ps_ret (pe_callB (cr_all (by rfl)) rfl T.all PyProof.Rows.boot_all (pa_cons (pe_lc (own := [("row", 1)]) (g := gName 1) (tt := tYes) rfl scFirm.nd (pi_keys (pv 0)) (blkOk_by (N := ["terms", "row"]) (sc := defScope sFirm) (by decide +kernel))
      (fun _ _ _ _ _ => pg_name (i := 1) scFirm.nd rfl (Or.inl rfl)) (fun _ _ _ _ _ => pts_nil)
      (fun _ _ _ _ _ => pe_or (pe_cmpR (r := rEqI K) (op_eqI u64) (pv 1) (pe_tup pa_nil) (nomark _)) (pe_one (pe_cmpR op_gt (pe_ix (r := rIxT K) ix_tup (pv 1) pe_int (fun _ _ => rfl)) pe_int (nomark _))))) pa_nil))), ?_⟩
    obtain ⟨o, kvs, hf, pr⟩ := hd
    refine ⟨_, rfl, d, o, rfl, .inr ⟨kvs, hf, fun D hD => ?_⟩⟩
    refine lcF (as := m) (over_keysM pr) (f := fun e => some (if e.1 = [] then true else decide (1 < e.1.headD 0))) (F := fun _ v b => v = .bl b) hD (fun _ _ _ _ _ h => h) (by rw [sizeLine_eq]; omega) (fun H' s' => s' _ _ hf) (fun i x e H1 C R ee y s1 c _ => ?_) (fun H1 ws s1 hw pw => ?_)
    · obtain ⟨e', p, ee', rfl, hp⟩ := y
      cases (ee.symm.trans ee')
      refine ⟨rfl, ?_⟩
      refine iteT (B := True) ?_
      refine ⟨_, rfl, Nat.zero_le _, fun t ht => ⟨p, t, e.1, [], rfl, rfl, (RowAt.same (same_new ht) hp).sq, SqT.of upd_same, _, rfl, ?_⟩⟩
      by_cases z : e.1 = []
      · rw [decide_eq_true z]
        exact iteT (c _ true _ (by rw [if_pos z]) (same_new ht) rfl)
      · rw [decide_eq_false z]
        obtain ⟨a, l, el⟩ : ∃ a l, e.1 = a :: l := by
          cases h : e.1 with
          | nil => exact absurd h z
          | cons a l => exact ⟨a, l, rfl⟩
        refine iteF ⟨_, rfl, p, _, _, .int a, rfl, rfl, (RowAt.same (same_new ht) hp).sq, ?_, _, _, rfl, rfl, ?_⟩
        · rw [el]
          exact atI_nat (j := 0) rfl
        · refine c _ (decide (1 < a)) _ ?_ (same_new ht) rfl
          rw [if_neg z, el]
          rfl
    · refine ⟨D, m.filterMap fun e => some (if e.1 = [] then true else decide (1 < e.1.headD 0)), rfl, SqL.of ?_, q _ _ s1⟩
      rw [← pair_map pw]
      exact hw
end
end Rj
set_option Elab.async false
set_option linter.all false
set_option maxRecDepth 100000
set_option maxHeartbeats 4000000
/-! The two classes. -/
namespace Rj
open PySem PySem.Spec PyProof.Rows L2
/-- a def stands at f -/
structure AtF (K : PySem.W.Frag) (nm qn : Str) (st : Stmt) (f : Addr) : Prop where
  ex : ∃ fd, FunD K nm qn (defArgs st) (defBody st) (defScope st) [] [] f fd
section
variable {P : Program} {w : World} {K : PySem.W.Frag} {mg : Str → Option Value} {base : Heap}
theorem AtF.has {nm qn : Str} {st : Stmt} {f : Addr} {N ps : List Str} {k : Nat} {sp : Sp} (D : AtF K nm qn st f) (S : FnScope N ps (defScope st)) (len : ∀ vs H Q E, sp vs H Q E → vs.length = ps.length)
    (hb : ∀ (kV doc pm : Value) (an : Option Addr) (cdv ct : Value) (us : List Value), us.length = ps.length → bindArgs (PySem.W.fnOf nm qn (defArgs st) (defBody st) (defScope st) .none kV doc pm an cdv ct) ⟨us, []⟩ = pure (ps.zip us))
    (body : ∀ (f : Addr) (cdv : Value) (A : Around) (outer : List Env) (s : Shared) (H : Hp) (vs : List V) (Q : VK) (E : XK), Room k (A.deeper (envOfC qn (defScope st) s.heap.objs.size f cdv)) → sp vs H Q E →
      ∃ t, PSs (cxOf CX0 P w K mg base N qn (defScope st) f cdv A outer s H E).nox (defBody st) t ∧ t { nx := fun _ H' => Q .non H', rt := Q } (start N vs) H) : FnR P w K mg base CX0 (k + 1) f sp := by
  obtain ⟨fd, F⟩ := D.ex
  have ok : FnOk P w K mg base CX0 (k + 1) f fd ps sp := F.ok S len fun cdv A outer s H vs Q E hr h => by
    obtain ⟨t, h1, h2⟩ := body f cdv A outer s H vs Q E hr h
    exact ⟨t, h1.nox, h2⟩
  have r := ok.raw (F.bindsN hb) (dvs := []) .nil
  refine r.imp fun vs H Q E h => ?_
  rw [List.append_nil]
  exact h
end
/-- what is known of the two classes -/
structure Kl (K : PySem.W.Frag) (mg : Str → Option Value) (CK CM : Addr) : Prop where
  kat : mg "KnownTerms" = some (.ref CK)
  ksc : SlX.SCls K CK
  ksi : SlX.SIsi K CK
  kone : PySem.W.kitOne K (.ref CK) (.ref CK) = some true
  kslot : ∃ p, SlX.Slot1 K CK "own_dict" p 0
  kinit : ∃ f, Mk K CK f ∧ AtF K "__init__" "KnownTerms.__init__" (inClass (top 48) 1) f
  mat : mg "Mix" = some (.ref CM)
  msc : SlX.SCls K CM
  msi : SlX.SIsi K CM
  mone : PySem.W.kitOne K (.ref CM) (.ref CM) = some true
  mfirm : ∃ p, SlX.Slot1 K CM "own_firm" p 0
  mterms : ∃ p, SlX.Slot1 K CM "own_terms" p 1
  mweights : ∃ p, SlX.Slot1 K CM "own_weights" p 2
  minit : ∃ f, Mk K CM f ∧ AtF K "__init__" "Mix.__init__" (inClass (top 49) 1) f
  mof : ∃ mc p g, ClX.CRead K CM mc ∧ ClX.CMet K CM mc "of" p g ∧ AtF K "of" "Mix.of" (inClass (top 49) 2) g
  mtp : ∃ p g, PySem.W.findIn K (.ref CM) "terms" = some (some (.ref p)) ∧ PySem.W.specialIn K (.ref p) "__get__" = some (some (.builtin "property.__get__")) ∧ PySem.W.takesIn K (.ref p) = some true ∧
    (∃ rest, PySem.W.recIn K p "property" = some (.ref g :: rest)) ∧ AtF K "terms" "Mix.terms" (inClass (top 49) 3) g
  mlen : ∃ g, PySem.W.findIn K (.ref CM) "__len__" = some (some (.ref g)) ∧ PySem.W.isFn K (.ref g) = true ∧ AtF K "__len__" "Mix.__len__" (inClass (top 49) 15) g
/-- known terms: their dict at d -/
def KAt (H : Hp) (CK a d : Addr) : Prop := ∃ dx vs, SlX.Slt H a CK dx vs ∧ vs[0]? = some (some (.ref d))
/-- a mix -/
def MAt (K : PySem.W.Frag) (H : Hp) (CM a : Addr) (m : Mx) : Prop := ∃ dx vs d, SlX.Slt H a CM dx vs ∧ vs[1]? = some (some (.ref d)) ∧ FAt K H d m
theorem slt_same {H H' : Hp} {a C dx : Addr} {vs : List (Option V)} (s : Same H H') (h : SlX.Slt H a C dx vs) : SlX.Slt H' a C dx vs := by
  rcases h with ⟨h, e⟩ | ⟨h1, h2⟩
  · exact .inl ⟨s _ _ h, e⟩
  · exact .inr ⟨s _ _ h1, s _ _ h2⟩
theorem MAt.same {K : PySem.W.Frag} {H H' : Hp} {CM a : Addr} {m : Mx} (s : Same H H') (h : MAt K H CM a m) : MAt K H' CM a m := by
  obtain ⟨dx, vs, d, h1, h2, h3⟩ := h
  exact ⟨dx, vs, d, slt_same s h1, h2, FAt.same s h3⟩
/-- all but a and b stands -/
def But2 (a b : Addr) (H H' : Hp) : Prop := ∀ c o, c ≠ a → c ≠ b → H c = some o → H' c = some o
theorem But2.tr {a b : Addr} {H H1 H2 : Hp} (h : But2 a b H H1) (g : But2 a b H1 H2) : But2 a b H H2 := fun c o n1 n2 e => g c o n1 n2 (h c o n1 n2 e)
theorem Same.but2 {a b : Addr} {H H' : Hp} (h : Same H H') : But2 a b H H' := fun c o _ _ e => h c o e
theorem but2_slH {H : Hp} {a C dx : Addr} {vs : List (Option V)} : But2 a dx H (SlX.slH H a C dx vs) := fun c o n1 n2 e => by rw [SlX.slH_ne n1 n2]; exact e
/-- what is being made at x stands still when others are laid -/
theorem But2.up {x dx C : Addr} {H0 H : Hp} (n1 : H0 x = none) (n2 : H0 dx = none) (h : But2 x dx (upd (upd H0 dx (.own x)) x (.ins C dx [])) H) : Same H0 H := fun c o e =>
  h c o (ne_of_none e n1) (ne_of_none e n2) (by rw [upd_ne (ne_of_none e n1), upd_ne (ne_of_none e n2)]; exact e)
abbrev sKInit : Stmt := inClass (top 48) 1
abbrev sMInit : Stmt := inClass (top 49) 1
abbrev sMade : Stmt := top 52
abbrev sReqMix : Stmt := top 53
theorem scKInit : FnScope ["self", "terms"] ["self", "terms"] (defScope sKInit) := ⟨rfl, rfl, rfl, by decide +kernel, rfl, by decide +kernel, by decide +kernel⟩
theorem scMInit : FnScope ["self", "terms", "found"] ["self", "terms"] (defScope sMInit) := ⟨rfl, rfl, rfl, by decide +kernel, rfl, by decide +kernel, by decide +kernel⟩
theorem scMade : FnScope ["terms"] ["terms"] (defScope sMade) := ⟨rfl, rfl, rfl, by decide +kernel, rfl, by decide +kernel, by decide +kernel⟩
theorem scReqMix : FnScope ["value"] ["value"] (defScope sReqMix) := ⟨rfl, rfl, rfl, by decide +kernel, rfl, by decide +kernel, by decide +kernel⟩
/-- an instance, new or with slots set -/
def Ob (H : Hp) (x dx C : Addr) (vs : List (Option V)) : Prop := dx ≠ x ∧ ((H x = some (.ins C dx []) ∧ H dx = some (.own x) ∧ vs = []) ∨ (H x = some (SlX.SlO x C dx vs) ∧ H dx = some (.xd [])))
theorem Ob.slt {H : Hp} {x dx C : Addr} {vs : List (Option V)} (h : Ob H x dx C vs) : SlX.Slt H x C dx vs := by
  rcases h.2 with ⟨h1, _, h3⟩ | h
  · exact .inl ⟨h1, h3⟩
  · exact .inr h
theorem Ob.same {H H' : Hp} {x dx C : Addr} {vs : List (Option V)} (s : Same H H') (h : Ob H x dx C vs) : Ob H' x dx C vs := by
  refine ⟨h.1, ?_⟩
  rcases h.2 with ⟨h1, h2, h3⟩ | ⟨h1, h2⟩
  · exact .inl ⟨s _ _ h1, s _ _ h2, h3⟩
  · exact .inr ⟨s _ _ h1, s _ _ h2⟩
theorem Ob.put {H : Hp} {x dx C : Addr} {vs vs' : List (Option V)} (h : Ob H x dx C vs) : Ob (SlX.slH H x C dx vs') x dx C vs' := by
  refine ⟨h.1, ?_⟩
  rcases SlX.slH_slt (H := H) (C := C) (vs := vs') h.1 with ⟨h1, _⟩ | h1
  · have z : SlX.slH H x C dx vs' x = some (SlX.SlO x C dx vs') := upd_same
    rw [z] at h1
    cases h1
  · exact .inr h1
theorem Ob.new {H : Hp} {x dx C : Addr} (n : dx ≠ x) : Ob (upd (upd H dx (.own x)) x (.ins C dx [])) x dx C [] := ⟨n, .inl ⟨upd_same, by rw [upd_ne n, upd_same], rfl⟩⟩
/-- tuples and what is locked stand still when a slot is set -/
theorem Ob.tup {H : Hp} {x dx C : Addr} {vs vs' : List (Option V)} (h : Ob H x dx C vs) : Tup H (SlX.slH H x C dx vs') := by
  have nx : ∀ o, H x = some o → (∀ xs, o ≠ .tup xs) ∧ ∀ p v, o ≠ .frz p v := fun o e => by
    rcases h.2 with ⟨h1, _⟩ | ⟨h1, _⟩
    · rw [h1] at e
      cases e
      exact ⟨fun _ z => (nomatch z), fun _ _ z => nomatch z⟩
    · rw [h1] at e
      cases e
      unfold SlX.SlO
      exact ⟨fun _ z => (nomatch z), fun _ _ z => nomatch z⟩
  have nd : ∀ o, H dx = some o → (∀ xs, o ≠ .tup xs) ∧ ∀ p v, o ≠ .frz p v := fun o e => by
    rcases h.2 with ⟨_, h1, _⟩ | ⟨_, h1⟩
    · rw [h1] at e
      cases e
      exact ⟨fun _ z => (nomatch z), fun _ _ z => nomatch z⟩
    · rw [h1] at e
      cases e
      exact ⟨fun _ z => (nomatch z), fun _ _ z => nomatch z⟩
  refine ⟨fun b xs e => ?_, fun b o u e => ?_⟩
  · rw [SlX.slH_ne (fun z => by rw [z] at e; exact (nx _ e).1 xs rfl) (fun z => by rw [z] at e; exact (nd _ e).1 xs rfl)]
    exact e
  · rw [SlX.slH_ne (fun z => by rw [z] at e; exact (nx _ e).2 o u rfl) (fun z => by rw [z] at e; exact (nd _ e).2 o u rfl)]
    exact e
/-- the new known terms: the dict laid bare -/
def spKInit (K : PySem.W.Frag) (CK : Addr) : Sp := fun vs H Q _ => ∃ (x dx d : Addr) (m : Mx), vs = [.ref x, .ref d] ∧ Ob H x dx CK [] ∧ DAt K H d m ∧ Mixed m ∧
  ∀ d' m' H', But2 x dx H H' → Ob H' x dx CK (SlX.putS 0 (.ref d') []) → FAt K H' d' m' → m'.Perm (bare m) → Q .non H'
section
variable {P : Program} {w : World} {K : PySem.W.Frag} {mg : Str → Option Value} {base : Heap} {CK CM : Addr}
theorem has_kinit {f : Addr} (D : AtF K "__init__" "KnownTerms.__init__" sKInit f) (L : Kl K mg CK CM) (B : Has P w K mg base 1 "bare_terms" (spBare K)) : FnR P w K mg base CX0 2 f (spKInit K CK) := by
  refine D.has scKInit (fun vs H Q E h => ?_) (fun _ _ _ _ _ _ us hl => match us, hl with | [_, _], _ => rfl) (fun f cdv A outer s H vs Q E hr h => ?_)
  · obtain ⟨x, dx, d, m, rfl, _⟩ := h
    rfl
  · obtain ⟨x, dx, d, m, rfl, hx, hd, hm, q⟩ := h
    obtain ⟨p, hp⟩ := L.kslot
    refine ⟨_, pss_one (SlX.ps_sl (pv 0) (pe_cal B hr (pa_cons (pv 1) pa_nil))), ?_⟩
    refine ⟨_, rfl, d, m, rfl, hd, hm, fun d' m' H1 s1 hf pm => ?_⟩
    have hx1 := Ob.same s1 hx
    exact ⟨_, rfl, x, CK, dx, p, [], 0, rfl, hx1.slt, L.ksc, hp, q d' m' _ (But2.tr (Same.but2 s1) but2_slH) hx1.put (hx1.tup.fat hf) pm⟩
/-- KnownTerms(d) -/
def spK (K : PySem.W.Frag) (CK : Addr) : Sp := fun vs H Q _ => ∃ (d : Addr) (m : Mx), vs = [.ref d] ∧ DAt K H d m ∧ Mixed m ∧ ∀ x d' m' H', Same H H' → KAt H' CK x d' → FAt K H' d' m' → m'.Perm (bare m) → Q (.ref x) H'
theorem mk_k {x dx d : Addr} {m : Mx} {H0 : Hp} {Q : VK} {E : XK} (n1 : H0 x = none) (n2 : H0 dx = none) (n : dx ≠ x) (hd : DAt K H0 d m) (hm : Mixed m) (q : ∀ d' m' H', Same H0 H' → KAt H' CK x d' → FAt K H' d' m' → m'.Perm (bare m) → Q .non H') :
    spKInit K CK [.ref x, .ref d] (upd (upd H0 dx (.own x)) x (.ins CK dx [])) Q E := by
  have s0 : Same H0 (upd (upd H0 dx (.own x)) x (.ins CK dx [])) := Same.tr (same_new n2) (same_new (by rw [upd_ne (Ne.symm n)]; exact n1))
  refine ⟨x, dx, d, m, rfl, Ob.new n, DAt.same s0 hd, hm, fun d' m' H' b o f p => q d' m' H' (But2.up n1 n2 b) ⟨dx, _, o.slt, SlX.putS_get 0 _ _⟩ f p⟩
/-- the new mix: the dict of the known terms -/
def spMInit (K : PySem.W.Frag) (CK CM : Addr) : Sp := fun vs H Q _ => ∃ (x dx y d : Addr) (m : Mx) (k : Int), vs = [.ref x, .ref y] ∧ Ob H x dx CM [] ∧ KAt H CK y d ∧ FAt K H d m ∧ m.length ≤ 4096 ∧ (∀ e ∈ m, e.1.sum = k) ∧
  ∀ vs H', But2 x dx H H' → Ob H' x dx CM vs → vs[1]? = some (some (.ref d)) → FAt K H' d m → Q .non H'
theorem KAt.same {H H' : Hp} {a d : Addr} (s : Same H H') (h : KAt H CK a d) : KAt H' CK a d := by
  obtain ⟨dx, vs, h1, h2⟩ := h
  exact ⟨dx, vs, slt_same s h1, h2⟩
theorem has_minit {f : Addr} (D : AtF K "__init__" "Mix.__init__" sMInit f) (T : Tx K mg) (L : Kl K mg CK CM) (W : Has P w K mg base 1 "weights_in" (spAny (isEven K))) (F : Has P w K mg base 1 "are_firm_rows" (spBit (isEven K))) : FnR P w K mg base CX0 2 f (spMInit K CK CM) := by
  refine D.has scMInit (fun vs H Q E h => ?_) (fun _ _ _ _ _ _ us hl => match us, hl with | [_, _], _ => rfl) (fun f cdv A outer s H vs Q E hr h => ?_)
  · obtain ⟨x, dx, y, d, m, k, rfl, _⟩ := h
    rfl
  · obtain ⟨x, dx, y, d, m, k, rfl, hx, hy, hd, hz, hk, q⟩ := h
    obtain ⟨p0, hp0⟩ := L.mfirm
    obtain ⟨p1, hp1⟩ := L.mterms
    obtain ⟨p2, hp2⟩ := L.mweights
    obtain ⟨pk, hpk⟩ := L.kslot
    refine ⟨_, pss_cons (ps_if (PW.pt (pw_and (pt_not (pt_val (pe_callB (SlX.call_isiSl (.ref CK)) rfl T.isi PyProof.Rows.boot_isinstance (pa_cons (pv 1) (pa_cons (pe_glob (v := .ref CK) rfl L.kat rfl) pa_nil))))) (pw_and1 pt_no))) (pss_one ps_never) pss_nil)
      (pss_cons (ps_set (i := 2) scMInit.nd rfl (Or.inl rfl) (pe_ifExp (pt_val (pe_callB (SlX.call_isiSl (.ref CK)) rfl T.isi PyProof.Rows.boot_isinstance (pa_cons (pv 1) (pa_cons (pe_glob (v := .ref CK) rfl L.kat rfl) pa_nil)))) (SlX.pe_sl (pv 1)) pe_no))
      (pss_cons (SlX.ps_sl (pv 0) (pv 2)) (pss_cons (SlX.ps_sl (pv 0) (pe_cal W hr (pa_cons (pv 2) pa_nil))) (pss_one (SlX.ps_sl (pv 0) (pe_cal F hr (pa_cons (pv 2) pa_nil))))))), ?_⟩
    obtain ⟨dy, vy, hy1, hy2⟩ := hy
    refine ⟨_, rfl, y, CK, dy, vy, .ref CK, true, rfl, rfl, fun w r => r, hy1, L.ksc, L.ksi, L.kone, true, rfl, iteF (iteF ?_)⟩
    refine ⟨_, rfl, y, CK, dy, vy, .ref CK, true, rfl, rfl, fun w r => r, hy1, L.ksc, L.ksi, L.kone, true, rfl, iteT ?_⟩
    refine ⟨_, rfl, y, CK, dy, pk, vy, 0, .ref d, rfl, hy1, L.ksc, hpk, hy2, ?_⟩
    refine ⟨_, rfl, _, rfl, x, CM, dx, p1, [], 1, rfl, hx.slt, L.msc, hp1, ?_⟩
    have ob1 := hx.put (vs' := SlX.putS 1 (.ref d) [])
    have f1 : FAt K (SlX.slH H x CM dx (SlX.putS 1 (.ref d) [])) d m := hx.tup.fat hd
    have b1 : But2 x dx H (SlX.slH H x CM dx (SlX.putS 1 (.ref d) [])) := but2_slH
    generalize SlX.slH H x CM dx (SlX.putS 1 (.ref d) []) = H1 at ob1 f1 b1 ⊢
    refine ⟨_, rfl, ⟨d, m, k, rfl, f1, hz, hk⟩, fun v H2 s2 => ?_⟩
    have ob2 := Ob.same s2 ob1
    refine ⟨_, rfl, x, CM, dx, p2, _, 2, rfl, ob2.slt, L.msc, hp2, ?_⟩
    have ob3 := ob2.put (vs' := SlX.putS 2 v (SlX.putS 1 (.ref d) []))
    have f3 : FAt K (SlX.slH H2 x CM dx (SlX.putS 2 v (SlX.putS 1 (.ref d) []))) d m := ob2.tup.fat (FAt.same s2 f1)
    have b3 : But2 x dx H (SlX.slH H2 x CM dx (SlX.putS 2 v (SlX.putS 1 (.ref d) []))) := But2.tr b1 (But2.tr (Same.but2 s2) but2_slH)
    generalize SlX.slH H2 x CM dx (SlX.putS 2 v (SlX.putS 1 (.ref d) [])) = H3 at ob3 f3 b3 ⊢
    refine ⟨_, rfl, ⟨d, m, k, rfl, f3, hz, hk⟩, fun b H4 s4 => ?_⟩
    have ob4 := Ob.same s4 ob3
    refine ⟨_, rfl, x, CM, dx, p0, _, 0, rfl, ob4.slt, L.msc, hp0, ?_⟩
    refine q _ _ (But2.tr b3 (But2.tr (Same.but2 s4) but2_slH)) ob4.put ?_ (ob4.tup.fat (FAt.same s4 f3))
    rw [SlX.putS_ne (by decide), SlX.putS_ne (by decide)]
    exact SlX.putS_get 1 _ _
/-- a mix of a dict -/
def spMade (K : PySem.W.Frag) (CM : Addr) : Sp := fun vs H Q _ => ∃ (d : Addr) (m : Mx) (k : Int), vs = [.ref d] ∧ DAt K H d m ∧ Mixed m ∧ (∀ e ∈ m, e.1.sum = k) ∧ ∀ x m' H', Same H H' → MAt K H' CM x m' → m'.Perm (bare m) → Q (.ref x) H'
theorem mk_m {x dx y d : Addr} {m : Mx} {k : Int} {H0 : Hp} {Q : VK} {E : XK} (n1 : H0 x = none) (n2 : H0 dx = none) (n : dx ≠ x) (hy : KAt H0 CK y d) (hd : FAt K H0 d m) (hz : m.length ≤ 4096) (hk : ∀ e ∈ m, e.1.sum = k)
    (q : ∀ H', Same H0 H' → MAt K H' CM x m → Q .non H') : spMInit K CK CM [.ref x, .ref y] (upd (upd H0 dx (.own x)) x (.ins CM dx [])) Q E := by
  have s0 : Same H0 (upd (upd H0 dx (.own x)) x (.ins CM dx [])) := Same.tr (same_new n2) (same_new (by rw [upd_ne (Ne.symm n)]; exact n1))
  exact ⟨x, dx, y, d, m, k, rfl, Ob.new n, KAt.same s0 hy, FAt.same s0 hd, hz, hk, fun vs H' b o g f => q H' (But2.up n1 n2 b) ⟨dx, vs, d, o.slt, g, f⟩⟩
theorem perm_all {m m' : Mx} {p : Row × Rat → Prop} (h : ∀ e ∈ m, p e) (q : m'.Perm (bare m)) : ∀ e ∈ m', p e := fun e he => h e ((List.mem_filter.mp (q.mem_iff.mp he)).1)
theorem perm_len {m m' : Mx} (q : m'.Perm (bare m)) : m'.length ≤ m.length := by
  rw [q.length_eq]
  exact List.length_filter_le _ _
theorem has_made (D : At K mg "made_mix" sMade) (L : Kl K mg CK CM) (B : Has P w K mg base 1 "bare_terms" (spBare K)) (W : Has P w K mg base 1 "weights_in" (spAny (isEven K))) (F : Has P w K mg base 1 "are_firm_rows" (spBit (isEven K))) (T : Tx K mg) : Has P w K mg base 4 "made_mix" (spMade K CM) := by
  refine D.has scMade (fun vs H Q E h => ?_) (fun _ _ _ _ _ _ us hl => match us, hl with | [_], _ => rfl) (fun f cdv A outer s H vs Q E hr h => ?_)
  · obtain ⟨d, m, k, rfl, _⟩ := h
    rfl
  · obtain ⟨d, m, k, rfl, hd, hm, hk, q⟩ := h
    obtain ⟨fk, mk, ak⟩ := L.kinit
    obtain ⟨fm, mm, am⟩ := L.minit
    refine ⟨_, pss_one (ps_ret (StX.pe_makeR mm (has_minit am T L W F) hr rfl L.mat pass0 (pa_cons (StX.pe_makeR mk (has_kinit ak L B) hr rfl L.kat pass0 (pa_cons (pv 0) pa_nil)) pa_nil))), ?_⟩
    refine ⟨_, rfl, fun x dx n1 n2 n => mk_k n1 n2 n hd hm fun d' m' H1 s1 hy hf pm => ⟨rfl, ?_⟩⟩
    exact fun x2 dx2 z1 z2 z => mk_m z1 z2 z hy hf (Nat.le_trans (perm_len pm) hm.sz) (perm_all hk pm) fun H3 s3 h3 => ⟨rfl, q x2 m' H3 (Same.tr s1 s3) h3 pm⟩
/-- it is a mix -/
def isMix (K : PySem.W.Frag) (CM : Addr) (vs : List V) (H : Hp) : Prop := ∃ (a : Addr) (m : Mx), vs = [.ref a] ∧ MAt K H CM a m
theorem has_reqMix (D : At K mg "require_mix" sReqMix) (T : Tx K mg) (L : Kl K mg CK CM) : Has P w K mg base 1 "require_mix" (spOk (isMix K CM)) := by
  refine D.has scReqMix (fun vs H Q E h => ?_) (fun _ _ _ _ _ _ us hl => match us, hl with | [_], _ => rfl) (fun f cdv A outer s H vs Q E hr h => ?_)
  · obtain ⟨⟨a, m, rfl, _⟩, _⟩ := h
    rfl
  · obtain ⟨⟨a, m, rfl, ha⟩, q⟩ := h
    refine ⟨_, pss_one (ps_if (pt_not (pt_val (pe_callB (SlX.call_isiSl (.ref CM)) rfl T.isi PyProof.Rows.boot_isinstance (pa_cons (pv 0) (pa_cons (pe_glob (v := .ref CM) rfl L.mat rfl) pa_nil))))) (pss_one ps_never) pss_nil), ?_⟩
    obtain ⟨dx, vs, d, h1, h2, _⟩ := ha
    exact ⟨_, rfl, a, CM, dx, vs, .ref CM, true, rfl, rfl, fun w r => r, h1, L.msc, L.msi, L.mone, true, rfl, iteF (q _ (Same.rfl' _))⟩
end
end Rj
set_option Elab.async false
set_option linter.all false
set_option maxRecDepth 100000
set_option maxHeartbeats 4000000
/-! No two rows of a weight of 9 at most hash alike. -/
namespace Rj
open PySem PySem.Spec PyProof.Rows L2
def hR (r : Row) : Int := reduceHash (Builtin.Tuple.tupleHashOf (r.map hashInt))
def comps : Nat → Nat → List Row
  | 0, _ => [[]]
  | f + 1, n => [] :: (List.range n).flatMap fun i => (comps f (n - (i + 1))).map (((i + 1 : Nat) : Int) :: ·)
def apartB : List Int → Bool
  | [] => true
  | a :: l => l.all (fun b => !decide (a = b)) && apartB l
theorem nine_apart : apartB ((comps 9 9).map hR) = true := by decide +kernel
theorem apart_nodup : ∀ {l : List Int}, apartB l = true → l.Nodup
  | [], _ => .nil
  | a :: l, h => by
    unfold apartB at h
    rw [Bool.and_eq_true, List.all_eq_true] at h
    refine List.nodup_cons.mpr ⟨fun ha => ?_, apart_nodup h.2⟩
    have := h.1 a ha
    simp at this
theorem map_inj {α β : Type} {f : α → β} : ∀ {l : List α}, (l.map f).Nodup → ∀ a ∈ l, ∀ b ∈ l, f a = f b → a = b
  | [], _, a, ha, _, _, _ => by cases ha
  | c :: l, h, a, ha, b, hb, e => by
    rw [List.map_cons, List.nodup_cons] at h
    rcases List.mem_cons.mp ha with ea | ha1
    · rcases List.mem_cons.mp hb with eb | hb1
      · rw [ea, eb]
      · rw [ea] at e
        exact absurd (List.mem_map.mpr ⟨b, hb1, e.symm⟩) h.1
    · rcases List.mem_cons.mp hb with eb | hb1
      · rw [eb] at e
        exact absurd (List.mem_map.mpr ⟨a, ha1, e⟩) h.1
      · exact map_inj h.2 a ha1 b hb1 e
theorem mem_comps : ∀ {f n : Nat} {r : Row}, (∀ x ∈ r, 0 < x) → r.sum ≤ (n : Int) → n ≤ f → r ∈ comps f n
  | 0, n, r, hp, hs, hn => by
    have := pos_len hp
    have : r.length = 0 := by omega
    rw [List.length_eq_zero_iff.mp this]
    simp [comps]
  | f + 1, n, r, hp, hs, hn => by
    cases r with
    | nil => simp [comps]
    | cons a r =>
      have h1 := hp a (by simp)
      have h2 := pos_len (r := r) fun x hx => hp x (List.mem_cons_of_mem _ hx)
      rw [List.sum_cons] at hs
      refine List.mem_cons_of_mem _ (List.mem_flatMap.mpr ⟨a.toNat - 1, List.mem_range.mpr (by omega), List.mem_map.mpr ⟨r, ?_, ?_⟩⟩)
      · exact mem_comps (fun x hx => hp x (List.mem_cons_of_mem _ hx)) (by omega) (by omega)
      · have e : (((a.toNat - 1 + 1 : Nat)) : Int) = a := by omega
        rw [e]
/-- a row of entries above 0, of a weight of 9 at most -/
structure Nine (r : Row) : Prop where
  pos : ∀ x ∈ r, 0 < x
  sum : r.sum ≤ 9
theorem Nine.small {r : Row} (h : Nine r) : Small r := ⟨h.pos, by have := h.sum; omega⟩
theorem hash_row {P : Program} {w : World} (r : Row) : (tupleKind (mixKind P w)).hash (KR r) = hR r := by
  show tupleKeyHash (mixKind P w) (KR r) = hR r
  unfold tupleKeyHash hR KR
  rw [List.map_map]
  rfl
theorem nine_inj {r s : Row} (hr : Nine r) (hs : Nine s) (e : hR r = hR s) : r = s :=
  map_inj (apart_nodup nine_apart) r (mem_comps hr.pos hr.sum (Nat.le_refl _)) s (mem_comps hs.pos hs.sum (Nat.le_refl _)) e
theorem rows_apart {P : Program} {w : World} : ∀ {rs : List Row}, (∀ r ∈ rs, Nine r) → rs.Nodup → (rs.map fun r => (tupleKind (mixKind P w)).hash (KR r)).Nodup
  | [], _, _ => .nil
  | r :: rs, h, n => by
    rw [List.nodup_cons] at n
    rw [List.map_cons, List.nodup_cons]
    refine ⟨fun hm => ?_, rows_apart (fun s hs => h s (List.mem_cons_of_mem _ hs)) n.2⟩
    obtain ⟨s, hs, e⟩ := List.mem_map.mp hm
    rw [hash_row, hash_row] at e
    have := nine_inj (h s (List.mem_cons_of_mem _ hs)) (h r (by simp)) e
    rw [this] at hs
    exact n.1 hs
theorem mx_apart {P : Program} {w : World} {K : PySem.W.Frag} {H : Hp} {kvs : List (List Key × V)} {m : Mx} (h : Paired (EntR K H) kvs m) (h9 : ∀ e ∈ m, Nine e.1) (hn : (m.map (·.1)).Nodup) : Apart P w kvs := by
  unfold Apart
  have e : (kvs.map fun p => (tupleKind (mixKind P w)).hash p.1) = (m.map (·.1)).map fun r => (tupleKind (mixKind P w)).hash (KR r) := by
    clear h9 hn
    induction h with
    | nil => rfl
    | cons g t ih => rw [List.map_cons, List.map_cons, List.map_cons, ih, g.1]
  rw [e]
  exact rows_apart (fun r hr => by obtain ⟨f, hf, rfl⟩ := List.mem_map.mp hr; exact h9 f hf) hn
end Rj
set_option Elab.async false
set_option linter.all false
set_option maxRecDepth 100000
set_option maxHeartbeats 4000000
/-! What is asked of a mix; the mixes of a row. -/
namespace Rj
open PySem PySem.Spec PyProof.Rows L2
abbrev sOf : Stmt := inClass (top 49) 2
abbrev sTerms : Stmt := inClass (top 49) 3
abbrev sLen : Stmt := inClass (top 49) 15
abbrev sSlackMix : Stmt := top 67
abbrev sStrictMix : Stmt := top 68
theorem scOf : FnScope ["cls", "row"] ["cls", "row"] (defScope sOf) := ⟨rfl, rfl, rfl, by decide +kernel, rfl, by decide +kernel, by decide +kernel⟩
theorem scTerms : FnScope ["self"] ["self"] (defScope sTerms) := ⟨rfl, rfl, rfl, by decide +kernel, rfl, by decide +kernel, by decide +kernel⟩
theorem scLen : FnScope ["self"] ["self"] (defScope sLen) := ⟨rfl, rfl, rfl, by decide +kernel, rfl, by decide +kernel, by decide +kernel⟩
theorem scSlackMix : FnScope ["row", "one"] ["row"] (defScope sSlackMix) := ⟨rfl, rfl, rfl, by decide +kernel, rfl, by decide +kernel, by decide +kernel⟩
theorem scStrictMix : FnScope ["row", "one"] ["row"] (defScope sStrictMix) := ⟨rfl, rfl, rfl, by decide +kernel, rfl, by decide +kernel, by decide +kernel⟩
/-- a dict that may still be written -/
def UAt (K : PySem.W.Frag) (H : Hp) (d : Addr) (m : Mx) : Prop := ∃ kvs, H d = some (.dT kvs) ∧ Paired (EntR K H) kvs m
theorem UAt.d {K : PySem.W.Frag} {H : Hp} {d : Addr} {m : Mx} (h : UAt K H d m) : DAt K H d m := by
  obtain ⟨kvs, a, b⟩ := h
  exact ⟨kvs, .inl a, b⟩
theorem UAt.same {K : PySem.W.Frag} {H H' : Hp} {d : Addr} {m : Mx} (s : Same H H') (h : UAt K H d m) : UAt K H' d m := by
  obtain ⟨kvs, a, b⟩ := h
  exact ⟨kvs, s _ _ a, paired_mono (EntR.same s) b⟩
theorem rat_one {K : PySem.W.Frag} {H : Hp} {a : Addr} (h : SqT K H a [.int 1, .int 1]) : RatAt K H a 1 := h
theorem rat_zero {K : PySem.W.Frag} {H : Hp} {a : Addr} (h : SqT K H a [.int 0, .int 1]) : RatAt K H a 0 := h
theorem rat_neg {K : PySem.W.Frag} {H : Hp} {a : Addr} (h : SqT K H a [.int (-1), .int 1]) : RatAt K H a (-1) := h
def spOf (K : PySem.W.Frag) (CM : Addr) : Sp := fun vs H Q _ => ∃ (a : Addr) (r : Row), vs = [.ref CM, .ref a] ∧ RowAt H a r ∧ Small r ∧ ∀ x H', Same H H' → MAt K H' CM x [(r, 1)] → Q (.ref x) H'
/-- its terms, a new dict -/
def spTerms (K : PySem.W.Frag) (CM : Addr) : Sp := fun vs H Q _ => ∃ (a : Addr) (m : Mx), vs = [.ref a] ∧ MAt K H CM a m ∧ (∀ e ∈ m, Nine e.1) ∧ (m.map (·.1)).Nodup ∧ ∀ p H', H p = none → Same H H' → UAt K H' p m → Q (.ref p) H'
def spLen (K : PySem.W.Frag) (CM : Addr) : Sp := fun vs H Q _ => ∃ (a : Addr) (m : Mx), vs = [.ref a] ∧ MAt K H CM a m ∧ Q (.int (m.length : Int)) H
section
variable {X : Cx}
def rLn (K : PySem.W.Frag) : List V → Hp → VK → Prop := fun xs H Q => ∃ p ys, xs = [V.ref p] ∧ (SqL K H p ys ∨ SqT K H p ys) ∧ Q (.int ys.length) H
theorem call_lenS : CallR X (.builtin "len") (rLn X.K) := call_len_seq
def rLenD (K : PySem.W.Frag) : List V → Hp → VK → Prop := fun xs H Q => ∃ (d : Addr) (m : Mx), xs = [.ref d] ∧ DAt K H d m ∧ Q (.int (m.length : Int)) H
theorem call_lenD : CallR X (.builtin "len") (rLenD X.K) := by
  intro pins s σ H xs us Q I r h
  obtain ⟨d, m, rfl, ⟨kvs, hd, pr⟩, q⟩ := h
  obtain ⟨u, rfl, ru⟩ := r.one
  cases ru
  obtain ⟨z, hs, ys, rel, dd⟩ := dt_rd I.hok hd
  have l1 := Paired.length rel
  have l2 := Paired.length pr
  refine call_len_dictH hs dd (by rw [sizeLine_eq] at z; omega) ?_
  rw [show ys.length = m.length by omega]
  exact ⟨.int _, H, I.tok _, ⟨_, rfl⟩, q⟩
end
section
variable {P : Program} {w : World} {K : PySem.W.Frag} {mg : Str → Option Value} {base : Heap} {CK CM : Addr}
theorem has_of {f : Addr} (D : AtF K "of" "Mix.of" sOf f) (T : Tx K mg) (L : Kl K mg CK CM) (R : Has P w K mg base 4 "require_row" (spOk isSmall)) (B : Has P w K mg base 1 "bare_terms" (spBare K)) (W : Has P w K mg base 1 "weights_in" (spAny (isEven K))) (F : Has P w K mg base 1 "are_firm_rows" (spBit (isEven K))) :
    FnR P w K mg base CX0 5 f (spOf K CM) := by
  refine D.has scOf (fun vs H Q E h => ?_) (fun _ _ _ _ _ _ us hl => match us, hl with | [_, _], _ => rfl) (fun f cdv A outer s H vs Q E hr h => ?_)
  · obtain ⟨a, r, rfl, _⟩ := h
    rfl
  · obtain ⟨a, r, rfl, ha, hs, q⟩ := h
    obtain ⟨fk, mk, ak⟩ := L.kinit
    obtain ⟨fm, mm, am⟩ := L.minit
    obtain ⟨one, mone, hone⟩ := T.oneM
    refine ⟨_, pss_cons (ps_expr (pe_cal R hr (pa_cons (pv 1) pa_nil))) (pss_one (ps_ret (pe_makeL (i := 0) mm (has_minit am T L W F) (hr.mono (by decide)) (pa_cons (StX.pe_makeR mk (has_kinit ak L B) (hr.mono (by decide)) rfl L.kat pass0
      (pa_cons (pe_dispT (roomU hr) (pps_cons (pv 1) (pe_glob (v := .ref one) rfl mone rfl) pps_nil)) pa_nil)) pa_nil)))), ?_⟩
    refine ⟨_, rfl, ⟨a, r, rfl, ha, hs⟩, fun H1 s1 => ⟨rfl, ?_⟩⟩
    intro d hd
    have s2 : Same H1 (upd H1 d (.dT [])) := same_new hd
    refine ⟨_, rfl, upd_same, [(KR r, .ref one)], .cons ⟨a, rfl, by rw [KR_kV]; exact RowAt.same (Same.tr s1 s2) ha, rfl⟩ .nil, by show 1 ≤ 15; decide, ?_⟩
    have hD : DAt K (upd (upd H1 d (.dT [])) d (.dT (putsK [] [(KR r, .ref one)]))) d [(r, 1)] := ⟨_, .inl upd_same, .cons ⟨rfl, one, rfl, rat_one (hone _)⟩ .nil⟩
    have s3 : Same H (upd (upd H1 d (.dT [])) d (.dT (putsK [] [(KR r, .ref one)]))) := fun b o e => by
      have e1 := s1 _ _ e
      rw [upd_ne (ne_of_none e1 hd), upd_ne (ne_of_none e1 hd)]
      exact e1
    have hM : Mixed [(r, (1 : Rat))] := ⟨by simp, .inr (by simp), by simp⟩
    have hB : bare [(r, (1 : Rat))] = [(r, 1)] := rfl
    generalize upd (upd H1 d (.dT [])) d (.dT (putsK [] [(KR r, .ref one)])) = H3 at hD s3 ⊢
    refine fun x dx n1 n2 n => mk_k n1 n2 n hD hM fun d' m' H4 s4 hy hf pm => ⟨rfl, ?_⟩
    rw [hB] at pm
    have em := List.perm_singleton.mp pm
    subst em
    exact fun x2 dx2 z1 z2 z => mk_m (k := r.sum) z1 z2 z hy hf (by simp) (fun e he => by simp at he; rw [he]) fun H5 s5 h5 => ⟨rfl, q x2 H5 (Same.tr s3 (Same.tr s4 s5)) h5⟩
theorem has_terms {f : Addr} (D : AtF K "terms" "Mix.terms" sTerms f) (T : Tx K mg) (L : Kl K mg CK CM) : FnR P w K mg base CX0 1 f (spTerms K CM) := by
  refine D.has scTerms (fun vs H Q E h => ?_) (fun _ _ _ _ _ _ us hl => match us, hl with | [_], _ => rfl) (fun f cdv A outer s H vs Q E hr h => ?_)
  · obtain ⟨a, m, rfl, _⟩ := h
    rfl
  · obtain ⟨a, m, rfl, ⟨dx, vs, d, h1, h2, h3⟩, h9, hn, q⟩ := h
    obtain ⟨p1, hp1⟩ := L.mterms
    refine ⟨_, pss_one (ps_ret (pe_callTy (cr_dictDT (roomU hr)) rfl T.dict PyProof.Rows.boot_dict (pa_cons (SlX.pe_sl (pv 0)) pa_nil))), ?_⟩
    obtain ⟨o, kvs, hf, pr⟩ := h3
    refine ⟨_, rfl, a, CM, dx, p1, vs, 1, .ref d, rfl, h1, L.msc, hp1, h2, d, kvs, rfl, .inr ⟨o, hf⟩, mx_apart pr h9 hn, fun p hp => ?_⟩
    exact q p _ hp (same_new hp) ⟨kvs, upd_same, paired_mono (EntR.same (same_new hp)) pr⟩
theorem has_len {f : Addr} (D : AtF K "__len__" "Mix.__len__" sLen f) (T : Tx K mg) (L : Kl K mg CK CM) : FnR P w K mg base CX0 1 f (spLen K CM) := by
  refine D.has scLen (fun vs H Q E h => ?_) (fun _ _ _ _ _ _ us hl => match us, hl with | [_], _ => rfl) (fun f cdv A outer s H vs Q E hr h => ?_)
  · obtain ⟨a, m, rfl, _⟩ := h
    rfl
  · obtain ⟨a, m, rfl, ⟨dx, vs, d, h1, h2, h3⟩, q⟩ := h
    obtain ⟨p1, hp1⟩ := L.mterms
    refine ⟨_, pss_one (ps_ret (pe_callB call_lenD rfl T.len PySem.boot_len (pa_cons (SlX.pe_sl (pv 0)) pa_nil))), ?_⟩
    exact ⟨_, rfl, a, CM, dx, p1, vs, 1, .ref d, rfl, h1, L.msc, hp1, h2, d, m, rfl, h3.d, q⟩
end
/-! ### the mixes of a row -/
def slackM (r : Row) (js : List Row) : Mx := js.map fun j => (j, 1)
def strictM (r : Row) (js : List Row) : Mx := js.map fun j => (j, sg (r.length + j.length))
theorem fst_map {f : Row → Rat} (js : List Row) : (js.map fun j => (j, f j)).map (·.1) = js := by
  rw [List.map_map]
  exact List.map_id' js
theorem mixed_of {r : Row} (h : Small r) (h12 : r.length ≤ 12) {js : List Row} (p : js.Perm (jn r)) (f : Row → Rat) : Mixed (js.map fun j => (j, f j)) := by
  refine ⟨?_, ?_, ?_⟩
  · rw [fst_map]
    exact (p.nodup_iff).mpr (jn_nodup r h.pos)
  · rw [fst_map]
    by_cases hr : r = []
    · subst hr
      refine .inr ?_
      rw [p.length_eq, jn_nil]
      decide
    · exact .inl fun j hj => jn_ne hr (p.mem_iff.mp hj)
  · rw [List.length_map, p.length_eq]
    refine Nat.le_trans (jn_len_le r) ?_
    exact Nat.le_trans (Nat.pow_le_pow_right (by decide) h12) (by decide)
theorem sum_of {r : Row} (h : Small r) {js : List Row} (p : js.Perm (jn r)) (f : Row → Rat) : ∀ e ∈ js.map fun j => (j, f j), e.1.sum = r.sum := by
  intro e he
  obtain ⟨j, hj, rfl⟩ := List.mem_map.mp he
  exact (good_jn r h.pos j (p.mem_iff.mp hj)).sum
theorem bare_of_ne {js : List Row} (f : Row → Rat) (h : ∀ j, f j ≠ 0) : bare (js.map fun j => (j, f j)) = js.map fun j => (j, f j) := bare_all fun e he => by
  obtain ⟨j, _, rfl⟩ := List.mem_map.mp he
  exact h j
theorem sg_ne (n : Nat) : sg n ≠ 0 := by
  unfold sg
  split <;> decide
/-- a mix with a coefficient for each joining -/
def spMixOf (K : PySem.W.Frag) (CM : Addr) (f : Row → Row → Rat) : Sp := fun vs H Q _ => ∃ (a : Addr) (r : Row), vs = [.ref a] ∧ RowAt H a r ∧ Small r ∧ r.length ≤ 12 ∧ ∀ (x : Addr) (js : List Row) (H' : Hp), Same H H' → js.Perm (jn r) → MAt K H' CM x (js.map fun j => (j, f r j)) → Q (.ref x) H'
section
variable {P : Program} {w : World} {K : PySem.W.Frag} {mg : Str → Option Value} {base : Heap} {CK CM : Addr}
theorem perm_js {js : List Row} {f : Row → Rat} {m : Mx} (p : m.Perm (js.map fun j => (j, f j))) : ∃ ks : List Row, ks.Perm js ∧ m = ks.map fun j => (j, f j) := perm_map_of (fun j => (j, f j)) p
theorem has_slackMix (D : At K mg "slack_mix" sSlackMix) (J : Has P w K mg base 5 "joinings" (spJoin K)) (M : Has P w K mg base 4 "made_mix" (spMade K CM)) : Has P w K mg base 6 "slack_mix" (spMixOf K CM fun _ _ => 1) := by
  refine D.has scSlackMix (fun vs H Q E h => ?_) (fun _ _ _ _ _ _ us hl => match us, hl with | [_], _ => rfl) (fun f cdv A outer s H vs Q E hr h => ?_)
  · obtain ⟨a, r, rfl, _⟩ := h
    rfl
  · obtain ⟨a, r, rfl, ha, hs, h12, q⟩ := h
    refine ⟨_, pss_one (ps_ret (pe_cal M hr (pa_cons (pe_dcT (own := [("one", 1)]) (g := gName 1) (tt := tYes) (roomU (n := 0) hr) rfl scSlackMix.nd (pi_tup (pe_cal J hr (pa_cons (pv 0) pa_nil)))
      (blkOk_by (N := ["row", "one"]) (sc := defScope sSlackMix) (by decide +kernel)) (fun _ _ _ _ _ => pg_name (i := 1) scSlackMix.nd rfl (Or.inl rfl)) (fun _ _ _ _ _ => pts_nil)
      (fun _ _ _ _ _ => pv 1) (fun _ _ _ _ _ => pe_tup (pa_cons pe_int (pa_cons pe_int pa_nil)))) pa_nil))), ?_⟩
    refine ⟨_, rfl, a, r, rfl, ha, hs, h12, fun p bs H1 s1 hp hrow pm => ⟨p, rfl, ⟨_, hp⟩, fun D hD => ?_⟩⟩
    have efm : bs.filterMap (fun b => some (b.2, (1 : Rat))) = (bs.map (·.2)).map fun j => (j, 1) := by
      rw [List.map_map, List.filterMap_eq_map']
      rfl
    have hmx := mixed_of hs h12 pm (fun _ => 1)
    refine dcF (K := K) (as := bs) (over_tupM (f := fun b : Addr × Row => V.ref b.1)) hD (fun b => some (b.2, 1)) ?_ ?_ (fun H' s' => sameT s' hp) (fun i x b H2 C R e y s2 hC hR => ?_) (fun H2 ks s2 hk pr2 => ?_)
    · have := hmx.sz
      rw [List.length_map, List.length_map] at this
      rw [sizeLine_eq]
      omega
    · rw [efm]
      exact hmx.nd
    · obtain ⟨b', eb, rfl⟩ := y
      cases (e.symm.trans eb)
      refine ⟨rfl, ?_⟩
      refine iteT (B := True) ?_
      refine ⟨_, rfl, line2, fun t ht => hC _ _ _ _ rfl (same_new ht) ⟨_, rfl, RowAt.same (Same.tr s2 (same_new ht)) (hrow b (List.mem_of_getElem? e))⟩ ⟨t, rfl, rat_one (SqT.of upd_same)⟩⟩
    · rw [efm] at pr2
      refine ⟨D, _, r.sum, rfl, ⟨ks, .inl hk, pr2⟩, hmx, sum_of hs pm _, fun x m' H3 s3 hx pm2 => ?_⟩
      rw [bare_of_ne _ (fun _ => by decide)] at pm2
      obtain ⟨js, p1, rfl⟩ := perm_js pm2
      exact q x js H3 (Same.tr s1 (Same.tr s2 s3)) (p1.trans pm) hx
theorem has_strictMix (D : At K mg "strict_mix" sStrictMix) (T : Tx K mg) (J : Has P w K mg base 5 "joinings" (spJoin K)) (M : Has P w K mg base 4 "made_mix" (spMade K CM)) : Has P w K mg base 6 "strict_mix" (spMixOf K CM fun r j => sg (r.length + j.length)) := by
  refine D.has scStrictMix (fun vs H Q E h => ?_) (fun _ _ _ _ _ _ us hl => match us, hl with | [_], _ => rfl) (fun f cdv A outer s H vs Q E hr h => ?_)
  · obtain ⟨a, r, rfl, _⟩ := h
    rfl
  · obtain ⟨a, r, rfl, ha, hs, h12, q⟩ := h
    refine ⟨_, pss_one (ps_ret (pe_cal M hr (pa_cons (pe_dcT (own := [("one", 1)]) (g := gName 1) (tt := tYes) (roomU (n := 0) hr) rfl scStrictMix.nd (pi_tup (pe_cal J hr (pa_cons (pv 0) pa_nil)))
      (blkOk_by (N := ["row", "one"]) (sc := defScope sStrictMix) (by decide +kernel)) (fun _ _ _ _ _ => pg_name (i := 1) scStrictMix.nd rfl (Or.inl rfl)) (fun _ _ _ _ _ => pts_nil)
      (fun _ _ _ _ _ => pv 1) (fun _ _ _ _ _ => pe_tup (pa_cons (pe_ifExp (pt_cmpR op_eq (pe_op op_mod (pe_op op_sub (pe_callB (r := rLn K) call_lenS rfl T.len PySem.boot_len (pa_cons (pv 0) pa_nil)) (pe_callB (r := rLn K) call_lenS rfl T.len PySem.boot_len (pa_cons (pv 1) pa_nil))) pe_int) pe_int (nomark _))
        pe_int (pe_un un_neg pe_int)) (pa_cons pe_int pa_nil)))) pa_nil))), ?_⟩
    refine ⟨_, rfl, a, r, rfl, ha, hs, h12, fun p bs H1 s1 hp hrow pm => ⟨p, rfl, ⟨_, hp⟩, fun D hD => ?_⟩⟩
    have ha1 := RowAt.same s1 ha
    have efm : bs.filterMap (fun b => some (b.2, sg (r.length + b.2.length))) = (bs.map (·.2)).map fun j => (j, sg (r.length + j.length)) := by
      rw [List.map_map, List.filterMap_eq_map']
      rfl
    have hmx := mixed_of hs h12 pm (fun j => sg (r.length + j.length))
    refine dcF (K := K) (as := bs) (over_tupM (f := fun b : Addr × Row => V.ref b.1)) hD (fun b => some (b.2, sg (r.length + b.2.length))) ?_ ?_ (fun H' s' => sameT s' hp) (fun i x b H2 C R e y s2 hC hR => ?_) (fun H2 ks s2 hk pr2 => ?_)
    · have := hmx.sz
      rw [List.length_map, List.length_map] at this
      rw [sizeLine_eq]
      omega
    · rw [efm]
      exact hmx.nd
    · obtain ⟨b', eb, rfl⟩ := y
      cases (e.symm.trans eb)
      have hb2 := RowAt.same s2 (hrow b (List.mem_of_getElem? e))
      refine ⟨rfl, ?_⟩
      refine iteT (B := True) ?_
      refine ⟨_, rfl, _, rfl, a, _, rfl, .inr (RowAt.same s2 ha1).sq, _, rfl, b.1, _, rfl, .inr hb2.sq, _, _, rfl, rfl, _, _, rfl, rfl, (by show (0 : Int) < 2; decide), rfl, _, rfl, ?_⟩
      rw [List.length_map, List.length_map]
      by_cases z : (r.length + b.2.length) % 2 = 0
      · have z1 : V.int (((r.length : Int) - (b.2.length : Int)) % 2) = V.int 0 := by
          have : ((r.length : Int) - (b.2.length : Int)) % 2 = 0 := by omega
          rw [this]
        rw [decide_eq_true z1]
        refine iteT ⟨line2, fun t ht => hC _ _ _ _ rfl (same_new ht) ⟨_, rfl, RowAt.same (same_new ht) hb2⟩ ⟨t, rfl, ?_⟩⟩
        have e1 : sg (r.length + b.2.length) = 1 := by unfold sg; rw [if_pos z]
        rw [e1]
        exact rat_one (SqT.of upd_same)
      · have z1 : ¬ V.int (((r.length : Int) - (b.2.length : Int)) % 2) = V.int 0 := by
          intro y
          injection y with y
          omega
        rw [decide_eq_false z1]
        refine iteF ⟨_, rfl, line2, fun t ht => hC _ _ _ _ rfl (same_new ht) ⟨_, rfl, RowAt.same (same_new ht) hb2⟩ ⟨t, rfl, ?_⟩⟩
        have e1 : sg (r.length + b.2.length) = -1 := by unfold sg; rw [if_neg z]
        rw [e1]
        exact rat_neg (SqT.of upd_same)
    · rw [efm] at pr2
      refine ⟨D, _, r.sum, rfl, ⟨ks, .inl hk, pr2⟩, hmx, sum_of hs pm _, fun x m' H3 s3 hx pm2 => ?_⟩
      rw [bare_of_ne _ (fun _ => sg_ne _)] at pm2
      obtain ⟨js, p1, rfl⟩ := perm_js pm2
      exact q x js H3 (Same.tr s1 (Same.tr s2 s3)) (p1.trans pm) hx
end
end Rj
set_option Elab.async false
set_option linter.all false
set_option maxRecDepth 100000
set_option maxHeartbeats 4000000
set_option exponentiation.threshold 100000
/-! The value of a mix. -/
namespace Rj
open PySem PySem.Spec PyProof.Rows L2
abbrev sCutValue : Stmt := top 66
theorem scCutValue : FnScope ["bound", "mix", "found", "row", "number"] ["bound", "mix"] (defScope sCutValue) := ⟨rfl, rfl, rfl, by decide +kernel, rfl, by decide +kernel, by decide +kernel⟩
/-- a mix of rows of one weight, 9 at most, with coefficients 1 and -1 -/
structure Plain (m : Mx) (W : Int) : Prop where
  nine : ∀ e ∈ m, Nine e.1
  nd : (m.map (·.1)).Nodup
  sum : ∀ e ∈ m, e.1.sum = W
  pm : ∀ e ∈ m, Pm e.2
  sz : m.length ≤ 4096
/-- the sum that a mix stands for -/
def val (g : Row → Rat) (m : Mx) : Rat := sm (fun e => e.2 * g e.1) m
theorem val_snoc (g : Row → Rat) (m : Mx) (e : Row × Rat) : val g (m ++ [e]) = val g m + e.2 * g e.1 := by
  unfold val
  rw [sm_append, sm_cons, sm_nil, Rat.add_zero]
theorem val_bd {g : Row → Rat} {D B : Nat} (hD : D ≠ 0) {m : Mx} (hp : ∀ e ∈ m, Pm e.2) (hg : ∀ e ∈ m, Bd D B (g e.1)) : Bd D (m.length * B) (val g m) := by
  induction m with
  | nil => exact (Bd.zero D 0).mono (Nat.zero_le _)
  | cons e m ih =>
    have h1 := (hp e (by simp)).times (hg e (by simp))
    have h2 := ih (fun f hf => hp f (List.mem_cons_of_mem _ hf)) fun f hf => hg f (List.mem_cons_of_mem _ hf)
    have h3 := Bd.add hD h1 h2
    rw [List.length_cons, Nat.succ_mul, Nat.add_comm]
    exact h3
theorem chs_bd (sl : Bool) {r : Row} (h : Nine r) {W : Int} (hs : r.sum = W) {k : Nat} (hk : k ≤ 19) : Bd (lcmTo k ^ W.toNat) (2 ^ (33 * W.toNat)) (ch sl r k) := by
  have e : wt r = W.toNat := by
    have := wt_sum h.pos
    omega
  rw [← e]
  exact ch_bd sl h.pos hk
theorem bd_sz {n : Nat} {q : Rat} {W k : Nat} (hk : k ≤ 19) (hW : W ≤ 9) (h : Bd (lcmTo k ^ W) (n * 2 ^ (33 * W)) q) (hn : n ≤ 2 ^ 20) : Sz 4000 q := by
  refine h.sz (scale_pos hk W) ?_ (scale_lt hk (by omega))
  have h1 : n * 2 ^ (33 * W) ≤ 2 ^ 20 * 2 ^ (33 * 9) := Nat.mul_le_mul hn (Nat.pow_le_pow_right (by decide) (by omega))
  exact Nat.lt_of_le_of_lt h1 (by decide)
/-- the value of a mix -/
def spCutValue (K : PySem.W.Frag) (CM : Addr) : Sp := fun vs H Q _ => ∃ (k : Nat) (a : Addr) (m : Mx) (W : Int), vs = [.int ((k : Int) + 1), .ref a] ∧ k ≤ 19 ∧ MAt K H CM a m ∧ Plain m W ∧ ∀ p H', Same H H' → RatAt K H' p (val (fun r => ch false r k) m) → Q (.ref p) H'
section
variable {P : Program} {w : World} {K : PySem.W.Frag} {mg : Str → Option Value} {base : Heap} {CK CM : Addr}
theorem has_cutValue (D : At K mg "cut_value" sCutValue) (T : Tx K mg) (L : Kl K mg CK CM) (B : Has P w K mg base 4 "require_bound" (spOk isBound)) (R : Has P w K mg base 1 "require_mix" (spOk (isMix K CM))) (C : Has P w K mg base 5 "cut_in" (spOne false))
    (PL : Has P w K mg base 2 "plus_of" (spTwo K (· + ·))) (TI : Has P w K mg base 2 "times_of" (spTwo K (· * ·))) : Has P w K mg base 6 "cut_value" (spCutValue K CM) := by
  refine D.has scCutValue (fun vs H Q E h => ?_) (fun _ _ _ _ _ _ us hl => match us, hl with | [_, _], _ => rfl) (fun f cdv A outer s H vs Q E hr h => ?_)
  · obtain ⟨k, a, m, W, rfl, _⟩ := h
    rfl
  · obtain ⟨k, a, m, W, rfl, hk, ha, hm, q⟩ := h
    obtain ⟨tp, tg, t1, t2, t3, t4, t5⟩ := L.mtp
    obtain ⟨z, mz, hz⟩ := T.zeroS
    refine ⟨_, pss_cons (ps_expr (pe_cal B hr (pa_cons (pv 0) pa_nil))) (pss_cons (ps_expr (pe_cal R hr (pa_cons (pv 1) pa_nil)))
      (pss_cons (ps_set (i := 2) scCutValue.nd rfl (Or.inl rfl) (pe_glob (v := .ref z) rfl mz rfl))
      (pss_cons (ps_for PassesOwn.never rfl (pi_itemsN (SlX.pe_propSl (E := E0) (pv 1) L.msc t1 t2 t3 t4 (has_terms t5 T L) (hr.mono (by decide)) (fun _ _ _ _ h => h)))
        (pg_tup rfl (pgs_cons (pg_name (i := 3) scCutValue.nd rfl (Or.inl rfl)) (pgs_cons (pg_name (i := 4) scCutValue.nd rfl (Or.inl rfl)) pgs_nil)))
        (pss_one (ps_set (i := 2) scCutValue.nd rfl (Or.inl rfl) (pe_cal PL hr (pa_cons (pv 2) (pa_cons (pe_cal TI hr (pa_cons (pv 4) (pa_cons (pe_cal C hr (pa_cons (pv 0) (pa_cons (pv 3) pa_nil))) pa_nil))) pa_nil))))))
      (pss_one (ps_ret (pv 2)))))), ?_⟩
    refine ⟨_, rfl, ⟨k + 1, rfl, by omega, by omega⟩, fun H1 s1 => ?_⟩
    have ha1 := MAt.same s1 ha
    refine ⟨_, rfl, ⟨a, m, rfl, ha1⟩, fun H2 s2 => ?_⟩
    have ha2 := MAt.same s2 ha1
    have ha2' := ha2
    obtain ⟨dx, vs, d0, h1, _, _⟩ := ha2'
    refine ⟨_, rfl, a, dx, vs, rfl, h1, a, m, rfl, ha2, hm.nine, hm.nd, fun p H3 np s3 hu => ?_⟩
    obtain ⟨kvs, hp, pr⟩ := hu
    refine ⟨p, kvs, rfl, hp, fun o => ?_⟩
    have s4 : Same H2 (upd H3 p (.frz o (.dT kvs))) := same_frz s3 np
    have f4 : (upd H3 p (.frz o (.dT kvs))) p = some (.frz o (.dT kvs)) := upd_same
    have pr4 : Paired (EntR K (upd H3 p (.frz o (.dT kvs)))) kvs m := paired_mono (Tup.ent (tup_dT hp)) pr
    generalize upd H3 p (.frz o (.dT kvs)) = H4 at s4 f4 pr4 ⊢
    refine forF (over_itemsM pr4) (fun i σ H' => Same H4 H' ∧ ∃ c v3 v4, σ = [some (.int ((k : Int) + 1)), some (.ref a), some (.ref c), v3, v4] ∧ RatAt K H' c (val (fun r => ch false r k) (m.take i)))
      ⟨Same.rfl' _, z, none, none, rfl, rat_zero (hz _)⟩ (fun i σ H' _ h => ⟨h.1 _ _ f4, Same.tup h.1⟩) (fun i σ H5 x H6 hi P s6 y => ?_) (fun σ H' P => ?_)
    · obtain ⟨s5, c, v3, v4, rfl, hc⟩ := P
      obtain ⟨t, e, rp, qp, ee, rfl, ht, hrow, hq⟩ := y
      have me := List.mem_of_getElem? ee
      have e9 := hm.nine e me
      have eW := hm.sum e me
      have W9 : W.toNat ≤ 9 := by
        have := e9.sum
        omega
      have wr : wt e.1 ≤ 9 := by
        have := wt_sum e9.pos
        have := e9.sum
        omega
      have hsub : ∀ f ∈ m.take i, f ∈ m := fun f hf => List.mem_of_mem_take hf
      have bd := val_bd (g := fun r => ch false r k) (scale_pos hk W.toNat) (fun f hf => hm.pm f (hsub f hf)) fun f hf => chs_bd false (hm.nine f (hsub f hf)) (hm.sum f (hsub f hf)) hk
      have szl : (m.take i).length ≤ 2 ^ 20 := by
        have := hm.sz
        rw [List.length_take]
        have : (4096 : Nat) ≤ 2 ^ 20 := by decide
        omega
      have bd2 := (hm.pm e me).times (chs_bd false e9 eW hk)
      refine ⟨t, _, rfl, ht, rfl, _, _, rfl, _, _, rfl, rfl, ?_⟩
      refine ⟨_, rfl, _, rfl, _, rfl, _, rfl, k, rp, e.1, rfl, hk, hrow, e9.small, fun c2 H7 s7 n7 => ?_⟩
      refine ⟨qp, c2, e.2, ch false e.1 k, rfl, RatAt.same s7 hq, n7.at_, (hm.pm e me).sz.mono (by decide), ch_sz false e9.pos hk (by omega), fun c3 H8 s8 n8 => ?_⟩
      refine ⟨c, c3, _, _, rfl, RatAt.same (Same.tr s6 (Same.tr s7 s8)) hc, n8.at_, bd_sz hk W9 bd szl, bd_sz (n := 1) hk W9 (by rw [Nat.one_mul]; exact bd2) (by decide), fun c4 H9 s9 n9 => ?_⟩
      refine ⟨Same.tr s5 (Same.tr s6 (Same.tr s7 (Same.tr s8 s9))), c4, some (.ref rp), some (.ref qp), rfl, ?_⟩
      have et : m.take (i + 1) = m.take i ++ [e] := by rw [List.take_succ, ee]; rfl
      rw [et, val_snoc]
      exact n9.at_
    · obtain ⟨s5, c, v3, v4, rfl, hc⟩ := P
      rw [List.take_length] at hc
      exact ⟨_, rfl, q _ _ (Same.tr s1 (Same.tr s2 (Same.tr s4 s5))) hc⟩
end
end Rj
set_option Elab.async false
set_option linter.all false
set_option maxRecDepth 100000
set_option maxHeartbeats 4000000
set_option exponentiation.threshold 100000
/-! What is undone: the blocked terms. -/
namespace Rj
open PySem PySem.Spec PyProof.Rows L2
abbrev sPlain : Stmt := top 74
abbrev sAdded : Stmt := top 75
abbrev sBlocked : Stmt := top 76
theorem scPlain : FnScope ["size"] ["size"] (defScope sPlain) := ⟨rfl, rfl, rfl, by decide +kernel, rfl, by decide +kernel, by decide +kernel⟩
theorem scAdded : FnScope ["found", "key", "ratio"] ["found", "key", "ratio"] (defScope sAdded) := ⟨rfl, rfl, rfl, by decide +kernel, rfl, by decide +kernel, by decide +kernel⟩
theorem scBlocked : FnScope ["row", "number_of", "levels", "end", "here", "start", "ratio", "entry", "begun", "known"] ["row", "number_of"] (defScope sBlocked) := ⟨rfl, rfl, rfl, by decide +kernel, rfl, by decide +kernel, by decide +kernel⟩
def spNum (K : PySem.W.Frag) : Sp := fun vs H Q _ => ∃ n : Int, vs = [.int n] ∧ ∀ a, RatAt K H a 1 → Q (.ref a) H
/-- a new key: its ratio is put behind the others -/
def spAdded (K : PySem.W.Frag) : Sp := fun vs H Q _ => ∃ (d b c : Addr) (m : Mx) (r : Row) (q : Rat), vs = [.ref d, .ref b, .ref c] ∧ UAt K H d m ∧ RowAt H b r ∧ m.lookup r = none ∧ RatAt K H c q ∧ Sz 4000 q ∧ m.length ≤ 4096 ∧
  ∀ H', But d H H' → UAt K H' d (m ++ [(r, q)]) → Q .non H'
theorem lookup_none {m : Mx} {r : Row} (h : r ∉ m.map (·.1)) : m.lookup r = none := by
  induction m with
  | nil => rfl
  | cons e m ih =>
    obtain ⟨a, b⟩ := e
    rw [List.map_cons, List.mem_cons, not_or] at h
    rw [List.lookup_cons, beq_eq_false_iff_ne.mpr h.1]
    exact ih h.2
theorem none_lookup {m : Mx} {r : Row} (h : m.lookup r = none) : r ∉ m.map (·.1) := by
  induction m with
  | nil => simp
  | cons e m ih =>
    obtain ⟨a, b⟩ := e
    rw [List.lookup_cons] at h
    by_cases z : r = a
    · subst z
      rw [beq_self_eq_true] at h
      cases h
    · rw [beq_eq_false_iff_ne.mpr z] at h
      rw [List.map_cons, List.mem_cons, not_or]
      exact ⟨z, ih h⟩
section
variable {X : Cx} {j k i : Nat} {f : Addr} {x : Str} {sp : Sp} {p pos : Pos} {e : Expr} {es : List Expr} {t : TA}
/-- a def held by a local name -/
def tCalL (i : Nat) (f : Addr) (sp : Sp) (t : TA) : TE := fun σ H Q => σ[i]? = some (some (.ref f)) ∧ t σ H fun vs H1 => sp vs H1 Q E0
theorem pe_calL (kp : PySem.W.keepIn X.K (.ref f) = true) (F : FnR X.prog X.w X.K X.mg X.base CX0 k f sp) (hr : Room j X.A) (ha : PA X (e :: es) t) (hk : k ≤ j := by decide) (hN : X.N[i]? = some x := by rfl) (hv : Vis X.env.scope x := by first | exact Or.inl rfl | exact Or.inr (Or.inl rfl))
    (hdb : (x == ("__debug__" : Str)) = false := by decide) (hcd : (x == ("__classdict__" : Str)) = false := by decide)
    (he : starEach (e :: es) X.env = (false, eval e X.env) :: starEach es X.env := by rfl) (hpl : (backTo pos (starEach es X.env)).any (·.1) = false := by rfl) : PE X (.Call (.Name x p) (e :: es) [] pos) (tCalL i f sp t) := by
  refine ⟨fun pins s σ H Q I h => ?_⟩
  obtain ⟨hs, ht⟩ := h
  refine wpAny_Call_Name_kw (thn ((pe_var (pos := p) hN hv hdb hcd).run pins s σ H (fun v H1 => v = .ref f ∧ H1 = H) I ⟨.ref f, hs, rfl, rfl⟩) fun u s1 ⟨v, H1, I1, r1, q1⟩ => ?_)
  obtain ⟨rfl, rfl⟩ := q1
  cases r1
  refine PySem.W.callWith_K (h₀ := X.base) I.ok.mod.kin kp (thn (ha.run pos pins s1 σ _ _ I1 ht) fun us s2 ⟨vs, H2, I2, r, q⟩ => ⟨I2.kIn, ?_⟩) he hpl
  exact wpAny_call (run_fnR F (hr.mono hk) pass0 I2 r q)
end
section
variable {P : Program} {w : World} {K : PySem.W.Frag} {mg : Str → Option Value} {base : Heap} {CK CM : Addr}
theorem has_plain (D : At K mg "plain_number" sPlain) (T : Tx K mg) : Has P w K mg base 1 "plain_number" (spNum K) := by
  refine D.has scPlain (fun vs H Q E h => ?_) (fun _ _ _ _ _ _ us hl => match us, hl with | [_], _ => rfl) (fun f cdv A outer s H vs Q E hr h => ?_)
  · obtain ⟨n, rfl, _⟩ := h
    rfl
  · obtain ⟨n, rfl, q⟩ := h
    obtain ⟨a, ma, ha⟩ := T.oneR
    exact ⟨_, pss_one (ps_ret (pe_glob (v := .ref a) rfl ma rfl)), q a (rat_one (ha _))⟩
theorem has_added (D : At K mg "added_to" sAdded) (T : Tx K mg) (PL : Has P w K mg base 2 "plus_of" (spTwo K (· + ·))) : Has P w K mg base 3 "added_to" (spAdded K) := by
  refine D.has scAdded (fun vs H Q E h => ?_) (fun _ _ _ _ _ _ us hl => match us, hl with | [_, _, _], _ => rfl) (fun f cdv A outer s H vs Q E hr h => ?_)
  · obtain ⟨d, b, c, m, r, q, rfl, _⟩ := h
    rfl
  · obtain ⟨d, b, c, m, r, q, rfl, hd, hb, hn, hc, hq, hz, k⟩ := h
    obtain ⟨z, mz, hz0⟩ := T.zeroR
    obtain ⟨kvs, hd, pr⟩ := hd
    refine ⟨_, pss_one (ps_dput (roomU hr) (pv 0) (pv 1) (pe_cal PL hr (pa_cons (pe_dget2 (roomU hr) (pv 0) (pv 1) (pe_glob (v := .ref z) rfl mz rfl) ⟨rfl, rfl, rfl, rfl⟩) (pa_cons (pv 2) pa_nil))) rfl), ?_⟩
    refine ⟨_, rfl, d, rfl, .inr ⟨kvs, .inl hd⟩, _, rfl, none, ?_, _, rfl, ?_⟩
    · rw [← mx_none pr hn]
      exact DGet.t hd (by rw [KR_kV]; exact hb)
    · refine ⟨z, c, 0, q, rfl, rat_zero (hz0 _), hc, (Bd.zero 1 0).sz (by decide) (by decide) (by decide), hq, fun c2 H1 s1 n1 => ?_⟩
      have hd1 := s1 _ _ hd
      have lk := Paired.length pr
      refine ⟨_, rfl, _, rfl, d, _, rfl, DPut.t (k := KR r) hd1 (by rw [KR_kV]; exact RowAt.same s1 hb) (by rw [sizeLine_eq]; omega), k _ ?_ ⟨_, upd_same, ?_⟩⟩
      · intro x o n e
        rw [upd_ne n]
        exact s1 _ _ e
      · have tp : Tup H1 (upd H1 d (.dT (putK kvs (KR r) (.ref c2)))) := tup_dT hd1
        have e0 : (0 : Rat) + q = q := Rat.zero_add q
        change RNew H1 c2 (0 + q) at n1
        rw [e0] at n1
        exact mx_put (paired_mono (Tup.ent (Tup.tr (Same.tup s1) tp)) pr) (none_lookup hn) ⟨c2, rfl, tp.rat n1.at_⟩
end
/-- rows with the coefficient 1 -/
def ones (js : List Row) : Mx := js.map fun j => (j, 1)
theorem ones_keys (js : List Row) : (ones js).map (·.1) = js := fst_map js
theorem ones_snoc (js : List Row) (j : Row) : ones (js ++ [j]) = ones js ++ [(j, 1)] := by
  unfold ones
  rw [List.map_append]
  rfl
theorem flat_perm {α β : Type} {F G : α → List β} : ∀ {l : List α}, (∀ a ∈ l, (F a).Perm (G a)) → (l.flatMap F).Perm (l.flatMap G)
  | [], _ => .refl _
  | a :: l, h => by
    rw [List.flatMap_cons, List.flatMap_cons]
    exact (h a (by simp)).append (flat_perm fun b hb => h b (List.mem_cons_of_mem _ hb))
/-- what is made of a level -/
def grown (s : Row) (lv : List Row) (st en : Nat) : List Row := lv.map (· ++ [seg s st en])
/-- the levels' list at l -/
structure Levels (K : PySem.W.Frag) (H : Hp) (s : Row) (L : List (Addr × List Row)) : Prop where
  at_ : ∀ x ∈ L, FAt K H x.1 (ones x.2)
  pm : ∀ (st : Nat) (x : Addr × List Row), L[st]? = some x → x.2.Perm (lev s st)
theorem Levels.tup {K : PySem.W.Frag} {H H' : Hp} {s : Row} {L : List (Addr × List Row)} (t : Tup H H') (h : Levels K H s L) : Levels K H' s L := ⟨fun x hx => t.fat (h.at_ x hx), h.pm⟩
def lvOf (L : List (Addr × List Row)) (st : Nat) : List Row := (L.getD st (0, [])).2
/-- the keys made of the first levels -/
def upTo (s : Row) (L : List (Addr × List Row)) (en st : Nat) : List Row := (List.range st).flatMap fun i => grown s (lvOf L i) i en
theorem upTo_succ (s : Row) (L : List (Addr × List Row)) (en st : Nat) : upTo s L en (st + 1) = upTo s L en st ++ grown s (lvOf L st) st en := by
  unfold upTo
  rw [List.range_succ, List.flatMap_append]
  simp
theorem upTo_pre (s : Row) (L : List (Addr × List Row)) (en : Nat) : ∀ {a b : Nat}, a ≤ b → ∃ r, upTo s L en b = upTo s L en a ++ r
  | a, 0, h => ⟨[], by rw [Nat.le_zero.mp h]; simp⟩
  | a, b + 1, h => by
    by_cases e : a = b + 1
    · exact ⟨[], by rw [e]; simp⟩
    · obtain ⟨r, hr⟩ := upTo_pre s L en (a := a) (b := b) (by omega)
      exact ⟨r ++ grown s (lvOf L b) b en, by rw [upTo_succ, hr, List.append_assoc]⟩
theorem upTo_lev {K : PySem.W.Frag} {H : Hp} {s : Row} {L : List (Addr × List Row)} {n : Nat} (h : Levels K H s L) (hl : L.length = n + 1) : (upTo s L (n + 1) (n + 1)).Perm (lev s (n + 1)) := by
  rw [lev_succ]
  unfold upTo grown
  refine flat_perm fun st hst => ?_
  have hst' := List.mem_range.mp hst
  have e : L[st]? = some (L[st]'(by omega)) := List.getElem?_eq_getElem _
  have p := h.pm st _ e
  have e2 : lvOf L st = (L[st]'(by omega)).2 := by
    unfold lvOf
    rw [List.getD_eq_getElem?_getD, e]
    rfl
  rw [e2]
  exact p.map _
theorem lev_nodup {s : Row} (hp : ∀ x ∈ s, 0 < x) {n : Nat} (hn : n ≤ s.length) : (lev s n).Nodup := ((lev_perm s hn).nodup_iff).mpr (jn_nodup _ fun x hx => hp x (List.mem_of_mem_take hx))
theorem lev_len {s : Row} {n : Nat} (hn : n ≤ s.length) (h12 : s.length ≤ 12) : (lev s n).length ≤ 4096 := by
  rw [(lev_perm s hn).length_eq]
  refine Nat.le_trans (jn_len_le _) ?_
  exact Nat.le_trans (Nat.pow_le_pow_right (by decide) (show _ ≤ 12 by rw [List.length_take]; omega)) (by decide)
theorem but_tup {d : Addr} {H H' : Hp} {kvs : List (List Key × V)} (b : But d H H') (h : H d = some (.dT kvs)) : Tup H H' := by
  refine ⟨fun x xs e => b x _ (fun z => ?_) e, fun x o u e => b x _ (fun z => ?_) e⟩ <;> · rw [z, h] at e; cases e
theorem sz_one {n : Nat} (h : 2 ≤ n) : Sz n 1 := ((Bd.one).sz (n := 2) (by decide) (by decide) (by decide)).mono h
theorem last_of {α : Type} {l : List α} (h : l ≠ []) : ∃ l' x, l = l' ++ [x] := ⟨l.dropLast, l.getLast h, (List.dropLast_concat_getLast h).symm⟩
/-- the joinings of a row, each with the coefficient 1, as a dict that stays -/
def spBlocked (P : Program) (w : World) (K : PySem.W.Frag) (mg : Str → Option Value) (base : Heap) : Sp := fun vs H Q _ => ∃ (a fp : Addr) (r : Row), vs = [.ref a, .ref fp] ∧ RowAt H a r ∧ Small r ∧ r.length ≤ 12 ∧
  PySem.W.keepIn K (.ref fp) = true ∧ FnR P w K mg base CX0 1 fp (spNum K) ∧ ∀ d js H', Same H H' → FAt K H' d (ones js) → js.Perm (jn r) → Q (.ref d) H'
section
variable {P : Program} {w : World} {K : PySem.W.Frag} {mg : Str → Option Value} {base : Heap} {CK CM : Addr}
theorem has_blocked (D : At K mg "blocked_terms" sBlocked) (T : Tx K mg) (AD : Has P w K mg base 3 "added_to" (spAdded K)) (TI : Has P w K mg base 2 "times_of" (spTwo K (· * ·))) : Has P w K mg base 4 "blocked_terms" (spBlocked P w K mg base) := by
  refine D.has scBlocked (fun vs H Q E h => ?_) (fun _ _ _ _ _ _ us hl => match us, hl with | [_, _], _ => rfl) (fun f cdv A outer s H vs Q E hr h => ?_)
  · obtain ⟨a, fp, r, rfl, _⟩ := h
    rfl
  · obtain ⟨a, fp, r, rfl, ha, hs, h12, kp, F, q⟩ := h
    obtain ⟨one, mone, hone⟩ := T.oneR
    refine ⟨_, pss_cons (ps_set (i := 2) scBlocked.nd rfl (Or.inl rfl) (pe_lst (pa_cons (pe_frz (pe_dispT (roomU hr) (pps_cons (pe_tup pa_nil) (pe_glob (v := .ref one) rfl mone rfl) pps_nil))) pa_nil)))
      (pss_cons (ps_for PassesOwn.never rfl (pi_range2 rfl T.range (pa_cons pe_int (pa_cons (pe_op op_add (pe_callB call_len_seq rfl T.len PySem.boot_len (pa_cons (pv 0) pa_nil)) pe_int) pa_nil))) (pg_name (i := 3) scBlocked.nd rfl (Or.inl rfl))
        (pss_cons (ps_set (i := 4) scBlocked.nd rfl (Or.inl rfl) pe_dnewT)
        (pss_cons (ps_for PassesOwn.never rfl (pi_range1 rfl T.range (pa_cons (pv 3) pa_nil)) (pg_name (i := 5) scBlocked.nd rfl (Or.inl rfl))
          (pss_cons (ps_par (i := 6) (j := 7) rfl scBlocked.nd rfl rfl (by decide) rfl rfl (pa_cons (pe_calL (i := 1) kp F hr (pa_cons (pe_op op_sub (pv 3) (pv 5)) pa_nil)) (pa_cons (pe_callB (cr_sumT (by rfl)) rfl T.sum PyProof.Rows.boot_sum (pa_cons (pe_slice sl_row (pv 0) (po_some (pv 5)) (po_some (pv 3))) pa_nil)) pa_nil)) (by rfl))
          (pss_one (ps_for PassesOwn.never rfl (pi_itemsT (pe_ix ix_list (pv 2) (pv 5) (fun _ _ => rfl))) (pg_tup rfl (pgs_cons (pg_name (i := 8) scBlocked.nd rfl (Or.inl rfl)) (pgs_cons (pg_name (i := 9) scBlocked.nd rfl (Or.inl rfl)) pgs_nil)))
            (pss_one (ps_expr (pe_cal AD hr (pa_cons (pv 4) (pa_cons (pe_tup (StX.pa_star (pv 8) (pa_cons (pv 7) pa_nil))) (pa_cons (pe_cal TI hr (pa_cons (pv 9) (pa_cons (pv 6) pa_nil))) pa_nil))))))))))
        (pss_one (ps_frz (ps_expr (pe_bm PySem.F.plainAttrs_list PySem.F.slot_list_append PySem.F.type_list_append mt_append (pv 2) (pa_cons (pv 4) pa_nil))))))))
      (pss_one (ps_ret (pe_ix ix_list (pv 2) (pe_un un_neg pe_int) (fun _ _ => rfl))))), ?_⟩
    intro d hd
    refine ⟨Nat.zero_le _, fun e0 he0 => ?_⟩
    have ned : e0 ≠ d := fun z => by rw [z, upd_same] at he0; cases he0
    have hd2 : (upd (upd H d (.dT [])) e0 (.tup [])) d = some (.dT []) := by rw [upd_ne (Ne.symm ned), upd_same]
    refine ⟨hd2, [(KR [], .ref one)], .cons ⟨e0, rfl, upd_same, rfl⟩ .nil, by show 1 ≤ 15; decide, d, _, upd_same, trivial, fun o => ⟨by show 1 ≤ sizeLine; decide, fun l hl => ?_⟩⟩
    have sA : Same H (upd (upd (upd (upd H d (.dT [])) e0 (.tup [])) d (.dT (putsK [] [(KR [], .ref one)]))) d (.frz o (.dT (putsK [] [(KR [], .ref one)])))) := fun b u e => by
      have n1 := ne_of_none e hd
      have he1 : H e0 = none := by rw [upd_ne ned] at he0; exact he0
      rw [upd_ne n1, upd_ne n1, upd_ne (ne_of_none e he1), upd_ne n1]
      exact e
    have fA : FAt K (upd (upd (upd (upd H d (.dT [])) e0 (.tup [])) d (.dT (putsK [] [(KR [], .ref one)]))) d (.frz o (.dT (putsK [] [(KR [], .ref one)])))) d (ones [[]]) := ⟨o, _, upd_same, .cons ⟨rfl, one, rfl, rat_one (hone _)⟩ .nil⟩
    generalize upd (upd (upd (upd H d (.dT [])) e0 (.tup [])) d (.dT (putsK [] [(KR [], .ref one)]))) d (.frz o (.dT (putsK [] [(KR [], .ref one)]))) = HA at sA fA hl ⊢
    have haA := RowAt.same sA ha
    have sB : Same HA (upd HA l (.lst [.ref d])) := same_new hl
    refine ⟨_, rfl, a, _, rfl, .inr (RowAt.same sB haA).sq, _, _, rfl, rfl, ?_⟩
    have eL : (r.map V.int).length = r.length := List.length_map ..
    rw [eL]
    have h40 := hs.len
    refine ⟨_, _, rfl, ⟨by omega, by omega, by omega, by omega⟩, ?_⟩
    have eT : (((r.length : Int) + 1) - 1).toNat = r.length := by omega
    rw [eT]
    refine forF over_range (fun i σ H' => Same HA H' ∧ ∃ (L : List (Addr × List Row)) (v3 v4 v5 v6 v7 v8 v9 : Option V), σ = [some (.ref a), some (.ref fp), some (.ref l), v3, v4, v5, v6, v7, v8, v9] ∧ H' l = some (.lst (L.map fun x => V.ref x.1)) ∧ L.length = i + 1 ∧ Levels K H' r L)
      ⟨sB, [(d, [[]])], none, none, none, none, none, none, none, rfl, upd_same, rfl, ⟨fun x hx => ?_, fun st x hx => ?_⟩⟩ (fun _ _ _ _ _ => trivial) (fun i σ H4 x H5 hi P s5 y => ?_) (fun σ H' P => ?_)
    · have : x = (d, [[]]) := by simpa using hx
      rw [this]
      exact FAt.same sB fA
    · cases st with
      | zero =>
        have : (d, [[]]) = x := Option.some.inj hx
        rw [← this]
        exact .refl _
      | succ st => simp at hx
    · obtain ⟨s4, L, v3, v4, v5, v6, v7, v8, v9, rfl, hl4, lenL, lv⟩ := P
      subst y
      have e1 : (1 + (i : Int)) = ((i + 1 : Nat) : Int) := by push_cast; omega
      rw [e1]
      have hl5 := s5 _ _ hl4
      have lv5 : Levels K H5 r L := Levels.tup (Same.tup s5) lv
      have ha5 := RowAt.same (Same.tr s4 s5) haA
      refine fun h hh => ?_
      have u6 : UAt K (upd H5 h (.dT [])) h (ones []) := ⟨[], upd_same, .nil⟩
      have s6 : Same H5 (upd H5 h (.dT [])) := same_new hh
      generalize upd H5 h (.dT []) = H6 at u6 s6 ⊢
      have totp := upTo_lev lv5 lenL
      have totn : (upTo r L (i + 1) (i + 1)).Nodup := (totp.nodup_iff).mpr (lev_nodup hs.pos (by omega))
      have totl : (upTo r L (i + 1) (i + 1)).length ≤ 4096 := by rw [totp.length_eq]; exact lev_len (by omega) h12
      refine ⟨_, rfl, _, rfl, by omega, by omega, ?_⟩
      rw [Int.toNat_natCast]
      refine forF over_range (fun st σ H' => Same H5 H' ∧ ∃ (v5 v6 v7 v8 v9 : Option V), σ = [some (.ref a), some (.ref fp), some (.ref l), some (.int ((i + 1 : Nat) : Int)), some (.ref h), v5, v6, v7, v8, v9] ∧ UAt K H' h (ones (upTo r L (i + 1) st)))
        ⟨s6, v5, v6, v7, v8, v9, rfl, u6⟩ (fun _ _ _ _ _ => trivial) (fun st σ H7 x H8 hst P s8 y => ?_) (fun σ H' P => ?_)
      · obtain ⟨s7, v5, v6, v7, v8, v9, rfl, u7⟩ := P
        subst y
        have e2 : (0 + (st : Int)) = ((st : Nat) : Int) := by omega
        rw [e2]
        have s58 := Same.tr s7 s8
        refine ⟨rfl, _, rfl, _, rfl, _, _, rfl, rfl, _, rfl, fun c hc => ?_⟩
        refine ⟨_, rfl, _, rfl, _, rfl, _, rfl, _, rfl, a, r, rfl, RowAt.same s58 ha5, fun p H9 s9 hp => ?_⟩
        rw [rcut_mid r (by omega) (by omega)] at hp
        refine ⟨p, (r.take (i + 1)).drop st, rfl, hp.sq, _, _, rfl, ?_⟩
        have s59 := Same.tr s58 s9
        have el : L[st]? = some (L[st]'(by omega)) := List.getElem?_eq_getElem _
        have elv : lvOf L st = (L[st]'(by omega)).2 := by
          unfold lvOf
          rw [List.getD_eq_getElem?_getD, el]
          rfl
        have fst := FAt.same s59 (lv5.at_ _ (List.mem_of_getElem? el))
        rw [← elv] at fst
        obtain ⟨ob, kvs, hf, pr⟩ := fst
        have hc9 := RatAt.same s9 hc
        refine ⟨_, rfl, _, rfl, l, _, _, _, rfl, rfl, SqL.of (s59 _ _ hl5), atI_nat (by rw [List.getElem?_map, el]; rfl), _, ob, kvs, rfl, hf, ?_⟩
        refine forF (over_itemsM pr) (fun j σ H' => Same H5 H' ∧ Tup H9 H' ∧ ∃ (v8 v9 : Option V), σ = [some (.ref a), some (.ref fp), some (.ref l), some (.int ((i + 1 : Nat) : Int)), some (.ref h), some (.int ((st : Nat) : Int)), some (.ref c), some (.int (seg r st (i + 1))), v8, v9] ∧
            UAt K H' h (ones (upTo r L (i + 1) st ++ grown r ((lvOf L st).take j) st (i + 1))))
          ⟨s59, Tup.rfl' _, v8, v9, rfl, ?_⟩ (fun j σ H' _ P => ⟨P.2.1.2 _ _ _ hf, P.2.1⟩) (fun j σ Ha x Hb hj P sb y => ?_) (fun σ H' P => ?_)
        · have u9 := UAt.same (Same.tr s8 s9) u7
          unfold grown
          rw [List.take_zero, List.map_nil, List.append_nil]
          exact u9
        · obtain ⟨sa, ta, v8, v9, rfl, ua⟩ := P
          obtain ⟨tt, e, rp, qp, ee, rfl, ht, hrow, hq⟩ := y
          obtain ⟨b, eb, rfl⟩ : ∃ b, (lvOf L st)[j]? = some b ∧ e = (b, 1) := by
            unfold ones at ee
            rw [List.getElem?_map] at ee
            obtain ⟨b, h1, h2⟩ := Option.map_eq_some_iff.mp ee
            exact ⟨b, h1, h2.symm⟩
          have bl : b.length ≤ 40 := by
            have mb : b ∈ lev r st := by
              rw [elv] at eb
              exact (lv5.pm st _ el).mem_iff.mp (List.mem_of_getElem? eb)
            have mj := (lev_perm r (n := st) (by omega)).mem_iff.mp mb
            have g := (good_jn _ (small_take hs st).pos b mj).len
            have := (small_take hs st).len
            omega
          refine ⟨tt, _, rfl, ht, rfl, _, _, rfl, _, _, rfl, rfl, ?_⟩
          refine ⟨_, rfl, _, rfl, rp, _, rfl, .inl hrow.sq, _, rfl, ?_, fun t ht => ?_⟩
          · show (b.map V.int ++ [V.int (seg r st (i + 1))]).length ≤ sizeLine
            rw [List.length_append, List.length_map, sizeLine_eq]
            show b.length + 1 ≤ 16777216
            omega
          have rt : RowAt (upd Hb t (.tup (b.map V.int ++ [V.int (seg r st (i + 1))]))) t (b ++ [seg r st (i + 1)]) := by
            unfold RowAt
            rw [upd_same, List.map_append]
            rfl
          have sc : Same Hb (upd Hb t (.tup (b.map V.int ++ [V.int (seg r st (i + 1))]))) := same_new ht
          generalize upd Hb t (.tup (b.map V.int ++ [V.int (seg r st (i + 1))])) = Hc at rt sc ⊢
          have hcb : RatAt K Hc c 1 := (Tup.tr ta (Tup.tr (Same.tup sb) (Same.tup sc))).rat hc9
          refine ⟨_, rfl, _, rfl, qp, c, 1, 1, rfl, RatAt.same sc hq, hcb, sz_one (by decide), sz_one (by decide), fun c2 Hd sd nd => ?_⟩
          have e11 : (1 : Rat) * 1 = 1 := Rat.mul_one 1
          change RNew Hd c2 (1 * 1) at nd
          rw [e11] at nd
          have uD := UAt.same (Same.tr sb (Same.tr sc sd)) ua
          have grow1 : grown r ((lvOf L st).take (j + 1)) st (i + 1) = grown r ((lvOf L st).take j) st (i + 1) ++ [b ++ [seg r st (i + 1)]] := by
            unfold grown
            rw [List.take_succ, eb, List.map_append]
            rfl
          have pre : ∃ z, upTo r L (i + 1) (i + 1) = (upTo r L (i + 1) st ++ grown r ((lvOf L st).take (j + 1)) st (i + 1)) ++ z := by
            obtain ⟨z1, hz1⟩ := upTo_pre r L (i + 1) (a := st + 1) (b := i + 1) (by omega)
            refine ⟨grown r ((lvOf L st).drop (j + 1)) st (i + 1) ++ z1, ?_⟩
            rw [hz1, upTo_succ]
            have : grown r (lvOf L st) st (i + 1) = grown r ((lvOf L st).take (j + 1)) st (i + 1) ++ grown r ((lvOf L st).drop (j + 1)) st (i + 1) := by
              unfold grown
              rw [← List.map_append, List.take_append_drop]
            rw [this]
            simp only [List.append_assoc]
          obtain ⟨z, hz⟩ := pre
          have hn1 := totn
          rw [hz] at hn1
          have hn2 := (List.nodup_append.mp hn1).1
          rw [grow1, ← List.append_assoc] at hn2
          have hnew : (b ++ [seg r st (i + 1)]) ∉ upTo r L (i + 1) st ++ grown r ((lvOf L st).take j) st (i + 1) := fun hm => (List.nodup_append.mp hn2).2.2 _ hm _ (by simp) rfl
          have hlen : (upTo r L (i + 1) st ++ grown r ((lvOf L st).take j) st (i + 1)).length ≤ 4096 := by
            have h1 := congrArg List.length hz
            rw [grow1, ← List.append_assoc, List.length_append, List.length_append] at h1
            omega
          refine ⟨h, t, c2, _, _, 1, rfl, uD, RowAt.same sd rt, lookup_none (by rw [ones_keys]; exact hnew), nd.at_, sz_one (by decide), by unfold ones; rw [List.length_map]; exact hlen, fun He be ue => ?_⟩
          obtain ⟨kD, hkD, _⟩ := uD
          refine ⟨fun x o q => be x o (fun z => by rw [z, hh] at q; cases q) (sd _ _ (sc _ _ (sb _ _ (sa _ _ q)))), Tup.tr ta (Tup.tr (Same.tup sb) (Tup.tr (Same.tup sc) (Tup.tr (Same.tup sd) (but_tup be hkD)))), some (.ref rp), some (.ref qp), rfl, ?_⟩
          rw [grow1, ← List.append_assoc, ones_snoc]
          exact ue
        · obtain ⟨sa, ta, v8, v9, rfl, ua⟩ := P
          refine ⟨sa, _, _, _, _, _, rfl, ?_⟩
          have ll : (ones (lvOf L st)).length = (lvOf L st).length := by unfold ones; rw [List.length_map]
          rw [ll, List.take_length] at ua
          rw [upTo_succ]
          exact ua
      · obtain ⟨s7, v5, v6, v7, v8, v9, rfl, u7⟩ := P
        obtain ⟨kvs, hk, pr⟩ := u7
        have hlh : l ≠ h := ne_of_none hl5 hh
        refine ⟨h, _, hk, trivial, fun o => ?_⟩
        have hl7 : (upd H' h (.frz o (.dT kvs))) l = some (.lst (L.map fun x => V.ref x.1)) := by rw [upd_ne hlh]; exact s7 _ _ hl5
        refine ⟨_, rfl, .inl ⟨rfl, _, SqL.of hl7⟩, _, rfl, l, _, _, rfl, rfl, hl7, by rw [List.length_map, sizeLine_eq]; omega, ?_⟩
        have t1 : Tup H' (upd H' h (.frz o (.dT kvs))) := tup_dT hk
        have t2 : Tup (upd H' h (.frz o (.dT kvs))) (upd (upd H' h (.frz o (.dT kvs))) l (.lst ((L.map fun x => V.ref x.1) ++ [.ref h]))) := tup_lst hl7
        have tt := Tup.tr t1 t2
        refine ⟨fun b u e => ?_, L ++ [(h, upTo r L (i + 1) (i + 1))], _, _, _, _, _, _, _, rfl, ?_, ?_, ⟨fun x hx => ?_, fun st x hx => ?_⟩⟩
        · have e5 := s5 _ _ (s4 _ _ e)
          rw [upd_ne (ne_of_none e hl), upd_ne (ne_of_none e5 hh)]
          exact s7 _ _ e5
        · rw [upd_same, List.map_append]
          rfl
        · rw [List.length_append, lenL]
          rfl
        · rcases List.mem_append.mp hx with hx | hx
          · exact tt.fat (FAt.same s7 (lv5.at_ x hx))
          · have : x = (h, upTo r L (i + 1) (i + 1)) := by simpa using hx
            rw [this]
            exact ⟨o, kvs, by rw [upd_ne (Ne.symm hlh), upd_same], paired_mono (Tup.ent tt) pr⟩
        · by_cases hlt : st < L.length
          · rw [List.getElem?_append_left hlt] at hx
            exact lv5.pm st x hx
          · rw [List.getElem?_append_right (by omega)] at hx
            have e9 : st - L.length = 0 := by
              cases hc : st - L.length with
              | zero => rfl
              | succ k => rw [hc] at hx; simp at hx
            rw [e9] at hx
            have : (h, upTo r L (i + 1) (i + 1)) = x := Option.some.inj hx
            rw [← this]
            have : st = i + 1 := by omega
            rw [this]
            exact totp
    · obtain ⟨s4, L, v3, v4, v5, v6, v7, v8, v9, rfl, hl4, lenL, lv⟩ := P
      obtain ⟨L', x, rfl⟩ := last_of (l := L) (by intro z; rw [z] at lenL; simp at lenL)
      have lx : (L' ++ [x])[r.length]? = some x := by
        rw [List.length_append] at lenL
        have : r.length = L'.length := by simp at lenL; omega
        rw [this]
        simp
      refine ⟨_, rfl, _, rfl, l, _, _, _, rfl, rfl, SqL.of hl4, by rw [List.map_append]; exact atI_last _ _, ?_⟩
      exact q x.1 x.2 _ (Same.tr sA s4) (lv.at_ x (by simp)) ((lv.pm _ x lx).trans (lev_all r))
end
end Rj
set_option Elab.async false
set_option linter.all false
set_option maxRecDepth 100000
set_option maxHeartbeats 4000000
set_option exponentiation.threshold 100000
/-! A row undone. -/
namespace Rj
open PySem PySem.Spec PyProof.Rows L2
abbrev sUTerms : Stmt := top 77
abbrev sFew : Stmt := top 78
abbrev sUndone : Stmt := top 79
theorem scUTerms : FnScope ["terms", "way", "found", "row", "ratio", "signed", "back", "told", "one", "known"] ["terms", "way"] (defScope sUTerms) := ⟨rfl, rfl, rfl, by decide +kernel, rfl, by decide +kernel, by decide +kernel⟩
theorem scFew : FnScope ["rows", "row"] ["rows"] (defScope sFew) := ⟨rfl, rfl, rfl, by decide +kernel, rfl, by decide +kernel, by decide +kernel⟩
theorem scUndone : FnScope ["mix", "way"] ["mix", "way"] (defScope sUndone) := ⟨rfl, rfl, rfl, by decide +kernel, rfl, by decide +kernel, by decide +kernel⟩
def turned (r : Row) (js : List Row) : Mx := js.map fun j => (j, sg r.length)
theorem turned_keys (r : Row) (js : List Row) : (turned r js).map (·.1) = js := fst_map js
theorem turned_snoc (r : Row) (js : List Row) (j : Row) : turned r (js ++ [j]) = turned r js ++ [(j, sg r.length)] := by
  unfold turned
  rw [List.map_append]
  rfl
def spUTerms (K : PySem.W.Frag) : Sp := fun vs H Q _ => ∃ (d : Addr) (r : Row), vs = [.ref d, .str "joined"] ∧ FAt K H d [(r, 1)] ∧ Small r ∧ r.length ≤ 12 ∧ ∀ p js H', Same H H' → UAt K H' p (turned r js) → js.Perm (jn r.reverse) → Q (.ref p) H'
def isFew (K : PySem.W.Frag) (vs : List V) (H : Hp) : Prop := ∃ (d : Addr) (m : Mx), vs = [.ref d] ∧ FAt K H d m ∧ m.length ≤ 4096 ∧ ∀ e ∈ m, e.1.length ≤ 12
theorem sg_rat {K : PySem.W.Frag} {H : Hp} {a : Addr} {n : Nat} (h0 : n % 2 = 0 → SqT K H a [.int 1, .int 1]) (h1 : ¬ n % 2 = 0 → SqT K H a [.int (-1), .int 1]) : RatAt K H a (sg n) := by
  by_cases z : n % 2 = 0
  · have e1 : sg n = 1 := by unfold sg; rw [if_pos z]
    rw [e1]
    exact rat_one (h0 z)
  · have e1 : sg n = -1 := by unfold sg; rw [if_neg z]
    rw [e1]
    exact rat_neg (h1 z)
section
variable {P : Program} {w : World} {K : PySem.W.Frag} {mg : Str → Option Value} {base : Heap} {CK CM : Addr}
theorem has_few (D : At K mg "require_few_entries" sFew) (T : Tx K mg) : Has P w K mg base 1 "require_few_entries" (spOk (isFew K)) := by
  refine D.has scFew (fun vs H Q E h => ?_) (fun _ _ _ _ _ _ us hl => match us, hl with | [_], _ => rfl) (fun f cdv A outer s H vs Q E hr h => ?_)
  · obtain ⟨⟨d, m, rfl, _⟩, _⟩ := h
    rfl
  · obtain ⟨⟨d, m, rfl, hd, hz, hm⟩, q⟩ := h
    obtain ⟨t, me⟩ := T.mostE
    refine ⟨_, pss_one (ps_if (pt_val (pe_callB (cr_any (by rfl)) rfl T.any PyProof.Rows.boot_any (pa_cons (pe_lc (own := [("row", 1)]) (g := gName 1) (tt := tYes) rfl scFew.nd (pi_keys (pv 0)) (blkOk_by (N := ["rows", "row"]) (sc := defScope sFew) (by decide +kernel))
      (fun _ _ _ _ _ => pg_name (i := 1) scFew.nd rfl (Or.inl rfl)) (fun _ _ _ _ _ => pts_nil) (fun _ _ _ _ _ => pe_cmpR op_gt (pe_callB (r := rLn K) call_lenS rfl T.len PySem.boot_len (pa_cons (pv 1) pa_nil)) (pe_glob (v := .int 12) rfl me ⟨_, rfl⟩) (nomark _))) pa_nil))) (pss_one ps_never) pss_nil), ?_⟩
    obtain ⟨o, kvs, hf, pr⟩ := hd
    refine ⟨_, rfl, d, o, rfl, .inr ⟨kvs, hf, fun D hD => ?_⟩⟩
    refine lcF (as := m) (over_keysM pr) (f := fun _ => some false) (F := fun _ v b => v = .bl b) hD (fun _ _ _ _ _ h => h) (by rw [sizeLine_eq]; omega) (fun H' s' => s' _ _ hf) (fun i x e H1 C R ee y s1 c _ => ?_) (fun H1 ws s1 hw pw => ?_)
    · obtain ⟨e', p, ee', rfl, hp⟩ := y
      cases (ee.symm.trans ee')
      refine ⟨rfl, ?_⟩
      refine iteT (B := True) ?_
      refine ⟨_, rfl, p, _, rfl, .inr hp.sq, _, _, rfl, rfl, c _ false _ rfl (Same.rfl' _) ?_⟩
      rw [List.length_map]
      have := hm e (List.mem_of_getElem? ee)
      exact dF (by omega)
    · refine ⟨D, m.filterMap fun _ => some false, rfl, SqL.of ?_, ?_⟩
      · rw [← pair_map pw]
        exact hw
      · rw [any_const]
        exact ⟨false, rfl, iteF (q _ s1)⟩
theorem has_uterms (D : At K mg "undone_terms" sUTerms) (T : Tx K mg) (PN : Has P w K mg base 1 "plain_number" (spNum K)) (BL : Has P w K mg base 4 "blocked_terms" (spBlocked P w K mg base)) (AD : Has P w K mg base 3 "added_to" (spAdded K)) (TI : Has P w K mg base 2 "times_of" (spTwo K (· * ·))) :
    Has P w K mg base 5 "undone_terms" (spUTerms K) := by
  refine D.has scUTerms (fun vs H Q E h => ?_) (fun _ _ _ _ _ _ us hl => match us, hl with | [_, _], _ => rfl) (fun f cdv A outer s H vs Q E hr h => ?_)
  · obtain ⟨d, r, rfl, _⟩ := h
    rfl
  · obtain ⟨d, r, rfl, hd, hs, h12, q⟩ := h
    obtain ⟨tl, ml⟩ := T.laid
    obtain ⟨fp, mp, kp, F⟩ := PN.ex
    refine ⟨_, pss_cons (ps_set (i := 2) scUTerms.nd rfl (Or.inl rfl) pe_dnewT)
      (pss_cons (ps_for PassesOwn.never rfl (pi_itemsT (pv 0)) (pg_tup rfl (pgs_cons (pg_name (i := 3) scUTerms.nd rfl (Or.inl rfl)) (pgs_cons (pg_name (i := 4) scUTerms.nd rfl (Or.inl rfl)) pgs_nil)))
        (pss_cons (ps_set (i := 5) scUTerms.nd rfl (Or.inl rfl) (pe_ifExp (pt_cmpR op_eq (pe_op op_mod (pe_callB call_len_seq rfl T.len PySem.boot_len (pa_cons (pv 3) pa_nil)) pe_int) pe_int (nomark _)) (pv 4)
          (pe_tup (pa_cons (pe_un un_neg (pe_ix ix_tup (pv 4) pe_int (fun _ _ => rfl))) (pa_cons (pe_ix ix_tup (pv 4) pe_int (fun _ _ => rfl)) pa_nil)))))
        (pss_cons (ps_set (i := 6) scUTerms.nd rfl (Or.inl rfl) (pe_revT (pv 3)))
        (pss_cons (ps_set (i := 7) scUTerms.nd rfl (Or.inl rfl) (pe_ifExp (pt_cmpR op_eq (pv 1) (pe_glob (v := .str "laid") rfl ml ⟨_, rfl⟩) (nomark _)) pe_no (pe_cal BL hr (pa_cons (pv 6) (pa_cons (pe_glob (v := .ref fp) rfl mp rfl) pa_nil)))))
        (pss_one (ps_for PassesOwn.never rfl (pi_itemsT (pv 7)) (pg_tup rfl (pgs_cons (pg_name (i := 8) scUTerms.nd rfl (Or.inl rfl)) (pgs_cons (pg_name (i := 9) scUTerms.nd rfl (Or.inl rfl)) pgs_nil)))
          (pss_one (ps_expr (pe_cal AD hr (pa_cons (pv 2) (pa_cons (pv 8) (pa_cons (pe_cal TI hr (pa_cons (pv 9) (pa_cons (pv 5) pa_nil))) pa_nil))))))))))))
      (pss_one (ps_ret (pv 2)))), ?_⟩
    intro h hh
    obtain ⟨o, kvs, hf, pr⟩ := hd
    have s1 : Same H (upd H h (.dT [])) := same_new hh
    have u1 : UAt K (upd H h (.dT [])) h (turned r []) := ⟨[], upd_same, .nil⟩
    have hf1 := s1 _ _ hf
    have pr1 : Paired (EntR K (upd H h (.dT []))) kvs [(r, 1)] := paired_mono (EntR.same s1) pr
    generalize upd H h (.dT []) = H1 at s1 u1 hf1 pr1 ⊢
    refine ⟨_, rfl, d, o, kvs, rfl, hf1, ?_⟩
    refine forF (over_itemsM pr1) (fun i σ H' => Same H H' ∧ Tup H1 H' ∧ ∃ (js : List Row) (v3 v4 v5 v6 v7 v8 v9 : Option V), σ = [some (.ref d), some (.str "joined"), some (.ref h), v3, v4, v5, v6, v7, v8, v9] ∧ UAt K H' h (turned r js) ∧ (i = 0 → js = []) ∧ (i = 1 → js.Perm (jn r.reverse)))
      ⟨s1, Tup.rfl' _, [], none, none, none, none, none, none, none, rfl, u1, fun _ => rfl, fun z => absurd z (by decide)⟩ (fun i σ H' _ P => ⟨P.2.1.2 _ _ _ hf1, P.2.1⟩) (fun i σ H2 x H3 hi P s3 y => ?_) (fun σ H' P => ?_)
    · obtain ⟨s2, t2, js0, v3, v4, v5, v6, v7, v8, v9, rfl, u2, c0, _⟩ := P
      have hi' : i < 1 := hi
      have i0 : i = 0 := by omega
      subst i0
      rw [c0 rfl] at u2
      obtain ⟨tt, e, rp, qp, ee, rfl, ht, hrow, hq⟩ := y
      have : e = (r, 1) := by
        have := Option.some.inj ee
        exact this.symm
      subst this
      have s23 := Same.tr s2 s3
      have u3 := UAt.same s3 u2
      have eL : (r.map V.int).length = r.length := List.length_map ..
      have step : ∀ (c : Addr) (H4 : Hp), Same H3 H4 → RatAt K H4 c (sg r.length) → tSeq (tAsg (tRevT K (tVar 3)) (gName 6)) (tSeq (tAsg (tIf (tTest (tOp rEq (tVar 1) (tC (.str "laid")))) (fun _ _ _ => False) (tCal (spBlocked P w K mg base) (tCons (tVar 6) (tCons (tC (.ref fp)) tNil)))) (gName 7))
          (tFor (iItemsT (tVar 7)) (gTup K 2 (gCons (gName 8) (gCons (gName 9) gNil))) (tDrop (tCal (spAdded K) (tCons (tVar 2) (tCons (tVar 8) (tCons (tCal (spTwo K (· * ·)) (tCons (tVar 9) (tCons (tVar 5) tNil))) tNil)))))))
          { nx := fun σ H' => Same H H' ∧ Tup H1 H' ∧ ∃ (js : List Row) (v3 v4 v5 v6 v7 v8 v9 : Option V), σ = [some (.ref d), some (.str "joined"), some (.ref h), v3, v4, v5, v6, v7, v8, v9] ∧ UAt K H' h (turned r js) ∧ (0 + 1 = 0 → js = []) ∧ (0 + 1 = 1 → js.Perm (jn r.reverse)),
            rt := Q,
            bk := fun σ H' => tRet (tVar 2) { nx := fun x H' => Q V.non H', rt := Q } σ H',
            ct := fun σ H' => Same H H' ∧ Tup H1 H' ∧ ∃ (js : List Row) (v3 v4 v5 v6 v7 v8 v9 : Option V), σ = [some (.ref d), some (.str "joined"), some (.ref h), v3, v4, v5, v6, v7, v8, v9] ∧ UAt K H' h (turned r js) ∧ (0 + 1 = 0 → js = []) ∧ (0 + 1 = 1 → js.Perm (jn r.reverse)) }
          [some (.ref d), some (.str "joined"), some (.ref h), some (.ref rp), some (.ref qp), some (.ref c), v6, v7, v8, v9] H4 := by
        intro c H4 s4 hc
        have hr4 := RowAt.same s4 hrow
        refine ⟨_, rfl, rp, _, rfl, hr4.sq, fun b hb => ?_⟩
        have s5 : Same H4 (upd H4 b (.tup (r.map V.int).reverse)) := same_new hb
        have hb5 : RowAt (upd H4 b (.tup (r.map V.int).reverse)) b r.reverse := by
          unfold RowAt
          rw [upd_same, List.map_reverse]
        generalize upd H4 b (.tup (r.map V.int).reverse) = H5 at s5 hb5 ⊢
        refine ⟨_, rfl, rfl, false, dF (by intro z; injection z with z; exact absurd z (by decide)), iteF ?_⟩
        refine ⟨_, rfl, b, fp, r.reverse, rfl, hb5, small_rev hs, by rw [List.length_reverse]; exact h12, kp, F, fun d2 js H6 s6 hf2 pj => ?_⟩
        obtain ⟨o2, kv2, hd2, pr2⟩ := hf2
        have u6 := UAt.same (Same.tr s4 (Same.tr s5 s6)) u3
        have hc6 := RatAt.same (Same.tr s5 s6) hc
        have jnd : js.Nodup := (pj.nodup_iff).mpr (jn_nodup _ (small_rev hs).pos)
        have jl : js.length ≤ 4096 := by
          rw [pj.length_eq]
          refine Nat.le_trans (jn_len_le _) ?_
          rw [List.length_reverse]
          exact Nat.le_trans (Nat.pow_le_pow_right (by decide) h12) (by decide)
        have s26 := Same.tr s23 (Same.tr s4 (Same.tr s5 s6))
        have t26 : Tup H1 H6 := Tup.tr t2 (Same.tup (Same.tr s3 (Same.tr s4 (Same.tr s5 s6))))
        refine ⟨_, rfl, d2, o2, kv2, rfl, hd2, ?_⟩
        refine forF (over_itemsM pr2) (fun j σ H' => Same H H' ∧ Tup H6 H' ∧ ∃ (v8 v9 : Option V), σ = [some (.ref d), some (.str "joined"), some (.ref h), some (.ref rp), some (.ref qp), some (.ref c), some (.ref b), some (.ref d2), v8, v9] ∧ UAt K H' h (turned r (js.take j)))
          ⟨s26, Tup.rfl' _, v8, v9, rfl, u6⟩ (fun j σ H' _ P => ⟨P.2.1.2 _ _ _ hd2, P.2.1⟩) (fun j σ Ha x Hb hj P sb y => ?_) (fun σ H' P => ?_)
        · obtain ⟨sa, ta, v8, v9, rfl, ua⟩ := P
          obtain ⟨t9, e, rp2, qp2, ee2, rfl, ht2, hrow2, hq2⟩ := y
          obtain ⟨z, ez, rfl⟩ : ∃ z, js[j]? = some z ∧ e = (z, 1) := by
            unfold ones at ee2
            rw [List.getElem?_map] at ee2
            obtain ⟨z, h1, h2⟩ := Option.map_eq_some_iff.mp ee2
            exact ⟨z, h1, h2.symm⟩
          have pmz := Pm.sg r.length
          refine ⟨t9, _, rfl, ht2, rfl, _, _, rfl, _, _, rfl, rfl, ?_⟩
          refine ⟨_, rfl, _, rfl, _, rfl, _, rfl, qp2, c, 1, sg r.length, rfl, hq2, (Tup.tr ta (Same.tup sb)).rat hc6, sz_one (by decide), pmz.sz.mono (by decide), fun c2 Hd sd nd => ?_⟩
          change RNew Hd c2 (1 * sg r.length) at nd
          rw [Rat.one_mul] at nd
          have uD := UAt.same (Same.tr sb sd) ua
          have et : js.take (j + 1) = js.take j ++ [z] := by rw [List.take_succ, ez]; rfl
          have hnew : z ∉ js.take j := by
            have hn := jnd
            rw [← List.take_append_drop (j + 1) js, et] at hn
            exact fun hm => (List.nodup_append.mp (List.nodup_append.mp hn).1).2.2 _ hm _ (by simp) rfl
          refine ⟨h, rp2, c2, _, z, sg r.length, rfl, uD, RowAt.same sd hrow2, lookup_none (by rw [turned_keys]; exact hnew), nd.at_, pmz.sz.mono (by decide), by unfold turned; rw [List.length_map, List.length_take]; omega, fun He be ue => ?_⟩
          obtain ⟨kD, hkD, _⟩ := uD
          refine ⟨fun x o q => be x o (fun z => by rw [z, hh] at q; cases q) (sd _ _ (sb _ _ (sa _ _ q))), Tup.tr ta (Tup.tr (Same.tup sb) (Tup.tr (Same.tup sd) (but_tup be hkD))), some (.ref rp2), some (.ref qp2), rfl, ?_⟩
          rw [et, turned_snoc]
          exact ue
        · obtain ⟨sa, ta, v8, v9, rfl, ua⟩ := P
          refine ⟨sa, Tup.tr t26 ta, js, _, _, _, _, _, _, _, rfl, ?_, fun z => absurd z (by decide), fun _ => pj⟩
          have ll : (ones js).length = js.length := by unfold ones; rw [List.length_map]
          rw [ll, List.take_length] at ua
          exact ua
      refine ⟨tt, _, rfl, ht, rfl, _, _, rfl, _, _, rfl, rfl, ?_⟩
      refine ⟨_, rfl, rp, _, rfl, .inr hrow.sq, _, _, rfl, rfl, (by show (0 : Int) < 2; decide), rfl, _, rfl, ?_⟩
      rw [eL]
      by_cases z : r.length % 2 = 0
      · have z1 : V.int ((r.length : Int) % 2) = V.int 0 := by
          have : (r.length : Int) % 2 = 0 := by omega
          rw [this]
        rw [decide_eq_true z1]
        exact iteT ⟨_, rfl, step qp H3 (Same.rfl' _) (sg_rat (fun _ => hq) (fun c => absurd z c))⟩
      · have z1 : ¬ V.int ((r.length : Int) % 2) = V.int 0 := by
          intro y
          injection y with y
          omega
        rw [decide_eq_false z1]
        refine iteF ⟨_, rfl, qp, _, _, _, rfl, rfl, hq, rfl, _, rfl, _, rfl, qp, _, _, _, rfl, rfl, hq, rfl, line2, fun c hc => ?_⟩
        exact step c _ (same_new hc) (sg_rat (fun c => absurd c z) (fun _ => SqT.of upd_same))
    · obtain ⟨s2, t2, js, v3, v4, v5, v6, v7, v8, v9, rfl, u2, _, c1⟩ := P
      exact ⟨_, rfl, q h js _ s2 u2 (c1 rfl)⟩
/-- undone stands at its name, its way joined if none is named -/
structure AtU (K : PySem.W.Frag) (mg : Str → Option Value) : Prop where
  ex : ∃ f fd, FunD K "undone" "undone" (defArgs sUndone) (defBody sUndone) (defScope sUndone) [] [("way", .str "joined")] f fd ∧ mg "undone" = some (.ref f)
def spU2 (K : PySem.W.Frag) (CM : Addr) : Sp := fun vs H Q _ => ∃ (a : Addr) (r : Row), vs = [.ref a, .str "joined"] ∧ MAt K H CM a [(r, 1)] ∧ Small r ∧ r.length ≤ 12 ∧ ∀ (x : Addr) (js : List Row) (H' : Hp), Same H H' → js.Perm (jn r.reverse) → MAt K H' CM x (turned r js) → Q (.ref x) H'
def spUndone (K : PySem.W.Frag) (CM : Addr) : Sp := fun vs H Q _ => ∃ (a : Addr) (r : Row), vs = [.ref a] ∧ MAt K H CM a [(r, 1)] ∧ Small r ∧ r.length ≤ 12 ∧ ∀ (x : Addr) (js : List Row) (H' : Hp), Same H H' → js.Perm (jn r.reverse) → MAt K H' CM x (turned r js) → Q (.ref x) H'
theorem has_undone (D : AtU K mg) (T : Tx K mg) (L : Kl K mg CK CM) (R : Has P w K mg base 1 "require_mix" (spOk (isMix K CM))) (C : Has P w K mg base 1 "require_choice" (spOk (isWay K))) (F : Has P w K mg base 1 "require_few_entries" (spOk (isFew K)))
    (U : Has P w K mg base 5 "undone_terms" (spUTerms K)) (M : Has P w K mg base 4 "made_mix" (spMade K CM)) : Has P w K mg base 6 "undone" (spUndone K CM) := by
  obtain ⟨f, fd, FD, hm⟩ := D.ex
  have ok : FnOk P w K mg base CX0 6 f fd ["mix", "way"] (spU2 K CM) := FD.ok scUndone (fun vs H Q E h => by obtain ⟨a, r, rfl, _⟩ := h; rfl) fun cdv A outer s H vs Q E hr h => by
    obtain ⟨a, r, rfl, ha, hs, h12, q⟩ := h
    obtain ⟨u, mu, hu⟩ := T.undoable
    obtain ⟨p1, hp1⟩ := L.mterms
    have h : ∃ t, PSs (cxOf CX0 P w K mg base ["mix", "way"] "undone" (defScope sUndone) f cdv A outer s H E).nox (defBody sUndone) t ∧ t { nx := fun _ H' => Q .non H', rt := Q } (start ["mix", "way"] [.ref a, .str "joined"]) H := by
      refine ⟨_, pss_cons (ps_expr (pe_cal R hr (pa_cons (pv 0) pa_nil))) (pss_cons (ps_expr (pe_cal C hr (pa_cons (pv 1) (pa_cons (pe_glob (v := .ref u) rfl mu rfl) pa_nil))))
        (pss_cons (ps_expr (pe_cal F hr (pa_cons (SlX.pe_sl (pv 0)) pa_nil))) (pss_one (ps_ret (pe_cal M hr (pa_cons (pe_cal U hr (pa_cons (SlX.pe_sl (pv 0)) (pa_cons (pv 1) pa_nil))) pa_nil)))))), ?_⟩
      refine ⟨_, rfl, ⟨a, _, rfl, ha⟩, fun H1 s1 => ?_⟩
      refine ⟨_, rfl, ⟨u, rfl, hu _⟩, fun H2 s2 => ?_⟩
      obtain ⟨dx, vs, d, h1, h2, h3⟩ := MAt.same (Same.tr s1 s2) ha
      refine ⟨_, rfl, a, CM, dx, p1, vs, 1, .ref d, rfl, h1, L.msc, hp1, h2, ⟨d, _, rfl, h3, by show 1 ≤ 4096; decide, fun e he => ?_⟩, fun H3 s3 => ?_⟩
      · have : e = (r, 1) := by simpa using he
        rw [this]
        exact h12
      · refine ⟨_, rfl, a, CM, dx, p1, vs, 1, .ref d, rfl, slt_same s3 h1, L.msc, hp1, h2, _, rfl, d, r, rfl, FAt.same s3 h3, hs, h12, fun p js H4 s4 hu4 pj => ?_⟩
        have hmx : Mixed (turned r js) := mixed_of (small_rev hs) (by rw [List.length_reverse]; exact h12) pj (fun _ => sg r.length)
        refine ⟨p, turned r js, r.reverse.sum, rfl, hu4.d, hmx, sum_of (small_rev hs) pj _, fun x m' H5 s5 hx pm => ?_⟩
        have eb : bare (turned r js) = turned r js := bare_of_ne _ fun _ => sg_ne _
        rw [eb] at pm
        obtain ⟨ks, pk, rfl⟩ := perm_js pm
        exact q x ks H5 (Same.tr (Same.tr s1 s2) (Same.tr s3 (Same.tr s4 s5))) (pk.trans pj) hx
    obtain ⟨t, h1, h2⟩ := h
    exact ⟨t, h1.nox, h2⟩
  obtain ⟨ds, vd, hb⟩ := FD.binds0 (ps := ["mix", "way"]) 1 (by simp) rfl fun D doc pm an cdv ct us ks h1 h2 => match us, ks, h1, h2 with
    | [_], [_], _, _ => ⟨_, _, _, _, _, _, rfl, rfl, rfl⟩
  refine ⟨f, hm, FD.kp, (ok.raw hb vd).imp fun vs H Q E h => ?_⟩
  obtain ⟨a, r, rfl, ha, hs, h12, q⟩ := h
  exact ⟨a, r, rfl, ha, hs, h12, q⟩
end
end Rj
set_option Elab.async false
set_option linter.all false
set_option maxRecDepth 100000
set_option maxHeartbeats 4000000
set_option exponentiation.threshold 100000
/-! The law's own numbers. -/
namespace Rj
open PySem PySem.Spec PyProof.Rows L2
abbrev sDice : Stmt := top 81
abbrev sRoll : Stmt := top 82
abbrev sPick : Stmt := top 83
abbrev sLGcd : Stmt := top 84
abbrev sLLowest : Stmt := top 85
abbrev sLPlus : Stmt := top 86
abbrev sLTimes : Stmt := top 87
theorem scDice : FnScope ["_law_script", "_law_spot", "_law_cell", "_law_left"] ["_law_script", "_law_spot"] (defScope sDice) := ⟨rfl, rfl, rfl, by decide +kernel, rfl, by decide +kernel, by decide +kernel⟩
theorem scRoll : FnScope ["_law_dice_here", "_law_total", "_law_found", "_law_one", "_law_two"] ["_law_dice_here", "_law_total"] (defScope sRoll) := ⟨rfl, rfl, rfl, by decide +kernel, rfl, by decide +kernel, by decide +kernel⟩
theorem scPick : FnScope ["_law_dice_here", "_law_items"] ["_law_dice_here", "_law_items"] (defScope sPick) := ⟨rfl, rfl, rfl, by decide +kernel, rfl, by decide +kernel, by decide +kernel⟩
theorem scLGcd : FnScope ["_law_one", "_law_other"] ["_law_one", "_law_other"] (defScope sLGcd) := ⟨rfl, rfl, rfl, by decide +kernel, rfl, by decide +kernel, by decide +kernel⟩
theorem scLLowest : FnScope ["_law_top", "_law_bottom", "_law_part"] ["_law_top", "_law_bottom"] (defScope sLLowest) := ⟨rfl, rfl, rfl, by decide +kernel, rfl, by decide +kernel, by decide +kernel⟩
theorem scLPlus : FnScope ["_law_one", "_law_other"] ["_law_one", "_law_other"] (defScope sLPlus) := ⟨rfl, rfl, rfl, by decide +kernel, rfl, by decide +kernel, by decide +kernel⟩
theorem scLTimes : FnScope ["_law_one", "_law_other"] ["_law_one", "_law_other"] (defScope sLTimes) := ⟨rfl, rfl, rfl, by decide +kernel, rfl, by decide +kernel, by decide +kernel⟩
/-- dice: three numbers -/
def DiceAt (H : Hp) (d : Addr) : Prop := ∃ x y z : Int, H d = some (.lst [.int x, .int y, .int z])
def spDice (K : PySem.W.Frag) : Sp := fun vs H Q _ => ∃ (a : Addr) (ns : List Int) (k : Nat), vs = [.ref a, .int (k : Int)] ∧ SqL K H a (ns.map V.int) ∧ k ≤ 100 ∧ ∀ d H', H d = none → Same H H' → DiceAt H' d → Q (.ref d) H'
def spRoll : Sp := fun vs H Q _ => ∃ (d : Addr) (t : Int), vs = [.ref d, .int t] ∧ DiceAt H d ∧ 0 < t ∧ t < 1000 ∧ ∀ (n : Int) H', 0 ≤ n → n < t → But d H H' → DiceAt H' d → Q (.int n) H'
def spPick (K : PySem.W.Frag) : Sp := fun vs H Q _ => ∃ (d l : Addr) (ns : List Int), vs = [.ref d, .ref l] ∧ DiceAt H d ∧ SqL K H l (ns.map V.int) ∧ l ≠ d ∧ ns ≠ [] ∧ ns.length < 1000 ∧ ∀ n H', n ∈ ns → But d H H' → DiceAt H' d → Q (.int n) H'
theorem tIf_two {tt : TT} {ta tb : TE} {σ : L2.St} {H : Hp} {C : VK} {c : Prop} [Decidable c] (test : ∀ R : Bool → Hp → Prop, R (decide c) H → tt σ H R) (h1 : c → ∀ C : VK, (∀ n : Int, C (.int n) H) → ta σ H C) (h2 : ¬ c → ∀ C : VK, (∀ n : Int, C (.int n) H) → tb σ H C)
    (h : ∀ n : Int, C (.int n) H) : tIf tt ta tb σ H C := by
  refine test _ ?_
  by_cases z : c
  · rw [decide_eq_true z]
    exact iteT (h1 z C h)
  · rw [decide_eq_false z]
    exact iteF (h2 z C h)
section
variable {P : Program} {w : World} {K : PySem.W.Frag} {mg : Str → Option Value} {base : Heap} {CK CM : Addr}
theorem has_dice (D : At K mg "_law_dice" sDice) (T : Tx K mg) : Has P w K mg base 1 "_law_dice" (spDice K) := by
  refine D.has scDice (fun vs H Q E h => ?_) (fun _ _ _ _ _ _ us hl => match us, hl with | [_, _], _ => rfl) (fun f cdv A outer s H vs Q E hr h => ?_)
  · obtain ⟨a, ns, k, rfl, _⟩ := h
    rfl
  · obtain ⟨a, ns, k, rfl, ha, hk, q⟩ := h
    refine ⟨_, pss_cons (ps_set (i := 2) scDice.nd rfl (Or.inl rfl) (pe_ifExp (pt_cmpR op_lt (pv 1) (pe_callB call_len_seq rfl T.len PySem.boot_len (pa_cons (pv 0) pa_nil)) (nomark _))
        (pe_callTy call_int1 rfl T.int PyProof.Rows.boot_int (pa_cons (pe_ix ix_list (pv 0) (pv 1) (fun _ _ => rfl)) pa_nil)) (pe_op op_add (pe_op op_mul pe_int (pv 1)) pe_int)))
      (pss_cons (ps_set (i := 3) scDice.nd rfl (Or.inl rfl) (pe_op op_mod (pe_callB (call_max2 (by rfl)) rfl T.max PyProof.Rows.boot_max (pa_cons pe_int (pa_cons (pe_op op_sub (pe_callB call_abs rfl T.abs PyProof.Rows.boot_abs (pa_cons (pv 2) pa_nil)) (pe_op op_pow pe_int pe_int)) pa_nil)))
        (pe_op op_mulW (pe_op op_pow pe_int pe_int) (pe_op op_pow pe_int pe_int))))
      (pss_one (ps_ret (pe_lst (pa_cons (pv 3) (pa_cons (pe_op op_add (pe_op op_add (pe_op op_add (pe_op op_mul (pe_op op_mod (pe_callB call_abs rfl T.abs PyProof.Rows.boot_abs (pa_cons (pv 2) pa_nil)) pe_int) pe_int) (pe_op op_mul pe_int (pv 1)))
        (pe_op op_mul pe_int (pe_callTy call_int1 rfl T.int PyProof.Rows.boot_int (pa_cons (pe_cmpR op_lt (pv 2) pe_int (nomark _)) pa_nil)))) pe_int) (pa_cons pe_int pa_nil))))))), ?_⟩
    refine tIf_two (c := (k : Int) < (((ns.map V.int).length : Nat) : Int)) (fun R h => ⟨_, rfl, _, rfl, a, _, rfl, .inl ha, _, _, rfl, rfl, _, rfl, h⟩) (fun z C h => ?_) (fun z C h => ?_) (fun c => ?_)
    · have hlt : k < ns.length := by
        rw [List.length_map] at z
        omega
      exact ⟨_, rfl, _, rfl, a, _, _, _, rfl, rfl, ha, atI_nat (by rw [List.getElem?_map, List.getElem?_eq_getElem hlt]; rfl), .inl ⟨_, rfl, h _⟩⟩
    · exact ⟨_, rfl, _, _, rfl, rfl, .inl ⟨by decide, by decide⟩, _, _, rfl, rfl, h _⟩
    · refine ⟨_, rfl, _, rfl, _, _, rfl, rfl, ⟨by decide, by decide, by decide⟩, _, _, rfl, rfl, _, _, rfl, ?_⟩
      refine ⟨_, _, rfl, rfl, ⟨by decide, by decide, by decide⟩, _, _, rfl, rfl, ⟨by decide, by decide, by decide⟩, _, _, rfl, rfl, wide_mul (a := 300) (b := 300) (by decide +kernel) (by decide +kernel) (by decide) (by decide) (by decide), _, _, rfl, rfl, (by show (0 : Int) < 10 ^ Int.toNat 58 * 10 ^ Int.toNat 60; decide +kernel), ?_⟩
      refine ⟨_, rfl, _, rfl, _, rfl, _, _, rfl, rfl, (by show (0 : Int) < 1152921504606847009; decide), _, _, rfl, rfl, .inr ⟨by decide, by decide⟩, _, rfl, _, _, rfl, rfl, .inl ⟨by decide, by decide⟩, _, _, rfl, rfl, ?_⟩
      refine ⟨_, rfl, _, _, rfl, rfl, .inr ⟨_, rfl, _, _, rfl, rfl, .inl ⟨by decide, by decide⟩, _, _, rfl, rfl, _, _, rfl, rfl, by show 3 ≤ sizeLine; decide, fun d hd => ?_⟩⟩
      exact q d _ hd (same_new hd) ⟨_, _, _, upd_same⟩
theorem has_roll (D : At K mg "_law_roll" sRoll) (T : Tx K mg) : Has P w K mg base 1 "_law_roll" spRoll := by
  refine D.has scRoll (fun vs H Q E h => ?_) (fun _ _ _ _ _ _ us hl => match us, hl with | [_, _], _ => rfl) (fun f cdv A outer s H vs Q E hr h => ?_)
  · obtain ⟨d, t, rfl, _⟩ := h
    rfl
  · obtain ⟨d, t, rfl, ⟨x, y, z, hd⟩, h0, h1, q⟩ := h
    refine ⟨_, pss_cons (ps_if (pt_cmpR op_gt (pe_ix ix_list (pv 0) pe_int (fun _ _ => rfl)) pe_int (nomark _))
        (pss_cons (ps_set (i := 2) scRoll.nd rfl (Or.inl rfl) (pe_op op_mod (pe_callTy call_int1 rfl T.int PyProof.Rows.boot_int (pa_cons (pe_ix ix_list (pv 0) pe_int (fun _ _ => rfl)) pa_nil)) (pv 1)))
        (pss_cons (ps_asg (pe_op op_fdiv (pe_ix ix_list (pv 0) pe_int (fun _ _ => rfl)) (pv 1)) (pg_sub (pv 0) pe_int set_list)) (pss_one (ps_ret (pv 2))))) pss_nil)
      (pss_cons (ps_asg (pe_op op_add (pe_ix ix_list (pv 0) pe_int (fun _ _ => rfl)) pe_int) (pg_sub (pv 0) pe_int set_list))
      (pss_cons (ps_set (i := 3) scRoll.nd rfl (Or.inl rfl) (pe_op op_mod (pe_callTy call_int1 rfl T.int PyProof.Rows.boot_int (pa_cons (pe_op op_add (pe_ix ix_list (pv 0) pe_int (fun _ _ => rfl)) (pe_op op_mul pe_int (pe_ix ix_list (pv 0) pe_int (fun _ _ => rfl)))) pa_nil)) pe_int))
      (pss_cons (ps_set (i := 4) scRoll.nd rfl (Or.inl rfl) (pe_op op_add (pe_op op_mul (pe_op op_mod (pe_callTy call_int1 rfl T.int PyProof.Rows.boot_int (pa_cons (pe_op op_add (pe_op op_mul (pv 3) (pv 3)) (pe_op op_mul pe_int (pe_ix ix_list (pv 0) pe_int (fun _ _ => rfl)))) pa_nil)) pe_int) pe_int) (pv 3)))
      (pss_one (ps_ret (pe_op op_mod (pe_callTy call_int1 rfl T.int PyProof.Rows.boot_int (pa_cons (pe_op op_fdiv (pv 4) pe_int) pa_nil)) (pv 1))))))), ?_⟩
    have n3 : ∀ v : Int, ((-(2 ^ 64) : Int) < v % 2305843009213693669) ∧ v % 2305843009213693669 < 2 ^ 64 := fun v => by
      have a := Int.emod_nonneg v (show (2305843009213693669 : Int) ≠ 0 by decide)
      have b := Int.emod_lt_of_pos v (show (0 : Int) < 2305843009213693669 by decide)
      constructor <;> omega
    refine ⟨_, rfl, d, _, _, _, rfl, rfl, SqL.of hd, rfl, _, _, rfl, rfl, _, rfl, ?_⟩
    by_cases hx : (0 : Int) < x
    · rw [decide_eq_true hx]
      refine iteT ⟨_, rfl, d, _, _, _, rfl, rfl, SqL.of hd, rfl, .inl ⟨_, rfl, _, rfl, _, _, rfl, rfl, h0, ?_⟩⟩
      refine ⟨_, rfl, d, _, _, _, rfl, rfl, SqL.of hd, rfl, _, rfl, _, _, rfl, rfl, ⟨h0, by omega⟩, _, rfl, d, _, _, _, rfl, rfl, hd, rfl, ?_⟩
      exact ⟨_, rfl, q _ _ (Int.emod_nonneg _ (by omega)) (Int.emod_lt_of_pos _ h0) but_upd ⟨_, _, _, upd_same⟩⟩
    · rw [decide_eq_false hx]
      refine iteF ⟨_, rfl, d, _, _, _, rfl, rfl, SqL.of hd, rfl, _, _, rfl, rfl, _, rfl, d, _, _, _, rfl, rfl, hd, rfl, ?_⟩
      have hd2 : (upd H d (.lst ([V.int x, V.int y, V.int z].set 2 (V.int (z + 1))))) d = some (.lst [.int x, .int y, .int (z + 1)]) := upd_same
      have bd2 : But d H (upd H d (.lst ([V.int x, V.int y, V.int z].set 2 (V.int (z + 1))))) := but_upd
      change tSeq _ _ _ _ (upd H d (.lst ([V.int x, V.int y, V.int z].set 2 (V.int (z + 1)))))
      generalize upd H d (.lst ([V.int x, V.int y, V.int z].set 2 (V.int (z + 1)))) = H2 at hd2 bd2 ⊢
      refine ⟨_, rfl, d, _, _, _, rfl, rfl, SqL.of hd2, rfl, _, rfl, d, _, _, _, rfl, rfl, SqL.of hd2, rfl, _, _, rfl, rfl, .inl ⟨by decide, by decide⟩, _, _, rfl, rfl, .inl ⟨_, rfl, _, _, rfl, rfl, (by show (0 : Int) < 2305843009213693669; decide), ?_⟩⟩
      refine ⟨_, rfl, _, rfl, _, _, rfl, rfl, .inl (n3 _), _, rfl, d, _, _, _, rfl, rfl, SqL.of hd2, rfl, _, _, rfl, rfl, .inl ⟨by decide, by decide⟩, _, _, rfl, rfl, .inl ⟨_, rfl, _, _, rfl, rfl, (by show (0 : Int) < 2305843009213693613; decide), _, _, rfl, rfl, .inr ⟨by decide, by decide⟩, _, rfl, _, _, rfl, rfl, ?_⟩⟩
      refine ⟨_, rfl, _, _, rfl, rfl, ⟨by decide, by decide⟩, .inl ⟨_, rfl, _, rfl, _, _, rfl, rfl, h0, ?_⟩⟩
      exact q _ _ (Int.emod_nonneg _ (by omega)) (Int.emod_lt_of_pos _ h0) bd2 ⟨_, _, _, hd2⟩
theorem has_pick (D : At K mg "_law_pick" sPick) (T : Tx K mg) (R : Has P w K mg base 1 "_law_roll" spRoll) : Has P w K mg base 2 "_law_pick" (spPick K) := by
  refine D.has scPick (fun vs H Q E h => ?_) (fun _ _ _ _ _ _ us hl => match us, hl with | [_, _], _ => rfl) (fun f cdv A outer s H vs Q E hr h => ?_)
  · obtain ⟨d, l, ns, rfl, _⟩ := h
    rfl
  · obtain ⟨d, l, ns, rfl, hd, hl, hne, hn0, hn, q⟩ := h
    refine ⟨_, pss_one (ps_ret (pe_ix ix_list (pv 1) (pe_cal R hr (pa_cons (pv 0) (pa_cons (pe_callB call_len_seq rfl T.len PySem.boot_len (pa_cons (pv 1) pa_nil)) pa_nil))) (fun _ _ => rfl))), ?_⟩
    have eL : (ns.map V.int).length = ns.length := List.length_map ..
    have hpos : 0 < ns.length := List.length_pos_iff.mpr hn0
    refine ⟨_, rfl, _, rfl, _, rfl, l, _, rfl, .inl hl, ?_⟩
    rw [eL]
    refine ⟨d, _, rfl, hd, by omega, by omega, fun n H1 a b bt d1 => ?_⟩
    have hl1 : SqL K H1 l (ns.map V.int) := by
      rcases hl with (h | ⟨o, h⟩) | h
      · exact .inl (.inl (bt _ _ hne h))
      · exact .inl (.inr ⟨o, bt _ _ hne h⟩)
      · exact .inr h
    have hlt : n.toNat < ns.length := by omega
    have en : ((n.toNat : Nat) : Int) = n := by omega
    have h2 := atI_nat (xs := ns.map V.int) (j := n.toNat) (v := .int ns[n.toNat]) (by rw [List.getElem?_map, List.getElem?_eq_getElem hlt]; rfl)
    rw [en] at h2
    exact ⟨l, _, _, .int ns[n.toNat], rfl, rfl, hl1, h2, q _ _ (List.getElem_mem hlt) bt d1⟩
end
end Rj
set_option Elab.async false
set_option linter.all false
set_option maxRecDepth 100000
set_option maxHeartbeats 4000000
set_option exponentiation.threshold 100000
/-! The law's own ratios. -/
namespace Rj
open PySem PySem.Spec PyProof.Rows L2
def spLGcd : Sp := fun vs H Q _ => ∃ a b : Int, vs = [.int a, .int b] ∧ ∀ H', Same H H' → Q (.int ((Nat.gcd a.natAbs b.natAbs : Nat) : Int)) H'
theorem abs_nat (i : Int) : (if i < 0 then -i else i) = (i.natAbs : Int) := by
  split <;> omega
section
variable {P : Program} {w : World} {K : PySem.W.Frag} {mg : Str → Option Value} {base : Heap} {CK CM : Addr}
theorem has_lgcd (D : At K mg "_law_gcd" sLGcd) (T : Tx K mg) : Has P w K mg base 1 "_law_gcd" spLGcd := by
  refine D.has scLGcd (fun vs H Q E h => ?_) (fun _ _ _ _ _ _ us hl => match us, hl with | [_, _], _ => rfl) (fun f cdv A outer s H vs Q E hr h => ?_)
  · obtain ⟨a, b, rfl, _⟩ := h
    rfl
  · obtain ⟨a, b, rfl, q⟩ := h
    refine ⟨_, pss_cons (ps_par (i := 0) (j := 1) rfl scLGcd.nd rfl rfl (by decide) rfl rfl (pa_cons (pe_callB call_abs rfl T.abs PyProof.Rows.boot_abs (pa_cons (pv 0) pa_nil)) (pa_cons (pe_callB call_abs rfl T.abs PyProof.Rows.boot_abs (pa_cons (pv 1) pa_nil)) pa_nil)) (by rfl))
      (pss_cons (ps_while PassesOwn.never (pt_cmpR op_gt (pv 1) pe_int (nomark _)) (pss_one (ps_par (i := 0) (j := 1) rfl scLGcd.nd rfl rfl (by decide) rfl rfl (pa_cons (pv 1) (pa_cons (pe_op op_mod (pe_callTy call_int1 rfl T.int PyProof.Rows.boot_int (pa_cons (pv 0) pa_nil)) (pv 1)) pa_nil)) (by rfl))))
      (pss_one (ps_ret (pv 0)))), ?_⟩
    refine ⟨_, rfl, _, rfl, _, rfl, _, rfl, _, _, rfl, ?_⟩
    rw [abs_nat, abs_nat]
    refine while_by (fun σ H' => Same H H' ∧ ∃ x y : Nat, σ = [some (.int (x : Int)), some (.int (y : Int))] ∧ Nat.gcd x y = Nat.gcd a.natAbs b.natAbs) (fun σ _ => match σ with | [_, some (.int y)] => y.toNat | _ => 0) ⟨Same.rfl' _, a.natAbs, b.natAbs, rfl, rfl⟩ (fun σ H1 p => ?_)
      (fun σ H1 R R' m h => by obtain ⟨v, hv, i, j, e1, e2, k, ek, r⟩ := h; exact ⟨v, hv, i, j, e1, e2, k, ek, m _ _ r⟩)
    obtain ⟨s1, x, y, rfl, e⟩ := p
    refine ⟨_, rfl, _, _, rfl, rfl, _, rfl, ?_⟩
    by_cases hy : (0 : Int) < (y : Int)
    · rw [decide_eq_true hy]
      refine iteT ⟨_, rfl, _, rfl, .inl ⟨_, rfl, _, rfl, _, _, rfl, rfl, hy, _, _, rfl, ⟨s1, y, x % y, ?_, ?_⟩, ?_⟩⟩
      · show [some (V.int (y : Int)), some (V.int ((x : Int) % (y : Int)))] = _
        rw [← Int.natCast_emod]
      · rw [← e, Nat.gcd_comm x y, Nat.gcd_rec y x, Nat.gcd_comm]
      · show ((x : Int) % (y : Int)).toNat < ((y : Nat) : Int).toNat
        have := Int.emod_lt_of_pos (x : Int) hy
        have := Int.emod_nonneg (x : Int) (show (y : Int) ≠ 0 by omega)
        omega
    · rw [decide_eq_false hy]
      have y0 : y = 0 := by omega
      subst y0
      rw [Nat.gcd_zero_right] at e
      refine iteF ⟨_, rfl, ?_⟩
      rw [e]
      exact q _ s1
theorem has_llowest (D : At K mg "_law_lowest" sLLowest) (T : Tx K mg) (G : Has P w K mg base 1 "_law_gcd" spLGcd) : Has P w K mg base 2 "_law_lowest" spLowest := by
  refine D.has scLLowest (fun vs H Q E h => ?_) (fun _ _ _ _ _ _ us hl => match us, hl with | [_, _], _ => rfl) (fun f cdv A outer s H vs Q E hr h => ?_)
  · obtain ⟨t, b, rfl, _⟩ := h
    rfl
  · obtain ⟨t, b, rfl, hb, h9, k⟩ := h
    refine ⟨_, pss_cons (ps_set (i := 2) scLLowest.nd rfl (Or.inl rfl) (pe_cal G hr (pa_cons (pv 0) (pa_cons (pv 1) pa_nil))))
      (pss_cons (ps_set (i := 2) scLLowest.nd rfl (Or.inl rfl) (pe_ifExp (pt_cmpR op_gt (pv 1) pe_int (nomark _)) (pv 2) (pe_op op_sub pe_int (pv 2))))
      (pss_one (ps_ret (pe_tup (pa_cons (pe_op op_fdivW (pv 0) (pv 2)) (pa_cons (pe_op op_fdivW (pv 1) (pv 2)) pa_nil)))))), ?_⟩
    refine ⟨_, rfl, _, rfl, t, b, rfl, fun H1 s1 => ?_⟩
    refine ⟨_, rfl, _, _, rfl, rfl, _, rfl, ?_⟩
    refine ifY hb ⟨_, rfl, ?_⟩
    refine ⟨_, rfl, _, rfl, _, _, rfl, rfl, gcd_div hb h9 _, _, rfl, _, rfl, _, _, rfl, rfl, gcd_div hb h9 _, line2, fun p hp => ?_⟩
    refine k p _ (Same.tr s1 (same_new hp)) ?_
    unfold RNew
    rw [upd_same, ratOf_num hb, ratOf_den hb]
theorem has_lplus (D : At K mg "_law_plus" sLPlus) (L : Has P w K mg base 2 "_law_lowest" spLowest) : Has P w K mg base 3 "_law_plus" (spTwo K (· + ·)) := by
  refine D.has scLPlus (fun vs H Q E h => ?_) (fun _ _ _ _ _ _ us hl => match us, hl with | [_, _], _ => rfl) (fun f cdv A outer s H vs Q E hr h => ?_)
  · obtain ⟨a, b, p, q, rfl, _⟩ := h
    rfl
  · obtain ⟨a, b, p, q, rfl, ha, hb, zp, zq, k⟩ := h
    refine ⟨_, pss_one (ps_ret (pe_cal L hr (pa_cons (pe_op op_add (pe_op op_mulW (pe_ix ix_tup (pv 0) pe_int (fun _ _ => rfl)) (pe_ix ix_tup (pv 1) pe_int (fun _ _ => rfl)))
        (pe_op op_mulW (pe_ix ix_tup (pv 1) pe_int (fun _ _ => rfl)) (pe_ix ix_tup (pv 0) pe_int (fun _ _ => rfl))))
      (pa_cons (pe_op op_mulW (pe_ix ix_tup (pv 0) pe_int (fun _ _ => rfl)) (pe_ix ix_tup (pv 1) pe_int (fun _ _ => rfl))) pa_nil)))), ?_⟩
    refine ⟨_, rfl, _, _, _, _, rfl, rfl, ha, rfl, _, rfl, _, _, _, _, rfl, rfl, hb, rfl, _, _, rfl, rfl, sz_mul zp.top (sz_den zq), ?_⟩
    refine ⟨_, rfl, _, _, _, _, rfl, rfl, hb, rfl, _, rfl, _, _, _, _, rfl, rfl, ha, rfl, _, _, rfl, rfl, sz_mul zq.top (sz_den zp), ?_⟩
    refine ⟨_, _, rfl, rfl, ?_⟩
    refine ⟨_, rfl, _, _, _, _, rfl, rfl, ha, rfl, _, rfl, _, _, _, _, rfl, rfl, hb, rfl, _, _, rfl, rfl, sz_mul (sz_den zp) (sz_den zq), ?_⟩
    refine ⟨_, _, rfl, dens_pos p q, sz_dens zp zq, fun c H' s' n => k c H' s' ?_⟩
    rw [ratOf_add] at n
    exact n
theorem has_ltimes (D : At K mg "_law_times" sLTimes) (L : Has P w K mg base 2 "_law_lowest" spLowest) : Has P w K mg base 3 "_law_times" (spTwo K (· * ·)) := by
  refine D.has scLTimes (fun vs H Q E h => ?_) (fun _ _ _ _ _ _ us hl => match us, hl with | [_, _], _ => rfl) (fun f cdv A outer s H vs Q E hr h => ?_)
  · obtain ⟨a, b, p, q, rfl, _⟩ := h
    rfl
  · obtain ⟨a, b, p, q, rfl, ha, hb, zp, zq, k⟩ := h
    refine ⟨_, pss_one (ps_ret (pe_cal L hr (pa_cons (pe_op op_mulW (pe_ix ix_tup (pv 0) pe_int (fun _ _ => rfl)) (pe_ix ix_tup (pv 1) pe_int (fun _ _ => rfl)))
      (pa_cons (pe_op op_mulW (pe_ix ix_tup (pv 0) pe_int (fun _ _ => rfl)) (pe_ix ix_tup (pv 1) pe_int (fun _ _ => rfl))) pa_nil)))), ?_⟩
    refine ⟨_, rfl, _, _, _, _, rfl, rfl, ha, rfl, _, rfl, _, _, _, _, rfl, rfl, hb, rfl, _, _, rfl, rfl, sz_mul zp.top zq.top, ?_⟩
    refine ⟨_, rfl, _, _, _, _, rfl, rfl, ha, rfl, _, rfl, _, _, _, _, rfl, rfl, hb, rfl, _, _, rfl, rfl, sz_mul (sz_den zp) (sz_den zq), ?_⟩
    refine ⟨_, _, rfl, dens_pos p q, sz_dens zp zq, fun c H' s' n => k c H' s' ?_⟩
    rw [ratOf_mul] at n
    exact n
end
end Rj
set_option Elab.async false
set_option linter.all false
set_option maxRecDepth 100000
set_option maxHeartbeats 4000000
set_option exponentiation.threshold 100000
/-! The law's own joinings, rows drawn, signed terms. -/
namespace Rj
open PySem PySem.Spec PyProof.Rows L2
abbrev sLJoin : Stmt := top 88
abbrev sLPut : Stmt := top 89
abbrev sLBare : Stmt := top 90
abbrev sLSum : Stmt := top 91
abbrev sLDrawn : Stmt := top 92
abbrev sLSigned : Stmt := top 93
theorem scLJoin : FnScope ["_law_row", "_law_found", "_law_entry", "_law_one"] ["_law_row"] (defScope sLJoin) := ⟨rfl, rfl, rfl, by decide +kernel, rfl, by decide +kernel, by decide +kernel⟩
theorem scLPut : FnScope ["_law_found", "_law_key", "_law_number"] ["_law_found", "_law_key", "_law_number"] (defScope sLPut) := ⟨rfl, rfl, rfl, by decide +kernel, rfl, by decide +kernel, by decide +kernel⟩
theorem scLBare : FnScope ["_law_terms", "_law_key"] ["_law_terms"] (defScope sLBare) := ⟨rfl, rfl, rfl, by decide +kernel, rfl, by decide +kernel, by decide +kernel⟩
theorem scLSum : FnScope ["_law_one", "_law_other", "_law_factor", "_law_found", "_law_row", "_law_number"] ["_law_one", "_law_other", "_law_factor"] (defScope sLSum) := ⟨rfl, rfl, rfl, by decide +kernel, rfl, by decide +kernel, by decide +kernel⟩
theorem scLDrawn : FnScope ["_law_dice_here", "_law_weight", "_law_found", "_law_left", "_law_entry"] ["_law_dice_here", "_law_weight"] (defScope sLDrawn) := ⟨rfl, rfl, rfl, by decide +kernel, rfl, by decide +kernel, by decide +kernel⟩
theorem scLSigned : FnScope ["_law_row", "_law_one"] ["_law_row"] (defScope sLSigned) := ⟨rfl, rfl, rfl, by decide +kernel, rfl, by decide +kernel, by decide +kernel⟩
/-- the rows of a list that a block made -/
theorem rows_of {H : Hp} : ∀ {ws : List V} {ys : List Row}, Paired (fun v y => ∃ p, v = V.ref p ∧ RowAt H p y) ws ys → ∃ bs : List (Addr × Row), ws = refs bs ∧ bs.map (·.2) = ys ∧ RowsAt H bs
  | _, _, .nil => ⟨[], rfl, rfl, fun b hb => by cases hb⟩
  | _, _, .cons h t => by
    obtain ⟨bs, h1, h2, h3⟩ := rows_of t
    obtain ⟨p, rfl, hp⟩ := h
    rename_i y _ _
    refine ⟨(p, y) :: bs, by rw [h1]; rfl, by rw [List.map_cons, h2], fun b hb => ?_⟩
    rcases List.mem_cons.mp hb with rfl | hb
    · exact hp
    · exact h3 b hb
theorem map_some {α β : Type} (f : α → β) (l : List α) : l.filterMap (fun x => some (f x)) = l.map f := by
  rw [List.filterMap_eq_map']
section
variable {P : Program} {w : World} {K : PySem.W.Frag} {mg : Str → Option Value} {base : Heap} {CK CM : Addr}
theorem has_ljoin (D : At K mg "_law_joinings" sLJoin) (T : Tx K mg) : Has P w K mg base 1 "_law_joinings" spJoinIn := by
  refine D.has scLJoin (fun vs H Q E h => ?_) (fun _ _ _ _ _ _ us hl => match us, hl with | [_], _ => rfl) (fun f cdv A outer s H vs Q E hr h => ?_)
  · obtain ⟨a, r, rfl, _⟩ := h
    rfl
  · obtain ⟨a, r, rfl, ha, hs, h12, q⟩ := h
    refine ⟨_, pss_cons (ps_set (i := 1) scLJoin.nd rfl (Or.inl rfl) (pe_lst (pa_cons (pe_slice sl_row (pv 0) po_none (po_some pe_int)) pa_nil)))
      (pss_cons (ps_for PassesOwn.never rfl (pi_tup (pe_slice sl_row (pv 0) (po_some pe_int) po_none)) (pg_name (i := 2) scLJoin.nd rfl (Or.inr rfl)) (pss_one (ps_set (i := 1) scLJoin.nd rfl (Or.inl rfl)
        (pe_op op_cat
          (pe_lc (own := [("_law_one", 3)]) (g := gName 3) (tt := tYes) rfl scLJoin.nd (pi_list (pv 1)) (blkOk_by (N := ["_law_row", "_law_found", "_law_entry", "_law_one"]) (sc := defScope sLJoin) (by decide +kernel)) (fun _ _ _ _ _ => pg_name (i := 3) scLJoin.nd rfl (Or.inl rfl)) (fun _ _ _ _ _ => pts_nil)
            (fun _ _ _ _ _ => pe_op (r := rCatRow) op_catRow (pv 3) (pe_tup (pa_cons (pv 2) pa_nil))))
          (pe_lc (own := [("_law_one", 3)]) (g := gName 3) (tt := tYes) rfl scLJoin.nd (pi_list (pv 1)) (blkOk_by (N := ["_law_row", "_law_found", "_law_entry", "_law_one"]) (sc := defScope sLJoin) (by decide +kernel)) (fun _ _ _ _ _ => pg_name (i := 3) scLJoin.nd rfl (Or.inl rfl)) (fun _ _ _ _ _ => pts_nil)
            (fun _ _ _ _ _ => pe_op (r := rCatRow) op_catRow (pe_slice (r := rSlRow) sl_row (pv 3) po_none (po_some (pe_un un_neg pe_int))) (pe_tup (pa_cons (pe_op op_add (pe_ix (r := rIxT K) ix_tup (pv 3) (pe_un un_neg pe_int) (fun _ _ => rfl)) (pv 2)) pa_nil))))))))
      (pss_one (ps_ret (pe_callB (cr_sortR (roomU hr)) rfl T.sorted PyProof.Rows.boot_sorted (pa_cons (pv 1) pa_nil))))), ?_⟩
    refine ⟨_, rfl, _, rfl, a, r, rfl, ha, fun p1 H1 s1 hp1 => ⟨by show 1 ≤ sizeLine; decide, fun l1 hl1 => ?_⟩⟩
    have c1 : rcut r none (some 1) = r.take 1 := rcut_front r 1
    have c2 : rcut r (some 1) none = r.drop 1 := rcut_rear r 1
    rw [c1] at hp1
    have sA : Same H (upd H1 l1 (.lst [.ref p1])) := Same.tr s1 (same_new hl1)
    have hpA : RowAt (upd H1 l1 (.lst [.ref p1])) p1 (r.take 1) := RowAt.same (same_new hl1) hp1
    have hlA : (upd H1 l1 (.lst [.ref p1])) l1 = some (.lst [.ref p1]) := upd_same
    generalize upd H1 l1 (.lst [.ref p1]) = HA at sA hpA hlA ⊢
    refine ⟨_, rfl, _, rfl, a, r, rfl, RowAt.same sA ha, fun p2 H2 s2 hp2 => ⟨p2, rfl, ⟨_, hp2.sq⟩, ?_⟩⟩
    rw [c2] at hp2
    refine forF (over_tupM (as := r.drop 1) (f := V.int)) (fun i σ H' => Same H2 H' ∧ ∃ p bs v2 v3, σ = [some (.ref a), some (.ref p), v2, v3] ∧ H' p = some (.lst (refs bs)) ∧ RowsAt H' bs ∧ (bs.map (·.2)).Perm (jfold [r.take 1] ((r.drop 1).take i)))
      ⟨Same.rfl' _, l1, [(p1, r.take 1)], none, none, rfl, s2 _ _ hlA, fun b hb => ?_, by simp [jfold]⟩ (fun i σ H' _ h => (RowAt.same h.1 hp2).sq) (fun i σ H4 x H5 hi p s5 y => ?_) (fun σ H' p => ?_)
    · have : b = (p1, r.take 1) := by simpa using hb
      rw [this]
      exact RowAt.same s2 hpA
    · obtain ⟨s4, p, bs, v2, v3, rfl, hp, hrow, hperm⟩ := p
      obtain ⟨e, ee, rfl⟩ := y
      have hi' : i < (r.drop 1).length := hi
      rw [List.length_drop] at hi'
      have hne : r ≠ [] := by
        rintro rfl
        simp at hi'
      have hjs : (bs.map (·.2)).Perm (jn (r.take (i + 1))) := by
        have e1 : jn (r.take (i + 1)) = jfold [r.take 1] ((r.drop 1).take i) := by
          unfold jn
          rw [List.take_take, Nat.min_eq_left (by omega), List.drop_take]
          rfl
        rw [e1]
        exact hperm
      have tne : r.take (i + 1) ≠ [] := by
        cases r with
        | nil => exact absurd rfl hne
        | cons a r => simp
      have bne : ∀ b ∈ bs, b.2 ≠ [] := fun b hb => jn_ne tne (hjs.mem_iff.mp (List.mem_map.mpr ⟨b, hb, rfl⟩))
      have blen : ∀ b ∈ bs, b.2.length ≤ 40 := fun b hb => by
        have g := (good_jn _ (small_take hs (i + 1)).pos b.2 (hjs.mem_iff.mp (List.mem_map.mpr ⟨b, hb, rfl⟩))).len
        have := (small_take hs (i + 1)).len
        omega
      have bsl : bs.length ≤ 4096 := by
        have h1 := hjs.length_eq
        have h2 := jn_len_le (r.take (i + 1))
        rw [List.length_map] at h1
        have h3 : (2 : Nat) ^ (r.take (i + 1)).length ≤ 2 ^ 12 := Nat.pow_le_pow_right (by decide) (by rw [List.length_take]; omega)
        have h4 : (2 : Nat) ^ 12 = 4096 := by decide
        omega
      have hp5 := s5 _ _ hp
      have hrow5 := RowsAt.same s5 hrow
      refine ⟨_, rfl, p, rfl, ⟨_, SqL.of hp5⟩, fun D1 hD1 => ?_⟩
      refine lcF (as := bs) (over_listM (f := fun b : Addr × Row => V.ref b.1)) hD1 (fun b => some (b.2 ++ [e])) (fun H v y => ∃ p, v = V.ref p ∧ RowAt H p y) (fun H H' v y t h => by obtain ⟨p, h1, h2⟩ := h; exact ⟨p, h1, t.row h2⟩) (by rw [sizeLine_eq]; omega)
        (fun H' s' => SqL.of (s' _ _ hp5)) (fun j x b H6 C R eb y s6 hC hR => ?_) (fun H6 ws s6 hw pw => ?_)
      · obtain ⟨b', eb', rfl⟩ := y
        cases (eb.symm.trans eb')
        have mb := List.mem_of_getElem? eb
        have hb6 := RowAt.same s6 (hrow5 b mb)
        refine ⟨rfl, ?_⟩
        refine iteT (B := True) ?_
        refine ⟨_, rfl, _, rfl, by show 1 ≤ sizeLine; decide, fun t ht => ⟨b.1, t, b.2, [e], rfl, rfl, RowAt.same (same_new ht) hb6, upd_same, by have := blen b mb; show b.2.length + 1 ≤ 1000; omega, fun p7 H7 s7 h7 => hC _ _ _ rfl (Same.tr (same_new ht) s7) ⟨p7, rfl, h7⟩⟩⟩
      · rw [map_some] at pw
        obtain ⟨cs, rfl, ecs, hcs⟩ := rows_of pw
        refine ⟨_, rfl, p, rfl, ⟨_, SqL.of (s6 _ _ hp5)⟩, fun D2 hD2 => ?_⟩
        have hrow6 := RowsAt.same s6 hrow5
        refine lcF (as := bs) (over_listM (f := fun b : Addr × Row => V.ref b.1)) hD2 (fun b => some (mrg e b.2)) (fun H v y => ∃ p, v = V.ref p ∧ RowAt H p y) (fun H H' v y t h => by obtain ⟨p, h1, h2⟩ := h; exact ⟨p, h1, t.row h2⟩) (by rw [sizeLine_eq]; omega)
          (fun H' s' => SqL.of (s' _ _ (s6 _ _ hp5))) (fun j x b H7 C R eb y s7 hC hR => ?_) (fun H7 ws s7 hw7 pw7 => ?_)
        · obtain ⟨b', eb', rfl⟩ := y
          cases (eb.symm.trans eb')
          have mb := List.mem_of_getElem? eb
          have hb7 := RowAt.same s7 (hrow6 b mb)
          obtain ⟨c, z, ez⟩ := snoc_of (bne b mb)
          refine ⟨rfl, ?_⟩
          refine iteT (B := True) ?_
          refine ⟨_, rfl, _, rfl, _, rfl, b.1, b.2, rfl, hb7, fun p8 H8 s8 hp8 => ?_⟩
          rw [ez, rcut_last] at hp8
          have hb8 : RowAt H8 b.1 (c ++ [z]) := by
            rw [← ez]
            exact RowAt.same s8 hb7
          have cl : c.length ≤ 40 := by
            have := blen b mb
            rw [ez, List.length_append] at this
            omega
          refine ⟨_, rfl, _, rfl, b.1, _, _, _, rfl, rfl, hb8.sq, row_at_last, _, rfl, _, _, rfl, rfl, by show 1 ≤ sizeLine; decide, fun t ht => ⟨p8, t, c, [z + e], rfl, rfl, RowAt.same (same_new ht) hp8, upd_same, by show c.length + 1 ≤ 1000; omega, fun p9 H9 s9 h9 => hC _ _ _ rfl (Same.tr s8 (Same.tr (same_new ht) s9)) ⟨p9, rfl, ?_⟩⟩⟩
          rw [ez, mrg_snoc]
          exact h9
        · rw [map_some] at pw7
          obtain ⟨ds, rfl, eds, hds⟩ := rows_of pw7
          have hw6 := s7 _ _ hw
          have lc : cs.length = bs.length := by
            have := congrArg List.length ecs
            rw [List.length_map, List.length_map] at this
            exact this
          have ld : ds.length = bs.length := by
            have := congrArg List.length eds
            rw [List.length_map, List.length_map] at this
            exact this
          refine ⟨D1, D2, _, _, rfl, rfl, hw6, hw7, by rw [List.length_map, List.length_map, sizeLine_eq]; omega, fun l hl => ?_⟩
          refine ⟨Same.tr s4 (Same.tr s5 (Same.tr s6 (Same.tr s7 (same_new hl)))), l, cs ++ ds, _, _, rfl, ?_, fun b hb => ?_, ?_⟩
          · rw [upd_same]
            unfold refs
            rw [List.map_append]
          · rcases List.mem_append.mp hb with hb | hb
            · exact RowAt.same (Same.tr s7 (same_new hl)) (hcs b hb)
            · exact RowAt.same (same_new hl) (hds b hb)
          · have et : (r.drop 1).take (i + 1) = (r.drop 1).take i ++ [e] := by rw [List.take_succ, ee]; rfl
            rw [et, jfold_snoc, List.map_append, ecs, eds]
            have e7 : bs.map (fun b => b.2 ++ [e]) = (bs.map (·.2)).map (· ++ [e]) := by rw [List.map_map]; rfl
            have e8 : bs.map (fun b => mrg e b.2) = (bs.map (·.2)).map (mrg e) := by rw [List.map_map]; rfl
            rw [e7, e8]
            exact jstep_perm hperm
    · obtain ⟨s4, p, bs, v2, v3, rfl, hp, hrow, hperm⟩ := p
      rw [List.take_of_length_le (Nat.le_refl _)] at hperm
      have hj : (bs.map (·.2)).Perm (jn r) := hperm
      have sH := Same.tr sA (Same.tr s2 s4)
      refine ⟨_, rfl, p, bs, rfl, SqL.of hp, hrow, ?_, fun bs' l pm hl => q l bs' _ (Same.tr sH (same_new hl)) upd_same (RowsAt.same (same_new hl) fun b hb => hrow b (pm.mem_iff.mp hb)) ((pm.map (·.2)).trans hj)⟩
      by_cases hne : r = []
      · refine .inr ?_
        have := hj.length_eq
        rw [hne, jn_nil, List.length_map] at this
        simp at this
        omega
      · refine .inl fun b hb => ?_
        exact jn_ne hne (hj.mem_iff.mp (List.mem_map.mpr ⟨b, hb, rfl⟩))
end
end Rj
set_option Elab.async false
set_option linter.all false
set_option maxRecDepth 100000
set_option maxHeartbeats 4000000
set_option exponentiation.threshold 100000
/-! The law's own dicts; a row drawn. -/
namespace Rj
open PySem PySem.Spec PyProof.Rows L2
/-- a pair of a row and a ratio -/
def PairE (K : PySem.W.Frag) (H : Hp) (v : V) (e : Row × Rat) : Prop := ∃ t b p, v = .ref t ∧ SqT K H t [.ref b, .ref p] ∧ RowAt H b e.1 ∧ RatAt K H p e.2
theorem PairE.tup {K : PySem.W.Frag} {H H' : Hp} {v : V} {e : Row × Rat} (t : Tup H H') (h : PairE K H v e) : PairE K H' v e := by
  obtain ⟨a, b, p, h1, h2, h3, h4⟩ := h
  exact ⟨a, b, p, h1, t.sqT h2, t.row h3, t.rat h4⟩
theorem pairs_dict {K : PySem.W.Frag} {H : Hp} : ∀ {ws : List V} {m : Mx}, Paired (PairE K H) ws m → ∃ (ps : List Addr) (kvs : List (List Key × V)), ws = ps.map V.ref ∧
    Paired (fun p (kv : List Key × V) => ∃ b, SqT K H p [.ref b, kv.2] ∧ H b = some (.tup (kv.1.map kV))) ps kvs ∧ Paired (EntR K H) kvs m
  | _, _, .nil => ⟨[], [], rfl, .nil, .nil⟩
  | _, _, .cons h t => by
    obtain ⟨ps, kvs, h1, h2, h3⟩ := pairs_dict t
    obtain ⟨a, b, p, rfl, g2, g3, g4⟩ := h
    rename_i e _ _
    refine ⟨a :: ps, (KR e.1, .ref p) :: kvs, by rw [h1]; rfl, .cons ⟨b, g2, by rw [KR_kV]; exact g3⟩ h2, .cons ⟨rfl, p, rfl, g4⟩ h3⟩
theorem putsK_new {ps : List (List Key × V)} : ∀ {kvs : List (List Key × V)}, ((kvs ++ ps).map (·.1)).Nodup → putsK kvs ps = kvs ++ ps := by
  induction ps with
  | nil => intro kvs _; rw [List.append_nil]; rfl
  | cons p ps ih =>
    intro kvs h
    have hno : ¬ (kvs.any fun kv => decide (kv.1 = p.1)) = true := by
      rw [List.any_eq_true]
      rintro ⟨e, he, hk⟩
      have hk' := of_decide_eq_true hk
      rw [List.map_append, List.map_cons] at h
      exact (List.nodup_append.mp h).2.2 e.1 (List.mem_map.mpr ⟨e, he, rfl⟩) p.1 (by simp) hk'
    have e : putK kvs p.1 p.2 = kvs ++ [p] := by
      unfold putK
      rw [if_neg hno]
    show putsK (putK kvs p.1 p.2) ps = kvs ++ p :: ps
    rw [e, ih (by rw [List.append_assoc]; exact h), List.append_assoc]
    rfl
theorem keys_nodup {K : PySem.W.Frag} {H : Hp} {kvs : List (List Key × V)} {m : Mx} (h : Paired (EntR K H) kvs m) (hn : (m.map (·.1)).Nodup) : (kvs.map (·.1)).Nodup := by
  rw [mx_keys h]
  exact nodup_map_on (fun a _ b _ e => KR_inj e) hn
/-- what the pair of a sign is -/
def spSigned (K : PySem.W.Frag) : Sp := fun vs H Q _ => ∃ (a : Addr) (r : Row), vs = [.ref a] ∧ RowAt H a r ∧ Small r ∧ r.length ≤ 12 ∧ ∀ (p : Addr) (js : List Row) (H' : Hp), Same H H' → js.Perm (jn r) → UAt K H' p (strictM r js) → Q (.ref p) H'
def spDrawn : Sp := fun vs H Q _ => ∃ (d : Addr) (W : Int), vs = [.ref d, .int W] ∧ DiceAt H d ∧ 0 ≤ W ∧ W < 10 ∧ ∀ (p : Addr) (r : Row) (H' : Hp), But d H H' → DiceAt H' d → RowAt H' p r → (∀ x ∈ r, 0 < x) → r.sum = W → Q (.ref p) H'
theorem sgn_int (n m : Nat) : (1 - 2 * (((n : Int) - (m : Int)) % 2) : Int) = (sg (n + m)).num := by
  unfold sg
  by_cases z : (n + m) % 2 = 0
  · rw [if_pos z]
    have : ((n : Int) - (m : Int)) % 2 = 0 := by omega
    rw [this]
    rfl
  · rw [if_neg z]
    have : ((n : Int) - (m : Int)) % 2 = 1 := by omega
    rw [this]
    rfl
theorem sg_den (n : Nat) : ((sg n).den : Int) = 1 := by
  unfold sg
  split <;> rfl
theorem sgn_rat {K : PySem.W.Frag} {H : Hp} {t : Addr} {n m : Nat} (h : SqT K H t [.int (1 - 2 * (((n : Int) - (m : Int)) % 2)), .int 1]) : RatAt K H t (sg (n + m)) := by
  unfold RatAt
  rw [sg_den, ← sgn_int]
  exact h
section
variable {P : Program} {w : World} {K : PySem.W.Frag} {mg : Str → Option Value} {base : Heap} {CK CM : Addr}
theorem dict_made {m : Mx} {H : Hp} {ws : List V} {D : Addr} {Q : VK} (hn : (m.map (·.1)).Nodup) (hw : H D = some (.lst ws)) (pw : Paired (PairE K H) ws m) (q : ∀ p H', H p = none → Same H H' → UAt K H' p m → Q (.ref p) H') : rDictPT K [.ref D] H Q := by
  obtain ⟨ps, kvs, rfl, h2, h3⟩ := pairs_dict pw
  refine ⟨D, ps, kvs, rfl, SqL.of hw, h2, fun p hp => q p _ hp (same_new hp) ⟨kvs, ?_, paired_mono (EntR.same (same_new hp)) h3⟩⟩
  rw [upd_same, putsK_new (by rw [List.nil_append]; exact keys_nodup h3 hn)]
  rfl
theorem has_signed (D : At K mg "_law_signed" sLSigned) (T : Tx K mg) (J : Has P w K mg base 1 "_law_joinings" spJoinIn) : Has P w K mg base 2 "_law_signed" (spSigned K) := by
  refine D.has scLSigned (fun vs H Q E h => ?_) (fun _ _ _ _ _ _ us hl => match us, hl with | [_], _ => rfl) (fun f cdv A outer s H vs Q E hr h => ?_)
  · obtain ⟨a, r, rfl, _⟩ := h
    rfl
  · obtain ⟨a, r, rfl, ha, hs, h12, q⟩ := h
    refine ⟨_, pss_one (ps_ret (pe_callTy (cr_dictPT (by rfl) (roomU hr)) rfl T.dict PyProof.Rows.boot_dict (pa_cons (pe_lc (own := [("_law_one", 1)]) (g := gName 1) (tt := tYes) rfl scLSigned.nd (pi_list (pe_cal J hr (pa_cons (pv 0) pa_nil)))
      (blkOk_by (N := ["_law_row", "_law_one"]) (sc := defScope sLSigned) (by decide +kernel)) (fun _ _ _ _ _ => pg_name (i := 1) scLSigned.nd rfl (Or.inl rfl)) (fun _ _ _ _ _ => pts_nil)
      (fun _ _ _ _ _ => pe_tup (pa_cons (pv 1) (pa_cons (pe_tup (pa_cons (pe_op op_sub pe_int (pe_op op_mul pe_int (pe_op op_mod (pe_op op_sub (pe_callB (r := rLn K) call_lenS rfl T.len PySem.boot_len (pa_cons (pv 0) pa_nil)) (pe_callB (r := rLn K) call_lenS rfl T.len PySem.boot_len (pa_cons (pv 1) pa_nil))) pe_int)))
        (pa_cons pe_int pa_nil))) pa_nil)))) pa_nil))), ?_⟩
    refine ⟨_, rfl, a, r, rfl, ha, hs, h12, fun l bs H1 s1 hl hrow pm => ⟨l, rfl, ⟨_, SqL.of hl⟩, fun D hD => ?_⟩⟩
    have ha1 := RowAt.same s1 ha
    have hmx := mixed_of hs h12 pm (fun j => sg (r.length + j.length))
    have bsz : bs.length ≤ 4096 := by
      have := hmx.sz
      rw [List.length_map, List.length_map] at this
      exact this
    refine lcF (as := bs) (over_listM (f := fun b : Addr × Row => V.ref b.1)) hD (fun b => some (b.2, sg (r.length + b.2.length))) (PairE K) (fun H H' v y t h => h.tup t) (by rw [sizeLine_eq]; omega) (fun H' s' => SqL.of (s' _ _ hl)) (fun j x b H2 C R eb y s2 hC hR => ?_) (fun H2 ws s2 hw pw => ?_)
    · obtain ⟨b', eb', rfl⟩ := y
      cases (eb.symm.trans eb')
      have hb2 := RowAt.same s2 (hrow b (List.mem_of_getElem? eb))
      refine ⟨rfl, ?_⟩
      refine iteT (B := True) ?_
      refine ⟨_, rfl, _, rfl, a, _, rfl, .inr (RowAt.same s2 ha1).sq, _, rfl, b.1, _, rfl, .inr hb2.sq, _, _, rfl, rfl, _, _, rfl, rfl, (by show (0 : Int) < 2; decide), _, _, rfl, rfl, .inl ⟨by decide, by decide⟩, _, _, rfl, rfl, line2, fun t ht => ?_⟩
      rw [List.length_map, List.length_map] at *
      refine ⟨line2, fun t2 ht2 => hC _ _ _ rfl (Same.tr (same_new ht) (same_new ht2)) ⟨t2, b.1, t, rfl, SqT.of upd_same, RowAt.same (Same.tr (same_new ht) (same_new ht2)) hb2, sgn_rat (SqT.of (same_new ht2 _ _ upd_same))⟩⟩
    · rw [map_some] at pw
      have e : bs.map (fun b => (b.2, sg (r.length + b.2.length))) = strictM r (bs.map (·.2)) := by
        unfold strictM
        rw [List.map_map]
        rfl
      rw [e] at pw
      exact dict_made hmx.nd hw pw fun p H3 _ s3 hu => q p _ H3 (Same.tr s1 (Same.tr s2 s3)) pm hu
theorem has_drawn (D : At K mg "_law_row_drawn" sLDrawn) (T : Tx K mg) (R : Has P w K mg base 1 "_law_roll" spRoll) (PK : Has P w K mg base 2 "_law_pick" (spPick K)) : Has P w K mg base 3 "_law_row_drawn" spDrawn := by
  refine D.has scLDrawn (fun vs H Q E h => ?_) (fun _ _ _ _ _ _ us hl => match us, hl with | [_, _], _ => rfl) (fun f cdv A outer s H vs Q E hr h => ?_)
  · obtain ⟨d, W, rfl, _⟩ := h
    rfl
  · obtain ⟨d, W, rfl, hd, h0, h10, q⟩ := h
    refine ⟨_, pss_cons (ps_par (i := 2) (j := 3) rfl scLDrawn.nd rfl rfl (by decide) rfl rfl (pa_cons (pe_lst pa_nil) (pa_cons (pv 1) pa_nil)) (by rfl))
      (pss_cons (ps_while PassesOwn.never (pt_cmpR op_gt (pv 3) pe_int (nomark _)) (pss_cons (ps_set (i := 4) scLDrawn.nd rfl (Or.inl rfl) (pe_op op_add pe_int (pe_cal R hr (pa_cons (pv 0) (pa_cons (pe_callB (call_min2 (by rfl)) rfl T.min PyProof.Rows.boot_min
          (pa_cons (pv 3) (pa_cons (pe_cal PK hr (pa_cons (pv 0) (pa_cons (pe_lst (pa_cons pe_int (pa_cons pe_int (pa_cons pe_int (pa_cons pe_int (pa_cons pe_int pa_nil)))))) pa_nil))) pa_nil))) pa_nil)))))
        (pss_cons (ps_expr (pe_bm PySem.F.plainAttrs_list PySem.F.slot_list_append PySem.F.type_list_append mt_append (pv 2) (pa_cons (pv 4) pa_nil)))
        (pss_one (ps_set (i := 3) scLDrawn.nd rfl (Or.inl rfl) (pe_op op_sub (pv 3) (pv 4)))))))
      (pss_one (ps_ret (pe_tupleOf rfl T.tuple (pv 2))))), ?_⟩
    refine ⟨Nat.zero_le _, fun l hl => ⟨_, rfl, _, _, rfl, ?_⟩⟩
    have nld : l ≠ d := by
      obtain ⟨x, y, z, hd⟩ := hd
      exact ne_of_none hd hl |>.symm
    have hd1 : DiceAt (upd H l (.lst [])) d := by
      obtain ⟨x, y, z, hd⟩ := hd
      exact ⟨x, y, z, by rw [upd_ne (Ne.symm nld)]; exact hd⟩
    refine while_by (fun σ H' => But d H H' ∧ DiceAt H' d ∧ ∃ (xs : List Int) (L : Int) (v4 : Option V), σ = [some (.ref d), some (.int W), some (.ref l), some (.int L), v4] ∧ H' l = some (.lst (xs.map V.int)) ∧ (∀ x ∈ xs, 0 < x) ∧ L = W - xs.sum ∧ 0 ≤ L) (fun σ _ => match σ with | [_, _, _, some (.int y), _] => y.toNat | _ => 0)
      ⟨fun b o n e => same_new hl _ _ e, hd1, [], W, none, rfl, upd_same, (fun x hx => by cases hx), by simp, h0⟩ (fun σ H1 p => ?_)
      (fun σ H1 R R' m h => by obtain ⟨v, hv, i, j, e1, e2, k, ek, r⟩ := h; exact ⟨v, hv, i, j, e1, e2, k, ek, m _ _ r⟩)
    obtain ⟨b1, d1, xs, L, v4, rfl, hl1, hp, eL, hL⟩ := p
    refine ⟨_, rfl, _, _, rfl, rfl, _, rfl, ?_⟩
    have xlen : (xs.length : Int) ≤ xs.sum := pos_len hp
    by_cases hy : (0 : Int) < L
    · rw [decide_eq_true hy]
      refine iteT ⟨_, rfl, _, rfl, _, rfl, by show 5 ≤ sizeLine; decide, fun l5 hl5 => ?_⟩
      have n5 : l5 ≠ d := by
        obtain ⟨x, y, z, hd⟩ := d1
        exact ne_of_none hd hl5 |>.symm
      have s2 : Same H1 (upd H1 l5 (.lst [.int 1, .int 2, .int 2, .int 3, .int 9])) := same_new hl5
      have d2 : DiceAt (upd H1 l5 (.lst [.int 1, .int 2, .int 2, .int 3, .int 9])) d := by
        obtain ⟨x, y, z, hd⟩ := d1
        exact ⟨x, y, z, s2 _ _ hd⟩
      refine ⟨d, l5, [1, 2, 2, 3, 9], rfl, d2, SqL.of upd_same, n5, by decide, by decide, fun n H3 hn b3 d3 => ?_⟩
      have hn9 : 1 ≤ n ∧ n ≤ 9 := by
        simp at hn
        omega
      refine ⟨_, _, rfl, d, (if n < L then n else L), rfl, d3, by split <;> omega, by split <;> omega, fun k H4 k0 k1 b4 d4 => ?_⟩
      have k2 : k < L := by split at k1 <;> omega
      have hl4 : H4 l = some (.lst (xs.map V.int)) := b4 _ _ nld (b3 _ _ nld (s2 _ _ hl1))
      refine ⟨_, _, rfl, rfl, ?_⟩
      refine ⟨_, rfl, .inl ⟨rfl, _, SqL.of hl4⟩, _, rfl, l, _, _, rfl, rfl, hl4, by rw [List.length_map, sizeLine_eq]; omega, ?_⟩
      refine ⟨_, rfl, _, rfl, _, _, rfl, rfl, ⟨?_, ?_, xs ++ [1 + k], L - (1 + k), some (.int (1 + k)), rfl, ?_, fun x hx => ?_, ?_, by omega⟩, ?_⟩
      · intro b o n e
        rw [upd_ne (ne_of_none e hl)]
        exact b4 _ _ n (b3 _ _ n (s2 _ _ (b1 _ _ n e)))
      · obtain ⟨x, y, z, hd⟩ := d4
        exact ⟨x, y, z, by rw [upd_ne (Ne.symm nld)]; exact hd⟩
      · rw [upd_same, List.map_append]
        rfl
      · rcases List.mem_append.mp hx with hx | hx
        · exact hp x hx
        · have : x = 1 + k := by simpa using hx
          omega
      · rw [List.sum_append, eL]
        simp
        omega
      · show (L - (1 + k)).toNat < L.toNat
        omega
    · rw [decide_eq_false hy]
      refine iteF ⟨_, rfl, .inl ⟨l, _, rfl, SqL.of hl1, fun p hp' => q p xs _ ?_ ?_ ?_ hp (by omega)⟩⟩
      · intro b o n e
        exact same_new hp' _ _ (b1 _ _ n e)
      · obtain ⟨x, y, z, hd⟩ := d1
        exact ⟨x, y, z, same_new hp' _ _ hd⟩
      · unfold RowAt
        rw [upd_same]
end
end Rj
set_option Elab.async false
set_option linter.all false
set_option maxRecDepth 100000
set_option maxHeartbeats 4000000
set_option exponentiation.threshold 100000
/-! The law's own sums of dicts. -/
namespace Rj
open PySem PySem.Spec PyProof.Rows L2
/-- r gets q more -/
def addM : Mx → Row → Rat → Mx
  | [], r, q => [(r, 0 + q)]
  | (a, b) :: m, r, q => if a = r then (a, b + q) :: m else (a, b) :: addM m r q
theorem val_cons (g : Row → Rat) (e : Row × Rat) (m : Mx) : val g (e :: m) = e.2 * g e.1 + val g m := rfl
theorem val_add (g : Row → Rat) (r : Row) (q : Rat) : ∀ m : Mx, val g (addM m r q) = val g m + q * g r
  | [] => by
    show (0 + q) * g r + 0 = 0 + q * g r
    grind
  | (a, b) :: m => by
    unfold addM
    by_cases e : a = r
    · rw [if_pos e, val_cons, val_cons]
      subst e
      show (b + q) * g a + val g m = b * g a + val g m + q * g a
      grind
    · rw [if_neg e, val_cons, val_cons, val_add g r q m]
      grind
theorem add_keys (r : Row) (q : Rat) : ∀ (m : Mx) (x : Row), x ∈ (addM m r q).map (·.1) ↔ x ∈ m.map (·.1) ∨ x = r
  | [], x => by simp [addM]
  | (a, b) :: m, x => by
    unfold addM
    by_cases e : a = r
    · rw [if_pos e]
      subst e
      simp
      intro h
      exact .inl h
    · rw [if_neg e, List.map_cons, List.map_cons, List.mem_cons, List.mem_cons, add_keys r q m x]
      constructor
      · rintro (h | h | h)
        · exact .inl (.inl h)
        · exact .inl (.inr h)
        · exact .inr h
      · rintro ((h | h) | h)
        · exact .inl h
        · exact .inr (.inl h)
        · exact .inr (.inr h)
theorem add_nodup (r : Row) (q : Rat) : ∀ {m : Mx}, (m.map (·.1)).Nodup → ((addM m r q).map (·.1)).Nodup
  | [], _ => by simp [addM]
  | (a, b) :: m, h => by
    rw [List.map_cons, List.nodup_cons] at h
    unfold addM
    by_cases e : a = r
    · rw [if_pos e, List.map_cons, List.nodup_cons]
      exact h
    · rw [if_neg e, List.map_cons, List.nodup_cons]
      refine ⟨fun hm => ?_, add_nodup r q h.2⟩
      rcases (add_keys r q m a).mp hm with z | z
      · exact h.1 z
      · exact e z
/-- whole numbers, not above B -/
def IntM (B : Nat) (m : Mx) : Prop := ∀ e ∈ m, Bd 1 B e.2
theorem IntM.mono {B C : Nat} {m : Mx} (h : IntM B m) (l : B ≤ C) : IntM C m := fun e he => (h e he).mono l
theorem pm_bd {q : Rat} (h : Pm q) : Bd 1 1 q := h.bd
theorem add_int {B : Nat} {r : Row} {q : Rat} (hq : Pm q) : ∀ {m : Mx}, IntM B m → IntM (B + 1) (addM m r q)
  | [], _ => fun e he => by
    have : e = (r, 0 + q) := by simpa [addM] using he
    rw [this]
    show Bd 1 (B + 1) (0 + q)
    rw [Rat.zero_add]
    exact hq.bd.mono (by omega)
  | (a, b) :: m, h => by
    unfold addM
    by_cases z : a = r
    · rw [if_pos z]
      intro e he
      rcases List.mem_cons.mp he with rfl | he
      · exact Bd.add (by decide) (h (a, b) (by simp)) hq.bd
      · exact (h e (List.mem_cons_of_mem _ he)).mono (by omega)
    · rw [if_neg z]
      intro e he
      rcases List.mem_cons.mp he with rfl | he
      · exact (h (a, b) (by simp)).mono (by omega)
      · exact add_int hq (fun f hf => h f (List.mem_cons_of_mem _ hf)) e he
theorem lookup_in : ∀ {m : Mx} {r : Row} {q : Rat}, m.lookup r = some q → (r, q) ∈ m
  | [], _, _, h => by cases h
  | (a, b) :: m, r, q, h => by
    rw [List.lookup_cons] at h
    by_cases z : r = a
    · subst z
      rw [beq_self_eq_true] at h
      cases h
      simp
    · rw [beq_eq_false_iff_ne.mpr z] at h
      exact List.mem_cons_of_mem _ (lookup_in h)
theorem int_sz {B : Nat} {q : Rat} (h : Bd 1 B q) (hB : B ≤ 2 ^ 40) : Sz 4000 q := h.sz (by decide) (Nat.lt_of_le_of_lt hB (Nat.pow_lt_pow_right (by decide) (by decide))) (Nat.one_lt_two_pow (by decide))
theorem old_sz {B : Nat} {m : Mx} {r : Row} (h : IntM B m) (hB : B ≤ 2 ^ 40) : Sz 4000 ((m.lookup r).getD 0) := by
  cases e : m.lookup r with
  | none => exact int_sz (B := 0) (Bd.zero 1 0) (by decide)
  | some q => exact int_sz (h _ (lookup_in e)) hB
theorem putK_ne {kvs : List (List Key × V)} {e : List Key × V} {k : List Key} {v : V} (h : ¬ e.1 = k) : putK (e :: kvs) k v = e :: putK kvs k v := by
  unfold putK
  rw [List.any_cons, decide_eq_false h, Bool.false_or]
  split
  · rw [List.map_cons, if_neg h]
  · rfl
theorem map_same {kvs : List (List Key × V)} {k : List Key} {v : V} (h : k ∉ kvs.map (·.1)) : (kvs.map fun kv => if kv.1 = k then (kv.1, v) else kv) = kvs := by
  induction kvs with
  | nil => rfl
  | cons e kvs ih =>
    rw [List.map_cons, List.mem_cons, not_or] at h
    rw [List.map_cons, if_neg (fun z => h.1 z.symm), ih h.2]
theorem putK_eq {kvs : List (List Key × V)} {e : List Key × V} {k : List Key} {v : V} (h : e.1 = k) (hn : k ∉ kvs.map (·.1)) : putK (e :: kvs) k v = (e.1, v) :: kvs := by
  unfold putK
  rw [List.any_cons, decide_eq_true h, Bool.true_or, if_pos rfl, List.map_cons, if_pos h, map_same hn]
theorem mx_add {K : PySem.W.Frag} {H : Hp} {kvs : List (List Key × V)} {m : Mx} (h : Paired (EntR K H) kvs m) (hn : (m.map (·.1)).Nodup) {r : Row} {q : Rat} {p : Addr} (hv : RatAt K H p ((m.lookup r).getD 0 + q)) : Paired (EntR K H) (putK kvs (KR r) (.ref p)) (addM m r q) := by
  induction h with
  | nil => exact .cons ⟨rfl, p, rfl, hv⟩ .nil
  | @cons e f kvs m g t ih =>
    obtain ⟨a, b⟩ := f
    rw [List.map_cons, List.nodup_cons] at hn
    unfold addM
    rw [List.lookup_cons] at hv
    by_cases z : a = r
    · subst z
      rw [beq_self_eq_true] at hv
      have hno : KR a ∉ kvs.map (·.1) := by
        rw [mx_keys t]
        intro hm
        obtain ⟨x, hx, ex⟩ := List.mem_map.mp hm
        exact hn.1 (by rw [← KR_inj ex]; exact hx)
      rw [if_pos rfl, putK_eq g.1 hno]
      exact .cons ⟨g.1, p, rfl, hv⟩ t
    · rw [beq_eq_false_iff_ne.mpr (fun y => z y.symm)] at hv
      rw [if_neg z, putK_ne (fun y => z (KR_inj (g.1.symm.trans y)))]
      exact .cons g (ih hn.2 hv)
theorem add_len (r : Row) (q : Rat) : ∀ m : Mx, (addM m r q).length ≤ m.length + 1
  | [] => by simp [addM]
  | (a, b) :: m => by
    unfold addM
    have := add_len r q m
    split <;> simp <;> omega
/-- rows of a weight W, 9 at most, all different -/
structure Fam (W : Int) (m : Mx) : Prop where
  nine : ∀ e ∈ m, Nine e.1
  sum : ∀ e ∈ m, e.1.sum = W
  nd : (m.map (·.1)).Nodup
theorem nodup_len {α : Type} [DecidableEq α] : ∀ {l m : List α}, l.Nodup → (∀ x ∈ l, x ∈ m) → l.length ≤ m.length
  | [], _, _, _ => Nat.zero_le _
  | a :: l, m, h, s => by
    rw [List.nodup_cons] at h
    have ha := s a (by simp)
    have h2 := nodup_len (m := m.erase a) h.2 fun x hx => (List.mem_erase_of_ne (fun z => h.1 (by rw [← z]; exact hx))).mpr (s x (List.mem_cons_of_mem _ hx))
    rw [List.length_erase_of_mem ha] at h2
    have := List.length_pos_of_mem ha
    rw [List.length_cons]
    omega
theorem comps_len : (comps 9 9).length = 512 := by decide +kernel
theorem Fam.len {W : Int} {m : Mx} (h : Fam W m) : m.length ≤ 512 := by
  have := nodup_len (m := comps 9 9) h.nd fun r hr => by
    obtain ⟨e, he, rfl⟩ := List.mem_map.mp hr
    exact mem_comps (h.nine e he).pos (h.nine e he).sum (Nat.le_refl _)
  rw [comps_len, List.length_map] at this
  exact this
theorem Fam.mixed {W : Int} {m : Mx} (h : Fam W m) : Mixed m := by
  refine ⟨h.nd, ?_, by have := h.len; omega⟩
  by_cases z : W = 0
  · refine .inr ?_
    have all : ∀ r ∈ m.map (·.1), r ∈ [([] : Row)] := fun r hr => by
      obtain ⟨e, he, rfl⟩ := List.mem_map.mp hr
      have h1 := pos_len (h.nine e he).pos
      have h2 := h.sum e he
      have : e.1.length = 0 := by omega
      rw [List.length_eq_zero_iff.mp this]
      simp
    exact nodup_len h.nd all
  · refine .inl fun r hr => ?_
    obtain ⟨e, he, rfl⟩ := List.mem_map.mp hr
    intro y
    have h2 := h.sum e he
    rw [y] at h2
    exact z (by simpa using h2.symm)
theorem Fam.add {W : Int} {m : Mx} (h : Fam W m) {r : Row} {q : Rat} (hr : Nine r) (hs : r.sum = W) : Fam W (addM m r q) := by
  refine ⟨fun e he => ?_, fun e he => ?_, add_nodup r q h.nd⟩
  · rcases (add_keys r q m e.1).mp (List.mem_map.mpr ⟨e, he, rfl⟩) with z | z
    · obtain ⟨f, hf, ef⟩ := List.mem_map.mp z
      rw [← ef]
      exact h.nine f hf
    · rw [z]
      exact hr
  · rcases (add_keys r q m e.1).mp (List.mem_map.mpr ⟨e, he, rfl⟩) with z | z
    · obtain ⟨f, hf, ef⟩ := List.mem_map.mp z
      rw [← ef]
      exact h.sum f hf
    · rw [z]
      exact hs
theorem Fam.sub {W : Int} {m m' : Mx} (h : Fam W m) (p : m'.Perm (bare m)) : Fam W m' :=
  ⟨perm_all h.nine p, perm_all h.sum p, ((p.map (·.1)).nodup_iff).mpr (bare_nodup h.nd)⟩
theorem val_bare (g : Row → Rat) : ∀ m : Mx, val g (bare m) = val g m
  | [] => rfl
  | e :: m => by
    have ih := val_bare g m
    unfold bare at ih ⊢
    rw [List.filter_cons, val_cons, ← ih]
    by_cases z : e.2 = 0
    · rw [if_neg (by simp [z]), z, Rat.zero_mul, Rat.zero_add]
    · rw [if_pos (by simp [z]), val_cons]
theorem val_perm (g : Row → Rat) {m m' : Mx} (p : m.Perm m') : val g m = val g m' := sm_perm _ p
def spPut (K : PySem.W.Frag) : Sp := fun vs H Q _ => ∃ (d b c : Addr) (m : Mx) (r : Row) (q : Rat), vs = [.ref d, .ref b, .ref c] ∧ UAt K H d m ∧ (m.map (·.1)).Nodup ∧ RowAt H b r ∧ RatAt K H c q ∧ Sz 4000 ((m.lookup r).getD 0) ∧ Sz 4000 q ∧ m.length ≤ 10000 ∧
  ∀ H', But d H H' → UAt K H' d (addM m r q) → Q .non H'
def spLBare (K : PySem.W.Frag) : Sp := fun vs H Q _ => ∃ (d : Addr) (m : Mx), vs = [.ref d] ∧ DAt K H d m ∧ Mixed m ∧ ∀ p m' H', H p = none → Same H H' → UAt K H' p m' → m'.Perm (bare m) → Q (.ref p) H'
def spLSum (K : PySem.W.Frag) : Sp := fun vs H Q _ => ∃ (a b c : Addr) (m n : Mx) (q : Rat) (W : Int) (B : Nat), vs = [.ref a, .ref b, .ref c] ∧ DAt K H a m ∧ FAt K H b n ∧ RatAt K H c q ∧ Fam W m ∧ Fam W n ∧ IntM B m ∧ B ≤ 2 ^ 30 ∧ (∀ e ∈ n, Pm e.2) ∧ Pm q ∧
  ∀ (p : Addr) (m' : Mx) (H' : Hp), H p = none → Same H H' → UAt K H' p m' → Fam W m' → IntM (B + 512) m' → (∀ g, val g m' = val g m + q * val g n) → (∀ e ∈ m', e.2 ≠ 0) → Q (.ref p) H'
section
variable {P : Program} {w : World} {K : PySem.W.Frag} {mg : Str → Option Value} {base : Heap} {CK CM : Addr}
theorem has_put (D : At K mg "_law_put" sLPut) (PL : Has P w K mg base 3 "_law_plus" (spTwo K (· + ·))) : Has P w K mg base 4 "_law_put" (spPut K) := by
  refine D.has scLPut (fun vs H Q E h => ?_) (fun _ _ _ _ _ _ us hl => match us, hl with | [_, _, _], _ => rfl) (fun f cdv A outer s H vs Q E hr h => ?_)
  · obtain ⟨d, b, c, m, r, q, rfl, _⟩ := h
    rfl
  · obtain ⟨d, b, c, m, r, q, rfl, ⟨kvs, hd, pr⟩, hn, hb, hc, ho, hq, hz, k⟩ := h
    refine ⟨_, pss_one (ps_dput (roomU hr) (pv 0) (pv 1) (pe_cal PL hr (pa_cons (pe_dget2 (roomU hr) (pv 0) (pv 1) (pe_tup (pa_cons pe_int (pa_cons pe_int pa_nil))) ⟨rfl, rfl, rfl, rfl⟩) (pa_cons (pv 2) pa_nil))) rfl), ?_⟩
    refine ⟨_, rfl, d, rfl, .inr ⟨kvs, .inl hd⟩, _, rfl, line2, fun t ht => ?_⟩
    have s1 : Same H (upd H t (.tup [.int 0, .int 1])) := same_new ht
    have ht1 : RatAt K (upd H t (.tup [.int 0, .int 1])) t 0 := rat_zero (SqT.of upd_same)
    generalize upd H t (.tup [.int 0, .int 1]) = H1 at s1 ht1 ⊢
    have hd1 := s1 _ _ hd
    have pr1 := paired_mono (EntR.same s1) pr
    have hb1 := RowAt.same s1 hb
    have old : ∃ p, (valV kvs (KR r)).getD (.ref t) = .ref p ∧ RatAt K H1 p ((m.lookup r).getD 0) := by
      cases e : m.lookup r with
      | none => exact ⟨t, by rw [mx_none pr e]; rfl, ht1⟩
      | some q0 =>
        obtain ⟨p, h1, h2⟩ := mx_get pr1 e
        exact ⟨p, by rw [h1]; rfl, h2⟩
    obtain ⟨p, e1, e2⟩ := old
    refine ⟨valV kvs (KR r), DGet.t hd1 (by rw [KR_kV]; exact hb1), ?_⟩
    rw [e1]
    refine ⟨_, rfl, p, c, _, q, rfl, e2, RatAt.same s1 hc, ho, hq, fun c2 H2 s2 n2 => ?_⟩
    have hd2 := s2 _ _ hd1
    have lk := Paired.length pr
    refine ⟨_, rfl, _, rfl, d, _, rfl, DPut.t (k := KR r) hd2 (by rw [KR_kV]; exact RowAt.same s2 hb1) (by rw [sizeLine_eq]; omega), k _ ?_ ⟨_, upd_same, ?_⟩⟩
    · intro x o n e
      rw [upd_ne n]
      exact s2 _ _ (s1 _ _ e)
    · have tp : Tup H2 (upd H2 d (.dT (putK kvs (KR r) (.ref c2)))) := tup_dT hd2
      exact mx_add (paired_mono (Tup.ent (Tup.tr (Same.tup s2) tp)) pr1) hn (tp.rat n2.at_)
theorem has_lbare (D : At K mg "_law_bare" sLBare) (T : Tx K mg) : Has P w K mg base 1 "_law_bare" (spLBare K) := by
  refine D.has scLBare (fun vs H Q E h => ?_) (fun _ _ _ _ _ _ us hl => match us, hl with | [_], _ => rfl) (fun f cdv A outer s H vs Q E hr h => ?_)
  · obtain ⟨d, m, rfl, _⟩ := h
    rfl
  · obtain ⟨d, m, rfl, hd, hm, q⟩ := h
    have u1 := roomU (n := 1) hr
    refine ⟨_, pss_one (ps_ret (pe_callTy (cr_dictPT (by rfl) (roomU hr)) rfl T.dict PyProof.Rows.boot_dict (pa_cons (pe_lc (own := [("_law_key", 1)]) (g := gName 1) rfl scLBare.nd (pi_list (pe_callB (cr_sortD (by rfl) (roomU hr)) rfl T.sorted PyProof.Rows.boot_sorted (pa_cons (pv 0) pa_nil)))
      (blkOk_by (N := ["_law_terms", "_law_key"]) (sc := defScope sLBare) (by decide +kernel)) (fun _ _ _ _ _ => pg_name (i := 1) scLBare.nd rfl (Or.inl rfl))
      (fun _ _ _ _ _ => pts_one (pt_cmpR op_ne (pe_ix (r := rIxT K) ix_tup (pe_dget u1 (pv 0) (pv 1) (fun _ _ => rfl)) pe_int (fun _ _ => rfl)) pe_int (nomark _)))
      (fun _ _ _ _ _ => pe_tup (pa_cons (pv 1) (pa_cons (pe_dget u1 (pv 0) (pv 1) (fun _ _ => rfl)) pa_nil)))) pa_nil))), ?_⟩
    obtain ⟨kvs, hr0, pr⟩ := hd
    refine ⟨_, rfl, d, kvs, m.map (·.1), rfl, hr0, mx_keys pr, (show (∀ r ∈ m.map (·.1), r ≠ []) ∨ (m.map (·.1)).length ≤ 1 from hm.so), fun bs p pm hrow hp => ⟨p, rfl, ⟨_, SqL.of upd_same⟩, fun D hD => ?_⟩⟩
    have hrow1 : RowsAt (upd H p (.lst (refs bs))) bs := RowsAt.same (same_new hp) hrow
    have s1 : Same H (upd H p (.lst (refs bs))) := same_new hp
    have hp1 : (upd H p (.lst (refs bs))) p = some (.lst (refs bs)) := upd_same
    change (upd H p (.lst (refs bs))) D = none at hD
    change ∃ W : Nat → Nat → Hp → Prop, (∃ m, W 0 m (upd (upd H p (.lst (refs bs))) D (.lst []))) ∧ _
    generalize upd H p (.lst (refs bs)) = H1 at hrow1 s1 hp1 hD ⊢
    have bp := bare_perm hm.nd pm
    have efm : bs.filterMap (fun b => bareOf m b.2) = (bs.map (·.2)).filterMap (bareOf m) := by rw [List.filterMap_map]; rfl
    refine lcF (as := bs) (over_listM (f := fun b : Addr × Row => V.ref b.1)) hD (fun b => bareOf m b.2) (PairE K) (fun H H' v y t h => h.tup t) ?_ (fun H' s' => SqL.of (s' _ _ hp1)) (fun i x b H2 C R e y s2 hC hR => ?_) (fun H2 ws s2 hw pw => ?_)
    · have := pm.length_eq
      rw [List.length_map, List.length_map] at this
      have := hm.sz
      rw [sizeLine_eq]
      omega
    · obtain ⟨b', eb, rfl⟩ := y
      cases (e.symm.trans eb)
      have mb := List.mem_of_getElem? e
      have hb2 : RowAt H2 b.1 b.2 := RowAt.same s2 (hrow1 b mb)
      have hin : b.2 ∈ m.map (·.1) := pm.mem_iff.mp (List.mem_map.mpr ⟨b, mb, rfl⟩)
      obtain ⟨ent, hent, e1⟩ := List.mem_map.mp hin
      have lk : m.lookup b.2 = some ent.2 := by rw [← e1]; exact lookup_mem hm.nd hent
      have pr2 := paired_mono (EntR.same (Same.tr s1 s2)) pr
      have rd2 : Rd H2 d (.dT kvs) := Rd.same (Same.tr s1 s2) hr0
      obtain ⟨pq, hv, hq⟩ := mx_get pr2 lk
      have dg : DGet H2 d (.ref b.1) (some (.ref pq)) := .inr ⟨kvs, KR b.2, b.1, rd2, rfl, by rw [KR_kV]; exact hb2, hv.symm⟩
      refine ⟨rfl, _, rfl, _, rfl, d, _, rfl, dg, pq, _, _, _, rfl, rfl, hq, rfl, rfl, _, rfl, ?_⟩
      have fe : bareOf m b.2 = if ent.2 = 0 then none else some (b.2, ent.2) := by
        unfold bareOf
        rw [lk]
        rfl
      by_cases z : ent.2 = 0
      · have nz : (V.int ent.2.num = V.int 0) := by rw [num_zero.mpr z]
        rw [decide_eq_true nz]
        refine iteF (hR ?_ H2 (Same.rfl' _))
        rw [fe, if_pos z]
      · have nz : ¬ (V.int ent.2.num = V.int 0) := by
          intro y
          injection y with y
          exact z (num_zero.mp y)
        rw [decide_eq_false nz]
        refine iteT ⟨_, rfl, _, rfl, _, rfl, d, _, rfl, dg, line2, fun t ht => ?_⟩
        refine hC _ (b.2, ent.2) _ ?_ (same_new ht) ⟨t, b.1, pq, rfl, SqT.of upd_same, RowAt.same (same_new ht) hb2, RatAt.same (same_new ht) hq⟩
        rw [fe, if_neg z]
    · rw [efm] at pw
      have hnd : (((bs.map (·.2)).filterMap (bareOf m)).map (·.1)).Nodup := ((bp.map (·.1)).nodup_iff).mpr (bare_nodup hm.nd)
      refine dict_made hnd hw pw fun p3 H3 np s3 hu => q p3 _ H3 ?_ (Same.tr s1 (Same.tr s2 s3)) hu bp
      cases hz : H p3 with
      | none => rfl
      | some z =>
        have := s2 _ _ (s1 _ _ hz)
        rw [np] at this
        cases this
theorem has_lsum (D : At K mg "_law_mix_sum" sLSum) (T : Tx K mg) (PT : Has P w K mg base 4 "_law_put" (spPut K)) (TI : Has P w K mg base 3 "_law_times" (spTwo K (· * ·))) (B : Has P w K mg base 1 "_law_bare" (spLBare K)) : Has P w K mg base 5 "_law_mix_sum" (spLSum K) := by
  refine D.has scLSum (fun vs H Q E h => ?_) (fun _ _ _ _ _ _ us hl => match us, hl with | [_, _, _], _ => rfl) (fun f cdv A outer s H vs Q E hr h => ?_)
  · obtain ⟨a, b, c, m, n, q, W, B, rfl, _⟩ := h
    rfl
  · obtain ⟨a, b, c, m, n, q, W, BB, rfl, hm, hn, hc, fm, fn, im, hB, pn, pq, k⟩ := h
    refine ⟨_, pss_cons (ps_set (i := 3) scLSum.nd rfl (Or.inl rfl) (pe_callTy (cr_dictPT (by rfl) (roomU hr)) rfl T.dict PyProof.Rows.boot_dict (pa_cons (pe_listItemsT (by rfl) (pv 0) rfl T.list) pa_nil)))
      (pss_cons (ps_for PassesOwn.never rfl (pi_itemsT (pv 1)) (pg_tup rfl (pgs_cons (pg_name (i := 4) scLSum.nd rfl (Or.inl rfl)) (pgs_cons (pg_name (i := 5) scLSum.nd rfl (Or.inl rfl)) pgs_nil)))
        (pss_one (ps_expr (pe_cal PT hr (pa_cons (pv 3) (pa_cons (pv 4) (pa_cons (pe_cal TI hr (pa_cons (pv 5) (pa_cons (pv 2) pa_nil))) pa_nil)))))))
      (pss_one (ps_ret (pe_cal B hr (pa_cons (pv 3) pa_nil))))), ?_⟩
    obtain ⟨kvs, hm, pr⟩ := hm
    refine ⟨_, rfl, a, kvs, rfl, hm, fun H1 l ts s1 nl hl pt => ?_⟩
    have pr1 := paired_mono (EntR.same s1) pr
    refine ⟨l, ts, kvs, rfl, SqL.of hl, paired_mono (fun t kv h => by obtain ⟨b, h1, h2⟩ := h; exact ⟨b, SqT.of h1, h2⟩) pt, fun d hd => ?_⟩
    have ek : putsK [] kvs = kvs := by rw [putsK_new (by rw [List.nil_append]; exact keys_nodup pr fm.nd)]; rfl
    rw [ek]
    have s2 : Same H1 (upd H1 d (.dT kvs)) := same_new hd
    have u2 : UAt K (upd H1 d (.dT kvs)) d m := ⟨kvs, upd_same, paired_mono (EntR.same s2) pr1⟩
    have hdH : H d = none := by
      cases hz : H d with
      | none => rfl
      | some z =>
        have := s1 _ _ hz
        rw [hd] at this
        cases this
    generalize upd H1 d (.dT kvs) = H2 at s2 u2 ⊢
    obtain ⟨o, nks, hfn, prn⟩ := FAt.same (Same.tr s1 s2) hn
    have hc2 := RatAt.same (Same.tr s1 s2) hc
    refine ⟨_, rfl, b, o, nks, rfl, hfn, ?_⟩
    have nl512 := fn.len
    refine forF (over_itemsM prn) (fun j σ H' => Same H H' ∧ Tup H2 H' ∧ ∃ (m' : Mx) (v4 v5 : Option V), σ = [some (.ref a), some (.ref b), some (.ref c), some (.ref d), v4, v5] ∧ UAt K H' d m' ∧ Fam W m' ∧ IntM (BB + j) m' ∧ ∀ g, val g m' = val g m + q * val g (n.take j))
      ⟨Same.tr s1 s2, Tup.rfl' _, m, none, none, rfl, u2, fm, im, fun g => by show val g m = val g m + q * 0; rw [Rat.mul_zero, Rat.add_zero]⟩ (fun j σ H' _ P => ⟨P.2.1.2 _ _ _ hfn, P.2.1⟩) (fun j σ Ha x Hb hj P sb y => ?_) (fun σ H' P => ?_)
    · obtain ⟨sa, ta, m', v4, v5, rfl, ua, fa, ia, va⟩ := P
      obtain ⟨tt, e, rp, qp, ee, rfl, ht, hrow, hq⟩ := y
      have me := List.mem_of_getElem? ee
      have pe := pn e me
      have bb40 : BB + j ≤ 2 ^ 40 := by
        have : (2 : Nat) ^ 30 + 512 ≤ 2 ^ 40 := by decide
        omega
      refine ⟨tt, _, rfl, ht, rfl, _, _, rfl, _, _, rfl, rfl, ?_⟩
      refine ⟨_, rfl, _, rfl, _, rfl, _, rfl, qp, c, e.2, q, rfl, hq, (Tup.tr ta (Same.tup sb)).rat hc2, pe.sz.mono (by decide), pq.sz.mono (by decide), fun c2 Hc sc nc => ?_⟩
      have uc := UAt.same (Same.tr sb sc) ua
      have pe2 : Pm (e.2 * q) := pe.mul pq
      refine ⟨d, rp, c2, m', e.1, e.2 * q, rfl, uc, fa.nd, RowAt.same sc hrow, nc.at_, old_sz ia bb40, pe2.sz.mono (by decide), by have := fa.len; omega, fun Hd bd ud => ?_⟩
      obtain ⟨kc, hkc, _⟩ := uc
      refine ⟨fun x o q => bd x o (fun z => by rw [z, hdH] at q; cases q) (sc _ _ (sb _ _ (sa _ _ q))), Tup.tr ta (Tup.tr (Same.tup sb) (Tup.tr (Same.tup sc) (but_tup bd hkc))), addM m' e.1 (e.2 * q), some (.ref rp), some (.ref qp), rfl, ud, fa.add (fn.nine e me) (fn.sum e me), add_int pe2 ia, fun g => ?_⟩
      have et : n.take (j + 1) = n.take j ++ [e] := by rw [List.take_succ, ee]; rfl
      rw [val_add, va g, et, val_snoc]
      grind
    · obtain ⟨sa, ta, m', v4, v5, rfl, ua, fa, ia, va⟩ := P
      refine ⟨_, rfl, d, m', rfl, ua.d, fa.mixed, fun p m2 H3 np s3 hu pm => k p m2 H3 ?_ (Same.tr sa s3) hu (fa.sub pm) ?_ (fun g => ?_) ?_⟩
      · cases hz : H p with
        | none => rfl
        | some z =>
          have := sa _ _ hz
          rw [np] at this
          cases this
      · intro e he
        exact (ia e (List.mem_filter.mp (pm.mem_iff.mp he)).1).mono (by omega)
      · rw [val_perm g pm, val_bare, va g, List.take_length]
      · intro e he
        have := (List.mem_filter.mp (pm.mem_iff.mp he)).2
        simpa using this
end
end Rj
set_option Elab.async false
set_option linter.all false
set_option maxRecDepth 100000
set_option maxHeartbeats 4000000
set_option exponentiation.threshold 100000
/-! The law's checks. -/
namespace Rj
open PySem PySem.Spec PyProof.Rows L2
abbrev sMixes : Stmt := top 94
abbrev sValues : Stmt := top 95
abbrev sCuts : Stmt := top 96
abbrev sUndoneR : Stmt := top 97
abbrev sBack : Stmt := top 98
theorem scMixes : FnScope ["_law_row", "_law_one"] ["_law_row"] (defScope sMixes) := ⟨rfl, rfl, rfl, by decide +kernel, rfl, by decide +kernel, by decide +kernel⟩
theorem scValues : FnScope ["_law_row", "_law_bound", "_law_found", "_law_one", "_law_number"] ["_law_row", "_law_bound"] (defScope sValues) := ⟨rfl, rfl, rfl, by decide +kernel, rfl, by decide +kernel, by decide +kernel⟩
theorem scCuts : FnScope ["_law_row", "_law_bound", "_law_found", "_law_place", "_law_front", "_law_rear", "_law_part"] ["_law_row", "_law_bound"] (defScope sCuts) := ⟨rfl, rfl, rfl, by decide +kernel, rfl, by decide +kernel, by decide +kernel⟩
theorem scUndoneR : FnScope ["_law_row", "_law_bound", "_law_sign"] ["_law_row", "_law_bound"] (defScope sUndoneR) := ⟨rfl, rfl, rfl, by decide +kernel, rfl, by decide +kernel, by decide +kernel⟩
theorem scBack : FnScope ["_law_row", "_law_found", "_law_one", "_law_number"] ["_law_row"] (defScope sBack) := ⟨rfl, rfl, rfl, by decide +kernel, rfl, by decide +kernel, by decide +kernel⟩
/-- all that the law calls -/
structure Hs (P : Program) (w : World) (K : PySem.W.Frag) (mg : Str → Option Value) (base : Heap) (CK CM : Addr) : Prop where
  T : Tx K mg
  L : Kl K mg CK CM
  slackMix : Has P w K mg base 6 "slack_mix" (spMixOf K CM fun _ _ => 1)
  strictMix : Has P w K mg base 6 "strict_mix" (spMixOf K CM fun r j => sg (r.length + j.length))
  cutValue : Has P w K mg base 6 "cut_value" (spCutValue K CM)
  undone : Has P w K mg base 6 "undone" (spUndone K CM)
  slackSum : Has P w K mg base 6 "slack_sum" (spOne true)
  cutSum : Has P w K mg base 6 "cut_sum" (spOne false)
  of_ : ∃ mc p g, ClX.CRead K CM mc ∧ ClX.CMet K CM mc "of" p g ∧ FnR P w K mg base CX0 5 g (spOf K CM)
  ljoin : Has P w K mg base 1 "_law_joinings" spJoinIn
  signed : Has P w K mg base 2 "_law_signed" (spSigned K)
  lplus : Has P w K mg base 3 "_law_plus" (spTwo K (· + ·))
  ltimes : Has P w K mg base 3 "_law_times" (spTwo K (· * ·))
  lsum : Has P w K mg base 5 "_law_mix_sum" (spLSum K)
theorem Nine.len {r : Row} (h : Nine r) : r.length ≤ 12 := by
  have := pos_len h.pos
  have := h.sum
  omega
theorem nine_jn {r j : Row} (h : Nine r) (hj : j ∈ jn r) : Nine j ∧ j.sum = r.sum := by
  have g := good_jn r h.pos j hj
  exact ⟨⟨g.pos, by rw [g.sum]; exact h.sum⟩, g.sum⟩
theorem fam_js {r : Row} (h : Nine r) {js : List Row} (p : js.Perm (jn r)) (f : Row → Rat) : Fam r.sum (js.map fun j => (j, f j)) := by
  refine ⟨fun e he => ?_, fun e he => ?_, by rw [fst_map]; exact (p.nodup_iff).mpr (jn_nodup r h.pos)⟩
  · obtain ⟨j, hj, rfl⟩ := List.mem_map.mp he
    exact (nine_jn h (p.mem_iff.mp hj)).1
  · obtain ⟨j, hj, rfl⟩ := List.mem_map.mp he
    exact (nine_jn h (p.mem_iff.mp hj)).2
theorem Fam.plain {W : Int} {m : Mx} (h : Fam W m) (p : ∀ e ∈ m, Pm e.2) : Plain m W := ⟨h.nine, h.nd, h.sum, p, by have := h.len; omega⟩
theorem plain_js {r : Row} (h : Nine r) {js : List Row} (p : js.Perm (jn r)) (f : Row → Rat) (hf : ∀ j, Pm (f j)) : Plain (js.map fun j => (j, f j)) r.sum := (fam_js h p f).plain fun e he => by
  obtain ⟨j, _, rfl⟩ := List.mem_map.mp he
  exact hf j
theorem pm_one : Pm 1 := .inl rfl
theorem val_js (g : Row → Rat) (f : Row → Rat) {js ks : List Row} (p : js.Perm ks) : val g (js.map fun j => (j, f j)) = sm (fun j => f j * g j) ks := by
  unfold val
  rw [sm_map]
  exact sm_perm _ p
def isNine (vs : List V) (H : Hp) : Prop := ∃ (a : Addr) (r : Row), vs = [.ref a] ∧ RowAt H a r ∧ Nine r
def isNineB (vs : List V) (H : Hp) : Prop := ∃ (k : Nat) (a : Addr) (r : Row), vs = [.ref a, .int ((k : Int) + 1)] ∧ k ≤ 19 ∧ RowAt H a r ∧ Nine r
def isCuts (vs : List V) (H : Hp) : Prop := ∃ (k : Nat) (a : Addr) (r : Row), vs = [.ref a, .int ((k : Int) + 1)] ∧ k ≤ 19 ∧ RowAt H a r ∧ Nine r ∧ r ≠ []
section
variable {P : Program} {w : World} {K : PySem.W.Frag} {mg : Str → Option Value} {base : Heap} {CK CM : Addr}
theorem dict_parts {m : Mx} {H : Hp} {ws : List V} (hn : (m.map (·.1)).Nodup) (pw : Paired (PairE K H) ws m) : ∃ (ps : List Addr) (kvs : List (List Key × V)), ws = ps.map V.ref ∧
    Paired (fun p (kv : List Key × V) => ∃ b, SqT K H p [.ref b, kv.2] ∧ H b = some (.tup (kv.1.map kV))) ps kvs ∧ putsK [] kvs = kvs ∧ Paired (EntR K H) kvs m := by
  obtain ⟨ps, kvs, h1, h2, h3⟩ := pairs_dict pw
  refine ⟨ps, kvs, h1, h2, ?_, h3⟩
  rw [putsK_new (by rw [List.nil_append]; exact keys_nodup h3 hn)]
  rfl
theorem has_mixes (D : At K mg "_law_mixes_right" sMixes) (S : Hs P w K mg base CK CM) : Has P w K mg base 7 "_law_mixes_right" (spYes isNine) := by
  refine D.has scMixes (fun vs H Q E h => ?_) (fun _ _ _ _ _ _ us hl => match us, hl with | [_], _ => rfl) (fun f cdv A outer s H vs Q E hr h => ?_)
  · obtain ⟨⟨a, r, rfl, _⟩, _⟩ := h
    rfl
  · obtain ⟨⟨a, r, rfl, ha, h9⟩, q⟩ := h
    obtain ⟨tp, tg, t1, t2, t3, t4, t5⟩ := S.L.mtp
    refine ⟨_, pss_cons (ps_if (pt_cmpR (op_neT (roomU hr)) (SlX.pe_propSl (E := E0) (pe_cal S.slackMix hr (pa_cons (pv 0) pa_nil)) S.L.msc t1 t2 t3 t4 (has_terms t5 S.T S.L) (hr.mono (by decide)) (fun _ _ _ _ h => h))
        (pe_callTy (cr_dictPT (by rfl) (roomU hr)) rfl S.T.dict PyProof.Rows.boot_dict (pa_cons (pe_lc (own := [("_law_one", 1)]) (g := gName 1) (tt := tYes) rfl scMixes.nd (pi_list (pe_cal S.ljoin hr (pa_cons (pv 0) pa_nil)))
          (blkOk_by (N := ["_law_row", "_law_one"]) (sc := defScope sMixes) (by decide +kernel)) (fun _ _ _ _ _ => pg_name (i := 1) scMixes.nd rfl (Or.inl rfl)) (fun _ _ _ _ _ => pts_nil)
          (fun _ _ _ _ _ => pe_tup (pa_cons (pv 1) (pa_cons (pe_tup (pa_cons pe_int (pa_cons pe_int pa_nil))) pa_nil)))) pa_nil)) (nomark _)) (pss_one ps_never) pss_nil)
      (pss_one (ps_ret (pe_cmpR (op_eqT (roomU hr)) (SlX.pe_propSl (E := E0) (pe_cal S.strictMix hr (pa_cons (pv 0) pa_nil)) S.L.msc t1 t2 t3 t4 (has_terms t5 S.T S.L) (hr.mono (by decide)) (fun _ _ _ _ h => h)) (pe_cal S.signed hr (pa_cons (pv 0) pa_nil)) (nomark _)))), ?_⟩
    refine ⟨_, rfl, a, r, rfl, ha, h9.small, h9.len, fun x js H1 s1 pj hx => ?_⟩
    have hx' := hx
    obtain ⟨dx, vx, d0, hs1, _, _⟩ := hx'
    have fj := fam_js h9 pj (fun _ => 1)
    refine ⟨x, dx, vx, rfl, hs1, x, _, rfl, hx, fj.nine, fj.nd, fun p H2 _ s2 hu => ?_⟩
    have ha2 := RowAt.same (Same.tr s1 s2) ha
    refine ⟨_, rfl, a, r, rfl, ha2, h9.small, h9.len, fun l bs H3 s3 hl hrow pb => ⟨l, rfl, ⟨_, SqL.of hl⟩, fun D hD => ?_⟩⟩
    have mb := mixed_of h9.small h9.len pb (fun _ => 1)
    have bsz : bs.length ≤ 4096 := by
      have := mb.sz
      rw [List.length_map, List.length_map] at this
      exact this
    refine lcF (as := bs) (over_listM (f := fun b : Addr × Row => V.ref b.1)) hD (fun b => some (b.2, (1 : Rat))) (PairE K) (fun H H' v y t h => h.tup t) (by rw [sizeLine_eq]; omega) (fun H' s' => SqL.of (s' _ _ hl)) (fun j x b H4 C R eb y s4 hC hR => ?_) (fun H4 ws s4 hw pw => ?_)
    · obtain ⟨b', eb', rfl⟩ := y
      cases (eb.symm.trans eb')
      have hb4 := RowAt.same s4 (hrow b (List.mem_of_getElem? eb))
      refine ⟨rfl, ?_⟩
      refine iteT (B := True) ?_
      exact ⟨_, rfl, line2, fun t ht => ⟨line2, fun t2 ht2 => hC _ _ _ rfl (Same.tr (same_new ht) (same_new ht2)) ⟨t2, b.1, t, rfl, SqT.of upd_same, RowAt.same (Same.tr (same_new ht) (same_new ht2)) hb4, rat_one (SqT.of (same_new ht2 _ _ upd_same))⟩⟩⟩
    · rw [map_some] at pw
      have e : bs.map (fun b => (b.2, (1 : Rat))) = (bs.map (·.2)).map fun j => (j, 1) := by
        rw [List.map_map]
        rfl
      rw [e] at pw
      obtain ⟨ps, kvs, rfl, h2, e0, h3⟩ := dict_parts mb.nd pw
      refine ⟨D, ps, kvs, rfl, SqL.of hw, h2, fun p2 np2 => ?_⟩
      rw [e0]
      have s5 : Same H4 (upd H4 p2 (.dT kvs)) := same_new np2
      have hu2 : UAt K (upd H4 p2 (.dT kvs)) p2 ((bs.map (·.2)).map fun j => (j, 1)) := ⟨kvs, upd_same, paired_mono (EntR.same s5) h3⟩
      generalize upd H4 p2 (.dT kvs) = H5 at s5 hu2 ⊢
      have s25 := Same.tr s3 (Same.tr s4 s5)
      refine ⟨p, p2, _, _, rfl, rfl, (UAt.same s25 hu).d, hu2.d, (pj.trans pb.symm).map _, false, rfl, iteF ?_⟩
      have s5a := Same.tr s1 (Same.tr s2 s25)
      have ha5 := RowAt.same s5a ha
      refine ⟨_, rfl, a, r, rfl, ha5, h9.small, h9.len, fun x js H6 s6 pj hx => ?_⟩
      have hx' := hx
      obtain ⟨dx, vx, d0, hs1, _, _⟩ := hx'
      have fj := fam_js h9 pj (fun j => sg (r.length + j.length))
      refine ⟨x, dx, vx, rfl, hs1, x, _, rfl, hx, fj.nine, fj.nd, fun p H7 _ s7 hu => ?_⟩
      refine ⟨_, rfl, a, r, rfl, RowAt.same (Same.tr s6 s7) ha5, h9.small, h9.len, fun p3 ks H8 s8 pk hu8 => ?_⟩
      exact ⟨p, p3, _, _, rfl, rfl, (UAt.same s8 hu).d, hu8.d, (pj.trans pk.symm).map _, q _ (Same.tr s5a (Same.tr s6 (Same.tr s7 s8)))⟩
theorem rat_row (q : Rat) : [q.num, (q.den : Int)].map V.int = [.int q.num, .int (q.den : Int)] := rfl
theorem has_values (D : At K mg "_law_values_right" sValues) (S : Hs P w K mg base CK CM) : Has P w K mg base 7 "_law_values_right" (spYes isNineB) := by
  refine D.has scValues (fun vs H Q E h => ?_) (fun _ _ _ _ _ _ us hl => match us, hl with | [_, _], _ => rfl) (fun f cdv A outer s H vs Q E hr h => ?_)
  · obtain ⟨⟨k, a, r, rfl, _⟩, _⟩ := h
    rfl
  · obtain ⟨⟨k, a, r, rfl, hk, ha, h9⟩, q⟩ := h
    obtain ⟨tp, tg, t1, t2, t3, t4, t5⟩ := S.L.mtp
    refine ⟨_, pss_cons (ps_if (pt_cmpR (op_neI (roomU hr)) (pe_cal S.cutValue hr (pa_cons (pv 1) (pa_cons (pe_cal S.slackMix hr (pa_cons (pv 0) pa_nil)) pa_nil))) (pe_cal S.slackSum hr (pa_cons (pv 1) (pa_cons (pv 0) pa_nil))) (nomark _)) (pss_one ps_never) pss_nil)
      (pss_cons (ps_set (i := 2) scValues.nd rfl (Or.inl rfl) (pe_tup (pa_cons pe_int (pa_cons pe_int pa_nil))))
      (pss_cons (ps_for PassesOwn.never rfl (pi_itemsN (SlX.pe_propSl (E := E0) (pe_cal S.strictMix hr (pa_cons (pv 0) pa_nil)) S.L.msc t1 t2 t3 t4 (has_terms t5 S.T S.L) (hr.mono (by decide)) (fun _ _ _ _ h => h)))
        (pg_tup rfl (pgs_cons (pg_name (i := 3) scValues.nd rfl (Or.inl rfl)) (pgs_cons (pg_name (i := 4) scValues.nd rfl (Or.inl rfl)) pgs_nil)))
        (pss_one (ps_set (i := 2) scValues.nd rfl (Or.inl rfl) (pe_cal S.lplus hr (pa_cons (pv 2) (pa_cons (pe_cal S.ltimes hr (pa_cons (pv 4) (pa_cons (pe_cal S.slackSum hr (pa_cons (pv 1) (pa_cons (pv 3) pa_nil))) pa_nil))) pa_nil))))))
      (pss_one (ps_ret (pe_cmpR (op_eqI (roomU hr)) (pv 2) (pe_cal S.cutSum hr (pa_cons (pv 1) (pa_cons (pv 0) pa_nil))) (nomark _)))))), ?_⟩
    refine ⟨_, rfl, _, rfl, a, r, rfl, ha, h9.small, h9.len, fun x js H1 s1 pj hx => ?_⟩
    refine ⟨k, x, _, r.sum, rfl, hk, hx, plain_js h9 pj _ (fun _ => pm_one), fun p H2 s2 hp => ?_⟩
    have e1 : val (fun r => ch false r k) (js.map fun j => (j, (1 : Rat))) = ch true r k := by
      rw [val_js _ (fun _ => 1) pj]
      rw [sm_congr (g := fun j => ch false j k) (fun j _ => Rat.one_mul _)]
      exact slack_joined r.length r rfl h9.pos k
    rw [e1] at hp
    have ha2 := RowAt.same (Same.tr s1 s2) ha
    refine ⟨_, rfl, _, rfl, k, a, r, rfl, hk, ha2, h9.small, fun p2 H3 s3 n3 => ?_⟩
    refine ⟨p, p2, [(ch true r k).num, ((ch true r k).den : Int)], [(ch true r k).num, ((ch true r k).den : Int)], rfl, rfl, RatAt.same s3 hp, n3.at_, _, rfl, ?_⟩
    rw [decide_eq_true rfl]
    refine iteF ⟨line2, fun z0 hz0 => ?_⟩
    have sZ : Same H (upd H3 z0 (.tup [.int 0, .int 1])) := Same.tr s1 (Same.tr s2 (Same.tr s3 (same_new hz0)))
    have rZ : RatAt K (upd H3 z0 (.tup [.int 0, .int 1])) z0 0 := rat_zero (SqT.of upd_same)
    generalize upd H3 z0 (.tup [.int 0, .int 1]) = HZ at sZ rZ ⊢
    refine ⟨_, rfl, a, r, rfl, RowAt.same sZ ha, h9.small, h9.len, fun x js H4 s4 pj hx => ?_⟩
    have hx' := hx
    obtain ⟨dx, vx, d0, hs1, _, _⟩ := hx'
    have fj := fam_js h9 pj (fun j => sg (r.length + j.length))
    refine ⟨x, dx, vx, rfl, hs1, x, _, rfl, hx, fj.nine, fj.nd, fun p H5 np s5 hu => ?_⟩
    obtain ⟨kvs, hd, pr⟩ := hu
    refine ⟨p, kvs, rfl, hd, fun o => ?_⟩
    have s6 : Same H4 (upd H5 p (.frz o (.dT kvs))) := same_frz s5 np
    have f6 : (upd H5 p (.frz o (.dT kvs))) p = some (.frz o (.dT kvs)) := upd_same
    have pr6 : Paired (EntR K (upd H5 p (.frz o (.dT kvs)))) kvs (js.map fun j => (j, sg (r.length + j.length))) := paired_mono (Tup.ent (tup_dT hd)) pr
    generalize upd H5 p (.frz o (.dT kvs)) = H6 at s6 f6 pr6 ⊢
    have pl := plain_js h9 pj (fun j => sg (r.length + j.length)) (fun j => Pm.sg _)
    generalize hm : (js.map fun j => (j, sg (r.length + j.length))) = m at pr6 pl
    have W9 : r.sum.toNat ≤ 9 := by
      have := h9.sum
      omega
    refine forF (over_itemsM pr6) (fun i σ H' => Same H6 H' ∧ ∃ c v3 v4, σ = [some (.ref a), some (.int ((k : Int) + 1)), some (.ref c), v3, v4] ∧ RatAt K H' c (val (fun r => ch true r k) (m.take i)))
      ⟨Same.rfl' _, z0, none, none, rfl, RatAt.same (Same.tr s4 s6) rZ⟩ (fun i σ H' _ h => ⟨h.1 _ _ f6, Same.tup h.1⟩) (fun i σ H7 x H8 hi P s8 y => ?_) (fun σ H' P => ?_)
    · obtain ⟨s7, c, v3, v4, rfl, hc⟩ := P
      obtain ⟨t, e, rp, qp, ee, rfl, ht, hrow, hq⟩ := y
      have me := List.mem_of_getElem? ee
      have e9 := pl.nine e me
      have wr : wt e.1 ≤ 9 := by
        have := wt_sum e9.pos
        have := e9.sum
        omega
      have hsub : ∀ f ∈ m.take i, f ∈ m := fun f hf => List.mem_of_mem_take hf
      have bd := val_bd (g := fun r => ch true r k) (scale_pos hk r.sum.toNat) (fun f hf => pl.pm f (hsub f hf)) fun f hf => chs_bd true (pl.nine f (hsub f hf)) (pl.sum f (hsub f hf)) hk
      have szl : (m.take i).length ≤ 2 ^ 20 := by
        have := pl.sz
        rw [List.length_take]
        have : (4096 : Nat) ≤ 2 ^ 20 := by decide
        omega
      have bd2 := (pl.pm e me).times (chs_bd true e9 (pl.sum e me) hk)
      refine ⟨t, _, rfl, ht, rfl, _, _, rfl, _, _, rfl, rfl, ?_⟩
      refine ⟨_, rfl, _, rfl, _, rfl, _, rfl, k, rp, e.1, rfl, hk, hrow, e9.small, fun c2 H9 s9 n9 => ?_⟩
      refine ⟨qp, c2, e.2, ch true e.1 k, rfl, RatAt.same s9 hq, n9.at_, (pl.pm e me).sz.mono (by decide), ch_sz true e9.pos hk (by omega), fun c3 Ha sa na => ?_⟩
      refine ⟨c, c3, _, _, rfl, RatAt.same (Same.tr s8 (Same.tr s9 sa)) hc, na.at_, bd_sz hk W9 bd szl, bd_sz (n := 1) hk W9 (by rw [Nat.one_mul]; exact bd2) (by decide), fun c4 Hb sb nb => ?_⟩
      refine ⟨Same.tr s7 (Same.tr s8 (Same.tr s9 (Same.tr sa sb))), c4, some (.ref rp), some (.ref qp), rfl, ?_⟩
      have et : m.take (i + 1) = m.take i ++ [e] := by rw [List.take_succ, ee]; rfl
      rw [et, val_snoc]
      exact nb.at_
    · obtain ⟨s7, c, v3, v4, rfl, hc⟩ := P
      rw [List.take_length, ← hm, val_js _ (fun j => sg (r.length + j.length)) pj, cut_joined r.length r rfl h9.pos k] at hc
      have sT := Same.tr sZ (Same.tr s4 (Same.tr s6 s7))
      refine ⟨_, rfl, _, rfl, _, rfl, k, a, r, rfl, hk, RowAt.same sT ha, h9.small, fun p2 H8 s8 n8 => ?_⟩
      refine ⟨c, p2, [(ch false r k).num, ((ch false r k).den : Int)], [(ch false r k).num, ((ch false r k).den : Int)], rfl, rfl, RatAt.same s8 hc, n8.at_, blT (Q := Q) rfl (q _ (Same.tr sT s8))⟩
end
end Rj
set_option Elab.async false
set_option linter.all false
set_option maxRecDepth 100000
set_option maxHeartbeats 4000000
set_option exponentiation.threshold 100000
/-! The law's checks: cuts, what is undone, the way back. -/
namespace Rj
open PySem PySem.Spec PyProof.Rows L2
theorem nine_rev {r : Row} (h : Nine r) : Nine r.reverse := ⟨fun x hx => h.pos x (List.mem_reverse.mp hx), by rw [sum_rev]; exact h.sum⟩
theorem nine_take {r : Row} (h : Nine r) (i : Nat) : Nine (r.take i) := ⟨fun x hx => h.pos x (List.mem_of_mem_take hx), Int.le_trans (sum_take_le i h.pos) h.sum⟩
theorem nine_drop {r : Row} (h : Nine r) (i : Nat) : Nine (r.drop i) := by
  refine ⟨fun x hx => h.pos x (List.mem_of_mem_drop hx), ?_⟩
  have e : (r.take i).sum + (r.drop i).sum = r.sum := by rw [← List.sum_append, List.take_append_drop]
  have := pos_len (nine_take h i).pos
  have := h.sum
  omega
theorem wt_split {r : Row} (h : Nine r) (i : Nat) : wt (r.take i).reverse + wt (r.drop i) = wt r := by
  have e : (r.take i).sum + (r.drop i).sum = r.sum := by rw [← List.sum_append, List.take_append_drop]
  have a := wt_sum (nine_rev (nine_take h i)).pos
  have b := wt_sum (nine_drop h i).pos
  have c := wt_sum h.pos
  rw [sum_rev] at a
  omega
theorem Nine.wt {r : Row} (h : Nine r) : wt r ≤ 9 := by
  have := wt_sum h.pos
  have := h.sum
  omega
def partQ (r : Row) (k i : Nat) : Rat := ch true (r.take i).reverse k * ch false (r.drop i) k
theorem part_bd {r : Row} (h : Nine r) {k : Nat} (hk : k ≤ 19) (i : Nat) : Bd (lcmTo k ^ wt r) (2 ^ (33 * wt r)) (partQ r k i) := by
  have a := ch_bd true (nine_rev (nine_take h i)).pos hk
  have b := ch_bd false (nine_drop h i).pos hk
  have c := Bd.mul a b
  rw [← Nat.pow_add, wt_split h i, ← Nat.pow_add, ← Nat.mul_add, wt_split h i] at c
  exact c
theorem sum_bd {r : Row} (h : Nine r) {k : Nat} (hk : k ≤ 19) : ∀ i, Bd (lcmTo k ^ wt r) (i * 2 ^ (33 * wt r)) (sumTo (fun i => sg i * partQ r k i) i)
  | 0 => (Bd.zero _ 0).mono (Nat.zero_le _)
  | i + 1 => by
    show Bd _ _ (sumTo (fun i => sg i * partQ r k i) i + sg i * partQ r k i)
    rw [Nat.succ_mul]
    exact Bd.add (scale_pos hk _) (sum_bd h hk i) ((Pm.sg i).times (part_bd h hk i))
theorem sg_pl (n : Nat) : (1 - 2 * ((n : Int) % 2) : Int) = (sg n).num := by
  unfold sg
  by_cases z : n % 2 = 0
  · rw [if_pos z]
    have : (n : Int) % 2 = 0 := by omega
    rw [this]
    rfl
  · rw [if_neg z]
    have : (n : Int) % 2 = 1 := by omega
    rw [this]
    rfl
theorem sg_at {K : PySem.W.Frag} {H : Hp} {t : Addr} {n : Nat} (h : SqT K H t [.int (1 - 2 * ((n : Int) % 2)), .int 1]) : RatAt K H t (sg n) := by
  unfold RatAt
  rw [sg_den, ← sg_pl]
  exact h
theorem val_ind : ∀ {m : Mx} {e : Row × Rat}, (m.map (·.1)).Nodup → e ∈ m → val (ind e.1) m = e.2
  | [], _, _, h => by cases h
  | f :: m, e, hn, h => by
    rw [List.map_cons, List.nodup_cons] at hn
    rw [val_cons]
    by_cases z : f = e
    · subst z
      have e0 : val (ind f.1) m = 0 := by
        have key : ∀ l : Mx, (∀ x ∈ l, x ∈ m) → val (ind f.1) l = 0 := by
          intro l
          induction l with
          | nil => intro _; rfl
          | cons x l ih =>
            intro hs
            rw [val_cons, ih fun y hy => hs y (List.mem_cons_of_mem _ hy)]
            have ne : ¬ x.1 = f.1 := fun z => hn.1 (by rw [← z]; exact List.mem_map.mpr ⟨x, hs x (by simp), rfl⟩)
            unfold ind
            rw [if_neg ne, Rat.mul_zero, Rat.add_zero]
        exact key m fun _ h => h
      rw [e0]
      unfold ind
      rw [if_pos rfl, Rat.mul_one, Rat.add_zero]
    · have hm : e ∈ m := by
        rcases List.mem_cons.mp h with y | y
        · exact absurd y.symm z
        · exact y
      have ne : ¬ f.1 = e.1 := fun y => hn.1 (by rw [y]; exact List.mem_map.mpr ⟨e, hm, rfl⟩)
      rw [val_ind hn.2 hm]
      unfold ind
      rw [if_neg ne, Rat.mul_zero, Rat.zero_add]
/-- what is left is the row itself -/
theorem back_one {m : Mx} {r : Row} (hn : (m.map (·.1)).Nodup) (hz : ∀ e ∈ m, e.2 ≠ 0) (h : ∀ g, val g m = g r) : m = [(r, 1)] := by
  have all : ∀ e ∈ m, e = (r, 1) := fun e he => by
    have h1 := (val_ind hn he).symm.trans (h (ind e.1))
    unfold ind at h1
    by_cases z : r = e.1
    · rw [if_pos z] at h1
      rw [Prod.ext_iff]
      exact ⟨z.symm, h1⟩
    · rw [if_neg z] at h1
      exact absurd h1 (hz e he)
  cases m with
  | nil =>
    have := h fun _ => 1
    exact absurd this (by show ¬ ((0 : Rat) = 1); decide)
  | cons e m =>
    have e1 := all e (by simp)
    cases m with
    | nil => rw [e1]
    | cons f m =>
      have e2 := all f (by simp)
      rw [e1, e2] at hn
      simp at hn
section
variable {P : Program} {w : World} {K : PySem.W.Frag} {mg : Str → Option Value} {base : Heap} {CK CM : Addr}
theorem has_cuts (D : At K mg "_law_cuts_right" sCuts) (S : Hs P w K mg base CK CM) : Has P w K mg base 7 "_law_cuts_right" (spYes isCuts) := by
  refine D.has scCuts (fun vs H Q E h => ?_) (fun _ _ _ _ _ _ us hl => match us, hl with | [_, _], _ => rfl) (fun f cdv A outer s H vs Q E hr h => ?_)
  · obtain ⟨⟨k, a, r, rfl, _⟩, _⟩ := h
    rfl
  · obtain ⟨⟨k, a, r, rfl, hk, ha, h9, hne⟩, q⟩ := h
    refine ⟨_, pss_cons (ps_set (i := 2) scCuts.nd rfl (Or.inl rfl) (pe_tup (pa_cons pe_int (pa_cons pe_int pa_nil))))
      (pss_cons (ps_for PassesOwn.never rfl (pi_range1 rfl S.T.range (pa_cons (pe_op op_add (pe_callB call_len_seq rfl S.T.len PySem.boot_len (pa_cons (pv 0) pa_nil)) pe_int) pa_nil)) (pg_name (i := 3) scCuts.nd rfl (Or.inl rfl))
        (pss_cons (ps_par (i := 4) (j := 5) rfl scCuts.nd rfl rfl (by decide) rfl rfl (pa_cons (pe_slice sl_row (pv 0) po_none (po_some (pv 3))) (pa_cons (pe_slice sl_row (pv 0) (po_some (pv 3)) po_none) pa_nil)) (by rfl))
        (pss_cons (ps_set (i := 6) scCuts.nd rfl (Or.inl rfl) (pe_cal S.ltimes hr (pa_cons (pe_cal S.slackSum hr (pa_cons (pv 1) (pa_cons (pe_revT (pv 4)) pa_nil))) (pa_cons (pe_cal S.cutSum hr (pa_cons (pv 1) (pa_cons (pv 5) pa_nil))) pa_nil))))
        (pss_one (ps_set (i := 2) scCuts.nd rfl (Or.inl rfl) (pe_cal S.lplus hr (pa_cons (pv 2) (pa_cons (pe_cal S.ltimes hr (pa_cons (pv 6) (pa_cons (pe_tup (pa_cons (pe_op op_sub pe_int (pe_op op_mul pe_int (pe_op op_mod (pv 3) pe_int))) (pa_cons pe_int pa_nil))) pa_nil))) pa_nil))))))))
      (pss_one (ps_ret (pe_cmpR (op_eqI (roomU hr)) (pv 2) (pe_tup (pa_cons pe_int (pa_cons pe_int pa_nil))) (nomark _))))), ?_⟩
    refine ⟨line2, fun z0 hz0 => ?_⟩
    have sZ : Same H (upd H z0 (.tup [.int 0, .int 1])) := same_new hz0
    have rZ : RatAt K (upd H z0 (.tup [.int 0, .int 1])) z0 0 := rat_zero (SqT.of upd_same)
    generalize upd H z0 (.tup [.int 0, .int 1]) = HZ at sZ rZ ⊢
    have haZ := RowAt.same sZ ha
    have eL : (r.map V.int).length = r.length := List.length_map ..
    have lr := h9.len
    refine ⟨_, rfl, a, _, rfl, .inr haZ.sq, _, _, rfl, rfl, ?_⟩
    rw [eL]
    refine ⟨_, rfl, by omega, by omega, ?_⟩
    have eT : ((r.length : Int) + 1).toNat = r.length + 1 := by omega
    rw [eT]
    have dw : wt r ≤ 9 := h9.wt
    refine forF over_range (fun i σ H' => Same HZ H' ∧ ∃ c v3 v4 v5 v6, σ = [some (.ref a), some (.int ((k : Int) + 1)), some (.ref c), v3, v4, v5, v6] ∧ RatAt K H' c (sumTo (fun i => sg i * partQ r k i) i))
      ⟨Same.rfl' _, z0, none, none, none, none, rfl, rZ⟩ (fun _ _ _ _ _ => trivial) (fun i σ H1 x H2 hi P s2 y => ?_) (fun σ H' P => ?_)
    · obtain ⟨s1, c, v3, v4, v5, v6, rfl, hc⟩ := P
      subst y
      have e1 : (0 + (i : Int)) = ((i : Nat) : Int) := by omega
      rw [e1]
      have ha2 := RowAt.same (Same.tr s1 s2) haZ
      refine ⟨_, rfl, _, rfl, _, rfl, a, r, rfl, ha2, fun p3 H3 s3 hp3 => ?_⟩
      rw [rcut_front] at hp3
      refine ⟨_, rfl, _, rfl, _, rfl, a, r, rfl, RowAt.same s3 ha2, fun p4 H4 s4 hp4 => ?_⟩
      rw [rcut_rear] at hp4
      refine ⟨_, _, rfl, ?_⟩
      have hp34 := RowAt.same s4 hp3
      refine ⟨_, rfl, _, rfl, p3, _, rfl, hp34.sq, fun b hb => ?_⟩
      have s5 : Same H4 (upd H4 b (.tup ((r.take i).map V.int).reverse)) := same_new hb
      have hb5 : RowAt (upd H4 b (.tup ((r.take i).map V.int).reverse)) b (r.take i).reverse := by
        unfold RowAt
        rw [upd_same, List.map_reverse]
      generalize upd H4 b (.tup ((r.take i).map V.int).reverse) = H5 at s5 hb5 ⊢
      have n1 := nine_rev (nine_take h9 i)
      have n2 := nine_drop h9 i
      refine ⟨k, b, _, rfl, hk, hb5, n1.small, fun c1 H6 s6 r6 => ?_⟩
      refine ⟨_, rfl, _, rfl, k, p4, _, rfl, hk, RowAt.same (Same.tr s5 s6) hp4, n2.small, fun c2 H7 s7 r7 => ?_⟩
      have z1 := ch_sz true n1.pos hk (n := 4000) (by have := n1.wt; omega)
      have z2 := ch_sz false n2.pos hk (n := 4000) (by have := n2.wt; omega)
      refine ⟨c1, c2, _, _, rfl, RatAt.same s7 r6.at_, r7.at_, z1, z2, fun c3 H8 s8 r8 => ?_⟩
      have pb := part_bd h9 hk i
      have pz : Sz 4000 (partQ r k i) := bd_sz (n := 1) hk dw (by rw [Nat.one_mul]; exact pb) (by decide)
      refine ⟨_, rfl, _, rfl, _, rfl, _, _, rfl, rfl, (by show (0 : Int) < 2; decide), _, _, rfl, rfl, .inl ⟨by decide, by decide⟩, _, _, rfl, rfl, line2, fun t ht => ?_⟩
      have s9 : Same H8 (upd H8 t (.tup [.int (1 - 2 * ((i : Int) % 2)), .int 1])) := same_new ht
      have r9 : RatAt K (upd H8 t (.tup [.int (1 - 2 * ((i : Int) % 2)), .int 1])) t (sg i) := sg_at (SqT.of upd_same)
      generalize upd H8 t (.tup [.int (1 - 2 * ((i : Int) % 2)), .int 1]) = H9 at s9 r9 ⊢
      have s29 := Same.tr s3 (Same.tr s4 (Same.tr s5 (Same.tr s6 (Same.tr s7 (Same.tr s8 s9)))))
      refine ⟨c3, t, partQ r k i, sg i, rfl, RatAt.same s9 r8.at_, r9, pz, (Pm.sg i).sz.mono (by decide), fun c4 Ha sa ra => ?_⟩
      have sb := sum_bd h9 hk i
      have hi20 : i ≤ 2 ^ 20 := Nat.le_trans (show i ≤ 13 by omega) (by decide)
      have pb2 := (Pm.sg i).times pb
      rw [Rat.mul_comm] at pb2
      refine ⟨c, c4, _, _, rfl, RatAt.same (Same.tr s2 (Same.tr s29 sa)) hc, ra.at_, bd_sz hk dw sb hi20, bd_sz (n := 1) hk dw (by rw [Nat.one_mul]; exact pb2) (by decide), fun c5 Hb sb2 rb => ?_⟩
      refine ⟨Same.tr s1 (Same.tr s2 (Same.tr s29 (Same.tr sa sb2))), c5, some (.int (i : Int)), some (.ref p3), some (.ref p4), some (.ref c3), rfl, ?_⟩
      have rb2 := rb.at_ (K := K)
      change RatAt K Hb c5 (sumTo (fun i => sg i * partQ r k i) i + partQ r k i * sg i) at rb2
      rw [Rat.mul_comm (partQ r k i)] at rb2
      exact rb2
    · obtain ⟨s1, c, v3, v4, v5, v6, rfl, hc⟩ := P
      have e0 : sumTo (fun i => sg i * partQ r k i) (r.length + 1) = 0 := cuts_done hne k
      rw [e0] at hc
      refine ⟨_, rfl, line2, fun t ht => ⟨c, t, [0, 1], [0, 1], rfl, rfl, sameT (same_new ht) hc, SqT.of upd_same, blT (Q := Q) rfl (q _ (Same.tr sZ (Same.tr s1 (same_new ht))))⟩⟩
theorem has_undoneR (D : At K mg "_law_undone_right" sUndoneR) (S : Hs P w K mg base CK CM) : Has P w K mg base 7 "_law_undone_right" (spYes isNineB) := by
  refine D.has scUndoneR (fun vs H Q E h => ?_) (fun _ _ _ _ _ _ us hl => match us, hl with | [_, _], _ => rfl) (fun f cdv A outer s H vs Q E hr h => ?_)
  · obtain ⟨⟨k, a, r, rfl, _⟩, _⟩ := h
    rfl
  · obtain ⟨⟨k, a, r, rfl, hk, ha, h9⟩, q⟩ := h
    obtain ⟨mc, po, g, cr, cm, FO⟩ := S.of_
    refine ⟨_, pss_cons (ps_set (i := 2) scUndoneR.nd rfl (Or.inl rfl) (pe_tup (pa_cons (pe_op op_sub pe_int (pe_op op_mul pe_int (pe_op op_mod (pe_callB call_len_seq rfl S.T.len PySem.boot_len (pa_cons (pv 0) pa_nil)) pe_int))) (pa_cons pe_int pa_nil))))
      (pss_one (ps_ret (pe_cmpR (op_eqI (roomU hr)) (pe_cal S.cutValue hr (pa_cons (pv 1) (pa_cons (pe_cal S.undone hr (pa_cons (ClX.pe_cmeth (E := E0) (pe_glob (v := .ref CM) rfl S.L.mat rfl) cr cm FO (hr.mono (by decide)) pass0 (pa_cons (pv 0) pa_nil)) pa_nil)) pa_nil)))
        (pe_cal S.ltimes hr (pa_cons (pv 2) (pa_cons (pe_cal S.slackSum hr (pa_cons (pv 1) (pa_cons (pe_revT (pv 0)) pa_nil))) pa_nil))) (nomark _)))), ?_⟩
    have eL : (r.map V.int).length = r.length := List.length_map ..
    refine ⟨_, rfl, a, _, rfl, .inr ha.sq, _, _, rfl, rfl, (by show (0 : Int) < 2; decide), _, _, rfl, rfl, .inl ⟨by decide, by decide⟩, _, _, rfl, rfl, line2, fun t ht => ?_⟩
    rw [eL]
    have sT : Same H (upd H t (.tup [.int (1 - 2 * ((r.length : Int) % 2)), .int 1])) := same_new ht
    have rT : RatAt K (upd H t (.tup [.int (1 - 2 * ((r.length : Int) % 2)), .int 1])) t (sg r.length) := sg_at (SqT.of upd_same)
    generalize upd H t (.tup [.int (1 - 2 * ((r.length : Int) % 2)), .int 1]) = HT at sT rT ⊢
    have haT := RowAt.same sT ha
    refine ⟨_, rfl, rfl, _, rfl, a, r, rfl, haT, h9.small, fun x H1 s1 hx => ?_⟩
    refine ⟨x, r, rfl, hx, h9.small, h9.len, fun y js H2 s2 pj hy => ?_⟩
    have n1 := nine_rev h9
    have pl : Plain (turned r js) r.reverse.sum := plain_js n1 pj (fun _ => sg r.length) fun _ => Pm.sg _
    refine ⟨k, y, _, _, rfl, hk, hy, pl, fun p H3 s3 hp => ?_⟩
    have ev : val (fun r => ch false r k) (turned r js) = sg r.length * ch true r.reverse k := by
      unfold turned
      rw [val_js _ (fun _ => sg r.length) pj, sm_mul, slack_joined r.reverse.length r.reverse rfl n1.pos k]
    rw [ev] at hp
    have s13 := Same.tr s1 (Same.tr s2 s3)
    refine ⟨_, rfl, _, rfl, _, rfl, a, _, rfl, (RowAt.same s13 haT).sq, fun b hb => ?_⟩
    have s4 : Same H3 (upd H3 b (.tup (r.map V.int).reverse)) := same_new hb
    have hb4 : RowAt (upd H3 b (.tup (r.map V.int).reverse)) b r.reverse := by
      unfold RowAt
      rw [upd_same, List.map_reverse]
    generalize upd H3 b (.tup (r.map V.int).reverse) = H4 at s4 hb4 ⊢
    refine ⟨k, b, _, rfl, hk, hb4, n1.small, fun c H5 s5 n5 => ?_⟩
    have z1 := ch_sz true n1.pos hk (n := 4000) (by have := n1.wt; omega)
    refine ⟨t, c, _, _, rfl, RatAt.same (Same.tr s13 (Same.tr s4 s5)) rT, n5.at_, (Pm.sg _).sz.mono (by decide), z1, fun c2 H6 s6 n6 => ?_⟩
    exact ⟨p, c2, [(sg r.length * ch true r.reverse k).num, ((sg r.length * ch true r.reverse k).den : Int)], [(sg r.length * ch true r.reverse k).num, ((sg r.length * ch true r.reverse k).den : Int)], rfl, rfl,
      RatAt.same (Same.tr s4 (Same.tr s5 s6)) hp, n6.at_, blT (Q := Q) rfl (q _ (Same.tr sT (Same.tr s13 (Same.tr s4 (Same.tr s5 s6)))))⟩
theorem has_back (D : At K mg "_law_back_right" sBack) (S : Hs P w K mg base CK CM) : Has P w K mg base 7 "_law_back_right" (spYes isNine) := by
  refine D.has scBack (fun vs H Q E h => ?_) (fun _ _ _ _ _ _ us hl => match us, hl with | [_], _ => rfl) (fun f cdv A outer s H vs Q E hr h => ?_)
  · obtain ⟨⟨a, r, rfl, _⟩, _⟩ := h
    rfl
  · obtain ⟨⟨a, r, rfl, ha, h9⟩, q⟩ := h
    obtain ⟨tp, tg, t1, t2, t3, t4, t5⟩ := S.L.mtp
    refine ⟨_, pss_cons (ps_set (i := 1) scBack.nd rfl (Or.inl rfl) pe_dnewT)
      (pss_cons (ps_for PassesOwn.never rfl (pi_itemsN (SlX.pe_propSl (E := E0) (pe_cal S.strictMix hr (pa_cons (pv 0) pa_nil)) S.L.msc t1 t2 t3 t4 (has_terms t5 S.T S.L) (hr.mono (by decide)) (fun _ _ _ _ h => h)))
        (pg_tup rfl (pgs_cons (pg_name (i := 2) scBack.nd rfl (Or.inl rfl)) (pgs_cons (pg_name (i := 3) scBack.nd rfl (Or.inl rfl)) pgs_nil)))
        (pss_one (ps_set (i := 1) scBack.nd rfl (Or.inl rfl) (pe_cal S.lsum hr (pa_cons (pv 1) (pa_cons (pe_frz (SlX.pe_propSl (E := E0) (pe_cal S.slackMix hr (pa_cons (pv 2) pa_nil)) S.L.msc t1 t2 t3 t4 (has_terms t5 S.T S.L) (hr.mono (by decide)) (fun _ _ _ _ h => h))) (pa_cons (pv 3) pa_nil)))))))
      (pss_one (ps_ret (pe_cmpR (op_eqT (roomU hr)) (pv 1) (pe_callTy (cr_dictPT (by rfl) (roomU hr)) rfl S.T.dict PyProof.Rows.boot_dict (pa_cons (pe_lst (pa_cons (pe_tup (pa_cons (pv 0) (pa_cons (pe_tup (pa_cons pe_int (pa_cons pe_int pa_nil))) pa_nil))) pa_nil)) pa_nil)) (nomark _))))), ?_⟩
    refine fun d0 hd0 => ?_
    have s1 : Same H (upd H d0 (.dT [])) := same_new hd0
    have u1 : UAt K (upd H d0 (.dT [])) d0 [] := ⟨[], upd_same, .nil⟩
    generalize upd H d0 (.dT []) = H1 at s1 u1 ⊢
    refine ⟨_, rfl, a, r, rfl, RowAt.same s1 ha, h9.small, h9.len, fun x js H2 s2 pj hx => ?_⟩
    have hx' := hx
    obtain ⟨dx, vx, dd, hs1, _, _⟩ := hx'
    have fj := fam_js h9 pj (fun j => sg (r.length + j.length))
    refine ⟨x, dx, vx, rfl, hs1, x, _, rfl, hx, fj.nine, fj.nd, fun p H3 np s3 hu => ?_⟩
    obtain ⟨kvs, hd, pr⟩ := hu
    refine ⟨p, kvs, rfl, hd, fun o => ?_⟩
    have s4 : Same H2 (upd H3 p (.frz o (.dT kvs))) := same_frz s3 np
    have f4 : (upd H3 p (.frz o (.dT kvs))) p = some (.frz o (.dT kvs)) := upd_same
    have pr4 : Paired (EntR K (upd H3 p (.frz o (.dT kvs)))) kvs (js.map fun j => (j, sg (r.length + j.length))) := paired_mono (Tup.ent (tup_dT hd)) pr
    generalize upd H3 p (.frz o (.dT kvs)) = H4 at s4 f4 pr4 ⊢
    have jl : js.length ≤ 512 := by
      have := fj.len
      rw [List.length_map] at this
      exact this
    have ml : (js.map fun j => (j, sg (r.length + j.length))).length = js.length := List.length_map ..
    have f0 : Fam r.sum [] := ⟨(fun e he => by cases he), (fun e he => by cases he), List.Pairwise.nil⟩
    refine forF (over_itemsM pr4) (fun i σ H' => Same H4 H' ∧ ∃ c m v2 v3, σ = [some (.ref a), some (.ref c), v2, v3] ∧ UAt K H' c m ∧ Fam r.sum m ∧ IntM (i * 512) m ∧ (∀ e ∈ m, e.2 ≠ 0) ∧ ∀ g, val g m = sm (fun j => sg (r.length + j.length) * sm g (jn j)) (js.take i))
      ⟨Same.rfl' _, d0, [], none, none, rfl, UAt.same (Same.tr s2 s4) u1, f0, (fun e he => by cases he), (fun e he => by cases he), fun g => rfl⟩ (fun i σ H' _ h => ⟨h.1 _ _ f4, Same.tup h.1⟩) (fun i σ H5 x5 H6 hi P s6 y => ?_) (fun σ H' P => ?_)
    · obtain ⟨s5, c, m, v2, v3, rfl, hc, fm, im, nz, vm⟩ := P
      obtain ⟨t, e, rp, qp, ee, rfl, ht, hrow, hq⟩ := y
      rw [ml] at hi
      obtain ⟨j, ej, rfl⟩ : ∃ j, js[i]? = some j ∧ e = (j, sg (r.length + j.length)) := by
        rw [List.getElem?_map] at ee
        obtain ⟨j, h1, h2⟩ := Option.map_eq_some_iff.mp ee
        exact ⟨j, h1, h2.symm⟩
      obtain ⟨n9, ns⟩ := nine_jn h9 (pj.mem_iff.mp (List.mem_of_getElem? ej))
      refine ⟨t, _, rfl, ht, rfl, _, _, rfl, _, _, rfl, rfl, ?_⟩
      refine ⟨_, rfl, _, rfl, rp, j, rfl, hrow, n9.small, n9.len, fun x2 ks H7 s7 pk hx2 => ?_⟩
      have hx' := hx2
      obtain ⟨dx2, vx2, dd2, hs2, _, _⟩ := hx'
      have fk := fam_js n9 pk (fun _ => 1)
      refine ⟨x2, dx2, vx2, rfl, hs2, x2, _, rfl, hx2, fk.nine, fk.nd, fun p2 H8 np2 s8 hu2 => ?_⟩
      obtain ⟨kv2, hd2, pr2⟩ := hu2
      refine ⟨p2, _, hd2, trivial, fun o2 => ?_⟩
      have s9 : Same H7 (upd H8 p2 (.frz o2 (.dT kv2))) := same_frz s8 np2
      have f9 : FAt K (upd H8 p2 (.frz o2 (.dT kv2))) p2 (ks.map fun j => (j, 1)) := ⟨o2, kv2, upd_same, paired_mono (Tup.ent (tup_dT hd2)) pr2⟩
      generalize upd H8 p2 (.frz o2 (.dT kv2)) = H9 at s9 f9 ⊢
      have s69 := Same.tr s6 (Same.tr s7 s9)
      have fk2 : Fam r.sum (ks.map fun j => (j, (1 : Rat))) := ⟨fk.nine, fun e he => by rw [fk.sum e he, ns], fk.nd⟩
      have i30 : i * 512 ≤ 2 ^ 30 := by
        have : (512 : Nat) * 512 ≤ 2 ^ 30 := by decide
        have : i * 512 ≤ 512 * 512 := Nat.mul_le_mul_right _ (by omega)
        omega
      refine ⟨_, rfl, c, p2, qp, m, _, sg (r.length + j.length), r.sum, i * 512, rfl, (UAt.same s69 hc).d, f9, RatAt.same (Same.tr s7 s9) hq, fm, fk2, im, i30, fun e he => ?_, Pm.sg _, fun p3 m3 H10 np3 s10 hu3 fm3 im3 vm3 nz3 => ?_⟩
      · obtain ⟨z, _, rfl⟩ := List.mem_map.mp he
        exact pm_one
      · refine ⟨Same.tr s5 (Same.tr s69 s10), p3, m3, some (.ref rp), some (.ref qp), rfl, hu3, fm3, by rw [Nat.succ_mul]; exact im3, nz3, fun g => ?_⟩
        have et : js.take (i + 1) = js.take i ++ [j] := by rw [List.take_succ, ej]; rfl
        rw [vm3, vm, et, sm_append, sm_cons, sm_nil, val_js _ (fun _ => 1) pk, Rat.add_zero]
        rw [sm_congr (f := fun j => 1 * g j) (g := g) (fun _ _ => Rat.one_mul _)]
    · obtain ⟨s5, c, m, v2, v3, rfl, hc, fm, im, nz, vm⟩ := P
      rw [ml, List.take_length] at vm
      have e1 : m = [(r, 1)] := back_one fm.nd nz fun g => by
        rw [vm, sm_perm _ pj]
        exact back_all r g
      subst e1
      have sE := Same.tr s1 (Same.tr s2 (Same.tr s4 s5))
      refine ⟨_, rfl, _, rfl, line2, fun t ht => ⟨line2, fun t2 ht2 => ⟨by show 1 ≤ sizeLine; decide, fun l hl => ?_⟩⟩⟩
      have sF : Same H' (upd (upd (upd H' t (.tup [.int 1, .int 1])) t2 (.tup [.ref a, .ref t])) l (.lst [.ref t2])) := Same.tr (same_new ht) (Same.tr (same_new ht2) (same_new hl))
      have rt : SqT K (upd (upd (upd H' t (.tup [.int 1, .int 1])) t2 (.tup [.ref a, .ref t])) l (.lst [.ref t2])) t [.int 1, .int 1] := sameT (Same.tr (same_new ht2) (same_new hl)) (SqT.of upd_same)
      have rt2 : SqT K (upd (upd (upd H' t (.tup [.int 1, .int 1])) t2 (.tup [.ref a, .ref t])) l (.lst [.ref t2])) t2 [.ref a, .ref t] := sameT (same_new hl) (SqT.of upd_same)
      have rl : (upd (upd (upd H' t (.tup [.int 1, .int 1])) t2 (.tup [.ref a, .ref t])) l (.lst [.ref t2])) l = some (.lst [.ref t2]) := upd_same
      generalize upd (upd (upd H' t (.tup [.int 1, .int 1])) t2 (.tup [.ref a, .ref t])) l (.lst [.ref t2]) = HF at sF rt rt2 rl ⊢
      have haF := RowAt.same (Same.tr sE sF) ha
      refine ⟨l, [t2], [(KR r, .ref t)], rfl, SqL.of rl, .cons ⟨a, rt2, by rw [KR_kV]; exact haF⟩ .nil, fun p9 np9 => ?_⟩
      refine ⟨c, p9, [(r, 1)], [(r, 1)], rfl, rfl, (UAt.same (Same.tr sF (same_new np9)) hc).d, ⟨_, .inl upd_same, .cons ⟨rfl, t, rfl, rat_one (sameT (same_new np9) rt)⟩ .nil⟩, .refl _, q _ (Same.tr sE (Same.tr sF (same_new np9)))⟩
end
end Rj
set_option Elab.async false
set_option linter.all false
set_option maxRecDepth 100000
set_option maxHeartbeats 4000000
set_option exponentiation.threshold 100000
/-! The law. -/
namespace Rj
open PySem PySem.Spec PyProof.Rows L2
abbrev sRight : Stmt := top 99
abbrev sLaw : Stmt := top 100
theorem scRight : FnScope ["_law_dice_here", "_law_row", "_law_bound"] ["_law_dice_here"] (defScope sRight) := ⟨rfl, rfl, rfl, by decide +kernel, rfl, by decide +kernel, by decide +kernel⟩
theorem scLaw : FnScope ["_law_script", "_law_spot", "_law_dice_here", "_law_told"] ["_law_script"] (defScope sLaw) := ⟨rfl, rfl, rfl, by decide +kernel, rfl, by decide +kernel, by decide +kernel⟩
def spRight : Sp := fun vs H Q _ => ∃ d : Addr, vs = [.ref d] ∧ DiceAt H d ∧ ∀ H', But d H H' → DiceAt H' d → Q (.bl true) H'
def spLaw (K : PySem.W.Frag) : Sp := fun vs H Q _ => ∃ (a : Addr) (ns : List Int), vs = [.ref a] ∧ SqL K H a (ns.map V.int) ∧ ns.length ≤ 63 ∧ ∀ H', Q (.bl true) H'
theorem DiceAt.same {H H' : Hp} {d : Addr} (s : Same H H') (h : DiceAt H d) : DiceAt H' d := by
  obtain ⟨x, y, z, h⟩ := h
  exact ⟨x, y, z, s _ _ h⟩
section
variable {P : Program} {w : World} {K : PySem.W.Frag} {mg : Str → Option Value} {base : Heap} {CK CM : Addr}
theorem has_right (D : At K mg "_law_right" sRight) (S : Hs P w K mg base CK CM) (DR : Has P w K mg base 3 "_law_row_drawn" spDrawn) (R : Has P w K mg base 1 "_law_roll" spRoll) (PK : Has P w K mg base 2 "_law_pick" (spPick K))
    (M : Has P w K mg base 7 "_law_mixes_right" (spYes isNine)) (V7 : Has P w K mg base 7 "_law_values_right" (spYes isNineB)) (U : Has P w K mg base 7 "_law_undone_right" (spYes isNineB)) (B : Has P w K mg base 7 "_law_back_right" (spYes isNine)) (C : Has P w K mg base 7 "_law_cuts_right" (spYes isCuts)) :
    Has P w K mg base 8 "_law_right" spRight := by
  refine D.has scRight (fun vs H Q E h => ?_) (fun _ _ _ _ _ _ us hl => match us, hl with | [_], _ => rfl) (fun f cdv A outer s H vs Q E hr h => ?_)
  · obtain ⟨d, rfl, _⟩ := h
    rfl
  · obtain ⟨d, rfl, hd, q⟩ := h
    refine ⟨_, pss_cons (ps_par (i := 1) (j := 2) rfl scRight.nd rfl rfl (by decide) rfl rfl (pa_cons (pe_cal DR hr (pa_cons (pv 0) (pa_cons (pe_cal R hr (pa_cons (pv 0) (pa_cons pe_int pa_nil))) pa_nil)))
        (pa_cons (pe_op op_add pe_int (pe_cal R hr (pa_cons (pv 0) (pa_cons (pe_cal PK hr (pa_cons (pv 0) (pa_cons (pe_lst (pa_cons pe_int (pa_cons pe_int pa_nil))) pa_nil))) pa_nil)))) pa_nil)) (by rfl))
      (pss_cons (ps_if (PW.pt (pw_or (pt_not (pt_val (pe_cal M hr (pa_cons (pv 1) pa_nil)))) (pw_or (pt_not (pt_val (pe_cal V7 hr (pa_cons (pv 1) (pa_cons (pv 2) pa_nil))))) (pw_or1 (pt_not (pt_val (pe_cal U hr (pa_cons (pv 1) (pa_cons (pv 2) pa_nil))))))))) (pss_one ps_never) pss_nil)
      (pss_one (ps_ret (pe_and (pe_cal B hr (pa_cons (pv 1) pa_nil)) (pe_one (pe_or (pe_cmpR (op_eqI (roomU hr)) (pv 1) (pe_tup pa_nil) (nomark _)) (pe_one (pe_cal C hr (pa_cons (pv 1) (pa_cons (pv 2) pa_nil)))))))))), ?_⟩
    refine ⟨_, rfl, _, rfl, d, 10, rfl, hd, by decide, by decide, fun W H1 w0 w1 b1 d1 => ?_⟩
    refine ⟨d, W, rfl, d1, w0, by omega, fun p r H2 b2 d2 hp hpos hsum => ?_⟩
    have h9 : Nine r := ⟨hpos, by omega⟩
    refine ⟨_, rfl, _, rfl, by show 2 ≤ sizeLine; decide, fun l hl => ?_⟩
    have s3 : Same H2 (upd H2 l (.lst [.int 5, .int 20])) := same_new hl
    have nld : l ≠ d := by
      obtain ⟨x, y, z, h⟩ := d2
      exact ne_of_none h hl |>.symm
    have rl : SqL K (upd H2 l (.lst [.int 5, .int 20])) l ([5, 20].map V.int) := SqL.of upd_same
    have d3 := DiceAt.same s3 d2
    have hp3 := RowAt.same s3 hp
    have b3 : But d H (upd H2 l (.lst [.int 5, .int 20])) := fun b o n e => s3 _ _ (b2 _ _ n (b1 _ _ n e))
    generalize upd H2 l (.lst [.int 5, .int 20]) = H3 at rl d3 hp3 b3 ⊢
    refine ⟨d, l, [5, 20], rfl, d3, rl, nld, by decide, by decide, fun n H4 hn b4 d4 => ?_⟩
    have n20 : 0 < n ∧ n ≤ 20 := by
      simp at hn
      omega
    refine ⟨d, n, rfl, d4, n20.1, by omega, fun k H5 k0 k1 b5 d5 => ?_⟩
    have hp5 : RowAt H5 p r := by
      obtain ⟨x, y, z, h3⟩ := d3
      obtain ⟨x4, y4, z4, h4⟩ := d4
      exact But.row b5 h4 (fun _ z => nomatch z) (But.row b4 h3 (fun _ z => nomatch z) hp3)
    have bH5 : But d H H5 := fun b o n e => b5 _ _ n (b4 _ _ n (b3 _ _ n e))
    obtain ⟨kk, rfl⟩ : ∃ kk : Nat, k = (kk : Int) := ⟨k.toNat, by omega⟩
    have ek : [V.ref p, V.int (1 + (kk : Int))] = [V.ref p, V.int ((kk : Int) + 1)] := by rw [Int.add_comm]
    refine ⟨_, _, rfl, rfl, _, _, rfl, ?_⟩
    refine ⟨_, rfl, ⟨p, r, rfl, hp5, h9⟩, fun H6 s6 => ⟨true, rfl, iteF ?_⟩⟩
    have hp6 := RowAt.same s6 hp5
    refine ⟨_, rfl, _, rfl, ⟨kk, p, r, ek, by omega, hp6, h9⟩, fun H7 s7 => ⟨true, rfl, iteF ?_⟩⟩
    have hp7 := RowAt.same s7 hp6
    refine ⟨_, rfl, _, rfl, ⟨kk, p, r, ek, by omega, hp7, h9⟩, fun H8 s8 => ⟨true, rfl, iteF ?_⟩⟩
    have hp8 := RowAt.same s8 hp7
    refine ⟨_, rfl, ⟨p, r, rfl, hp8, h9⟩, fun H9 s9 => ⟨true, rfl, iteT ?_⟩⟩
    have hp9 := RowAt.same s9 hp8
    have s59 := Same.tr s6 (Same.tr s7 (Same.tr s8 s9))
    refine ⟨_, rfl, Nat.zero_le _, fun t ht => ⟨p, t, r, [], rfl, rfl, (RowAt.same (same_new ht) hp9).sq, SqT.of upd_same, _, rfl, ?_⟩⟩
    have sT : Same H5 (upd H9 t (.tup [])) := Same.tr s59 (same_new ht)
    by_cases z : r = []
    · rw [decide_eq_true z]
      exact iteT (q _ (fun b o n e => sT _ _ (bH5 _ _ n e)) (DiceAt.same sT d5))
    · rw [decide_eq_false z]
      refine iteF ⟨_, rfl, _, rfl, ⟨kk, p, r, ek, by omega, RowAt.same (same_new ht) hp9, h9, z⟩, fun Ha sa => ?_⟩
      have sT2 := Same.tr sT sa
      exact q _ (fun b o n e => sT2 _ _ (bH5 _ _ n e)) (DiceAt.same sT2 d5)
/-- what the law asks of the dice, over all its spots; then what is told -/
theorem small_21 : Small [2, 1] := ⟨by decide, by decide⟩
theorem nine_21 : Nine [2, 1] := ⟨by decide, by decide⟩
theorem small_0 : Small [] := ⟨by decide, by decide⟩
theorem nine_0 : Nine [] := ⟨by decide, by decide⟩
theorem small_1s : Small (List.replicate 12 1) := ⟨by decide, by decide⟩
theorem small_2s : Small (List.replicate 12 2) := ⟨by decide, by decide⟩
theorem jn_21 : jn [2, 1] = [[2, 1], [3]] := rfl
theorem ch_21 : ch true [2, 1] 2 = mkRat 11 8 := by decide +kernel
theorem len_js {r : Row} {js : List Row} (f : Row → Rat) (p : js.Perm (jn r)) : (js.map fun j => (j, f j)).length = (jn r).length := by rw [List.length_map, p.length_eq]
theorem disp_done {H0 H5 : Hp} {d : Addr} {kvs : List (List Key × V)} {m : Mx} (nd : H0 d = none) (s : Same (upd H0 d (.dT [])) H5) (pr : Paired (EntR K H5) kvs m) (hn : (m.map (·.1)).Nodup) :
    Same H0 (upd H5 d (.dT (putsK [] kvs))) ∧ UAt K (upd H5 d (.dT (putsK [] kvs))) d m := by
  have e : putsK [] kvs = kvs := by
    rw [putsK_new (by rw [List.nil_append]; exact keys_nodup pr hn)]
    rfl
  rw [e]
  refine ⟨fun b o q => ?_, ⟨kvs, upd_same, paired_mono (Tup.ent (tup_dT (s _ _ upd_same))) pr⟩⟩
  have n := ne_of_none q nd
  rw [upd_ne n]
  exact s _ _ (by rw [upd_ne n]; exact q)
theorem UAt.ne {H : Hp} {p d : Addr} {m : Mx} (h : UAt K H p m) (n : H d = none) : p ≠ d := by
  obtain ⟨kvs, h, _⟩ := h
  exact ne_of_none h n
theorem row_new {H : Hp} {t : Addr} {r : Row} {vs : List V} (h : H t = none) (e : vs = r.map V.int) : RowAt (upd H t (.tup vs)) t r := by
  unfold RowAt
  rw [upd_same, e]
theorem walk_law {f : Addr} {cdv : Value} {A : Around} {outer : List Env} {s : Shared} {H : Hp} {vs : List V} {Q : VK} {E : XK} (S : Hs P w K mg base CK CM) (DI : Has P w K mg base 1 "_law_dice" (spDice K)) (RI : Has P w K mg base 8 "_law_right" spRight)
    (hr : Room 8 (A.deeper (envOfC "law" (defScope sLaw) s.heap.objs.size f cdv))) (h : spLaw K vs H Q E) :
    ∃ t, PSs (cxOf CX0 P w K mg base ["_law_script", "_law_spot", "_law_dice_here", "_law_told"] "law" (defScope sLaw) f cdv A outer s H E).nox (defBody sLaw) t ∧ t { nx := fun _ H' => Q .non H', rt := Q } (start ["_law_script", "_law_spot", "_law_dice_here", "_law_told"] vs) H := by
    obtain ⟨a, ns, rfl, ha, hn, q⟩ := h
    obtain ⟨tp, tg, t1, t2, t3, t4, t5⟩ := S.L.mtp
    obtain ⟨lg, l1, l2, l3⟩ := S.L.mlen
    have FT := has_terms (P := P) (w := w) (base := base) t5 S.T S.L
    have FL := has_len (P := P) (w := w) (base := base) l3 S.T S.L
    have u := roomU (n := 100) hr
    refine ⟨_, pss_cons (ps_for PassesOwn.never rfl (pi_range1 rfl S.T.range (pa_cons (pe_callB (call_max2 (by rfl)) rfl S.T.max PyProof.Rows.boot_max (pa_cons pe_int (pa_cons (pe_callB (call_min2 (by rfl)) rfl S.T.min PyProof.Rows.boot_min (pa_cons pe_int (pa_cons (pe_callB call_len_seq rfl S.T.len PySem.boot_len (pa_cons (pv 0) pa_nil)) pa_nil))) pa_nil))) pa_nil)) (pg_name (i := 1) scLaw.nd rfl (Or.inl rfl))
        (pss_cons (ps_set (i := 2) scLaw.nd rfl (Or.inl rfl) (pe_cal DI hr (pa_cons (pv 0) (pa_cons (pv 1) pa_nil))))
        (pss_one (ps_if (PW.pt (pw_or (pt_not (pt_val (pe_cal RI hr (pa_cons (pv 2) pa_nil)))) (pw_or1 (pt_not (pt_val (pe_cal RI hr (pa_cons (pv 2) pa_nil))))))) (pss_one ps_never) pss_nil))))
      (pss_cons (ps_set (i := 3) scLaw.nd rfl (Or.inl rfl) (pe_lst (pa_cons (SlX.pe_propSl (E := E0) (pe_cal S.slackMix hr (pa_cons (pe_tup (pa_cons pe_int (pa_cons pe_int pa_nil))) pa_nil)) S.L.msc t1 t2 t3 t4 FT (hr.mono (by decide)) (fun _ _ _ _ h => h))
        (pa_cons (SlX.pe_propSl (E := E0) (pe_cal S.strictMix hr (pa_cons (pe_tup (pa_cons pe_int (pa_cons pe_int pa_nil))) pa_nil)) S.L.msc t1 t2 t3 t4 FT (hr.mono (by decide)) (fun _ _ _ _ h => h))
        (pa_cons (SlX.pe_propSl (E := E0) (pe_cal S.slackMix hr (pa_cons (pe_tup pa_nil) pa_nil)) S.L.msc t1 t2 t3 t4 FT (hr.mono (by decide)) (fun _ _ _ _ h => h))
        (pa_cons (pe_callB (call_lenSl l1 l2 FL (hr.mono (by decide))) rfl S.T.len PySem.boot_len (pa_cons (pe_cal S.slackMix hr (pa_cons (pe_op op_repT (pe_tup (pa_cons pe_int pa_nil)) pe_int) pa_nil)) pa_nil))
        (pa_cons (pe_callB (call_lenSl l1 l2 FL (hr.mono (by decide))) rfl S.T.len PySem.boot_len (pa_cons (pe_cal S.strictMix hr (pa_cons (pe_op op_repT (pe_tup (pa_cons pe_int pa_nil)) pe_int) pa_nil)) pa_nil)) pa_nil)))))))
      (pss_cons (ps_if (pt_cmpR (op_neLT (roomU hr)) (pv 3) (pe_lst (pa_cons (pe_dispT (roomU hr) (pps_cons (pe_tup (pa_cons pe_int (pa_cons pe_int pa_nil))) (pe_tup (pa_cons pe_int (pa_cons pe_int pa_nil))) (pps_cons (pe_tup (pa_cons pe_int pa_nil)) (pe_tup (pa_cons pe_int (pa_cons pe_int pa_nil))) pps_nil)))
          (pa_cons (pe_dispT (roomU hr) (pps_cons (pe_tup (pa_cons pe_int (pa_cons pe_int pa_nil))) (pe_tup (pa_cons pe_int (pa_cons pe_int pa_nil))) (pps_cons (pe_tup (pa_cons pe_int pa_nil)) (pe_tup (pa_cons (pe_un un_neg pe_int) (pa_cons pe_int pa_nil))) pps_nil)))
          (pa_cons (pe_dispT (roomU hr) (pps_cons (pe_tup pa_nil) (pe_tup (pa_cons pe_int (pa_cons pe_int pa_nil))) pps_nil)) (pa_cons pe_int (pa_cons pe_int pa_nil)))))) (nomark _)) (pss_one ps_never) pss_nil)
      (pss_one (ps_ret (pe_cmpR (op_eqI (roomU hr)) (pe_cal S.cutValue hr (pa_cons pe_int (pa_cons (pe_cal S.slackMix hr (pa_cons (pe_tup (pa_cons pe_int (pa_cons pe_int pa_nil))) pa_nil)) pa_nil))) (pe_tup (pa_cons pe_int (pa_cons pe_int pa_nil))) (nomark _)))))), ?_⟩
    have eL : (ns.map V.int).length = ns.length := List.length_map ..
    refine ⟨_, rfl, a, _, rfl, .inl ha, _, _, rfl, _, _, rfl, ?_⟩
    rw [eL]
    generalize hN : (if (if ((ns.length : Nat) : Int) < 3 then ((ns.length : Nat) : Int) else 3) > 1 then (if ((ns.length : Nat) : Int) < 3 then ((ns.length : Nat) : Int) else 3) else 1) = N
    have n3 : 1 ≤ N ∧ N ≤ 3 := by
      rw [← hN]
      split <;> split <;> omega
    refine ⟨_, rfl, by omega, by omega, ?_⟩
    refine forF over_range (fun i σ H' => Same H H' ∧ ∃ v1 v2, σ = [some (.ref a), v1, v2, none]) ⟨Same.rfl' _, none, none, rfl⟩ (fun _ _ _ _ _ => trivial) (fun i σ H1 x H2 hi p s2 y => ?_) (fun σ H' p => ?_)
    · obtain ⟨s1, v1, v2, rfl⟩ := p
      subst y
      have e1 : (0 + (i : Int)) = ((i : Nat) : Int) := by omega
      rw [e1]
      refine ⟨_, rfl, _, rfl, a, ns, i, rfl, (Same.tr s1 s2).seq ha, by omega, fun d H3 nd s3 hd => ?_⟩
      refine ⟨_, rfl, d, rfl, hd, fun H4 b4 d4 => ⟨true, rfl, iteF ⟨_, rfl, d, rfl, d4, fun H5 b5 d5 => ⟨true, rfl, iteF ⟨?_, some (.int (i : Int)), some (.ref d), rfl⟩⟩⟩⟩⟩
      have s35 : Same H2 H5 := fun b o e => b5 _ _ (ne_of_none e nd) (b4 _ _ (ne_of_none e nd) (s3 _ _ e))
      exact Same.tr s1 (Same.tr s2 s35)
    · obtain ⟨_, v1, v2, rfl⟩ := p
      -- the first mix
      refine ⟨line2, fun t1 ht1 => ⟨t1, [2, 1], rfl, row_new ht1 rfl, small_21, by decide, fun x1 js1 H1 _ pj1 hx1 => ?_⟩⟩
      have fj1 := fam_js nine_21 pj1 (fun _ => 1)
      have hx1' := hx1
      obtain ⟨dx1, vx1, _, hs1, _, _⟩ := hx1'
      refine ⟨x1, dx1, vx1, rfl, hs1, x1, _, rfl, hx1, fj1.nine, fj1.nd, fun p1 H2 _ _ u1 => ?_⟩
      -- the second
      refine ⟨line2, fun t2 ht2 => ⟨t2, [2, 1], rfl, row_new ht2 rfl, small_21, by decide, fun x2 js2 H3 s3 pj2 hx2 => ?_⟩⟩
      have u1a := UAt.same (Same.tr (same_new ht2) s3) u1
      have fj2 := fam_js nine_21 pj2 (fun j => sg (([2, 1] : Row).length + j.length))
      have hx2' := hx2
      obtain ⟨dx2, vx2, _, hs2, _, _⟩ := hx2'
      refine ⟨x2, dx2, vx2, rfl, hs2, x2, _, rfl, hx2, fj2.nine, fj2.nd, fun p2 H4 _ s4 u2 => ?_⟩
      -- the third
      refine ⟨Nat.zero_le _, fun t3 ht3 => ⟨t3, [], rfl, row_new ht3 rfl, small_0, by decide, fun x3 js3 H5 s5 pj3 hx3 => ?_⟩⟩
      have s35 := Same.tr s4 (Same.tr (same_new ht3) s5)
      have u1b := UAt.same s35 u1a
      have u2b := UAt.same (Same.tr (same_new ht3) s5) u2
      have fj3 := fam_js nine_0 pj3 (fun _ => 1)
      have hx3' := hx3
      obtain ⟨dx3, vx3, _, hs3, _, _⟩ := hx3'
      refine ⟨x3, dx3, vx3, rfl, hs3, x3, _, rfl, hx3, fj3.nine, fj3.nd, fun p3 H6 _ s6 u3 => ?_⟩
      -- the fourth
      refine ⟨by show 1 ≤ sizeLine; decide, fun t4 ht4 => ⟨t4, 12, [.int 1], rfl, rfl, SqT.of upd_same, by simp, by decide, by decide, by show 1 ≤ 1000; decide, fun q4 hq4 => ?_⟩⟩
      refine ⟨q4, List.replicate 12 1, rfl, row_new hq4 rfl, small_1s, by decide, fun x4 js4 H7 s7 pj4 hx4 => ?_⟩
      have s67 := Same.tr (same_new ht4) (Same.tr (same_new hq4) s7)
      have hx4' := hx4
      obtain ⟨dx4, vx4, _, hs4, _, _⟩ := hx4'
      have e4 : (js4.map fun j => (j, (1 : Rat))).length = 2048 := (len_js (fun _ => 1) pj4).trans (jn_len 1 (List.replicate 11 1))
      refine ⟨x4, dx4, vx4, rfl, hs4, x4, _, rfl, hx4, _, rfl, by rw [e4]; decide, ?_⟩
      rw [e4]
      -- the fifth
      refine ⟨by show 1 ≤ sizeLine; decide, fun t5 ht5 => ⟨t5, 12, [.int 2], rfl, rfl, SqT.of upd_same, by simp, by decide, by decide, by show 1 ≤ 1000; decide, fun q5 hq5 => ?_⟩⟩
      refine ⟨q5, List.replicate 12 2, rfl, row_new hq5 rfl, small_2s, by decide, fun x5 js5 H8 s8 pj5 hx5 => ?_⟩
      have s78 := Same.tr (same_new ht5) (Same.tr (same_new hq5) s8)
      have hx5' := hx5
      obtain ⟨dx5, vx5, _, hs5, _, _⟩ := hx5'
      have e5 : (js5.map fun j => (j, sg ((List.replicate 12 (2 : Int)).length + j.length))).length = 2048 := (len_js (fun j => sg ((List.replicate 12 (2 : Int)).length + j.length)) pj5).trans (jn_len 2 (List.replicate 11 2))
      refine ⟨x5, dx5, vx5, rfl, hs5, x5, _, rfl, hx5, _, rfl, by rw [e5]; decide, ?_⟩
      rw [e5]
      have s68 := Same.tr s67 s78
      have w1 := UAt.same (Same.tr s6 s68) u1b
      have w2 := UAt.same (Same.tr s6 s68) u2b
      have w3 := UAt.same s68 u3
      refine ⟨by show 5 ≤ sizeLine; decide, fun l hl => ?_⟩
      have sL : Same H8 (upd H8 l (.lst [.ref p1, .ref p2, .ref p3, .int ((2048 : Nat) : Int), .int ((2048 : Nat) : Int)])) := same_new hl
      have rL : (upd H8 l (.lst [.ref p1, .ref p2, .ref p3, .int ((2048 : Nat) : Int), .int ((2048 : Nat) : Int)])) l = some (.lst [.ref p1, .ref p2, .ref p3, .int 2048, .int 2048]) := upd_same
      generalize upd H8 l (.lst [.ref p1, .ref p2, .ref p3, .int ((2048 : Nat) : Int), .int ((2048 : Nat) : Int)]) = H9 at sL rL ⊢
      have z1 := UAt.same sL w1
      have z2 := UAt.same sL w2
      have z3 := UAt.same sL w3
      refine ⟨_, rfl, ?_⟩
      refine fun d1 hd1 => ⟨line2, fun k1 hk1 => ?_⟩
      have b0 : (upd H9 d1 (.dT [])) d1 = some (.dT []) := upd_same
      generalize hG0 : upd H9 d1 (.dT []) = G0 at b0 hk1 ⊢
      have q1 : Same G0 (upd G0 k1 (.tup [.int 2, .int 1])) := same_new hk1
      have a1 : RowAt (upd G0 k1 (.tup [.int 2, .int 1])) k1 [2, 1] := row_new hk1 rfl
      generalize upd G0 k1 (.tup [.int 2, .int 1]) = G1 at q1 a1 ⊢
      refine ⟨line2, fun c1 hc1 => ?_⟩
      have q2 : Same G1 (upd G1 c1 (.tup [.int 1, .int 1])) := same_new hc1
      have a3 : RatAt K (upd G1 c1 (.tup [.int 1, .int 1])) c1 1 := rat_one (SqT.of upd_same)
      generalize upd G1 c1 (.tup [.int 1, .int 1]) = G2 at q2 a3 ⊢
      refine ⟨by show 1 ≤ sizeLine; decide, fun k2 hk2 => ?_⟩
      have q3 : Same G2 (upd G2 k2 (.tup [.int 3])) := same_new hk2
      have a2 : RowAt (upd G2 k2 (.tup [.int 3])) k2 [3] := row_new hk2 rfl
      generalize upd G2 k2 (.tup [.int 3]) = G3 at q3 a2 ⊢
      refine ⟨line2, fun c2 hc2 => ?_⟩
      have q4 : Same G3 (upd G3 c2 (.tup [.int (1), .int 1])) := same_new hc2
      have a4 : RatAt K (upd G3 c2 (.tup [.int (1), .int 1])) c2 (1) := rat_one (SqT.of upd_same)
      generalize upd G3 c2 (.tup [.int (1), .int 1]) = G4 at q4 a4 ⊢
      have qq : Same G0 G4 := Same.tr q1 (Same.tr q2 (Same.tr q3 q4))
      refine ⟨qq _ _ b0, [(KR [2, 1], .ref c1), (KR [3], .ref c2)], .cons ⟨k1, rfl, by rw [KR_kV]; exact RowAt.same (Same.tr q2 (Same.tr q3 q4)) a1, rfl⟩ (.cons ⟨k2, rfl, by rw [KR_kV]; exact RowAt.same q4 a2, rfl⟩ .nil), by show 2 ≤ 15; decide, ?_⟩
      obtain ⟨sa, y1⟩ := disp_done (K := K) (kvs := [(KR [2, 1], .ref c1), (KR [3], .ref c2)]) (m := [([2, 1], 1), ([3], 1)]) hd1 (hG0 ▸ qq) (.cons ⟨rfl, c1, rfl, RatAt.same (Same.tr q3 q4) a3⟩ (.cons ⟨rfl, c2, rfl, a4⟩ .nil)) (by simp)
      have g1 := UAt.ne z1 hd1
      clear qq q1 q2 q3 q4 a1 a2 a3 a4 b0 hG0
      generalize upd G4 d1 (.dT (putsK [] [(KR [2, 1], V.ref c1), (KR [3], V.ref c2)])) = Ha at sa y1 ⊢
      refine fun d2 hd2 => ⟨line2, fun k1 hk1 => ?_⟩
      have b0 : (upd Ha d2 (.dT [])) d2 = some (.dT []) := upd_same
      generalize hG0 : upd Ha d2 (.dT []) = G0 at b0 hk1 ⊢
      have q1 : Same G0 (upd G0 k1 (.tup [.int 2, .int 1])) := same_new hk1
      have a1 : RowAt (upd G0 k1 (.tup [.int 2, .int 1])) k1 [2, 1] := row_new hk1 rfl
      generalize upd G0 k1 (.tup [.int 2, .int 1]) = G1 at q1 a1 ⊢
      refine ⟨line2, fun c1 hc1 => ?_⟩
      have q2 : Same G1 (upd G1 c1 (.tup [.int 1, .int 1])) := same_new hc1
      have a3 : RatAt K (upd G1 c1 (.tup [.int 1, .int 1])) c1 1 := rat_one (SqT.of upd_same)
      generalize upd G1 c1 (.tup [.int 1, .int 1]) = G2 at q2 a3 ⊢
      refine ⟨by show 1 ≤ sizeLine; decide, fun k2 hk2 => ?_⟩
      have q3 : Same G2 (upd G2 k2 (.tup [.int 3])) := same_new hk2
      have a2 : RowAt (upd G2 k2 (.tup [.int 3])) k2 [3] := row_new hk2 rfl
      generalize upd G2 k2 (.tup [.int 3]) = G3 at q3 a2 ⊢
      refine ⟨_, rfl, line2, fun c2 hc2 => ?_⟩
      have q4 : Same G3 (upd G3 c2 (.tup [.int (-1), .int 1])) := same_new hc2
      have a4 : RatAt K (upd G3 c2 (.tup [.int (-1), .int 1])) c2 (-1) := rat_neg (SqT.of upd_same)
      generalize upd G3 c2 (.tup [.int (-1), .int 1]) = G4 at q4 a4 ⊢
      have qq : Same G0 G4 := Same.tr q1 (Same.tr q2 (Same.tr q3 q4))
      refine ⟨qq _ _ b0, [(KR [2, 1], .ref c1), (KR [3], .ref c2)], .cons ⟨k1, rfl, by rw [KR_kV]; exact RowAt.same (Same.tr q2 (Same.tr q3 q4)) a1, rfl⟩ (.cons ⟨k2, rfl, by rw [KR_kV]; exact RowAt.same q4 a2, rfl⟩ .nil), by show 2 ≤ 15; decide, ?_⟩
      obtain ⟨sb, y2⟩ := disp_done (K := K) (kvs := [(KR [2, 1], .ref c1), (KR [3], .ref c2)]) (m := [([2, 1], 1), ([3], -1)]) hd2 (hG0 ▸ qq) (.cons ⟨rfl, c1, rfl, RatAt.same (Same.tr q3 q4) a3⟩ (.cons ⟨rfl, c2, rfl, a4⟩ .nil)) (by simp)
      have g2 := UAt.ne (UAt.same sa z2) hd2
      clear qq q1 q2 q3 q4 a1 a2 a3 a4 b0 hG0
      generalize upd G4 d2 (.dT (putsK [] [(KR [2, 1], V.ref c1), (KR [3], V.ref c2)])) = Hb at sb y2 ⊢
      refine fun d3 hd3 => ⟨Nat.zero_le _, fun k1 hk1 => ?_⟩
      have b0 : (upd Hb d3 (.dT [])) d3 = some (.dT []) := upd_same
      generalize hG0 : upd Hb d3 (.dT []) = G0 at b0 hk1 ⊢
      have q1 : Same G0 (upd G0 k1 (.tup [])) := same_new hk1
      have a1 : RowAt (upd G0 k1 (.tup [])) k1 [] := row_new hk1 rfl
      generalize upd G0 k1 (.tup []) = G1 at q1 a1 ⊢
      refine ⟨line2, fun c1 hc1 => ?_⟩
      have q2 : Same G1 (upd G1 c1 (.tup [.int 1, .int 1])) := same_new hc1
      have a3 : RatAt K (upd G1 c1 (.tup [.int 1, .int 1])) c1 1 := rat_one (SqT.of upd_same)
      generalize upd G1 c1 (.tup [.int 1, .int 1]) = G2 at q2 a3 ⊢
      have qq := Same.tr q1 q2
      refine ⟨qq _ _ b0, [(KR [], .ref c1)], .cons ⟨k1, rfl, by rw [KR_kV]; exact RowAt.same q2 a1, rfl⟩ .nil, by show 1 ≤ 15; decide, ?_⟩
      obtain ⟨sc, y3⟩ := disp_done (K := K) (kvs := [(KR [], .ref c1)]) (m := [([], 1)]) hd3 (hG0 ▸ qq) (.cons ⟨rfl, c1, rfl, a3⟩ .nil) (by simp)
      have g3 := UAt.ne (UAt.same (Same.tr sa sb) z3) hd3
      generalize upd G2 d3 (.dT (putsK [] [(KR [], V.ref c1)])) = Hc at sc y3 ⊢
      refine ⟨by show 5 ≤ sizeLine; decide, fun l2 hl2 => ?_⟩
      have sM : Same Hc (upd Hc l2 (.lst [.ref d1, .ref d2, .ref d3, .int 2048, .int 2048])) := same_new hl2
      have rM : (upd Hc l2 (.lst [.ref d1, .ref d2, .ref d3, .int 2048, .int 2048])) l2 = some (.lst [.ref d1, .ref d2, .ref d3, .int 2048, .int 2048]) := upd_same
      generalize upd Hc l2 (.lst [.ref d1, .ref d2, .ref d3, .int 2048, .int 2048]) = HM at sM rM ⊢
      have sac := Same.tr sa (Same.tr sb (Same.tr sc sM))
      refine ⟨l, l2, _, _, rfl, rfl, SqL.of (sac _ _ rL), SqL.of rM, .cons (.inr ⟨p1, d1, _, _, rfl, rfl, g1, (UAt.same sac z1).d, (UAt.same (Same.tr sb (Same.tr sc sM)) y1).d, ?_⟩) (.cons (.inr ⟨p2, d2, _, _, rfl, rfl, g2, (UAt.same sac z2).d, (UAt.same (Same.tr sc sM) y2).d, ?_⟩)
        (.cons (.inr ⟨p3, d3, _, _, rfl, rfl, g3, (UAt.same sac z3).d, (UAt.same sM y3).d, ?_⟩) (.cons (.inl ⟨2048, rfl, rfl⟩) (.cons (.inl ⟨2048, rfl, rfl⟩) .nil)))), false, rfl, iteF ?_⟩
      · exact pj1.map _
      · exact pj2.map _
      · exact pj3.map _
      refine ⟨line2, fun t ht => ⟨t, [2, 1], rfl, row_new ht rfl, small_21, by decide, fun x js Hd sd pj hx => ?_⟩⟩
      refine ⟨2, x, _, _, rfl, by decide, hx, plain_js nine_21 pj (fun _ => 1) (fun _ => pm_one), fun p He se hp => ?_⟩
      have ev : val (fun r => ch false r 2) (js.map fun j => (j, (1 : Rat))) = mkRat 11 8 := by
        rw [val_js _ (fun _ => 1) pj, sm_congr (g := fun j => ch false j 2) (fun j _ => Rat.one_mul _), slack_joined 2 [2, 1] rfl nine_21.pos 2]
        exact ch_21
      rw [ev] at hp
      refine ⟨line2, fun t9 ht9 => ⟨p, t9, [11, 8], [11, 8], rfl, rfl, sameT (same_new ht9) ?_, SqT.of upd_same, blT (Q := Q) rfl (q _)⟩⟩
      have e1 : (mkRat 11 8).num = 11 := by decide +kernel
      have e2 : ((mkRat 11 8).den : Int) = 8 := by decide +kernel
      unfold RatAt at hp
      rw [e1, e2] at hp
      exact hp
theorem ok_law {f : Addr} {fd : FuncData} (F : FunD K "law" "law" (defArgs sLaw) (defBody sLaw) (defScope sLaw) [] [] f fd) (S : Hs P w K mg base CK CM) (DI : Has P w K mg base 1 "_law_dice" (spDice K)) (RI : Has P w K mg base 8 "_law_right" spRight) :
    FnOk P w K mg base CX0 9 f fd ["_law_script"] (spLaw K) :=
  F.ok scLaw (fun vs H Q E h => by obtain ⟨a, ns, rfl, _⟩ := h; rfl) fun cdv A outer s H vs Q E hr h => by
    obtain ⟨t, h1, h2⟩ := walk_law S DI RI hr h
    exact ⟨t, h1.nox, h2⟩
end
end Rj
set_option Elab.async false
set_option linter.all false
set_option maxRecDepth 100000
set_option maxHeartbeats 4000000
/-! All of it, from what stands in the top's names. -/
namespace Rj
open PySem PySem.Spec PyProof.Rows L2
/-- what the head must tell -/
structure Fx (K : PySem.W.Frag) (mg : Str → Option Value) (CK CM : Addr) : Prop where
  T : Tx K mg
  L : Kl K mg CK CM
  U : AtU K mg
  a11 : At K mg "is_whole" (top 11)
  a13 : At K mg "is_from" (top 13)
  a14 : At K mg "are_wholes" (top 14)
  a16 : At K mg "require_from" (top 16)
  a17 : At K mg "require_choice" (top 17)
  a18 : At K mg "multiple_of" (top 18)
  a19 : At K mg "raised_to" (top 19)
  a23 : At K mg "lowest_of" (top 23)
  a24 : At K mg "plus_of" (top 24)
  a25 : At K mg "times_of" (top 25)
  a31 : At K mg "joinings_in" (top 31)
  a32 : At K mg "is_row" (top 32)
  a33 : At K mg "require_row" (top 33)
  a34 : At K mg "joinings" (top 34)
  a42 : At K mg "bare_terms" (top 42)
  a46 : At K mg "weights_in" (top 46)
  a47 : At K mg "are_firm_rows" (top 47)
  a52 : At K mg "made_mix" (top 52)
  a53 : At K mg "require_mix" (top 53)
  a57 : At K mg "scale_of" (top 57)
  a58 : At K mg "scaled_sums" (top 58)
  a59 : At K mg "sum_in" (top 59)
  a60 : At K mg "cut_in" (top 60)
  a61 : At K mg "slack_in" (top 61)
  a62 : At K mg "require_bound" (top 62)
  a63 : At K mg "require_bound_and_row" (top 63)
  a64 : At K mg "cut_sum" (top 64)
  a65 : At K mg "slack_sum" (top 65)
  a66 : At K mg "cut_value" (top 66)
  a67 : At K mg "slack_mix" (top 67)
  a68 : At K mg "strict_mix" (top 68)
  a74 : At K mg "plain_number" (top 74)
  a75 : At K mg "added_to" (top 75)
  a76 : At K mg "blocked_terms" (top 76)
  a77 : At K mg "undone_terms" (top 77)
  a78 : At K mg "require_few_entries" (top 78)
  a81 : At K mg "_law_dice" (top 81)
  a82 : At K mg "_law_roll" (top 82)
  a83 : At K mg "_law_pick" (top 83)
  a84 : At K mg "_law_gcd" (top 84)
  a85 : At K mg "_law_lowest" (top 85)
  a86 : At K mg "_law_plus" (top 86)
  a87 : At K mg "_law_times" (top 87)
  a88 : At K mg "_law_joinings" (top 88)
  a89 : At K mg "_law_put" (top 89)
  a90 : At K mg "_law_bare" (top 90)
  a91 : At K mg "_law_mix_sum" (top 91)
  a92 : At K mg "_law_row_drawn" (top 92)
  a93 : At K mg "_law_signed" (top 93)
  a94 : At K mg "_law_mixes_right" (top 94)
  a95 : At K mg "_law_values_right" (top 95)
  a96 : At K mg "_law_cuts_right" (top 96)
  a97 : At K mg "_law_undone_right" (top 97)
  a98 : At K mg "_law_back_right" (top 98)
  a99 : At K mg "_law_right" (top 99)
section
variable {P : Program} {w : World} {K : PySem.W.Frag} {mg : Str → Option Value} {base : Heap} {CK CM : Addr}
theorem Fx.all (F : Fx K mg CK CM) : Hs P w K mg base CK CM ∧ Has P w K mg base 1 "_law_dice" (spDice K) ∧ Has P w K mg base 8 "_law_right" spRight := by
  have T := F.T
  have L := F.L
  have lowest := has_lowest (P := P) (w := w) (base := base) F.a23 T
  have plus := has_plus F.a24 lowest
  have times := has_times F.a25 lowest
  have whole := has_whole (P := P) (w := w) (base := base) F.a11 T
  have from_ := has_from F.a13 whole
  have wholes := has_wholes F.a14 T whole
  have reqFrom := has_reqFrom F.a16 from_
  have isRow := has_isRow F.a32 T wholes
  have reqRow := has_reqRow F.a33 isRow
  have reqBound := has_reqBound F.a62 T reqFrom
  have reqBoth := has_reqBoth F.a63 reqBound reqRow
  have choice := has_choice (P := P) (w := w) (base := base) F.a17 T
  have mult := has_mult (P := P) (w := w) (base := base) F.a18 T
  have raise := has_raise (P := P) (w := w) (base := base) F.a19 T
  have scale := has_scale F.a57 T mult
  have scaled := has_scaled F.a58 T scale raise
  have sumIn := has_sumIn F.a59 T lowest scaled scale raise
  have cutIn := has_cutIn F.a60 sumIn
  have slackIn := has_slackIn F.a61 sumIn
  have cutSum := has_cutSum F.a64 reqBoth cutIn
  have slackSum := has_slackSum F.a65 reqBoth slackIn
  have joinIn := has_joinIn (P := P) (w := w) (base := base) F.a31 T
  have joins := has_joinings F.a34 T reqRow joinIn
  have bare := has_bare (P := P) (w := w) (base := base) F.a42 T
  have weights := has_weights (P := P) (w := w) (base := base) F.a46 T
  have firm := has_firm (P := P) (w := w) (base := base) F.a47 T
  have made := has_made F.a52 L bare weights firm T
  have reqMix := has_reqMix (P := P) (w := w) (base := base) F.a53 T L
  have slackMix := has_slackMix (CM := CM) F.a67 joins made
  have strictMix := has_strictMix (CM := CM) F.a68 T joins made
  have cutValue := has_cutValue F.a66 T L reqBound reqMix cutIn plus times
  have plain := has_plain (P := P) (w := w) (base := base) F.a74 T
  have added := has_added F.a75 T plus
  have blocked := has_blocked F.a76 T added times
  have uterms := has_uterms F.a77 T plain blocked added times
  have few := has_few (P := P) (w := w) (base := base) F.a78 T
  have undone := has_undone F.U T L reqMix choice few uterms made
  have dice := has_dice (P := P) (w := w) (base := base) F.a81 T
  have roll := has_roll (P := P) (w := w) (base := base) F.a82 T
  have pick := has_pick F.a83 T roll
  have lgcd := has_lgcd (P := P) (w := w) (base := base) F.a84 T
  have llowest := has_llowest F.a85 T lgcd
  have lplus := has_lplus F.a86 llowest
  have ltimes := has_ltimes F.a87 llowest
  have ljoin := has_ljoin (P := P) (w := w) (base := base) F.a88 T
  have put := has_put F.a89 lplus
  have lbare := has_lbare (P := P) (w := w) (base := base) F.a90 T
  have lsum := has_lsum F.a91 T put ltimes lbare
  have drawn := has_drawn F.a92 T roll pick
  have signed := has_signed F.a93 T ljoin
  obtain ⟨mc, p, g, cr, cm, ao⟩ := L.mof
  have S : Hs P w K mg base CK CM := ⟨T, L, slackMix, strictMix, cutValue, undone, slackSum, cutSum, ⟨mc, p, g, cr, cm, has_of ao T L reqRow bare weights firm⟩, ljoin, signed, lplus, ltimes, lsum⟩
  have mixes := has_mixes F.a94 S
  have values := has_values F.a95 S
  have cuts := has_cuts F.a96 S
  have undoneR := has_undoneR F.a97 S
  have back := has_back F.a98 S
  exact ⟨S, dice, has_right F.a99 S drawn roll pick mixes values undoneR back cuts⟩
end
end Rj
set_option Elab.async false
set_option linter.all false
set_option maxRecDepth 100000
set_option maxHeartbeats 4000000
/-! What the tests tell. -/
namespace Rj.Hd
open PySem PySem.Spec PyProof.Rows L2
theorem says_m {K : PySem.W.Frag} (c : obsR B fn K = valR fn) {d : DR} (m : d ∈ fn) : ∃ fd, FunD K d.name d.qual (defArgs d.st) (defBody d.st) (defScope d.st) [] d.kwd (d.ad K) fd := by
  obtain ⟨i, hi⟩ := List.mem_iff_getElem?.mp m
  exact says_d c i hi
structure Told (K : PySem.W.Frag) (mg : Str → Option Value) : Prop where
  glo : ∀ x ∈ glos, mg x = some (.ref (He.ga K x))
  free : ∀ x ∈ frees, mg x = none
  int : ∀ p ∈ wholes, ∃ t, mg p.1 = some (.int p.2 t)
  tup : ∀ p ∈ tups, ∀ H, SqT K H (He.ga K p.1) (p.2.map (He.Dv.v K))
  ct : ∀ t ∈ cts, t K = true
  fn : ∀ d ∈ Rj.Hd.fn, ∃ fd, FunD K d.name d.qual (defArgs d.st) (defBody d.st) (defScope d.st) [] d.kwd (d.ad K) fd
  laid : ∃ t, mg "LAID" = some (.str "laid" t)
  gcd : mg "gcd" = some (.builtin "math.gcd")
theorem told_ok {K : PySem.W.Frag} {h : Heap} {mg : Str → Option Value} (X : K.In h) (G : h.Ns mainGlobals mg) (c : obsR B fn K = valR fn) : Told K mg := by
  have hb : ((glos.all fun x => (He.Fa.glo x).ok K) && ((frees.all fun x => (He.Fa.free x).ok K) && ((wholes.all fun p => (He.Fa.int p.1 p.2).ok K) && ((tups.all fun p => He.tupB K p.1 p.2) && cts.all fun t => t K)))) = true := says_b c
  obtain ⟨b1, hb⟩ := He.ba hb
  obtain ⟨b2, hb⟩ := He.ba hb
  obtain ⟨b3, hb⟩ := He.ba hb
  obtain ⟨b4, b5⟩ := He.ba hb
  have ct : ∀ t ∈ cts, t K = true := fun t m => List.all_eq_true.mp b5 t m
  refine ⟨fun x m => He.glo_ok X G (List.all_eq_true.mp b1 x m), fun x m => He.free_ok X G (List.all_eq_true.mp b2 x m), fun p m => He.int_ok X G (List.all_eq_true.mp b3 p m),
    fun p m H => He.tupB_ok (List.all_eq_true.mp b4 p m) H, ct, fun d m => says_m c m, ?_, ?_⟩
  · exact He.str_ok X G (ct _ (List.mem_of_getElem? (i := 1) rfl))
  · have e : gcdB K = true := ct _ (List.mem_of_getElem? (i := 0) rfl)
    exact PySem.W.mg_of X G (He.eqO_ok e)
section
variable {K : PySem.W.Frag} {mg : Str → Option Value}
theorem Told.at_ (o : Told K mg) (i : Nat) {x : Str} {j : Nat} (h : tops[i]? = some (x, j)) : At K mg x (top j) := by
  have m : (x, j) ∈ tops := List.mem_of_getElem? h
  obtain ⟨fd, F⟩ := o.fn (topD (x, j)) (List.mem_append_left _ (List.mem_map_of_mem m))
  exact ⟨He.ga K x, fd, F, o.glo x (List.mem_append_left _ (List.mem_map_of_mem (f := fun p : Str × Nat => p.1) m))⟩
theorem Told.fr (o : Told K mg) (i : Nat) {x : Str} (h : frees[i]? = some x) : mg x = none := o.free x (List.mem_of_getElem? h)
theorem Told.gl (o : Told K mg) (i : Nat) {x : Str} (h : glos[i]? = some x) : mg x = some (.ref (He.ga K x)) := o.glo x (List.mem_of_getElem? h)
theorem Told.c (o : Told K mg) (i : Nat) {t : PySem.W.Frag → Bool} (h : cts[i]? = some t) : t K = true := o.ct t (List.mem_of_getElem? h)
theorem Told.tp (o : Told K mg) (i j : Nat) {x : Str} {vs : List He.Dv} {ws : List V} (h : tups[i]? = some (x, vs)) (g : glos[j]? = some x) (e : vs.map (He.Dv.v K) = ws) : ∃ a, mg x = some (.ref a) ∧ ∀ H, SqT K H a ws :=
  ⟨_, o.gl j g, fun H => by rw [← e]; exact o.tup (x, vs) (List.mem_of_getElem? h) H⟩
theorem Told.df (o : Told K mg) (i : Nat) {d : DR} (h : Rj.Hd.fn[i]? = some d) : ∃ fd, FunD K d.name d.qual (defArgs d.st) (defBody d.st) (defScope d.st) [] d.kwd (d.ad K) fd := o.fn d (List.mem_of_getElem? h)
theorem Told.T (o : Told K mg) : Tx K mg := by
  refine ⟨o.fr 0 rfl, o.fr 1 rfl, o.fr 2 rfl, o.fr 3 rfl, o.fr 4 rfl, o.fr 5 rfl, o.fr 6 rfl, o.fr 7 rfl, o.fr 8 rfl, o.fr 9 rfl, o.fr 10 rfl, o.fr 11 rfl, o.fr 12 rfl, o.fr 13 rfl, o.fr 14 rfl, o.fr 15 rfl, o.gcd, ?_, ?_, ?_, ?_, o.laid, ?_, ?_, ?_, ?_, ?_, ?_⟩
  · exact o.int _ (List.mem_of_getElem? (i := 0) rfl)
  · exact o.int _ (List.mem_of_getElem? (i := 1) rfl)
  · exact o.int _ (List.mem_of_getElem? (i := 2) rfl)
  · exact o.int _ (List.mem_of_getElem? (i := 3) rfl)
  · exact o.tp 0 59 rfl rfl rfl
  · exact o.tp 1 60 rfl rfl rfl
  · exact o.tp 2 61 rfl rfl rfl
  · exact o.tp 3 62 rfl rfl rfl
  · exact o.tp 4 63 rfl rfl rfl
  · exact o.tp 5 64 rfl rfl rfl
theorem propB_ok {K : PySem.W.Frag} {x m : Str} (h : propB K x m = true) : PySem.W.findIn K (.ref (He.ga K x)) m = some (some (.ref (He.ma K (He.ga K x) m))) ∧ PySem.W.specialIn K (.ref (He.ma K (He.ga K x) m)) "__get__" = some (some (.builtin "property.__get__")) ∧
    PySem.W.takesIn K (.ref (He.ma K (He.ga K x) m)) = some true ∧ (∃ rest, PySem.W.recIn K (He.ma K (He.ga K x) m) "property" = some (.ref (recA K (He.ma K (He.ga K x) m) "property") :: rest)) := by
  obtain ⟨h1, h⟩ := He.ba h
  obtain ⟨h2, h⟩ := He.ba h
  obtain ⟨h3, h4⟩ := He.ba h
  exact ⟨He.eqO_ok h1, He.eqO_ok h2, of_decide_eq_true h3, recB_ok h4⟩
theorem Told.L (o : Told K mg) : Kl K mg (He.ga K "KnownTerms") (He.ga K "Mix") := by
  have i1 := isiB_ok (o.c 6 rfl)
  have i2 := isiB_ok (o.c 7 rfl)
  have m1 := ofB_ok (o.c 12 rfl)
  have m2 := propB_ok (o.c 13 rfl)
  have m3 := He.ba (show (He.eqO (PySem.W.findIn K (.ref (He.ga K "Mix")) "__len__") (some (some (.ref (He.ma K (He.ga K "Mix") "__len__")))) && PySem.W.isFn K (.ref (He.ma K (He.ga K "Mix") "__len__"))) = true from o.c 14 rfl)
  exact {
    kat := o.gl 57 rfl
    ksc := clsB_ok (o.c 4 rfl)
    ksi := i1.1
    kone := i1.2
    kslot := ⟨_, slotB_ok (o.c 8 rfl)⟩
    kinit := ⟨_, He.mkr_ok (o.c 2 rfl), ⟨o.df 57 rfl⟩⟩
    mat := o.gl 58 rfl
    msc := clsB_ok (o.c 5 rfl)
    msi := i2.1
    mone := i2.2
    mfirm := ⟨_, slotB_ok (o.c 9 rfl)⟩
    mterms := ⟨_, slotB_ok (o.c 10 rfl)⟩
    mweights := ⟨_, slotB_ok (o.c 11 rfl)⟩
    minit := ⟨_, He.mkr_ok (o.c 3 rfl), ⟨o.df 58 rfl⟩⟩
    mof := ⟨_, _, _, m1.1, m1.2, ⟨o.df 59 rfl⟩⟩
    mtp := ⟨_, _, m2.1, m2.2.1, m2.2.2.1, m2.2.2.2, ⟨o.df 60 rfl⟩⟩
    mlen := ⟨_, He.eqO_ok m3.1, m3.2, ⟨o.df 61 rfl⟩⟩ }
theorem Told.U (o : Told K mg) : AtU K mg := by
  obtain ⟨fd, F⟩ := o.df 56 rfl
  exact ⟨_, fd, F, o.gl 56 rfl⟩
theorem Told.all (o : Told K mg) : Fx K mg (He.ga K "KnownTerms") (He.ga K "Mix") := {
    T := o.T
    L := o.L
    U := o.U
    a11 := o.at_ 0 rfl
    a13 := o.at_ 1 rfl
    a14 := o.at_ 2 rfl
    a16 := o.at_ 3 rfl
    a17 := o.at_ 4 rfl
    a18 := o.at_ 5 rfl
    a19 := o.at_ 6 rfl
    a23 := o.at_ 7 rfl
    a24 := o.at_ 8 rfl
    a25 := o.at_ 9 rfl
    a31 := o.at_ 10 rfl
    a32 := o.at_ 11 rfl
    a33 := o.at_ 12 rfl
    a34 := o.at_ 13 rfl
    a42 := o.at_ 14 rfl
    a46 := o.at_ 15 rfl
    a47 := o.at_ 16 rfl
    a52 := o.at_ 17 rfl
    a53 := o.at_ 18 rfl
    a57 := o.at_ 19 rfl
    a58 := o.at_ 20 rfl
    a59 := o.at_ 21 rfl
    a60 := o.at_ 22 rfl
    a61 := o.at_ 23 rfl
    a62 := o.at_ 24 rfl
    a63 := o.at_ 25 rfl
    a64 := o.at_ 26 rfl
    a65 := o.at_ 27 rfl
    a66 := o.at_ 28 rfl
    a67 := o.at_ 29 rfl
    a68 := o.at_ 30 rfl
    a74 := o.at_ 31 rfl
    a75 := o.at_ 32 rfl
    a76 := o.at_ 33 rfl
    a77 := o.at_ 34 rfl
    a78 := o.at_ 35 rfl
    a81 := o.at_ 36 rfl
    a82 := o.at_ 37 rfl
    a83 := o.at_ 38 rfl
    a84 := o.at_ 39 rfl
    a85 := o.at_ 40 rfl
    a86 := o.at_ 41 rfl
    a87 := o.at_ 42 rfl
    a88 := o.at_ 43 rfl
    a89 := o.at_ 44 rfl
    a90 := o.at_ 45 rfl
    a91 := o.at_ 46 rfl
    a92 := o.at_ 47 rfl
    a93 := o.at_ 48 rfl
    a94 := o.at_ 49 rfl
    a95 := o.at_ 50 rfl
    a96 := o.at_ 51 rfl
    a97 := o.at_ 52 rfl
    a98 := o.at_ 53 rfl
    a99 := o.at_ 54 rfl }
theorem Told.law (o : Told K mg) : At K mg "law" (top 100) := o.at_ 55 rfl
end
end Rj.Hd
set_option Elab.async false
set_option linter.all false
set_option maxRecDepth 100000
set_option maxHeartbeats 0
/-! The end. -/
namespace Rj
open PySem PySem.Spec PyProof.Rows L2 Rj.Hd
theorem facts {w : World} {K : PySem.W.Frag} {h : Heap} {mg : Str → Option Value} {f : Addr} (X : K.In h) (G : h.Ns mainGlobals mg) (hfa : mg "law" = some (.ref f)) (c : obsR B fn K = valR fn) :
    ∃ fd : FuncData, (∀ (s : Shared) (v : Value), BindsTo s fd ⟨[v], []⟩ [("_law_script", v)]) ∧ ∀ base : Heap, K.In base → base.Ns mainGlobals mg → FnOk prg w K mg base CX0 9 f fd ["_law_script"] (spLaw K) := by
  have o := told_ok X G c
  have F := o.all
  obtain ⟨f2, fd, FL, hm⟩ := o.law.ex
  have e := hfa.symm.trans hm
  have e2 : f = f2 := Value.ref.inj (Option.some.inj e)
  rw [← e2] at FL
  have b := FunD.bindsA (ps := ["_law_script"]) FL fun _ _ _ _ _ _ us hl => match us, hl with | [_], _ => rfl
  refine ⟨fd, fun s v => b s [v] rfl, fun base _ _ => ?_⟩
  obtain ⟨S, DI, RI⟩ := F.all (P := prg) (w := w) (base := base)
  exact ok_law FL S DI RI
end Rj
open PySem PySem.W PySem.Calls PyProof.Rows
theorem PySem.Challenge.cw_risewords_k30_whole_joinings_and_cuts_holds : PySem.Challenge.rw_risewords_k30_whole_joinings_and_cuts.Holds := by
  w_on; o_law
  refine HandSHeadRun.head_imp (r := OpenLaw.row PySem.Challenge.rw_risewords_k30_whole_joinings_and_cuts) (q := view (OpenLaw.row PySem.Challenge.rw_risewords_k30_whole_joinings_and_cuts).prog [0, 100]) (H := Rj.Hd.hkR) (ob := Rj.Hd.ob) (M := 20000) (loose := Rj.Hd.names) (d := HandSHeadRun.topDef (OpenLaw.row PySem.Challenge.rw_risewords_k30_whole_joinings_and_cuts).prog 100) (kwd := []) Rj.Hd.ob_eq Rj.Hd.run
    (by kernel_rfl) (by kernel_rfl) (by kernel_rfl) (by rfl) (by first | assumption | decide +kernel) (by decide +kernel) ⟨rfl, rfl, rfl, rfl, rfl, by decide +kernel⟩ ?hw ?hc
  case hw => w_witness2
  case hc =>
    refine L2.walk_ofE (l := PySem.Challenge.rw_risewords_k30_whole_joinings_and_cuts) (n := 63) (k := 9) (x := "_law_script") (CX := L2.CX0) rfl (by decide) (by kernel_rfl) ⟨rfl, by decide, by decide⟩ ?F (fun _ _ _ _ z => z)
    intro w mg fa h Y G hmg0
    obtain ⟨K, KX, c⟩ := Y
    have hmg : mg ("law" : PySem.Str) = some (.ref fa) := by
      have e : (HandSHeadRun.topDef (OpenLaw.row PySem.Challenge.rw_risewords_k30_whole_joinings_and_cuts).prog 100).name = ("law" : PySem.Str) := by kernel_rfl
      rw [← e]
      exact hmg0
    obtain ⟨fd, hb, hF⟩ := Rj.facts (w := w) KX G hmg c
    exact ⟨K, fd, Rj.spLaw K, KX, hb, fun H a ns hl _ hS => ⟨a, ns, rfl, hS, hl, fun _ => rfl⟩, hF⟩
