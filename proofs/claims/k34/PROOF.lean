import PyProof.Rows.All
import Wide.All
import OpenK.AllK
import Wide.FinOn
import HandS.ForMost
import HandS.Exc
import HandS.TryOnly
import HandS.ExcOwn
import HandS.WordsExc
import HandS.Lambda
import KE.KDictCopyH
import HandS.Wide
import HandS.IsInst
import Lean
import KE.KStateDown
import HandS.More
import HandS.Defaults
import HandS.Head0
import HandS.Head1
import HandS.Head2
import HandS.HeadEnd
import HandS.HeadHook1
import HandS.HeadHook2
import HandS.HeadHook3
import HandS.HeadHook4
import HandS.ReplaceLit
import HandS.ReplaceList
import KE.DatumOrd
import HandS.StrMore
import HandS.NoneIn
import HandS.Flow
import KE.KExcIs
import HandS.ExcInit
import HandS.ExcField
import HandS.Strs
import HandS.Replace
import KE.GoesEnum
import KE.KIntText
import KE.KStrBytes
import HandS.TupAny
import HandS.Style
import PyProof.ReprRoads
import PyProof.ReprLen
import PyProof.FitsInt
import HandS.EndTab
import KE.KNestM
import HandS.Sort
import PyProof.ListRange
import HandS.RepeatKit
import HandS.MakeKwOnly
import HandS.FStr
import HandS.OwnEq
import PyProof.InstNe
import HandS.SetKeys
import HandS.SortInts
import HandS.Small
import KE.KDictSum
import HandS.SuiteRaise
import HandS.RaiseFrom
import KE.SortData
import HandS.TupLe
import PySem.Challenge.RW_foldletter_k34_what_are_no_kinds
set_option Elab.async false
set_option linter.all false
set_option maxRecDepth 100000
set_option autoImplicit false
set_option maxHeartbeats 0
/-! VS, part a: data without addresses (D), with addresses (T), who owns what (oc, sh). -/
namespace VS
open PySem PySem.Spec PyProof.Rows L2
inductive Sc where
  | non | bl (b : Bool) | int (i : Int) | str (s : List Nat)
  deriving DecidableEq, Repr
def cB (K : PySem.W.Frag) (C : Addr) : Bool := xfB K C && (decide (PySem.W.typeIn K (.ref C) = some (.type "type")) && (PySem.W.keepIn K (.ref C) && (decide (PySem.W.findIn K (.ref C) "__class__" = some (some (.builtin "object.__class__"))) &&
  (decide (PySem.W.specialIn K (.builtin "object.__class__") "__get__" = some (some (.builtin "getset_descriptor.__get__"))) && (decide (PySem.W.takesIn K (.builtin "object.__class__") = some true) && (decide (PySem.W.mroIn K C (.type "object") = some true) && ((PySem.W.clsIn K C).isSome &&
  (decide (PySem.W.findIn K (.ref C) "at" = some none) && (decide (PySem.W.findIn K (.ref C) "line" = some none) && decide (PySem.W.kitOne K (.ref C) (.type "ValueError") = some true))))))))))
def xtB (K : PySem.W.Frag) (cls : String → Addr) (all ds : List String) : Bool := all.all fun C => cB K (cls C) && ds.all fun Dn => decide (PySem.W.exmOne K (.ref (cls C)) (.ref (cls Dn)) = some (C == Dn || Dn == "LetterError")) && decide (PySem.W.kitOne K (.ref (cls C)) (.ref (cls Dn)) = some (C == Dn || Dn == "LetterError"))
def oexB (K : PySem.W.Frag) (C : Addr) : Bool := (match K.lookup C with
  | some ⟨.type "type", _, .cls cd, sl⟩ => (match cd.mro, sl.toList with
    | .ref C' :: bm, [_, _, _, _, some (.builtin n), _] => C' == C && n == "ValueError.__new__" && !cd.hasDel && cd.hasDict && PySem.HandSPX.refsVE bm
    | _, _ => false)
  | _ => false) && (decide (PySem.W.findIn K (.ref C) "__setattr__" = some (some (.builtin "object.__setattr__"))) && (decide (PySem.W.subIn K (.ref C) (.type "BaseException") = some true) && (decide (PySem.W.typeIn K (.ref C) = some (.type "type")) && PySem.W.keepIn K (.ref C))))
abbrev clsOf (K : PySem.W.Frag) : String → Addr := fun x => He.ga K (Str.ofString x)
def iniB (K : PySem.W.Frag) (C f : String) : Bool := oexB K (clsOf K C) && (decide (PySem.W.findIn K (.ref (clsOf K C)) (Str.ofString f) = some none) && (decide (PySem.W.findIn K (.ref (clsOf K C)) "__init__" = some (some (.ref (He.ma K (clsOf K C) "__init__")))) && decide (PySem.W.typeIn K (.ref (He.ma K (clsOf K C) "__init__")) = some (.type "function"))))
def Sc.dv : Sc → He.Dv
  | .non => .non
  | .bl b => .bl b
  | .int i => .int i
  | .str s => .str ⟨s.toArray⟩
def tupE (K : PySem.W.Frag) (x : Str) (l : List Sc) : Bool := He.tupB K x (l.map Sc.dv) && (match K.lookup (He.ga K x) with
  | some ⟨.type c, none, _, _⟩ => decide (c = "tuple")
  | _ => false)
def clsB (K : PySem.W.Frag) (C : String) (fs ms : List String) : Bool :=
  PySem.W.plainGet K (clsOf K C) Str.empty && (PySem.W.hasDictIn K (clsOf K C) && (PySem.W.plainOver K (clsOf K C) && (decide (PySem.W.findIn K (.ref (clsOf K C)) "__setattr__" = some (some (.builtin "object.__setattr__"))) && (PySem.W.makesIn K (clsOf K C) && (PySem.W.keepIn K (.ref (clsOf K C)) &&
  ((fs.all fun f => decide (PySem.W.findIn K (.ref (clsOf K C)) (Str.ofString f) = some none)) && (ms.all fun m => decide (PySem.W.findIn K (.ref (clsOf K C)) (Str.ofString m) = some (some (.ref (He.ma K (clsOf K C) (Str.ofString m))))) && (PySem.W.isFn K (.ref (He.ma K (clsOf K C) (Str.ofString m))) && PySem.W.keepIn K (.ref (He.ma K (clsOf K C) (Str.ofString m)))))))))))
structure SaysTE (fa : List He.Fa) (fn : List He.DefD) (tf : List He.Defn) (ex : PySem.W.Frag → Bool) (h : Heap) (K : PySem.W.Frag) : Prop where
  t : He.SaysD fa fn K
  more : ex K = true
  hd : ∀ p ∈ tf, PySem.W.codeHdIn K (He.cT K p).1 (He.cT K p).2 = true
  out : ∀ p ∈ tf, K.lookup (He.cT K p).2 = none
  empty : ∀ p ∈ tf, h.get? (He.cT K p).2 = some { cls := .none, data := .fields #[] }
def obsTE (n : Nat) (fa : List He.Fa) (fn : List He.DefD) (tf : List He.Defn) (ex : PySem.W.Frag → Bool) (g : Addr → Option Obj) : He.AlD × Bool := (He.obsD fa fn (He.frT g (He.asD g n)), ex (He.frT g (He.asD g n)) && He.tabsB g tf (He.frT g (He.asD g n)))
theorem saysTE_of {n : Nat} {fa : List He.Fa} {fn : List He.DefD} {tf : List He.Defn} {ex : PySem.W.Frag → Bool} {h : Heap} (e : obsTE n fa fn tf ex h.get? = (He.valD fn, true)) : SaysTE fa fn tf ex h (He.frT h.get? (He.asD h.get? n)) := by
  have e1 := congrArg (fun z : He.AlD × Bool => z.1) e
  have e2 := congrArg (fun z : He.AlD × Bool => z.2) e
  obtain ⟨h1, h2⟩ := Bool.and_eq_true_iff.mp e2
  have key := fun p (hp : p ∈ tf) => Bool.and_eq_true_iff.mp (List.all_eq_true.mp h2 p hp)
  have k2 : ∀ p ∈ tf, ∃ o, h.get? (He.cT (He.frT h.get? (He.asD h.get? n)) p).2 = some o ∧ He.emptyTab o = true := fun p hp => by
    have := (key p hp).2
    split at this
    · rename_i o eo; exact ⟨o, eo, this⟩
    · cases this
  refine ⟨e1, h1, fun p hp => (key p hp).1, fun p hp => ?_, fun p hp => ?_⟩
  · obtain ⟨o, eo, ho⟩ := k2 p hp
    exact He.frT_none eo ho
  · obtain ⟨o, eo, ho⟩ := k2 p hp
    rw [eo, He.emptyTab_eq ho]
def hookTE (n : Nat) (fa : List He.Fa) (fn : List He.DefD) (tf : List He.Defn) (ex : PySem.W.Frag → Bool) : PySem.W.Hook where
  α := He.AlD × Bool
  obs := fun s => obsTE n fa fn tf ex s.heap.get?
  val := fun _ => (He.valD fn, true)
  says := fun _ h => ∃ K : PySem.W.Frag, K.In h ∧ SaysTE fa fn tf ex h K
  of := fun _ _ e => ⟨_, He.frT_in, saysTE_of e⟩
  keeps := fun _ _ _ ⟨K, hK, c⟩ k => ⟨K, PySem.W.Frag.In.keeps hK k, ⟨c.t, c.more, c.hd, c.out, fun p hp => k _ _ (c.empty p hp)⟩⟩
theorem obsTE_eq {n : Nat} {fa : List He.Fa} {fn : List He.DefD} {tf : List He.Defn} {ex : PySem.W.Frag → Bool} {g : Addr → Option Obj} {s : Shared} (h : ∀ a, g a = s.heap.get? a) : obsTE n fa fn tf ex g = (hookTE n fa fn tf ex).obs s := by
  have e : g = s.heap.get? := funext h
  rw [e] <;> rfl
def methB (K : PySem.W.Frag) (C B m : String) : Bool := decide (PySem.W.findIn K (.ref (clsOf K C)) (Str.ofString m) = some (some (.ref (He.ma K (clsOf K B) (Str.ofString m))))) && (PySem.W.isFn K (.ref (He.ma K (clsOf K B) (Str.ofString m))) && PySem.W.keepIn K (.ref (He.ma K (clsOf K B) (Str.ofString m))))
end VS
namespace K34
open VS
def k_SMALL : List Nat := [97, 98, 99, 100, 101, 102, 103, 104, 105, 106, 107, 108, 109, 110, 111, 112, 113, 114, 115, 116, 117, 118, 119, 120, 121, 122]
def k_LETTERS : List Nat := [97, 98, 99, 100, 101, 102, 103, 104, 105, 106, 107, 108, 109, 110, 111, 112, 113, 114, 115, 116, 117, 118, 119, 120, 121, 122, 65, 66, 67, 68, 69, 70, 71, 72, 73, 74, 75, 76, 77, 78, 79, 80, 81, 82, 83, 84, 85, 86, 87, 88, 89, 90]
def k_NAME_SIGNS : List Nat := [97, 98, 99, 100, 101, 102, 103, 104, 105, 106, 107, 108, 109, 110, 111, 112, 113, 114, 115, 116, 117, 118, 119, 120, 121, 122, 65, 66, 67, 68, 69, 70, 71, 72, 73, 74, 75, 76, 77, 78, 79, 80, 81, 82, 83, 84, 85, 86, 87, 88, 89, 90, 48, 49, 50, 51, 52, 53, 54, 55, 56, 57, 45]
def k_ATOM_SIGNS : List Nat := [97, 98, 99, 100, 101, 102, 103, 104, 105, 106, 107, 108, 109, 110, 111, 112, 113, 114, 115, 116, 117, 118, 119, 120, 121, 122, 65, 66, 67, 68, 69, 70, 71, 72, 73, 74, 75, 76, 77, 78, 79, 80, 81, 82, 83, 84, 85, 86, 87, 88, 89, 90, 48, 49, 50, 51, 52, 53, 54, 55, 56, 57, 33, 35, 36, 38, 39, 42, 43, 45, 46, 47, 61, 63, 94, 95, 96, 123, 124, 125, 126]
def k_KEY_SIGNS : List Nat := [97, 98, 99, 100, 101, 102, 103, 104, 105, 106, 107, 108, 109, 110, 111, 112, 113, 114, 115, 116, 117, 118, 119, 120, 121, 122, 48, 49, 50, 51, 52, 53, 54, 55, 56, 57, 45]
def k_CODES : List Sc := [(.str [112, 108, 97, 105, 110]), (.str [115, 105, 120, 101, 115]), (.str [109, 97, 114, 107, 115])]
def k_SIGNS : List Nat := [32, 33, 34, 35, 36, 38, 39, 40, 41, 42, 43, 44, 45, 46, 47, 48, 49, 50, 51, 52, 53, 54, 55, 56, 57, 58, 59, 60, 61, 62, 63, 64, 65, 66, 67, 68, 69, 70, 71, 72, 73, 74, 75, 76, 77, 78, 79, 80, 81, 82, 83, 84, 85, 86, 87, 88, 89, 90, 91, 92, 93, 94, 95, 96, 97, 98, 99, 100, 101, 102, 103, 104, 105, 106, 107, 108, 109, 110, 111, 112, 113, 114, 115, 116, 117, 118, 119, 120, 121, 122, 123, 124, 125, 126]
def k_SIX : List Nat := [65, 66, 67, 68, 69, 70, 71, 72, 73, 74, 75, 76, 77, 78, 79, 80, 81, 82, 83, 84, 85, 86, 87, 88, 89, 90, 97, 98, 99, 100, 101, 102, 103, 104, 105, 106, 107, 108, 109, 110, 111, 112, 113, 114, 115, 116, 117, 118, 119, 120, 121, 122, 48, 49, 50, 51, 52, 53, 54, 55, 56, 57, 43, 47]
def k_SIXTEEN : List Nat := [48, 49, 50, 51, 52, 53, 54, 55, 56, 57, 65, 66, 67, 68, 69, 70]
def k_GREATER : List Sc := [(.str [109, 97, 110, 121]), (.str [99, 111, 118, 101, 114])]
def k_OWN : List Sc := [(.str [107, 105, 110, 100]), (.str [99, 111, 100, 101])]
def allX : List String := ["NoCode", "NoKind", "NoOctets", "NoPart"]
def dsX : List String := ["LetterError", "NoAddress", "NoCode", "NoHead", "NoKind", "NoPart", "NoWords"]
end K34
namespace K34
open PySem PySem.Spec PyProof.Rows L2 VS
def topS (i : Nat) : Stmt := PySem.Challenge.pw_foldletter_k34_what_are_no_kinds.main.body.getD i (.Pass ⟨0, 0, 0, 0⟩)
def N__wall : List Str := ["k"]
abbrev s__wall : Stmt := topS 0
theorem sc__wall : FnScope N__wall ["k"] (defScope s__wall) := ⟨rfl, rfl, rfl, by decide +kernel, rfl, by decide +kernel, by decide +kernel⟩
def N_is_whole : List Str := ["thing"]
abbrev s_is_whole : Stmt := topS 7
theorem sc_is_whole : FnScope N_is_whole ["thing"] (defScope s_is_whole) := ⟨rfl, rfl, rfl, by decide +kernel, rfl, by decide +kernel, by decide +kernel⟩
def N_is_between : List Str := ["thing", "least", "most"]
abbrev s_is_between : Stmt := topS 8
theorem sc_is_between : FnScope N_is_between ["thing", "least", "most"] (defScope s_is_between) := ⟨rfl, rfl, rfl, by decide +kernel, rfl, by decide +kernel, by decide +kernel⟩
def N_is_line : List Str := ["thing"]
abbrev s_is_line : Stmt := topS 9
theorem sc_is_line : FnScope N_is_line ["thing"] (defScope s_is_line) := ⟨rfl, rfl, rfl, by decide +kernel, rfl, by decide +kernel, by decide +kernel⟩
def N_is_of : List Str := ["text", "signs", "sign"]
abbrev s_is_of : Stmt := topS 10
theorem sc_is_of : FnScope N_is_of ["text", "signs"] (defScope s_is_of) := ⟨rfl, rfl, rfl, by decide +kernel, rfl, by decide +kernel, by decide +kernel⟩
def N_is_word : List Str := ["thing", "words"]
abbrev s_is_word : Stmt := topS 11
theorem sc_is_word : FnScope N_is_word ["thing", "words"] (defScope s_is_word) := ⟨rfl, rfl, rfl, by decide +kernel, rfl, by decide +kernel, by decide +kernel⟩
def N_is_name : List Str := ["thing"]
abbrev s_is_name : Stmt := topS 12
theorem sc_is_name : FnScope N_is_name ["thing"] (defScope s_is_name) := ⟨rfl, rfl, rfl, by decide +kernel, rfl, by decide +kernel, by decide +kernel⟩
def N_is_value : List Str := ["thing"]
abbrev s_is_value : Stmt := topS 13
theorem sc_is_value : FnScope N_is_value ["thing"] (defScope s_is_value) := ⟨rfl, rfl, rfl, by decide +kernel, rfl, by decide +kernel, by decide +kernel⟩
def N_is_head : List Str := ["thing"]
abbrev s_is_head : Stmt := topS 14
theorem sc_is_head : FnScope N_is_head ["thing"] (defScope s_is_head) := ⟨rfl, rfl, rfl, by decide +kernel, rfl, by decide +kernel, by decide +kernel⟩
def N_is_octets : List Str := ["thing", "one"]
abbrev s_is_octets : Stmt := topS 15
theorem sc_is_octets : FnScope N_is_octets ["thing"] (defScope s_is_octets) := ⟨rfl, rfl, rfl, by decide +kernel, rfl, by decide +kernel, by decide +kernel⟩
def N_is_atom : List Str := ["text"]
abbrev s_is_atom : Stmt := topS 27
theorem sc_is_atom : FnScope N_is_atom ["text"] (defScope s_is_atom) := ⟨rfl, rfl, rfl, by decide +kernel, rfl, by decide +kernel, by decide +kernel⟩
def N_quoted_in : List Str := ["text"]
abbrev s_quoted_in : Stmt := topS 28
theorem sc_quoted_in : FnScope N_quoted_in ["text"] (defScope s_quoted_in) := ⟨rfl, rfl, rfl, by decide +kernel, rfl, by decide +kernel, by decide +kernel⟩
def N_is_title : List Str := ["thing", "signs"]
abbrev s_is_title : Stmt := topS 33
theorem sc_is_title : FnScope N_is_title ["thing", "signs"] (defScope s_is_title) := ⟨rfl, rfl, rfl, by decide +kernel, rfl, by decide +kernel, by decide +kernel⟩
def N_is_pair : List Str := ["thing"]
abbrev s_is_pair : Stmt := topS 34
theorem sc_is_pair : FnScope N_is_pair ["thing"] (defScope s_is_pair) := ⟨rfl, rfl, rfl, by decide +kernel, rfl, by decide +kernel, by decide +kernel⟩
def N_is_kind : List Str := ["thing", "pair"]
abbrev s_is_kind : Stmt := topS 35
theorem sc_is_kind : FnScope N_is_kind ["thing"] (defScope s_is_kind) := ⟨rfl, rfl, rfl, by decide +kernel, rfl, by decide +kernel, by decide +kernel⟩
def N_show_pair : List Str := ["name", "value", "found", "number", "at"]
abbrev s_show_pair : Stmt := topS 36
theorem sc_show_pair : FnScope N_show_pair ["name", "value"] (defScope s_show_pair) := ⟨rfl, rfl, rfl, by decide +kernel, rfl, by decide +kernel, by decide +kernel⟩
def N_show_kind : List Str := ["kind", "main", "sub", "pairs", "name", "value"]
abbrev s_show_kind : Stmt := topS 37
theorem sc_show_kind : FnScope N_show_kind ["kind"] (defScope s_show_kind) := ⟨rfl, rfl, rfl, by decide +kernel, rfl, by decide +kernel, by decide +kernel⟩
def N_show_kind__n : List Str := ["kind", "main", "sub", "pairs", "name", "value"]
abbrev s_show_kind__n : Stmt := topS 37
theorem sc_show_kind__n : FnScope N_show_kind__n ["kind"] (defScope s_show_kind__n) := ⟨rfl, rfl, rfl, by decide +kernel, rfl, by decide +kernel, by decide +kernel⟩
def N_sign_of : List Str := ["number"]
abbrev s_sign_of : Stmt := topS 44
theorem sc_sign_of : FnScope N_sign_of ["number"] (defScope s_sign_of) := ⟨rfl, rfl, rfl, by decide +kernel, rfl, by decide +kernel, by decide +kernel⟩
def N_is_sign : List Str := ["number"]
abbrev s_is_sign : Stmt := topS 45
theorem sc_is_sign : FnScope N_is_sign ["number"] (defScope s_is_sign) := ⟨rfl, rfl, rfl, by decide +kernel, rfl, by decide +kernel, by decide +kernel⟩
def N_six_bits : List Str := ["octets", "found", "at", "some", "one", "two", "three", "number", "four", "part"]
abbrev s_six_bits : Stmt := topS 46
theorem sc_six_bits : FnScope N_six_bits ["octets"] (defScope s_six_bits) := ⟨rfl, rfl, rfl, by decide +kernel, rfl, by decide +kernel, by decide +kernel⟩
def N_by_sixes : List Str := ["octets", "signs", "rows", "at", "row"]
abbrev s_by_sixes : Stmt := topS 47
theorem sc_by_sixes : FnScope N_by_sixes ["octets"] (defScope s_by_sixes) := ⟨rfl, rfl, rfl, by decide +kernel, rfl, by decide +kernel, by decide +kernel⟩
def N_two_figures : List Str := ["octet"]
abbrev s_two_figures : Stmt := topS 48
theorem sc_two_figures : FnScope N_two_figures ["octet"] (defScope s_two_figures) := ⟨rfl, rfl, rfl, by decide +kernel, rfl, by decide +kernel, by decide +kernel⟩
def N_mark_unit : List Str := ["octets", "at", "octet"]
abbrev s_mark_unit : Stmt := topS 49
theorem sc_mark_unit : FnScope N_mark_unit ["octets", "at"] (defScope s_mark_unit) := ⟨rfl, rfl, rfl, by decide +kernel, rfl, by decide +kernel, by decide +kernel⟩
def N_by_marks : List Str := ["octets", "rows", "row", "at", "octet", "unit", "one"]
abbrev s_by_marks : Stmt := topS 50
theorem sc_by_marks : FnScope N_by_marks ["octets"] (defScope s_by_marks) := ⟨rfl, rfl, rfl, by decide +kernel, rfl, by decide +kernel, by decide +kernel⟩
def N_can_be_plain : List Str := ["octets", "size", "octet"]
abbrev s_can_be_plain : Stmt := topS 51
theorem sc_can_be_plain : FnScope N_can_be_plain ["octets"] (defScope s_can_be_plain) := ⟨rfl, rfl, rfl, by decide +kernel, rfl, by decide +kernel, by decide +kernel⟩
def N_by_plain : List Str := ["octets", "octet"]
abbrev s_by_plain : Stmt := topS 52
theorem sc_by_plain : FnScope N_by_plain ["octets"] (defScope s_by_plain) := ⟨rfl, rfl, rfl, by decide +kernel, rfl, by decide +kernel, by decide +kernel⟩
def N_needed_octets : List Str := ["thing"]
abbrev s_needed_octets : Stmt := topS 53
theorem sc_needed_octets : FnScope N_needed_octets ["thing"] (defScope s_needed_octets) := ⟨rfl, rfl, rfl, by decide +kernel, rfl, by decide +kernel, by decide +kernel⟩
def N_needed_code : List Str := ["thing"]
abbrev s_needed_code : Stmt := topS 54
theorem sc_needed_code : FnScope N_needed_code ["thing"] (defScope s_needed_code) := ⟨rfl, rfl, rfl, by decide +kernel, rfl, by decide +kernel, by decide +kernel⟩
def N_written_by : List Str := ["octets", "code"]
abbrev s_written_by : Stmt := topS 55
theorem sc_written_by : FnScope N_written_by ["octets", "code"] (defScope s_written_by) := ⟨rfl, rfl, rfl, by decide +kernel, rfl, by decide +kernel, by decide +kernel⟩
def N_written_by__n : List Str := ["octets", "code"]
abbrev s_written_by__n : Stmt := topS 55
theorem sc_written_by__n : FnScope N_written_by__n ["octets", "code"] (defScope s_written_by__n) := ⟨rfl, rfl, rfl, by decide +kernel, rfl, by decide +kernel, by decide +kernel⟩
def N_best : List Str := ["octets"]
abbrev s_best : Stmt := topS 56
theorem sc_best : FnScope N_best ["octets"] (defScope s_best) := ⟨rfl, rfl, rfl, by decide +kernel, rfl, by decide +kernel, by decide +kernel⟩
def N_fold_places : List Str := ["line", "begin", "at"]
abbrev s_fold_places : Stmt := topS 59
theorem sc_fold_places : FnScope N_fold_places ["line", "begin"] (defScope s_fold_places) := ⟨rfl, rfl, rfl, by decide +kernel, rfl, by decide +kernel, by decide +kernel⟩
def N_folded_lines : List Str := ["line", "begin", "found", "places", "near", "at"]
abbrev s_folded_lines : Stmt := topS 60
theorem sc_folded_lines : FnScope N_folded_lines ["line", "begin"] (defScope s_folded_lines) := ⟨rfl, rfl, rfl, by decide +kernel, rfl, by decide +kernel, by decide +kernel⟩
def N_head_text : List Str := ["name", "value", "line"]
abbrev s_head_text : Stmt := topS 61
theorem sc_head_text : FnScope N_head_text ["name", "value"] (defScope s_head_text) := ⟨rfl, rfl, rfl, by decide +kernel, rfl, by decide +kernel, by decide +kernel⟩
def N_needed : List Str := ["truth"]
abbrev s_needed : Stmt := topS 65
theorem sc_needed : FnScope N_needed ["truth"] (defScope s_needed) := ⟨rfl, rfl, rfl, by decide +kernel, rfl, by decide +kernel, by decide +kernel⟩
def N_checked_heads : List Str := ["heads", "head", "name", "value"]
abbrev s_checked_heads : Stmt := topS 66
theorem sc_checked_heads : FnScope N_checked_heads ["heads"] (defScope s_checked_heads) := ⟨rfl, rfl, rfl, by decide +kernel, rfl, by decide +kernel, by decide +kernel⟩
def N_checked_kind : List Str := ["kind", "main", "sub", "pairs"]
abbrev s_checked_kind : Stmt := topS 67
theorem sc_checked_kind : FnScope N_checked_kind ["kind"] (defScope s_checked_kind) := ⟨rfl, rfl, rfl, by decide +kernel, rfl, by decide +kernel, by decide +kernel⟩
def N_checked_code : List Str := ["octets", "code"]
abbrev s_checked_code : Stmt := topS 68
theorem sc_checked_code : FnScope N_checked_code ["octets", "code"] (defScope s_checked_code) := ⟨rfl, rfl, rfl, by decide +kernel, rfl, by decide +kernel, by decide +kernel⟩
def N__law_cell_at : List Str := ["_law_script", "_law_k"]
abbrev s__law_cell_at : Stmt := topS 72
theorem sc__law_cell_at : FnScope N__law_cell_at ["_law_script", "_law_k"] (defScope s__law_cell_at) := ⟨rfl, rfl, rfl, by decide +kernel, rfl, by decide +kernel, by decide +kernel⟩
def N__law_mixed : List Str := ["_law_cell", "_law_k", "_law_low"]
abbrev s__law_mixed : Stmt := topS 73
theorem sc__law_mixed : FnScope N__law_mixed ["_law_cell", "_law_k"] (defScope s__law_mixed) := ⟨rfl, rfl, rfl, by decide +kernel, rfl, by decide +kernel, by decide +kernel⟩
def N__law_source : List Str := ["_law_script", "_law_k", "_law_cell"]
abbrev s__law_source : Stmt := topS 74
theorem sc__law_source : FnScope N__law_source ["_law_script", "_law_k"] (defScope s__law_source) := ⟨rfl, rfl, rfl, by decide +kernel, rfl, by decide +kernel, by decide +kernel⟩
def N__law_next : List Str := ["_law_source_here", "_law_many", "_law_found"]
abbrev s__law_next : Stmt := topS 75
theorem sc__law_next : FnScope N__law_next ["_law_source_here", "_law_many"] (defScope s__law_next) := ⟨rfl, rfl, rfl, by decide +kernel, rfl, by decide +kernel, by decide +kernel⟩
def N__law_signs : List Str := ["_law_source_here", "_law_signs_here", "_law_many", "_law_k"]
abbrev s__law_signs : Stmt := topS 76
theorem sc__law_signs : FnScope N__law_signs ["_law_source_here", "_law_signs_here", "_law_many"] (defScope s__law_signs) := ⟨rfl, rfl, rfl, by decide +kernel, rfl, by decide +kernel, by decide +kernel⟩
def N__law_title : List Str := ["_law_source_here", "_law_first", "_law_signs_here", "_law_many"]
abbrev s__law_title : Stmt := topS 77
theorem sc__law_title : FnScope N__law_title ["_law_source_here", "_law_first", "_law_signs_here"] (defScope s__law_title) := ⟨rfl, rfl, rfl, by decide +kernel, rfl, by decide +kernel, by decide +kernel⟩
def N__law_kind : List Str := ["_law_source_here", "_law_most", "_law_pairs", "_law_k", "_law_name", "_law_signs_here", "_law_many", "_law_one", "_law_value"]
abbrev s__law_kind : Stmt := topS 78
theorem sc__law_kind : FnScope N__law_kind ["_law_source_here", "_law_most"] (defScope s__law_kind) := ⟨rfl, rfl, rfl, by decide +kernel, rfl, by decide +kernel, by decide +kernel⟩
def N__law_no_title : List Str := ["_law_source_here", "_law_signs_here", "_law_some"]
abbrev s__law_no_title : Stmt := topS 79
theorem sc__law_no_title : FnScope N__law_no_title ["_law_source_here", "_law_signs_here"] (defScope s__law_no_title) := ⟨rfl, rfl, rfl, by decide +kernel, rfl, by decide +kernel, by decide +kernel⟩
def N__law_bad : List Str := ["_law_source_here", "_law_given", "_law_main", "_law_side", "_law_pairs", "_law_at", "_law_way", "_law_value", "_law_pair", "_law_some"]
abbrev s__law_bad : Stmt := topS 80
theorem sc__law_bad : FnScope N__law_bad ["_law_source_here", "_law_given"] (defScope s__law_bad) := ⟨rfl, rfl, rfl, by decide +kernel, rfl, by decide +kernel, by decide +kernel⟩
def N__law_word : List Str := ["_law_ask", "e"]
abbrev s__law_word : Stmt := topS 81
theorem sc__law_word : FnScope N__law_word ["_law_ask"] (defScope s__law_word) := ⟨rfl, rfl, rfl, by decide +kernel, rfl, by decide +kernel, by decide +kernel⟩
def N_Leaf____init__ : List Str := ["self", "octets", "kind", "code", "heads"]
abbrev s_Leaf____init__ : Stmt := inClass (topS 70) 0
theorem sc_Leaf____init__ : FnScope N_Leaf____init__ ["self", "octets", "kind", "code", "heads"] (defScope s_Leaf____init__) := ⟨rfl, rfl, rfl, by decide +kernel, rfl, by decide +kernel, by decide +kernel⟩
def N_law : List Str := ["_law_script", "_law_k", "_law_source_here", "_law_good", "_law_kept", "_law_bad_here", "_law_main"]
abbrev s_law : Stmt := topS 82
theorem sc_law : FnScope N_law ["_law_script"] (defScope s_law) := ⟨rfl, rfl, rfl, by decide +kernel, rfl, by decide +kernel, by decide +kernel⟩
abbrev RwR : PySem.W.OpenRow := PySem.W.OpenLaw.row PySem.Challenge.rw_foldletter_k34_what_are_no_kinds
def d__wall : He.DefD := ⟨("_wall", none), "_wall", "_wall", defArgs s__wall, defBody s__wall, defScope s__wall, [], []⟩
def d_is_whole : He.DefD := ⟨("is_whole", none), "is_whole", "is_whole", defArgs s_is_whole, defBody s_is_whole, defScope s_is_whole, [], []⟩
def d_is_between : He.DefD := ⟨("is_between", none), "is_between", "is_between", defArgs s_is_between, defBody s_is_between, defScope s_is_between, [], []⟩
def d_is_line : He.DefD := ⟨("is_line", none), "is_line", "is_line", defArgs s_is_line, defBody s_is_line, defScope s_is_line, [], []⟩
def d_is_of : He.DefD := ⟨("is_of", none), "is_of", "is_of", defArgs s_is_of, defBody s_is_of, defScope s_is_of, [], []⟩
def d_is_word : He.DefD := ⟨("is_word", none), "is_word", "is_word", defArgs s_is_word, defBody s_is_word, defScope s_is_word, [], []⟩
def d_is_name : He.DefD := ⟨("is_name", none), "is_name", "is_name", defArgs s_is_name, defBody s_is_name, defScope s_is_name, [], []⟩
def d_is_value : He.DefD := ⟨("is_value", none), "is_value", "is_value", defArgs s_is_value, defBody s_is_value, defScope s_is_value, [], []⟩
def d_is_head : He.DefD := ⟨("is_head", none), "is_head", "is_head", defArgs s_is_head, defBody s_is_head, defScope s_is_head, [], []⟩
def d_is_octets : He.DefD := ⟨("is_octets", none), "is_octets", "is_octets", defArgs s_is_octets, defBody s_is_octets, defScope s_is_octets, [], []⟩
def d_is_atom : He.DefD := ⟨("is_atom", none), "is_atom", "is_atom", defArgs s_is_atom, defBody s_is_atom, defScope s_is_atom, [], []⟩
def d_quoted_in : He.DefD := ⟨("quoted_in", none), "quoted_in", "quoted_in", defArgs s_quoted_in, defBody s_quoted_in, defScope s_quoted_in, [], []⟩
def d_is_title : He.DefD := ⟨("is_title", none), "is_title", "is_title", defArgs s_is_title, defBody s_is_title, defScope s_is_title, [], []⟩
def d_is_pair : He.DefD := ⟨("is_pair", none), "is_pair", "is_pair", defArgs s_is_pair, defBody s_is_pair, defScope s_is_pair, [], []⟩
def d_is_kind : He.DefD := ⟨("is_kind", none), "is_kind", "is_kind", defArgs s_is_kind, defBody s_is_kind, defScope s_is_kind, [], []⟩
def d_show_pair : He.DefD := ⟨("show_pair", none), "show_pair", "show_pair", defArgs s_show_pair, defBody s_show_pair, defScope s_show_pair, [], []⟩
def d_show_kind : He.DefD := ⟨("show_kind", none), "show_kind", "show_kind", defArgs s_show_kind, defBody s_show_kind, defScope s_show_kind, [], []⟩
def d_sign_of : He.DefD := ⟨("sign_of", none), "sign_of", "sign_of", defArgs s_sign_of, defBody s_sign_of, defScope s_sign_of, [], []⟩
def d_is_sign : He.DefD := ⟨("is_sign", none), "is_sign", "is_sign", defArgs s_is_sign, defBody s_is_sign, defScope s_is_sign, [], []⟩
def d_six_bits : He.DefD := ⟨("six_bits", none), "six_bits", "six_bits", defArgs s_six_bits, defBody s_six_bits, defScope s_six_bits, [], []⟩
def d_by_sixes : He.DefD := ⟨("by_sixes", none), "by_sixes", "by_sixes", defArgs s_by_sixes, defBody s_by_sixes, defScope s_by_sixes, [], []⟩
def d_two_figures : He.DefD := ⟨("two_figures", none), "two_figures", "two_figures", defArgs s_two_figures, defBody s_two_figures, defScope s_two_figures, [], []⟩
def d_mark_unit : He.DefD := ⟨("mark_unit", none), "mark_unit", "mark_unit", defArgs s_mark_unit, defBody s_mark_unit, defScope s_mark_unit, [], []⟩
def d_by_marks : He.DefD := ⟨("by_marks", none), "by_marks", "by_marks", defArgs s_by_marks, defBody s_by_marks, defScope s_by_marks, [], []⟩
def d_can_be_plain : He.DefD := ⟨("can_be_plain", none), "can_be_plain", "can_be_plain", defArgs s_can_be_plain, defBody s_can_be_plain, defScope s_can_be_plain, [], []⟩
def d_by_plain : He.DefD := ⟨("by_plain", none), "by_plain", "by_plain", defArgs s_by_plain, defBody s_by_plain, defScope s_by_plain, [], []⟩
def d_needed_octets : He.DefD := ⟨("needed_octets", none), "needed_octets", "needed_octets", defArgs s_needed_octets, defBody s_needed_octets, defScope s_needed_octets, [], []⟩
def d_needed_code : He.DefD := ⟨("needed_code", none), "needed_code", "needed_code", defArgs s_needed_code, defBody s_needed_code, defScope s_needed_code, [], []⟩
def d_written_by : He.DefD := ⟨("written_by", none), "written_by", "written_by", defArgs s_written_by, defBody s_written_by, defScope s_written_by, [], []⟩
def d_best : He.DefD := ⟨("best", none), "best", "best", defArgs s_best, defBody s_best, defScope s_best, [], []⟩
def d_fold_places : He.DefD := ⟨("fold_places", none), "fold_places", "fold_places", defArgs s_fold_places, defBody s_fold_places, defScope s_fold_places, [], []⟩
def d_folded_lines : He.DefD := ⟨("folded_lines", none), "folded_lines", "folded_lines", defArgs s_folded_lines, defBody s_folded_lines, defScope s_folded_lines, [], []⟩
def d_head_text : He.DefD := ⟨("head_text", none), "head_text", "head_text", defArgs s_head_text, defBody s_head_text, defScope s_head_text, [], []⟩
def d_needed : He.DefD := ⟨("needed", none), "needed", "needed", defArgs s_needed, defBody s_needed, defScope s_needed, [], []⟩
def d_checked_heads : He.DefD := ⟨("checked_heads", none), "checked_heads", "checked_heads", defArgs s_checked_heads, defBody s_checked_heads, defScope s_checked_heads, [], []⟩
def d_checked_kind : He.DefD := ⟨("checked_kind", none), "checked_kind", "checked_kind", defArgs s_checked_kind, defBody s_checked_kind, defScope s_checked_kind, [], []⟩
def d_checked_code : He.DefD := ⟨("checked_code", none), "checked_code", "checked_code", defArgs s_checked_code, defBody s_checked_code, defScope s_checked_code, [], []⟩
def d__law_cell_at : He.DefD := ⟨("_law_cell_at", none), "_law_cell_at", "_law_cell_at", defArgs s__law_cell_at, defBody s__law_cell_at, defScope s__law_cell_at, [], []⟩
def d__law_mixed : He.DefD := ⟨("_law_mixed", none), "_law_mixed", "_law_mixed", defArgs s__law_mixed, defBody s__law_mixed, defScope s__law_mixed, [], []⟩
def d__law_source : He.DefD := ⟨("_law_source", none), "_law_source", "_law_source", defArgs s__law_source, defBody s__law_source, defScope s__law_source, [], []⟩
def d__law_next : He.DefD := ⟨("_law_next", none), "_law_next", "_law_next", defArgs s__law_next, defBody s__law_next, defScope s__law_next, [], []⟩
def d__law_signs : He.DefD := ⟨("_law_signs", none), "_law_signs", "_law_signs", defArgs s__law_signs, defBody s__law_signs, defScope s__law_signs, [], []⟩
def d__law_title : He.DefD := ⟨("_law_title", none), "_law_title", "_law_title", defArgs s__law_title, defBody s__law_title, defScope s__law_title, [], []⟩
def d__law_kind : He.DefD := ⟨("_law_kind", none), "_law_kind", "_law_kind", defArgs s__law_kind, defBody s__law_kind, defScope s__law_kind, [], []⟩
def d__law_no_title : He.DefD := ⟨("_law_no_title", none), "_law_no_title", "_law_no_title", defArgs s__law_no_title, defBody s__law_no_title, defScope s__law_no_title, [], []⟩
def d__law_bad : He.DefD := ⟨("_law_bad", none), "_law_bad", "_law_bad", defArgs s__law_bad, defBody s__law_bad, defScope s__law_bad, [], []⟩
def d__law_word : He.DefD := ⟨("_law_word", none), "_law_word", "_law_word", defArgs s__law_word, defBody s__law_word, defScope s__law_word, [], []⟩
def d_Leaf____init__ : He.DefD := ⟨("Leaf", some "__init__"), "__init__", "Leaf.__init__", defArgs s_Leaf____init__, defBody s_Leaf____init__, defScope s_Leaf____init__, [], [(("kind" : Str), .non), (("code" : Str), .non), (("heads" : Str), .non)]⟩
def d_law : He.DefD := ⟨("law", none), "law", "law", defArgs s_law, defBody s_law, defScope s_law, [], []⟩
abbrev sI_NoCode : Stmt := inClass (topS 24) 0
theorem scI_NoCode : FnScope ["self", "why", "at"] ["self", "why", "at"] (defScope sI_NoCode) := ⟨rfl, rfl, rfl, by decide +kernel, rfl, by decide +kernel, by decide +kernel⟩
def dI_NoCode : He.DefD := ⟨("NoCode", some "__init__"), "__init__", "NoCode.__init__", defArgs sI_NoCode, defBody sI_NoCode, defScope sI_NoCode, [.int 0], []⟩
abbrev sI_NoKind : Stmt := inClass (topS 23) 0
theorem scI_NoKind : FnScope ["self", "why", "at"] ["self", "why", "at"] (defScope sI_NoKind) := ⟨rfl, rfl, rfl, by decide +kernel, rfl, by decide +kernel, by decide +kernel⟩
def dI_NoKind : He.DefD := ⟨("NoKind", some "__init__"), "__init__", "NoKind.__init__", defArgs sI_NoKind, defBody sI_NoKind, defScope sI_NoKind, [.int 0], []⟩
def fn : List He.DefD := [d__wall, d_is_whole, d_is_between, d_is_line, d_is_of, d_is_word, d_is_name, d_is_value, d_is_head, d_is_octets, d_is_atom, d_quoted_in, d_is_title, d_is_pair, d_is_kind, d_show_pair, d_show_kind, d_sign_of, d_is_sign, d_six_bits, d_by_sixes, d_two_figures, d_mark_unit, d_by_marks, d_can_be_plain, d_by_plain, d_needed_octets, d_needed_code, d_written_by, d_best, d_fold_places, d_folded_lines, d_head_text, d_needed, d_checked_heads, d_checked_kind, d_checked_code, d__law_cell_at, d__law_mixed, d__law_source, d__law_next, d__law_signs, d__law_title, d__law_kind, d__law_no_title, d__law_bad, d__law_word, d_Leaf____init__, d_law, dI_NoCode, dI_NoKind]
def tf : List He.Defn := [("law", none)]
def tfq : List (He.Defn × Str) := [(("law", none), (("law" : Str) ++ (".<locals>." : Str)) ++ ("<lambda>" : Str))]
def exB (K : PySem.W.Frag) : Bool := [xtB K (clsOf K) allX dsX, iniB K "NoCode" "at", iniB K "NoKind" "at", tupE K "CODES" k_CODES, tupE K "GREATER" k_GREATER, tupE K "OWN" k_OWN, clsB K "Leaf" ["held_kind", "held_octets", "held_code", "held_heads"] ["__init__", "manner", "octets", "kind", "code", "own_heads", "body_text", "told"], methB K "Leaf" "Part" "heads", methB K "Leaf" "Part" "small_heads", methB K "Leaf" "Part" "text"].all id
def fa : List He.Fa := [.glo "_wall", .glo "is_whole", .glo "is_between", .glo "is_line", .glo "is_of", .glo "is_word", .glo "is_name", .glo "is_value", .glo "is_head", .glo "is_octets", .glo "is_atom", .glo "quoted_in", .glo "is_title", .glo "is_pair", .glo "is_kind", .glo "show_pair", .glo "show_kind", .glo "sign_of", .glo "is_sign", .glo "six_bits", .glo "by_sixes", .glo "two_figures", .glo "mark_unit", .glo "by_marks", .glo "can_be_plain", .glo "by_plain", .glo "needed_octets", .glo "needed_code", .glo "written_by", .glo "best", .glo "fold_places", .glo "folded_lines", .glo "head_text", .glo "needed", .glo "checked_heads", .glo "checked_kind", .glo "checked_code", .glo "_law_cell_at", .glo "_law_mixed", .glo "_law_source", .glo "_law_next", .glo "_law_signs", .glo "_law_title", .glo "_law_kind", .glo "_law_no_title", .glo "_law_bad", .glo "_law_word", .glo "law", .glo "Leaf", .glo "LetterError", .glo "NoAddress", .glo "NoCode", .glo "NoHead", .glo "NoKind", .glo "NoOctets", .glo "NoPart", .glo "NoWords", .exc "NoOctets", .exc "NoPart", .glo "CODES", .glo "GREATER", .glo "OWN", .free "all", .free "bool", .free "dict", .free "enumerate", .free "int", .free "isinstance", .free "len", .free "list", .free "max", .free "min", .free "range", .free "repr", .free "set", .free "str", .free "sum", .free "tuple", .str "ATOM_SIGNS" ⟨k_ATOM_SIGNS.toArray⟩, .str "KEY_SIGNS" ⟨k_KEY_SIGNS.toArray⟩, .str "LETTERS" ⟨k_LETTERS.toArray⟩, .int "MOST_OF_LINE" 72, .int "MOST_OF_NAME" 30, .int "MOST_OF_TITLE" 20, .str "NAME_SIGNS" ⟨k_NAME_SIGNS.toArray⟩, .int "PIECE" 40, .str "SIGNS" ⟨k_SIGNS.toArray⟩, .str "SIX" ⟨k_SIX.toArray⟩, .str "SIXTEEN" ⟨k_SIXTEEN.toArray⟩, .str "SMALL" ⟨k_SMALL.toArray⟩, .int "WIDTH" 72]
abbrev hk : PySem.W.Hook := hookTE 4 fa fn tf exB
def ob (s : PySem.W.SharedT) : He.AlD × Bool := obsTE 4 fa fn tf exB (HandSHeadRun.getT s)
theorem ob_eq (s : PySem.W.SharedT) : ob s = hk.obs s.abs := obsTE_eq (HandSHeadRun.getT_eq s)
def names0 : List PySem.Str := ["_wall", "FIGURES", "SMALL", "LETTERS", "NAME_SIGNS", "MOST_OF_NAME", "is_whole", "is_between", "is_line", "is_of", "is_word", "is_name", "is_value", "is_head", "is_octets", "LetterError"]
def names1 : List PySem.Str := ["NoOctets", "NoPart", "NoHead", "NoWords", "NoAddress", "NoKind", "NoCode", "ATOM_SIGNS", "is_atom", "quoted_in", "MOST_OF_TITLE", "PIECE", "KEY_SIGNS", "is_title", "is_pair", "is_kind"]
def names2 : List PySem.Str := ["show_pair", "show_kind", "CODES", "SIGNS", "SIX", "SIXTEEN", "MOST_OF_LINE", "sign_of", "is_sign", "six_bits", "by_sixes", "two_figures", "mark_unit", "by_marks", "can_be_plain", "by_plain"]
def names3 : List PySem.Str := ["needed_octets", "needed_code", "written_by", "best", "WIDTH", "fold_places", "folded_lines", "head_text", "GREATER", "OWN", "needed", "checked_heads", "checked_kind", "checked_code", "Part", "Leaf"]
def names4 : List PySem.Str := ["_law_cell_at", "_law_mixed", "_law_source", "_law_next", "_law_signs", "_law_title", "_law_kind", "_law_no_title", "_law_bad", "_law_word"]
def names : List PySem.Str := names0 ++ names1 ++ names2 ++ names3 ++ names4
open HandSHeadRun PySem.W in
theorem run_a (w : World) (os : OsState) : (HandSHeadRun.endF (HandSHeadRun.stepQ (HandSHeadRun.denQ HandSHeadRun.tabQ) RwR.prog w) 8000 RwR.prog w os).map (fun s => (HandSHeadRun.looksF RwR.prog (boot_heap w.params) s.abs, HandSHeadRun.seenQ (PySem.W.view RwR.prog [82]) names (importedModules RwR.prog.main.body) (fun s => PySem.W.xlAt (PySem.W.view RwR.prog [82]) [] s && PySem.W.recOk RwR.toRowW.records s) s.abs)) = some (true, openGood (PySem.W.view RwR.prog [82]) names) := by
  kernel_rfl
def fn0 : List He.DefD := (fn.drop 0).take 17
def fn1 : List He.DefD := (fn.drop 17).take 17
def fn2 : List He.DefD := (fn.drop 34)
theorem fnJ : fn = (fn0 ++ fn1) ++ fn2 := by
  kernel_rfl
def fa0 : List He.Fa := (fa.drop 0).take 30
def fa1 : List He.Fa := (fa.drop 30).take 30
def fa2 : List He.Fa := (fa.drop 60)
theorem faJ : fa = (fa0 ++ fa1) ++ fa2 := by
  kernel_rfl
def KK (s : PySem.W.SharedT) : PySem.W.Frag := He.frT (HandSHeadRun.getT s) (He.asD (HandSHeadRun.getT s) 4)
theorem run_b0 (w : World) (os : OsState) : (HandSHeadRun.endF (HandSHeadRun.stepQ (HandSHeadRun.denQ HandSHeadRun.tabQ) RwR.prog w) 8000 RwR.prog w os).map (fun s => fa0.all fun f => f.ok (KK s)) = some true := by
  kernel_rfl
theorem run_b1 (w : World) (os : OsState) : (HandSHeadRun.endF (HandSHeadRun.stepQ (HandSHeadRun.denQ HandSHeadRun.tabQ) RwR.prog w) 8000 RwR.prog w os).map (fun s => fa1.all fun f => f.ok (KK s)) = some true := by
  kernel_rfl
theorem run_b2 (w : World) (os : OsState) : (HandSHeadRun.endF (HandSHeadRun.stepQ (HandSHeadRun.denQ HandSHeadRun.tabQ) RwR.prog w) 8000 RwR.prog w os).map (fun s => fa2.all fun f => f.ok (KK s)) = some true := by
  kernel_rfl
theorem run_b3 (w : World) (os : OsState) : (HandSHeadRun.endF (HandSHeadRun.stepQ (HandSHeadRun.denQ HandSHeadRun.tabQ) RwR.prog w) 8000 RwR.prog w os).map (fun s => fn0.all fun d => d.ok (KK s)) = some true := by
  kernel_rfl
theorem run_b4 (w : World) (os : OsState) : (HandSHeadRun.endF (HandSHeadRun.stepQ (HandSHeadRun.denQ HandSHeadRun.tabQ) RwR.prog w) 8000 RwR.prog w os).map (fun s => fn1.all fun d => d.ok (KK s)) = some true := by
  kernel_rfl
theorem run_b5 (w : World) (os : OsState) : (HandSHeadRun.endF (HandSHeadRun.stepQ (HandSHeadRun.denQ HandSHeadRun.tabQ) RwR.prog w) 8000 RwR.prog w os).map (fun s => fn2.all fun d => d.ok (KK s)) = some true := by
  kernel_rfl
theorem run_c0 (w : World) (os : OsState) : (HandSHeadRun.endF (HandSHeadRun.stepQ (HandSHeadRun.denQ HandSHeadRun.tabQ) RwR.prog w) 8000 RwR.prog w os).map (fun s => fn0.map fun d => He.fnW (KK s) d.at_) = some (fn0.map He.DefD.val) := by
  kernel_rfl
theorem run_c1 (w : World) (os : OsState) : (HandSHeadRun.endF (HandSHeadRun.stepQ (HandSHeadRun.denQ HandSHeadRun.tabQ) RwR.prog w) 8000 RwR.prog w os).map (fun s => fn1.map fun d => He.fnW (KK s) d.at_) = some (fn1.map He.DefD.val) := by
  kernel_rfl
theorem run_c2 (w : World) (os : OsState) : (HandSHeadRun.endF (HandSHeadRun.stepQ (HandSHeadRun.denQ HandSHeadRun.tabQ) RwR.prog w) 8000 RwR.prog w os).map (fun s => fn2.map fun d => He.fnW (KK s) d.at_) = some (fn2.map He.DefD.val) := by
  kernel_rfl
theorem and2 {A : Type} {o : Option A} {f g : A → Bool} (h1 : o.map f = some true) (h2 : o.map g = some true) : o.map (fun s => f s && g s) = some true := by
  cases o with
  | none => cases h1
  | some s =>
    simp only [Option.map_some, Option.some.injEq] at h1 h2 ⊢
    rw [h1, h2]; rfl
theorem app2 {A B : Type} {o : Option A} {f g : A → List B} {x y : List B} (h1 : o.map f = some x) (h2 : o.map g = some y) : o.map (fun s => f s ++ g s) = some (x ++ y) := by
  cases o with
  | none => cases h1
  | some s =>
    simp only [Option.map_some, Option.some.injEq] at h1 h2 ⊢
    rw [h1, h2]
theorem ob_b : (fun s => (ob s).1.1) = fun s => ((fa0.all fun f => f.ok (KK s)) && (fa1.all fun f => f.ok (KK s)) && (fa2.all fun f => f.ok (KK s))) && ((fn0.all fun d => d.ok (KK s)) && (fn1.all fun d => d.ok (KK s)) && (fn2.all fun d => d.ok (KK s))) := by
  funext s
  have a : (fa.all fun f => f.ok (KK s)) = ((fa0.all fun f => f.ok (KK s)) && (fa1.all fun f => f.ok (KK s)) && (fa2.all fun f => f.ok (KK s))) := by rw [faJ]; simp only [List.all_append]
  have b : (fn.all fun f => f.ok (KK s)) = ((fn0.all fun d => d.ok (KK s)) && (fn1.all fun d => d.ok (KK s)) && (fn2.all fun d => d.ok (KK s))) := by rw [fnJ]; simp only [List.all_append]
  exact (show (ob s).1.1 = ((fa.all fun f => f.ok (KK s)) && fn.all fun f => f.ok (KK s)) from rfl).trans (by rw [a, b])
theorem ob_c : (fun s => (ob s).1.2) = fun s => (fn0.map fun d => He.fnW (KK s) d.at_) ++ (fn1.map fun d => He.fnW (KK s) d.at_) ++ (fn2.map fun d => He.fnW (KK s) d.at_) := by
  funext s
  exact (show (ob s).1.2 = fn.map fun d => He.fnW (KK s) d.at_ from rfl).trans (by rw [fnJ]; simp only [List.map_append])
theorem run_b (w : World) (os : OsState) : (HandSHeadRun.endF (HandSHeadRun.stepQ (HandSHeadRun.denQ HandSHeadRun.tabQ) RwR.prog w) 8000 RwR.prog w os).map (fun s => (ob s).1.1) = some true := by
  rw [ob_b]
  exact and2 (and2 (and2 (run_b0 w os) (run_b1 w os)) (run_b2 w os)) (and2 (and2 (run_b3 w os) (run_b4 w os)) (run_b5 w os))
theorem run_c (w : World) (os : OsState) : (HandSHeadRun.endF (HandSHeadRun.stepQ (HandSHeadRun.denQ HandSHeadRun.tabQ) RwR.prog w) 8000 RwR.prog w os).map (fun s => (ob s).1.2) = some (fn.map He.DefD.val) := by
  rw [ob_c, show fn.map He.DefD.val = fn0.map He.DefD.val ++ fn1.map He.DefD.val ++ fn2.map He.DefD.val from (by rw [fnJ]; simp only [List.map_append])]
  exact (app2 (app2 (run_c0 w os) (run_c1 w os)) (run_c2 w os))
theorem run_d (w : World) (os : OsState) : (HandSHeadRun.endF (HandSHeadRun.stepQ (HandSHeadRun.denQ HandSHeadRun.tabQ) RwR.prog w) 8000 RwR.prog w os).map (fun s => (ob s).2) = some true := by
  kernel_rfl
end K34
namespace VS
open PySem PySem.Spec PyProof.Rows L2

/-- who holds a made thing: the one place alone; several; the caller's script; the text -/
inductive Ow where
  | own | shr | frz | stc
  deriving DecidableEq, Repr
def Sc.v : Sc → V
  | .non => .non
  | .bl b => .bl b
  | .int i => .int i
  | .str s => .str ⟨s.toArray⟩
inductive D where
  | sc (s : Sc)
  | lst (o : Ow) (xs : List D)
  | tup (xs : List D)
  | obj (o : Ow) (C : String) (ns : List String) (xs : List D)
  | exn (C : String) (ns : List String) (xs : List Sc)
  | dct (o : Ow) (ks : List Sc) (xs : List D)
  deriving Repr
abbrev D.non : D := .sc .non
abbrev D.bl (b : Bool) : D := .sc (.bl b)
abbrev D.int (i : Int) : D := .sc (.int i)
abbrev D.str (s : List Nat) : D := .sc (.str s)
inductive T where
  | sc (s : Sc)
  | lst (a : Addr) (o : Ow) (xs : List T)
  | tup (a : Addr) (st : Bool) (xs : List T)
  | obj (a dx : Addr) (o : Ow) (C : String) (ns : List String) (xs : List T)
  | exn (a : Addr) (dx : Option Addr) (C : String) (ns : List String) (xs : List Sc)
  | dct (a : Addr) (lk : Option Obj) (o : Ow) (ks : List Sc) (xs : List T)
def T.v : T → V
  | .sc s => s.v
  | .lst a _ _ => .ref a
  | .tup a _ _ => .ref a
  | .obj a _ _ _ _ _ => .ref a
  | .exn a _ _ _ _ => .ref a
  | .dct a _ _ _ _ => .ref a

mutual
def T.d : T → D
  | .sc s => .sc s
  | .lst _ o xs => .lst o (Ts.d xs)
  | .tup _ _ xs => .tup (Ts.d xs)
  | .obj _ _ o C ns xs => .obj o C ns (Ts.d xs)
  | .exn _ _ C ns xs => .exn C ns xs
  | .dct _ _ o ks xs => .dct o ks (Ts.d xs)
def Ts.d : List T → List D
  | [] => []
  | t :: ts => t.d :: Ts.d ts
end
theorem Ts.d_map : ∀ ts : List T, Ts.d ts = ts.map T.d
  | [] => by simp [Ts.d]
  | t :: ts => by simp [Ts.d, Ts.d_map ts]

def b2 (p : Prop) [Decidable p] : Nat := if p then 1 else 0
mutual
/-- how often a is owned -/
def T.oc (a : Addr) : T → Nat
  | .sc _ => 0
  | .lst b o xs => b2 (o = .own ∧ b = a) + Ts.oc a xs
  | .tup _ _ xs => Ts.oc a xs
  | .obj b dx o _ _ xs => b2 (o = .own ∧ b = a) + b2 (o = .own ∧ dx = a) + Ts.oc a xs
  | .exn _ _ _ _ _ => 0
  | .dct b _ o _ xs => b2 (o = .own ∧ b = a) + Ts.oc a xs
def Ts.oc (a : Addr) : List T → Nat
  | [] => 0
  | t :: ts => t.oc a + Ts.oc a ts
end
mutual
/-- how often a is held, not owned -/
def T.sh (a : Addr) : T → Nat
  | .sc _ => 0
  | .lst b o xs => b2 ((o = .shr ∨ o = .frz) ∧ b = a) + Ts.sh a xs
  | .tup b st xs => b2 (st = false ∧ b = a) + Ts.sh a xs
  | .obj b dx o _ _ xs => b2 (o = .shr ∧ b = a) + b2 (o = .shr ∧ dx = a) + Ts.sh a xs
  | .exn _ dx _ _ _ => b2 (dx = some a)
  | .dct b _ o _ xs => b2 ((o = .shr ∨ o = .frz) ∧ b = a) + Ts.sh a xs
def Ts.sh (a : Addr) : List T → Nat
  | [] => 0
  | t :: ts => t.sh a + Ts.sh a ts
end

mutual
def T.fz : T → T
  | .sc s => .sc s
  | .lst a o xs => .lst a (if o = .own then .shr else o) (Ts.fz xs)
  | .tup a st xs => .tup a st (Ts.fz xs)
  | .obj a dx o C ns xs => .obj a dx (if o = .own then .shr else o) C ns (Ts.fz xs)
  | .exn a dx C ns xs => .exn a dx C ns xs
  | .dct a lk o ks xs => .dct a lk (if o = .own then .shr else o) ks (Ts.fz xs)
def Ts.fz : List T → List T
  | [] => []
  | t :: ts => t.fz :: Ts.fz ts
end
mutual
def D.fz : D → D
  | .sc s => .sc s
  | .lst o xs => .lst (if o = .own then .shr else o) (Ds.fz xs)
  | .tup xs => .tup (Ds.fz xs)
  | .obj o C ns xs => .obj (if o = .own then .shr else o) C ns (Ds.fz xs)
  | .exn C ns xs => .exn C ns xs
  | .dct o ks xs => .dct (if o = .own then .shr else o) ks (Ds.fz xs)
def Ds.fz : List D → List D
  | [] => []
  | t :: ts => t.fz :: Ds.fz ts
end

/-- what the layer is told of the text: the written part, where the classes stand -/
structure Cfg where
  K : PySem.W.Frag
  cls : String → Addr
  /-- the tables of code objects that may grow, and the name of what they tell -/
  tb : List (Addr × Str) := []

def StcL (K : PySem.W.Frag) (a : Addr) (vs : List V) : Prop := SqL K (fun _ => none) a vs
def StcT (K : PySem.W.Frag) (a : Addr) (vs : List V) : Prop := SqT K (fun _ => none) a vs
def fieldsV (ns : List String) (vs : List V) : List (Str × V) := (ns.map Str.ofString).zip vs

/-- what stands at an exception's dict; a thing of C "dict" is a dict of whole numbers -/
def dkOf : List Sc → List (Key × V)
  | .int a :: v :: r => (Sum.inl a, v.v) :: dkOf r
  | _ => []
def exnO (C : String) (ns : List String) (xs : List Sc) : HO := if C = "dict" then .dK (dkOf xs) else .xd (fieldsV ns (xs.map Sc.v))
/-- what may stand in a heap: texts not too long, of signs there are -/
def Sc.good : Sc → Prop
  | .str l => l.length ≤ 16777216 ∧ ∀ c ∈ l, c < 1114112
  | _ => True
/-- dicts: keys are whole numbers and texts, or it is {None: v} (which no one changes) -/
def keyOf : Sc → Key
  | .int i => .inl i
  | .str l => .inr ⟨l.toArray⟩
  | _ => .inl 0
def keyS : Sc → Bool
  | .int _ => true
  | .str _ => true
  | _ => false
def kvO (ks : List Sc) (vs : List V) : List (Key × V) := (ks.map keyOf).zip vs
def DctN (H : Hp) (a : Addr) (vs : List V) : Prop := ∃ (o : Obj) (x : V) (v : Value), H a = some (.frz o (.own a)) ∧ (a == sysModules) = false ∧ (∀ (P : Program) (w : World), o.IsDictOf (leafKind P w) [(Leaf.none, v)]) ∧ vs = [x] ∧ RelV x v
def dctA (H : Hp) (a : Addr) (ks : List Sc) (vs : List V) : Prop := (ks.all keyS = true ∧ H a = some (.dK (kvO ks vs))) ∨ (ks = [.non] ∧ DctN H a vs)
def dctR (H : Hp) (a : Addr) (ks : List Sc) (vs : List V) : Prop := (ks.all keyS = true ∧ Rd H a (.dK (kvO ks vs))) ∨ (ks = [.non] ∧ DctN H a vs)
theorem dctA.r {H : Hp} {a : Addr} {ks : List Sc} {vs : List V} (h : dctA H a ks vs) : dctR H a ks vs := h.imp (fun z => ⟨z.1, .inl z.2⟩) id
theorem dctA.stay {H H' : Hp} {a : Addr} {ks : List Sc} {vs : List V} (h : dctA H a ks vs) (e : H' a = H a) : dctA H' a ks vs := by
  unfold dctA DctN at h ⊢
  rw [e]; exact h
theorem dctR.stay {H H' : Hp} {a : Addr} {ks : List Sc} {vs : List V} (h : dctR H a ks vs) (e : H' a = H a) : dctR H' a ks vs := by
  unfold dctR DctN Rd at h ⊢
  rw [e]; exact h
theorem dctR.some {H : Hp} {a : Addr} {ks : List Sc} {vs : List V} (h : dctR H a ks vs) : (∃ kvs, H a = some (.dK kvs)) ∨ ∃ o u, H a = some (.frz o u) := by
  rcases h with ⟨_, e | ⟨o, e⟩⟩ | ⟨_, o, _, _, e, _⟩
  · exact .inl ⟨_, e⟩
  · exact .inr ⟨_, _, e⟩
  · exact .inr ⟨_, _, e⟩
mutual
def T.ok (c : Cfg) (H : Hp) : T → Prop
  | .sc s => s.good
  | .lst a .own xs => H a = some (.lst (xs.map T.v)) ∧ xs.length ≤ 16777216 ∧ Ts.ok c H xs
  | .lst a .shr xs => H a = some (.lst (xs.map T.v)) ∧ xs.length ≤ 16777216 ∧ Ts.ok c H xs
  | .lst a .frz xs => (∃ o, H a = some (.frz o (.lst (xs.map T.v)))) ∧ xs.length ≤ 16777216 ∧ Ts.ok c H xs
  | .lst a .stc xs => StcL c.K a (xs.map T.v) ∧ xs.length ≤ 16777216 ∧ Ts.ok c H xs
  | .tup a false xs => H a = some (.tup (xs.map T.v)) ∧ xs.length ≤ 16777216 ∧ Ts.ok c H xs
  | .tup a true xs => StcT c.K a (xs.map T.v) ∧ xs.length ≤ 16777216 ∧ Ts.ok c H xs
  | .obj a dx .own C ns xs => H a = some (.ins (c.cls C) dx (fieldsV ns (xs.map T.v))) ∧ H dx = some (.own a) ∧ dx ≠ a ∧ ns.length = xs.length ∧ Ts.ok c H xs
  | .obj a dx .shr C ns xs => H a = some (.ins (c.cls C) dx (fieldsV ns (xs.map T.v))) ∧ H dx = some (.own a) ∧ dx ≠ a ∧ ns.length = xs.length ∧ Ts.ok c H xs
  | .obj _ _ _ _ _ _ => False
  | .exn a dx C ns xs => (∀ s ∈ xs, s.good) ∧ match dx with
    | none => ns = [] ∧ xs = [] ∧ C ≠ "dict"
    | some d => H d = some (exnO C ns xs) ∧ (C = "dict" → d = a)
  | .dct a none .own ks xs => dctA H a ks (xs.map T.v) ∧ ks.length = xs.length ∧ xs.length ≤ 16777216 ∧ (∀ s ∈ ks, s.good) ∧ Ts.ok c H xs
  | .dct a none .shr ks xs => dctR H a ks (xs.map T.v) ∧ ks.length = xs.length ∧ xs.length ≤ 16777216 ∧ (∀ s ∈ ks, s.good) ∧ Ts.ok c H xs
  | .dct a (some od) .frz ks xs => (ks.all keyS = true ∧ H a = some (.frz od (.dK (kvO ks (xs.map T.v))))) ∧ ks.length = xs.length ∧ xs.length ≤ 16777216 ∧ (∀ s ∈ ks, s.good) ∧ Ts.ok c H xs
  | .dct _ _ _ _ _ => False
def Ts.ok (c : Cfg) (H : Hp) : List T → Prop
  | [] => True
  | t :: ts => t.ok c H ∧ Ts.ok c H ts
end

/-! ### lemmas over lists -/
theorem Ts.ok_iff {c : Cfg} {H : Hp} : ∀ {ts : List T}, Ts.ok c H ts ↔ ∀ t ∈ ts, t.ok c H
  | [] => by simp [Ts.ok]
  | t :: ts => by simp [Ts.ok, Ts.ok_iff (ts := ts)]
theorem Ts.oc_append (a : Addr) : ∀ (xs ys : List T), Ts.oc a (xs ++ ys) = Ts.oc a xs + Ts.oc a ys
  | [], ys => by simp [Ts.oc]
  | t :: xs, ys => by simp [Ts.oc, Ts.oc_append a xs ys]; omega
theorem Ts.sh_append (a : Addr) : ∀ (xs ys : List T), Ts.sh a (xs ++ ys) = Ts.sh a xs + Ts.sh a ys
  | [], ys => by simp [Ts.sh]
  | t :: xs, ys => by simp [Ts.sh, Ts.sh_append a xs ys]; omega
theorem Ts.oc_mem {a : Addr} {t : T} : ∀ {ts : List T}, t ∈ ts → t.oc a ≤ Ts.oc a ts
  | [], h => by cases h
  | u :: ts, h => by
    rcases List.mem_cons.mp h with rfl | h
    · simp [Ts.oc]
    · have := Ts.oc_mem (a := a) h; simp [Ts.oc]; omega
theorem Ts.sh_mem {a : Addr} {t : T} : ∀ {ts : List T}, t ∈ ts → t.sh a ≤ Ts.sh a ts
  | [], h => by cases h
  | u :: ts, h => by
    rcases List.mem_cons.mp h with rfl | h
    · simp [Ts.sh]
    · have := Ts.sh_mem (a := a) h; simp [Ts.sh]; omega
theorem Ts.pos_sh {a : Addr} : ∀ {ts : List T}, 0 < Ts.sh a ts → ∃ t ∈ ts, 0 < t.sh a
  | [], h => by simp [Ts.sh] at h
  | t :: ts, h => by
    simp only [Ts.sh] at h
    by_cases c : 0 < t.sh a
    · exact ⟨t, by simp, c⟩
    · obtain ⟨u, hu, hp⟩ := Ts.pos_sh (ts := ts) (a := a) (by omega)
      exact ⟨u, by simp [hu], hp⟩
theorem Ts.pos_oc {a : Addr} : ∀ {ts : List T}, 0 < Ts.oc a ts → ∃ t ∈ ts, 0 < t.oc a
  | [], h => by simp [Ts.oc] at h
  | t :: ts, h => by
    simp only [Ts.oc] at h
    by_cases c : 0 < t.oc a
    · exact ⟨t, by simp, c⟩
    · obtain ⟨u, hu, hp⟩ := Ts.pos_oc (ts := ts) (a := a) (by omega)
      exact ⟨u, by simp [hu], hp⟩

/-! ### freezing -/
theorem T.fz_v : ∀ t : T, t.fz.v = t.v
  | .sc _ => by simp [T.fz]
  | .lst _ _ _ => by simp [T.fz, T.v]
  | .tup _ _ _ => by simp [T.fz, T.v]
  | .obj _ _ _ _ _ _ => by simp [T.fz, T.v]
  | .exn _ _ _ _ _ => by simp [T.fz]
  | .dct _ _ _ _ _ => by simp [T.fz, T.v]
theorem Ts.fz_map : ∀ ts : List T, Ts.fz ts = ts.map T.fz
  | [] => by simp [Ts.fz]
  | t :: ts => by simp [Ts.fz, Ts.fz_map ts]
theorem Ds.fz_map : ∀ ts : List D, Ds.fz ts = ts.map D.fz
  | [] => by simp [Ds.fz]
  | t :: ts => by simp [Ds.fz, Ds.fz_map ts]
theorem Ts.fz_v (ts : List T) : (Ts.fz ts).map T.v = ts.map T.v := by
  rw [Ts.fz_map, List.map_map]; exact List.map_congr_left fun t _ => T.fz_v t
mutual
theorem T.fz_d : ∀ t : T, t.fz.d = t.d.fz
  | .sc _ => by simp [T.fz, T.d, D.fz]
  | .lst _ _ xs => by simp [T.fz, T.d, D.fz, Ts.fz_d xs]
  | .tup _ _ xs => by simp [T.fz, T.d, D.fz, Ts.fz_d xs]
  | .obj _ _ _ _ _ xs => by simp [T.fz, T.d, D.fz, Ts.fz_d xs]
  | .exn _ _ _ _ _ => by simp [T.fz, T.d, D.fz]
  | .dct _ _ _ _ xs => by simp [T.fz, T.d, D.fz, Ts.fz_d xs]
theorem Ts.fz_d : ∀ ts : List T, Ts.d (Ts.fz ts) = Ds.fz (Ts.d ts)
  | [] => by simp [Ts.fz, Ts.d, Ds.fz]
  | t :: ts => by simp [Ts.fz, Ts.d, Ds.fz, T.fz_d t, Ts.fz_d ts]
end
mutual
theorem T.fz_oc (a : Addr) : ∀ t : T, t.fz.oc a = 0
  | .sc _ => by simp [T.fz, T.oc]
  | .lst b o xs => by cases o <;> simp [T.fz, T.oc, Ts.fz_oc a xs, b2]
  | .tup _ _ xs => by simp [T.fz, T.oc, Ts.fz_oc a xs]
  | .obj _ _ o _ _ xs => by cases o <;> simp [T.fz, T.oc, Ts.fz_oc a xs, b2]
  | .exn _ _ _ _ _ => by simp [T.fz, T.oc]
  | .dct b _ o _ xs => by cases o <;> simp [T.fz, T.oc, Ts.fz_oc a xs, b2]
theorem Ts.fz_oc (a : Addr) : ∀ ts : List T, Ts.oc a (Ts.fz ts) = 0
  | [] => by simp [Ts.fz, Ts.oc]
  | t :: ts => by simp [Ts.fz, Ts.oc, T.fz_oc a t, Ts.fz_oc a ts]
end
mutual
theorem T.fz_sh (a : Addr) : ∀ t : T, t.fz.sh a = t.oc a + t.sh a
  | .sc _ => by simp [T.fz, T.oc, T.sh]
  | .lst b o xs => by cases o <;> simp [T.fz, T.oc, T.sh, Ts.fz_sh a xs, b2] <;> omega
  | .tup _ _ xs => by simp [T.fz, T.oc, T.sh, Ts.fz_sh a xs]; omega
  | .obj _ _ o _ _ xs => by cases o <;> simp [T.fz, T.oc, T.sh, Ts.fz_sh a xs, b2] <;> omega
  | .exn _ _ _ _ _ => by simp [T.fz, T.oc]
  | .dct b _ o _ xs => by cases o <;> simp [T.fz, T.oc, T.sh, Ts.fz_sh a xs, b2] <;> omega
theorem Ts.fz_sh (a : Addr) : ∀ ts : List T, Ts.sh a (Ts.fz ts) = Ts.oc a ts + Ts.sh a ts
  | [] => by simp [Ts.fz, Ts.oc, Ts.sh]
  | t :: ts => by simp [Ts.fz, Ts.oc, Ts.sh, T.fz_sh a t, Ts.fz_sh a ts]; omega
end
theorem Ts.fz_len (ts : List T) : (Ts.fz ts).length = ts.length := by rw [Ts.fz_map, List.length_map]
mutual
theorem T.fz_ok {c : Cfg} {H : Hp} : ∀ t : T, t.ok c H → t.fz.ok c H
  | .sc _, h => by simpa [T.fz] using h
  | .lst b o xs, h => by
    have ih := Ts.fz_ok (c := c) (H := H) xs
    cases o <;> simp only [T.ok] at h <;> simp [T.fz, T.ok, Ts.fz_v, h.1, h.2.1, Ts.fz_len, ih h.2.2]
  | .tup _ st xs, h => by
    have ih := Ts.fz_ok (c := c) (H := H) xs
    cases st <;> simp only [T.ok] at h <;> simp [T.fz, T.ok, Ts.fz_v, h.1, h.2.1, Ts.fz_len, ih h.2.2]
  | .obj _ _ o _ _ xs, h => by
    have ih := Ts.fz_ok (c := c) (H := H) xs
    cases o <;> simp only [T.ok] at h <;> simp [T.fz, T.ok, Ts.fz_v, h.1, h.2.1, h.2.2.1, h.2.2.2.1, ih h.2.2.2.2, Ts.fz_len]
  | .exn _ _ _ _ _, h => by simpa [T.fz] using h
  | .dct _ lk o _ xs, h => by
    have ih := Ts.fz_ok (c := c) (H := H) xs
    cases lk <;> cases o <;> simp only [T.ok] at h
    · simp only [T.fz, if_true, T.ok]
      exact ⟨by rw [Ts.fz_v]; exact h.1.r, by rw [Ts.fz_len]; exact h.2.1, by rw [Ts.fz_len]; exact h.2.2.1, h.2.2.2.1, ih h.2.2.2.2⟩
    · simp only [T.fz, reduceCtorEq, if_false, T.ok]
      exact ⟨by rw [Ts.fz_v]; exact h.1, by rw [Ts.fz_len]; exact h.2.1, by rw [Ts.fz_len]; exact h.2.2.1, h.2.2.2.1, ih h.2.2.2.2⟩
    · simp only [T.fz, reduceCtorEq, if_false, T.ok]
      exact ⟨by rw [Ts.fz_v]; exact h.1, by rw [Ts.fz_len]; exact h.2.1, by rw [Ts.fz_len]; exact h.2.2.1, h.2.2.2.1, ih h.2.2.2.2⟩
theorem Ts.fz_ok {c : Cfg} {H : Hp} : ∀ ts : List T, Ts.ok c H ts → Ts.ok c H (Ts.fz ts)
  | [], h => by simp [Ts.fz, Ts.ok]
  | t :: ts, h => by
    simp only [Ts.ok] at h
    simp [Ts.fz, Ts.ok, T.fz_ok t h.1, Ts.fz_ok ts h.2]
end

/-! ### what stands stays -/
theorem b2_true {p : Prop} [Decidable p] (h : p) : b2 p = 1 := by simp [b2, h]
theorem b2_false {p : Prop} [Decidable p] (h : ¬ p) : b2 p = 0 := by simp [b2, h]
mutual
/-- what is held stands in the heap -/
theorem T.pos {c : Cfg} {H : Hp} {a : Addr} : ∀ t : T, t.ok c H → 0 < t.oc a + t.sh a → H a ≠ none
  | .sc _, _, h => by simp [T.oc, T.sh] at h
  | .lst b o xs, k, h => by
    simp only [T.oc, T.sh] at h
    by_cases e : 0 < Ts.oc a xs + Ts.sh a xs
    · cases o <;> simp only [T.ok] at k <;> exact Ts.pos xs k.2.2 e
    · have hb : b = a := by
        by_cases q : b = a
        · exact q
        · simp [b2, q] at h; omega
      subst hb
      cases o <;> simp only [T.ok] at k
      · simp [k.1]
      · simp [k.1]
      · obtain ⟨⟨_, q⟩, _⟩ := k; simp [q]
      · simp [b2] at h; omega
  | .tup b st xs, k, h => by
    simp only [T.oc, T.sh] at h
    by_cases e : 0 < Ts.oc a xs + Ts.sh a xs
    · cases st <;> simp only [T.ok] at k <;> exact Ts.pos xs k.2.2 e
    · cases st
      · have hb : b = a := by
          by_cases q : b = a
          · exact q
          · simp [b2, q] at h; omega
        subst hb
        simp only [T.ok] at k
        simp [k.1]
      · simp [b2] at h; omega
  | .obj b dx o C ns xs, k, h => by
    simp only [T.oc, T.sh] at h
    by_cases e : 0 < Ts.oc a xs + Ts.sh a xs
    · cases o <;> simp only [T.ok] at k <;> exact Ts.pos xs k.2.2.2.2 e
    · have hb : b = a ∨ dx = a := by
        by_cases q : b = a
        · exact .inl q
        · by_cases q2 : dx = a
          · exact .inr q2
          · simp [b2, q, q2] at h; omega
      cases o <;> simp only [T.ok] at k
      · rcases hb with rfl | rfl
        · simp [k.1]
        · simp [k.2.1]
      · rcases hb with rfl | rfl
        · simp [k.1]
        · simp [k.2.1]
  | .exn _ dx _ _ _, k, h => by
    simp only [T.oc, T.sh] at h
    by_cases q : dx = some a
    · subst q
      simp only [T.ok] at k
      simp [k]
    · simp [b2, q] at h
  | .dct b lk o ks xs, k, h => by
    simp only [T.oc, T.sh] at h
    by_cases e : 0 < Ts.oc a xs + Ts.sh a xs
    · cases lk <;> cases o <;> simp only [T.ok] at k <;> exact Ts.pos xs k.2.2.2.2 e
    · have hb : b = a := by
        by_cases q : b = a
        · exact q
        · simp [b2, q] at h; omega
      subst hb
      have r : dctR H b ks (xs.map T.v) := by
        cases lk <;> cases o <;> simp only [T.ok] at k
        · exact k.1.r
        · exact k.1
        · exact .inl ⟨k.1.1, .inr ⟨_, k.1.2⟩⟩
      rcases r.some with ⟨_, q⟩ | ⟨_, _, q⟩ <;> simp [q]
theorem Ts.pos {c : Cfg} {H : Hp} {a : Addr} : ∀ ts : List T, Ts.ok c H ts → 0 < Ts.oc a ts + Ts.sh a ts → H a ≠ none
  | [], _, h => by simp [Ts.oc, Ts.sh] at h
  | t :: ts, k, h => by
    simp only [Ts.ok] at k
    simp only [Ts.oc, Ts.sh] at h
    by_cases e : 0 < t.oc a + t.sh a
    · exact T.pos t k.1 e
    · exact Ts.pos ts k.2 (by omega)
end
mutual
theorem T.stay {c : Cfg} {H H' : Hp} : ∀ t : T, t.ok c H → (∀ a, 0 < t.oc a + t.sh a → H' a = H a) → t.ok c H'
  | .sc _, k, _ => by simpa [T.ok] using k
  | .lst b o xs, k, h => by
    have h2 : ∀ a, 0 < Ts.oc a xs + Ts.sh a xs → H' a = H a := fun a q => h a (by simp only [T.oc, T.sh]; omega)
    cases o <;> simp only [T.ok] at k ⊢
    · exact ⟨(h b (by simp [T.oc, T.sh, b2]; omega)).trans k.1, k.2.1, Ts.stay xs k.2.2 h2⟩
    · exact ⟨(h b (by simp [T.oc, T.sh, b2]; omega)).trans k.1, k.2.1, Ts.stay xs k.2.2 h2⟩
    · obtain ⟨⟨o, q⟩, k2⟩ := k
      exact ⟨⟨o, (h b (by simp [T.oc, T.sh, b2]; omega)).trans q⟩, k2.1, Ts.stay xs k2.2 h2⟩
    · exact ⟨k.1, k.2.1, Ts.stay xs k.2.2 h2⟩
  | .tup b st xs, k, h => by
    have h2 : ∀ a, 0 < Ts.oc a xs + Ts.sh a xs → H' a = H a := fun a q => h a (by simp only [T.oc, T.sh]; omega)
    cases st <;> simp only [T.ok] at k ⊢
    · exact ⟨(h b (by simp [T.oc, T.sh, b2]; omega)).trans k.1, k.2.1, Ts.stay xs k.2.2 h2⟩
    · exact ⟨k.1, k.2.1, Ts.stay xs k.2.2 h2⟩
  | .obj b dx o C ns xs, k, h => by
    have h2 : ∀ a, 0 < Ts.oc a xs + Ts.sh a xs → H' a = H a := fun a q => h a (by simp only [T.oc, T.sh]; omega)
    cases o <;> simp only [T.ok] at k ⊢
    · exact ⟨(h b (by simp [T.oc, T.sh, b2]; omega)).trans k.1, (h dx (by simp [T.oc, T.sh, b2]; omega)).trans k.2.1, k.2.2.1, k.2.2.2.1, Ts.stay xs k.2.2.2.2 h2⟩
    · exact ⟨(h b (by simp [T.oc, T.sh, b2]; omega)).trans k.1, (h dx (by simp [T.oc, T.sh, b2]; omega)).trans k.2.1, k.2.2.1, k.2.2.2.1, Ts.stay xs k.2.2.2.2 h2⟩
  | .exn _ dx _ ns xs, k, h => by
    cases dx with
    | none => simpa [T.ok] using k
    | some d =>
      simp only [T.ok] at k ⊢
      exact ⟨k.1, (h d (by simp [T.oc, T.sh, b2])).trans k.2.1, k.2.2⟩
  | .dct b lk o ks xs, k, h => by
    have h2 : ∀ a, 0 < Ts.oc a xs + Ts.sh a xs → H' a = H a := fun a q => h a (by simp only [T.oc, T.sh]; omega)
    cases lk <;> cases o <;> simp only [T.ok] at k ⊢
    · exact ⟨k.1.stay (h b (by simp [T.oc, T.sh, b2]; omega)), k.2.1, k.2.2.1, k.2.2.2.1, Ts.stay xs k.2.2.2.2 h2⟩
    · exact ⟨k.1.stay (h b (by simp [T.oc, T.sh, b2]; omega)), k.2.1, k.2.2.1, k.2.2.2.1, Ts.stay xs k.2.2.2.2 h2⟩
    · exact ⟨⟨k.1.1, (h b (by simp [T.oc, T.sh, b2]; omega)).trans k.1.2⟩, k.2.1, k.2.2.1, k.2.2.2.1, Ts.stay xs k.2.2.2.2 h2⟩
theorem Ts.stay {c : Cfg} {H H' : Hp} : ∀ ts : List T, Ts.ok c H ts → (∀ a, 0 < Ts.oc a ts + Ts.sh a ts → H' a = H a) → Ts.ok c H' ts
  | [], _, _ => by simp [Ts.ok]
  | t :: ts, k, h => by
    simp only [Ts.ok] at k ⊢
    exact ⟨T.stay t k.1 fun a q => h a (by simp only [Ts.oc, Ts.sh]; omega), Ts.stay ts k.2 fun a q => h a (by simp only [Ts.oc, Ts.sh]; omega)⟩
end
/-! ### what is held is no table of code objects, nor one of these -/
def plainO : HO → Bool
  | .lst _ => true
  | .tup _ => true
  | .frz _ _ => true
  | .ins _ _ _ => true
  | .own _ => true
  | .dK _ => true
  | .xd _ => true
  | _ => false
mutual
theorem T.plain {c : Cfg} {H : Hp} {a : Addr} : ∀ t : T, t.ok c H → 0 < t.oc a + t.sh a → ∃ o, H a = some o ∧ plainO o = true
  | .sc _, _, h => by simp [T.oc, T.sh] at h
  | .lst b o xs, k, h => by
    simp only [T.oc, T.sh] at h
    by_cases e : 0 < Ts.oc a xs + Ts.sh a xs
    · cases o <;> simp only [T.ok] at k <;> exact Ts.plain xs k.2.2 e
    · have hb : b = a := by
        by_cases q : b = a
        · exact q
        · simp [b2, q] at h; omega
      subst hb
      cases o <;> simp only [T.ok] at k
      · exact ⟨_, k.1, rfl⟩
      · exact ⟨_, k.1, rfl⟩
      · obtain ⟨⟨_, q⟩, _⟩ := k; exact ⟨_, q, rfl⟩
      · simp [b2] at h; omega
  | .tup b st xs, k, h => by
    simp only [T.oc, T.sh] at h
    by_cases e : 0 < Ts.oc a xs + Ts.sh a xs
    · cases st <;> simp only [T.ok] at k <;> exact Ts.plain xs k.2.2 e
    · cases st
      · have hb : b = a := by
          by_cases q : b = a
          · exact q
          · simp [b2, q] at h; omega
        subst hb
        simp only [T.ok] at k
        exact ⟨_, k.1, rfl⟩
      · simp [b2] at h; omega
  | .obj b dx o C ns xs, k, h => by
    simp only [T.oc, T.sh] at h
    by_cases e : 0 < Ts.oc a xs + Ts.sh a xs
    · cases o <;> simp only [T.ok] at k <;> exact Ts.plain xs k.2.2.2.2 e
    · have hb : b = a ∨ dx = a := by
        by_cases q : b = a
        · exact .inl q
        · by_cases q2 : dx = a
          · exact .inr q2
          · simp [b2, q, q2] at h; omega
      cases o <;> simp only [T.ok] at k
      · rcases hb with rfl | rfl
        · exact ⟨_, k.1, rfl⟩
        · exact ⟨_, k.2.1, rfl⟩
      · rcases hb with rfl | rfl
        · exact ⟨_, k.1, rfl⟩
        · exact ⟨_, k.2.1, rfl⟩
  | .exn _ dx C ns xs, k, h => by
    simp only [T.oc, T.sh] at h
    by_cases q : dx = some a
    · subst q
      simp only [T.ok] at k
      refine ⟨_, k.2.1, ?_⟩
      unfold exnO
      split <;> rfl
    · simp [b2, q] at h
  | .dct b lk o ks xs, k, h => by
    simp only [T.oc, T.sh] at h
    by_cases e : 0 < Ts.oc a xs + Ts.sh a xs
    · cases lk <;> cases o <;> simp only [T.ok] at k <;> exact Ts.plain xs k.2.2.2.2 e
    · have hb : b = a := by
        by_cases q : b = a
        · exact q
        · simp [b2, q] at h; omega
      subst hb
      have r : dctR H b ks (xs.map T.v) := by
        cases lk <;> cases o <;> simp only [T.ok] at k
        · exact k.1.r
        · exact k.1
        · exact .inl ⟨k.1.1, .inr ⟨_, k.1.2⟩⟩
      rcases r.some with ⟨_, q⟩ | ⟨_, _, q⟩ <;> exact ⟨_, q, rfl⟩
theorem Ts.plain {c : Cfg} {H : Hp} {a : Addr} : ∀ ts : List T, Ts.ok c H ts → 0 < Ts.oc a ts + Ts.sh a ts → ∃ o, H a = some o ∧ plainO o = true
  | [], _, h => by simp [Ts.oc, Ts.sh] at h
  | t :: ts, k, h => by
    simp only [Ts.ok] at k
    simp only [Ts.oc, Ts.sh] at h
    by_cases e : 0 < t.oc a + t.sh a
    · exact T.plain t k.1 e
    · exact Ts.plain ts k.2 (by omega)
end
/-- no table -/
abbrev NT (o : HO) : Prop := ∀ ps, o ≠ .tbl ps
theorem plain_nt {o : HO} (h : plainO o = true) : NT o := fun ps e => by subst e; cases h
/-- what stands at a stays: it is no table, or one that is told of -/
def Sol (c : Cfg) (H : Hp) (a : Addr) : Prop := ∃ o, H a = some o ∧ (NT o ∨ a ∈ c.tb.map Prod.fst)
theorem Sol.ne {c : Cfg} {H : Hp} {a : Addr} (h : Sol c H a) : H a ≠ none := by
  obtain ⟨o, e, _⟩ := h
  rw [e]; simp
theorem Sol.no {c : Cfg} {H : Hp} {a : Addr} (h : H a = none) : ¬ Sol c H a := fun k => k.ne h
/-- tables stay where all that is not plain stays -/
theorem tabs_keep {T : List (Addr × Str)} {H H' : Hp} (t : LamX.Tabs T H) (e : ∀ b o, H b = some o → plainO o = false → H' b = some o) : LamX.Tabs T H' := fun p hp => by
  obtain ⟨ps, h1, h2, h3⟩ := t p hp
  refine ⟨ps, e _ _ h1 rfl, h2, fun pos cv hc => ?_⟩
  obtain ⟨c, e1, e2⟩ := h3 pos cv hc
  exact ⟨c, e1, e _ _ e2 rfl⟩
end VS

/-! VS, part b: the state (slots and what is held beside), and how it goes on. -/
namespace VS
open PySem PySem.Spec PyProof.Rows L2

abbrev DE := List (Option D)
structure Ex where
  cls : String
  ns : List String
  xs : List Sc
  deriving Repr, DecidableEq
inductive R (α : Type) where
  | ok (a : α) (ρ : DE)
  | exc (x : Ex) (ρ : DE)
  | stuck
  deriving Repr
abbrev Cm (α : Type) := DE → R α
@[inline] def R.bind {α β : Type} (r : R α) (f : α → Cm β) : R β := match r with
  | .ok a ρ => f a ρ
  | .exc x ρ => .exc x ρ
  | .stuck => .stuck
@[simp] theorem R.bind_ok {α β : Type} (a : α) (ρ : DE) (f : α → Cm β) : (R.ok a ρ).bind f = f a ρ := rfl
@[simp] theorem R.bind_exc {α β : Type} (x : Ex) (ρ : DE) (f : α → Cm β) : (R.exc x ρ : R α).bind f = .exc x ρ := rfl
@[simp] theorem R.bind_stuck {α β : Type} (f : α → Cm β) : (R.stuck : R α).bind f = .stuck := rfl

/-- what a def's body is told at its entry -/
structure Gh where
  c : Cfg
  H0 : Hp
  A0 : List T
  N : Nat
  io : List (Nat × V)
  /-- what stands still, owned by none -/
  px : List (Addr × HO) := []

def So (f : T → Nat) : List (Option T) → Nat
  | [] => 0
  | none :: r => So f r
  | some t :: r => f t + So f r
def fO (f : T → Nat) : Option T → Nat
  | none => 0
  | some t => f t
theorem So_set {f : T → Nat} {x : Option T} : ∀ {sl : List (Option T)} {i : Nat} {y : Option T}, sl[i]? = some y → So f (sl.set i x) + fO f y = So f sl + fO f x
  | [], _, _, h => by simp at h
  | y :: r, 0, z, h => by
    simp only [List.getElem?_cons_zero, Option.some.injEq] at h
    subst h
    cases x <;> cases y <;> simp [So, fO] <;> omega
  | y :: r, i + 1, z, h => by
    have := So_set (f := f) (x := x) (sl := r) (i := i) (y := z) (by simpa using h)
    cases y <;> simp [So] <;> omega
theorem So_get {f : T → Nat} {t : T} : ∀ {sl : List (Option T)}, some t ∈ sl → f t ≤ So f sl
  | [], h => by cases h
  | y :: r, h => by
    rcases List.mem_cons.mp h with e | h
    · subst e; simp [So]
    · have := So_get (f := f) h
      cases y <;> simp [So] <;> omega
def den (sl : List (Option T)) : DE := sl.map (Option.map T.d)
theorem den_set (sl : List (Option T)) (i : Nat) (x : Option T) : den (sl.set i x) = (den sl).set i (x.map T.d) := by
  unfold den; rw [List.map_set]
theorem den_get {sl : List (Option T)} {i : Nat} {d : D} (h : (den sl)[i]? = some (some d)) : ∃ t, sl[i]? = some (some t) ∧ t.d = d := by
  unfold den at h
  rw [List.getElem?_map] at h
  cases e : sl[i]? with
  | none => rw [e] at h; simp at h
  | some o =>
    cases o with
    | none => rw [e] at h; simp at h
    | some t => rw [e] at h; simp at h; exact ⟨t, rfl, h⟩
theorem den_len (sl : List (Option T)) : (den sl).length = sl.length := by unfold den; simp

structure SR (g : Gh) (H : Hp) (σ : L2.St) (sl : List (Option T)) (tm : List T) : Prop where
  okS : ∀ t, some t ∈ sl → t.ok g.c H
  okT : Ts.ok g.c H tm
  inv : ∀ a, So (T.oc a) sl + Ts.oc a tm = 0 ∨ (So (T.oc a) sl + Ts.oc a tm = 1 ∧ So (T.sh a) sl + Ts.sh a tm = 0)
  prov : ∀ a, Sol g.c g.H0 a → Ts.oc a g.A0 = 0 → So (T.oc a) sl + Ts.oc a tm = 0 ∧ (Ts.sh a g.A0 = 0 → So (T.sh a) sl + Ts.sh a tm = 0)
  frame : ∀ a o, g.H0 a = some o → NT o → Ts.oc a g.A0 = 0 → H a = some o
  len : σ.length = g.N
  slen : sl.length = g.N
  at_ : ∀ (i : Nat) (t : T), sl[i]? = some (some t) → σ[i]? = some (some t.v)
  io : ∀ p ∈ g.io, σ[p.1]? = some (some p.2)
  px : ∀ p ∈ g.px, H p.1 = some p.2 ∧ So (T.oc p.1) sl + Ts.oc p.1 tm = 0 ∧ NT p.2
  tabs : LamX.Tabs g.c.tb H

theorem So_pos {c : Cfg} {H : Hp} {a : Addr} : ∀ {sl : List (Option T)}, (∀ t, some t ∈ sl → t.ok c H) → 0 < So (T.oc a) sl + So (T.sh a) sl → H a ≠ none
  | [], _, h => by simp [So] at h
  | none :: r, k, h => So_pos (fun t m => k t (List.mem_cons_of_mem _ m)) (by simpa [So] using h)
  | some t :: r, k, h => by
    simp only [So] at h
    by_cases e : 0 < t.oc a + t.sh a
    · exact T.pos t (k t (by simp)) e
    · exact So_pos (fun t m => k t (List.mem_cons_of_mem _ m)) (by omega)
section
variable {g : Gh} {H H' : Hp} {σ σ' : L2.St} {sl sl' : List (Option T)} {tm tm' : List T}
theorem So_plain {c : Cfg} {H : Hp} {a : Addr} : ∀ {sl : List (Option T)}, (∀ t, some t ∈ sl → t.ok c H) → 0 < So (T.oc a) sl + So (T.sh a) sl → ∃ o, H a = some o ∧ plainO o = true
  | [], _, h => by simp [So] at h
  | none :: r, k, h => So_plain (fun t m => k t (List.mem_cons_of_mem _ m)) (by simpa [So] using h)
  | some t :: r, k, h => by
    simp only [So] at h
    by_cases e : 0 < t.oc a + t.sh a
    · exact T.plain t (k t (by simp)) e
    · exact So_plain (fun t m => k t (List.mem_cons_of_mem _ m)) (by omega)
theorem SR.plain (s : SR g H σ sl tm) {a : Addr} (h : 0 < So (T.oc a) sl + Ts.oc a tm + So (T.sh a) sl + Ts.sh a tm) : ∃ o, H a = some o ∧ plainO o = true := by
  by_cases e : 0 < So (T.oc a) sl + So (T.sh a) sl
  · exact So_plain s.okS e
  · exact Ts.plain tm s.okT (by omega)
theorem SR.pos (s : SR g H σ sl tm) {a : Addr} (h : 0 < So (T.oc a) sl + Ts.oc a tm + So (T.sh a) sl + Ts.sh a tm) : H a ≠ none := by
  by_cases e : 0 < So (T.oc a) sl + So (T.sh a) sl
  · exact So_pos s.okS e
  · exact Ts.pos tm s.okT (by omega)
theorem SR.sol (s : SR g H σ sl tm) {a : Addr} (h : Sol g.c g.H0 a) (h1 : Ts.oc a g.A0 = 0) : Sol g.c H a := by
  obtain ⟨o, e, n | m⟩ := h
  · exact ⟨o, s.frame a o e n h1, .inl n⟩
  · obtain ⟨p, hp, rfl⟩ := List.mem_map.mp m
    obtain ⟨ps, hP, _⟩ := s.tabs p hp
    exact ⟨_, hP, .inr m⟩
/-- the state goes on, tables perhaps grown -/
theorem SR.goT (s : SR g H σ sl tm) (okS : ∀ t, some t ∈ sl' → t.ok g.c H') (okT : Ts.ok g.c H' tm')
    (hC : ∀ a, (So (T.oc a) sl' + Ts.oc a tm' ≤ So (T.oc a) sl + Ts.oc a tm ∧ (0 < So (T.sh a) sl' + Ts.sh a tm' → 0 < So (T.sh a) sl + Ts.sh a tm ∨ (0 < So (T.oc a) sl + Ts.oc a tm ∧ So (T.oc a) sl' + Ts.oc a tm' = 0))) ∨
      ((¬ Sol g.c H a ∨ 0 < So (T.oc a) sl + Ts.oc a tm) ∧ (So (T.oc a) sl' + Ts.oc a tm' = 0 ∨ (So (T.oc a) sl' + Ts.oc a tm' = 1 ∧ So (T.sh a) sl' + Ts.sh a tm' = 0))))
    (hH : ∀ a o, H a = some o → NT o → So (T.oc a) sl + Ts.oc a tm = 0 → H' a = some o) (hT : LamX.Tabs g.c.tb H')
    (len : σ'.length = g.N) (slen : sl'.length = g.N) (at_ : ∀ (i : Nat) (t : T), sl'[i]? = some (some t) → σ'[i]? = some (some t.v)) (io : ∀ p ∈ g.io, σ'[p.1]? = some (some p.2)) : SR g H' σ' sl' tm' := by
  refine ⟨okS, okT, fun a => ?_, fun a h0 h1 => ?_, fun a o h0 hn h1 => ?_, len, slen, at_, io, fun p hp => ?_, hT⟩
  · have i := s.inv a
    rcases hC a with ⟨h1, h2⟩ | ⟨_, h⟩
    · by_cases e : So (T.oc a) sl' + Ts.oc a tm' = 0
      · exact .inl e
      · refine .inr ⟨by omega, ?_⟩
        by_cases e2 : 0 < So (T.sh a) sl' + Ts.sh a tm'
        · rcases h2 e2 with h | h <;> omega
        · omega
    · exact h
  · have p := s.prov a h0 h1
    have f := s.sol h0 h1
    rcases hC a with ⟨h2, h3⟩ | ⟨h, _⟩
    · refine ⟨by omega, fun q => ?_⟩
      have := p.2 q
      by_cases e2 : 0 < So (T.sh a) sl' + Ts.sh a tm'
      · rcases h3 e2 with h | h <;> omega
      · omega
    · rcases h with h | h
      · exact absurd f h
      · omega
  · have p := s.prov a ⟨o, h0, .inl hn⟩ h1
    exact hH a o (s.frame a o h0 hn h1) hn (by omega)
  · obtain ⟨h1, h2, h3⟩ := s.px p hp
    refine ⟨hH _ _ h1 h3 h2, ?_, h3⟩
    rcases hC p.1 with ⟨a1, _⟩ | ⟨a1, _⟩
    · omega
    · rcases a1 with h | h
      · exact absurd ⟨_, h1, .inl h3⟩ h
      · omega
/-- the state goes on -/
theorem SR.go (s : SR g H σ sl tm) (okS : ∀ t, some t ∈ sl' → t.ok g.c H') (okT : Ts.ok g.c H' tm')
    (hC : ∀ a, (So (T.oc a) sl' + Ts.oc a tm' ≤ So (T.oc a) sl + Ts.oc a tm ∧ (0 < So (T.sh a) sl' + Ts.sh a tm' → 0 < So (T.sh a) sl + Ts.sh a tm ∨ (0 < So (T.oc a) sl + Ts.oc a tm ∧ So (T.oc a) sl' + Ts.oc a tm' = 0))) ∨
      ((H a = none ∨ 0 < So (T.oc a) sl + Ts.oc a tm) ∧ (So (T.oc a) sl' + Ts.oc a tm' = 0 ∨ (So (T.oc a) sl' + Ts.oc a tm' = 1 ∧ So (T.sh a) sl' + Ts.sh a tm' = 0))))
    (hH : ∀ a, H' a = H a ∨ H a = none ∨ 0 < So (T.oc a) sl + Ts.oc a tm)
    (len : σ'.length = g.N) (slen : sl'.length = g.N) (at_ : ∀ (i : Nat) (t : T), sl'[i]? = some (some t) → σ'[i]? = some (some t.v)) (io : ∀ p ∈ g.io, σ'[p.1]? = some (some p.2)) : SR g H' σ' sl' tm' := by
  refine s.goT okS okT (fun a => ?_) (fun a o ha hn ho => ?_) (tabs_keep s.tabs fun a o ha hp => ?_) len slen at_ io
  · rcases hC a with h | ⟨h | h, h2⟩
    · exact .inl h
    · exact .inr ⟨.inl (Sol.no h), h2⟩
    · exact .inr ⟨.inr h, h2⟩
  · rcases hH a with h | h | h
    · exact h.trans ha
    · rw [ha] at h; cases h
    · omega
  · rcases hH a with h | h | h
    · exact h.trans ha
    · rw [ha] at h; cases h
    · obtain ⟨u, e, pu⟩ := s.plain (a := a) (by omega)
      rw [ha] at e; cases e
      rw [hp] at pu; cases pu
/-- .. the heap and the frame's values as they are -/
theorem SR.turn (s : SR g H σ sl tm) (okS : ∀ t, some t ∈ sl' → t.ok g.c H) (okT : Ts.ok g.c H tm')
    (hC : ∀ a, So (T.oc a) sl' + Ts.oc a tm' ≤ So (T.oc a) sl + Ts.oc a tm ∧ (0 < So (T.sh a) sl' + Ts.sh a tm' → 0 < So (T.sh a) sl + Ts.sh a tm ∨ (0 < So (T.oc a) sl + Ts.oc a tm ∧ So (T.oc a) sl' + Ts.oc a tm' = 0)))
    (slen : sl'.length = g.N) (at_ : ∀ (i : Nat) (t : T), sl'[i]? = some (some t) → σ[i]? = some (some t.v)) : SR g H σ sl' tm' :=
  s.go okS okT (fun a => .inl (hC a)) (fun _ => .inl rfl) s.len slen at_ s.io
/-- what is held beside is exchanged for what comes of it -/
theorem SR.tmp (s : SR g H σ sl tm) (okT : Ts.ok g.c H tm') (hC : ∀ a, Ts.oc a tm' ≤ Ts.oc a tm ∧ (0 < Ts.sh a tm' → 0 < Ts.sh a tm ∨ (0 < Ts.oc a tm ∧ Ts.oc a tm' = 0) ∨ 0 < So (T.sh a) sl)) : SR g H σ sl tm' :=
  s.turn s.okS okT (fun a => by
    have h := hC a
    have i := s.inv a
    refine ⟨by omega, fun q => ?_⟩
    by_cases e : 0 < So (T.sh a) sl
    · exact .inl (by omega)
    · rcases h.2 (by omega) with r | r | r <;> omega) s.slen s.at_
theorem SR.pop {t : T} (s : SR g H σ sl (t :: tm)) : SR g H σ sl tm :=
  s.tmp (by have := s.okT; simp only [Ts.ok] at this; exact this.2) fun a => by simp only [Ts.oc, Ts.sh]; omega
theorem SR.top {t : T} (s : SR g H σ sl (t :: tm)) : t.ok g.c H := by have := s.okT; simp only [Ts.ok] at this; exact this.1
theorem SR.push (s : SR g H σ sl tm) (x : Sc) (hx : x.good) : SR g H σ sl (.sc x :: tm) :=
  s.tmp (by simp only [Ts.ok, T.ok]; exact ⟨hx, s.okT⟩) fun a => by simp only [Ts.oc, Ts.sh, T.oc, T.sh]; omega
/-- the one on top is exchanged for a part of it -/
theorem SR.part {t u : T} (s : SR g H σ sl (t :: tm)) (ok : u.ok g.c H) (h : ∀ a, u.oc a ≤ t.oc a ∧ u.sh a ≤ t.sh a) : SR g H σ sl (u :: tm) :=
  s.tmp (by have := s.okT; simp only [Ts.ok] at this ⊢; exact ⟨ok, this.2⟩) fun a => by have := h a; simp only [Ts.oc, Ts.sh]; omega
theorem SR.slot {i : Nat} {t : T} (s : SR g H σ sl tm) (h : sl[i]? = some (some t)) : some t ∈ sl := List.mem_of_getElem? h
theorem SR.val {i : Nat} {d : D} (s : SR g H σ sl tm) (h : (den sl)[i]? = some (some d)) : ∃ t, sl[i]? = some (some t) ∧ t.d = d ∧ t.ok g.c H ∧ σ[i]? = some (some t.v) := by
  obtain ⟨t, e, hd⟩ := den_get h
  exact ⟨t, e, hd, s.okS t (List.mem_of_getElem? e), s.at_ i t e⟩
theorem mem_set {α : Type} {x y : α} : ∀ {l : List α} {i : Nat}, x ∈ l.set i y → x = y ∨ x ∈ l := fun {l i} h => by
  rcases List.mem_or_eq_of_mem_set h with h | h
  · exact .inr h
  · exact .inl h
theorem set_get {α : Type} {l : List α} {i j : Nat} {x y : α} (h : (l.set i x)[j]? = some y) : (j = i ∧ y = x) ∨ (j ≠ i ∧ l[j]? = some y) := by
  by_cases e : j = i
  · subst e
    have hl : j < l.length := by
      by_cases q : j < l.length
      · exact q
      · rw [List.getElem?_eq_none (by simp; omega)] at h; cases h
    rw [List.getElem?_set_self hl] at h
    exact .inl ⟨rfl, (Option.some.inj h).symm⟩
  · rw [List.getElem?_set_ne (Ne.symm e)] at h
    exact .inr ⟨e, h⟩
/-- a slot is read: what stands there is held by two from now on -/
theorem SR.read {i : Nat} {t : T} (s : SR g H σ sl tm) (h : sl[i]? = some (some t)) : SR g H σ (sl.set i (some t.fz)) (t.fz :: tm) := by
  have hm := s.slot h
  refine s.turn (fun u hu => ?_) ?_ (fun a => ?_) (by simp [s.slen]) fun j u hu => ?_
  · rcases mem_set hu with e | e
    · cases e; exact T.fz_ok t (s.okS t hm)
    · exact s.okS u e
  · simp only [Ts.ok]; exact ⟨T.fz_ok t (s.okS t hm), s.okT⟩
  · have h1 := So_set (f := T.oc a) (x := some t.fz) h
    have h2 := So_set (f := T.sh a) (x := some t.fz) h
    have z := So_get (f := T.oc a) hm
    have z2 := So_get (f := T.sh a) hm
    have iv := s.inv a
    simp only [fO, T.fz_oc, T.fz_sh, Ts.oc, Ts.sh] at h1 h2 ⊢
    refine ⟨by omega, fun q => ?_⟩
    omega
  · rcases set_get hu with ⟨rfl, e⟩ | ⟨_, e⟩
    · cases e; rw [T.fz_v]; exact s.at_ _ _ h
    · exact s.at_ _ _ e
/-- a slot is emptied into what is held -/
theorem SR.move {i : Nat} {t : T} (s : SR g H σ sl tm) (h : sl[i]? = some (some t)) : SR g H σ (sl.set i none) (t :: tm) := by
  have hm := s.slot h
  refine s.turn (fun u hu => ?_) ?_ (fun a => ?_) (by simp [s.slen]) fun j u hu => ?_
  · rcases mem_set hu with e | e
    · cases e
    · exact s.okS u e
  · simp only [Ts.ok]; exact ⟨s.okS t hm, s.okT⟩
  · have h1 := So_set (f := T.oc a) (x := none) h
    have h2 := So_set (f := T.sh a) (x := none) h
    simp only [fO, Ts.oc, Ts.sh] at h1 h2 ⊢
    omega
  · rcases set_get hu with ⟨rfl, e⟩ | ⟨_, e⟩
    · cases e
    · exact s.at_ _ _ e
/-- the one on top is stored -/
theorem SR.store {i : Nat} {t : T} (s : SR g H σ sl (t :: tm)) (hi : i < g.N) (hio : ∀ p ∈ g.io, p.1 ≠ i) : SR g H (σ.set i (some t.v)) (sl.set i (some t)) tm := by
  have hk := s.okT
  simp only [Ts.ok] at hk
  have hl : i < sl.length := by rw [s.slen]; exact hi
  obtain ⟨y, hy⟩ : ∃ y, sl[i]? = some y := ⟨sl[i], List.getElem?_eq_getElem hl⟩
  refine s.go (fun u hu => ?_) hk.2 (fun a => .inl ?_) (fun _ => .inl rfl) (by simp [s.len]) (by simp [s.slen]) (fun j u hu => ?_) (fun p hp => ?_)
  · rcases mem_set hu with e | e
    · cases e; exact hk.1
    · exact s.okS u e
  · have h1 := So_set (f := T.oc a) (x := some t) hy
    have h2 := So_set (f := T.sh a) (x := some t) hy
    simp only [fO, Ts.oc, Ts.sh] at h1 h2 ⊢
    omega
  · rcases set_get hu with ⟨rfl, e⟩ | ⟨ne, e⟩
    · cases e
      rw [List.getElem?_set_self (by rw [s.len]; exact hi)]
    · rw [List.getElem?_set_ne (Ne.symm ne)]
      exact s.at_ _ _ e
  · rw [List.getElem?_set_ne (Ne.symm (hio p hp))]
    exact s.io p hp

/-- all trees stand where only p is otherwise, p free -/
theorem SR.free {p : Addr} (s : SR g H σ sl tm) (hp : H p = none) : So (T.oc p) sl + Ts.oc p tm = 0 ∧ So (T.sh p) sl + Ts.sh p tm = 0 := by
  by_cases e : 0 < So (T.oc p) sl + Ts.oc p tm + So (T.sh p) sl + Ts.sh p tm
  · exact absurd hp (s.pos e)
  · omega
theorem SR.stayS {H' : Hp} (s : SR g H σ sl tm) (h : ∀ a, 0 < So (T.oc a) sl + So (T.sh a) sl → H' a = H a) : ∀ t, some t ∈ sl → t.ok g.c H' := fun t m =>
  T.stay t (s.okS t m) fun a q => h a (by have h1 := So_get (f := T.oc a) m; have h2 := So_get (f := T.sh a) m; omega)
theorem SR.stayT {H' : Hp} (s : SR g H σ sl tm) (h : ∀ a, 0 < Ts.oc a tm + Ts.sh a tm → H' a = H a) : Ts.ok g.c H' tm := Ts.stay tm s.okT h

/-- a new list of the things held on top -/
theorem SR.newL {p : Addr} {xs ts : List T} (s : SR g H σ sl (xs ++ tm)) (hp : H p = none) (hz : ts.length ≤ 16777216) (okx : Ts.ok g.c H ts)
    (hx : ∀ a, Ts.oc a ts ≤ Ts.oc a xs ∧ (0 < Ts.sh a ts → 0 < Ts.sh a xs)) : SR g (upd H p (.lst (ts.map T.v))) σ sl (.lst p .own ts :: tm) := by
  have fr := s.free hp
  rw [Ts.oc_append, Ts.sh_append] at fr
  have eo := hx p
  have k : Ts.ok g.c H xs ∧ Ts.ok g.c H tm := by
    have := s.okT
    rw [Ts.ok_iff] at this
    exact ⟨Ts.ok_iff.mpr fun t m => this t (List.mem_append_left _ m), Ts.ok_iff.mpr fun t m => this t (List.mem_append_right _ m)⟩
  refine s.go (s.stayS fun a q => upd_ne fun e => ?_) ?_ (fun a => ?_) (fun a => ?_) s.len s.slen s.at_ s.io
  · subst e; omega
  · simp only [Ts.ok, T.ok]
    refine ⟨⟨upd_same, hz, Ts.stay ts okx fun a q => upd_ne fun e => ?_⟩, Ts.stay tm k.2 fun a q => upd_ne fun e => ?_⟩
    · subst e
      have := Ts.pos ts okx q
      exact this hp
    · subst e; omega
  · have hx := hx a
    rw [Ts.oc_append, Ts.sh_append]
    simp only [Ts.oc, Ts.sh, T.oc, T.sh]
    by_cases e : p = a
    · subst e
      refine .inr ⟨.inl hp, .inr ?_⟩
      simp only [true_and, b2_true, b2]
      have z : Ts.sh p ts = 0 := by omega
      simp
      omega
    · simp only [b2, e]
      simp
      refine .inl ⟨by omega, fun q => .inl ?_⟩
      omega
  · by_cases e : a = p
    · exact .inr (.inl (by rw [e]; exact hp))
    · exact .inl (upd_ne e)
/-- a new tuple of the things held on top -/
theorem SR.newT {p : Addr} {xs ts : List T} (s : SR g H σ sl (xs ++ tm)) (hp : H p = none) (hz : ts.length ≤ 16777216) (okx : Ts.ok g.c H ts)
    (hx : ∀ a, Ts.oc a ts ≤ Ts.oc a xs ∧ (0 < Ts.sh a ts → 0 < Ts.sh a xs)) : SR g (upd H p (.tup (ts.map T.v))) σ sl (.tup p false ts :: tm) := by
  have fr := s.free hp
  rw [Ts.oc_append, Ts.sh_append] at fr
  have eo := hx p
  have k : Ts.ok g.c H xs ∧ Ts.ok g.c H tm := by
    have := s.okT
    rw [Ts.ok_iff] at this
    exact ⟨Ts.ok_iff.mpr fun t m => this t (List.mem_append_left _ m), Ts.ok_iff.mpr fun t m => this t (List.mem_append_right _ m)⟩
  refine s.go (s.stayS fun a q => upd_ne fun e => ?_) ?_ (fun a => ?_) (fun a => ?_) s.len s.slen s.at_ s.io
  · subst e; omega
  · simp only [Ts.ok, T.ok]
    refine ⟨⟨upd_same, hz, Ts.stay ts okx fun a q => upd_ne fun e => ?_⟩, Ts.stay tm k.2 fun a q => upd_ne fun e => ?_⟩
    · subst e
      have := Ts.pos ts okx q
      exact this hp
    · subst e; omega
  · have hx := hx a
    rw [Ts.oc_append, Ts.sh_append]
    simp only [Ts.oc, Ts.sh, T.oc, T.sh]
    by_cases e : p = a
    · subst e
      refine .inr ⟨.inl hp, .inl ?_⟩
      omega
    · simp only [b2, e]
      simp
      refine .inl ⟨by omega, fun q => .inl ?_⟩
      omega
  · by_cases e : a = p
    · exact .inr (.inl (by rw [e]; exact hp))
    · exact .inl (upd_ne e)
end
end VS

/-! VS, part c: expressions and tests. -/
namespace VS
open PySem PySem.Spec PyProof.Rows L2

/-! ### what is wanted of an expression, by the data -/
def exP (g : Gh) (W : WX) (tm : List T) (x : Ex) (ρ' : DE) : Prop :=
  ∀ (H' : Hp) (σ' : L2.St) (sl' : List (Option T)) (a : Addr) (dx : Option Addr), SR g H' σ' sl' (T.exn a dx x.cls x.ns x.xs :: tm) → den sl' = ρ' → W (.ref (g.c.cls x.cls)) dx σ' H'
def Lands {α : Type} (g : Gh) (W : WX) (tm : List T) (r : R α) (k : α → DE → Prop) : Prop := match r with
  | .ok a ρ => k a ρ
  | .exc x ρ => exP g W tm x ρ
  | .stuck => False
def tE (g : Gh) (W : WX) (m : Cm D) : TE := fun σ H Q => ∃ sl tm, SR g H σ sl tm ∧ Lands g W tm (m (den sl)) fun d ρ' => ∀ H' sl' t, SR g H' σ sl' (t :: tm) → den sl' = ρ' → t.d = d → Q t.v H'
def tT (g : Gh) (W : WX) (m : Cm Bool) : TT := fun σ H Q => ∃ sl tm, SR g H σ sl tm ∧ Lands g W tm (m (den sl)) fun b ρ' => ∀ H' sl', SR g H' σ sl' tm → den sl' = ρ' → Q b H'
theorem exP.drop {g : Gh} {W : WX} {tm : List T} {x : Ex} {ρ' : DE} {t : T} (h : exP g W tm x ρ') : exP g W (t :: tm) x ρ' := fun H' σ' sl' a dx s e =>
  h H' σ' sl' a dx (s.tmp (by have := s.okT; simp only [Ts.ok] at this ⊢; exact ⟨this.1, this.2.2⟩) fun b => by simp only [Ts.oc, Ts.sh]; omega) e
theorem _root_.L2.PE.imp {X : Cx} {e : Expr} {t t' : TE} (h : PE X e t) (w : ∀ σ H Q, t' σ H Q → t σ H Q) : PE X e t' := ⟨fun pins s σ H Q I q => h.run pins s σ H Q I (w σ H Q q)⟩
theorem _root_.L2.PT.imp {X : Cx} {e : Expr} {t t' : TT} (h : PT X e t) (w : ∀ σ H Q, t' σ H Q → t σ H Q) : PT X e t' := ⟨fun pins s σ H Q I q => h.run pins s σ H Q I (w σ H Q q)⟩
section
variable {g : Gh} {W : WX} {H : Hp} {σ : L2.St} {sl : List (Option T)} {tm : List T} {Q : VK} {α : Type}
theorem tE.of {m : Cm D} {f : D → Cm α} {k : α → DE → Prop} (s : SR g H σ sl tm) (h : Lands g W tm ((m (den sl)).bind f) k)
    (q : ∀ H' sl' t, SR g H' σ sl' (t :: tm) → Lands g W tm (f t.d (den sl')) k → Q t.v H') : tE g W m σ H Q := by
  refine ⟨sl, tm, s, ?_⟩
  cases e : m (den sl) with
  | ok d ρ =>
    rw [e] at h
    intro H' sl' t s' e1 e2
    subst e1; subst e2
    exact q H' sl' t s' h
  | exc x ρ => rw [e] at h; exact h
  | stuck => rw [e] at h; exact h
theorem tT.of {Q : Bool → Hp → Prop} {m : Cm Bool} {f : Bool → Cm α} {k : α → DE → Prop} (s : SR g H σ sl tm) (h : Lands g W tm ((m (den sl)).bind f) k)
    (q : ∀ H' sl' b, SR g H' σ sl' tm → Lands g W tm (f b (den sl')) k → Q b H') : tT g W m σ H Q := by
  refine ⟨sl, tm, s, ?_⟩
  cases e : m (den sl) with
  | ok d ρ =>
    rw [e] at h
    intro H' sl' s' e1
    subst e1
    exact q H' sl' d s' h
  | exc x ρ => rw [e] at h; exact h
  | stuck => rw [e] at h; exact h
theorem Lands.drop {r : R α} {k : α → DE → Prop} {t : T} (h : Lands g W tm r k) : Lands g W (t :: tm) r k := by
  cases r with
  | ok a ρ => exact h
  | exc x ρ => exact exP.drop h
  | stuck => exact h
theorem Lands.imp {r : R α} {k k' : α → DE → Prop} (h : Lands g W tm r k) (w : ∀ a ρ, k a ρ → k' a ρ) : Lands g W tm r k' := by
  cases r with
  | ok a ρ => exact w _ _ h
  | exc x ρ => exact h
  | stuck => exact h
end

/-! ### the mirror's words for expressions -/
def lift {α : Type} (o : Option α) : Cm α := fun ρ => match o with
  | some a => .ok a ρ
  | none => .stuck
@[simp] theorem lift_some {α : Type} (a : α) (ρ : DE) : lift (some a) ρ = .ok a ρ := rfl
@[simp] theorem lift_none {α : Type} (ρ : DE) : lift (none : Option α) ρ = .stuck := rfl
def mC (s : Sc) : Cm D := fun ρ => .ok (.sc s) ρ
def mVar (i : Nat) : Cm D := fun ρ => match ρ[i]? with
  | some (some d) => .ok d.fz (ρ.set i (some d.fz))
  | _ => .stuck
def mMove (i : Nat) : Cm D := fun ρ => match ρ[i]? with
  | some (some d) => .ok d (ρ.set i none)
  | _ => .stuck
def mBin (f : D → D → Option D) (a b : Cm D) : Cm D := fun ρ => (a ρ).bind fun x ρ => (b ρ).bind fun y ρ => lift (f x y) ρ
def mUn (f : D → Option D) (a : Cm D) : Cm D := fun ρ => (a ρ).bind fun x ρ => lift (f x) ρ
/-- an operand that is only looked at: a slot, or an expression -/
inductive Opd where
  | v (i : Nat)
  | e (m : Cm D)
def Opd.run : Opd → Cm (Option D)
  | .v i => fun ρ => match ρ[i]? with
    | some (some _) => .ok none ρ
    | _ => .stuck
  | .e m => fun ρ => (m ρ).bind fun d ρ => .ok (some d) ρ
def Opd.get (o : Opd) (t : Option D) (ρ : DE) : Option D := match o with
  | .v i => (ρ[i]?).join
  | .e _ => t
def mP1 (f : D → Option Sc) (a : Opd) : Cm D := fun ρ => (a.run ρ).bind fun t ρ => match a.get t ρ with
  | some x => (lift (f x) ρ).bind fun s ρ => .ok (.sc s) ρ
  | none => .stuck
def mP2 (f : D → D → Option Sc) (a b : Opd) : Cm D := fun ρ => (a.run ρ).bind fun t ρ => (b.run ρ).bind fun u ρ => match a.get t ρ, b.get u ρ with
  | some x, some y => (lift (f x y) ρ).bind fun s ρ => .ok (.sc s) ρ
  | _, _ => .stuck
def mTest (m : Cm D) : Cm Bool := fun ρ => (m ρ).bind fun d ρ => match d with
  | .sc (.bl b) => .ok b ρ
  | _ => .stuck
def mAnd (a b : Cm Bool) : Cm Bool := fun ρ => (a ρ).bind fun c ρ => if c then b ρ else .ok false ρ
def mOr (a b : Cm Bool) : Cm Bool := fun ρ => (a ρ).bind fun c ρ => if c then .ok true ρ else b ρ
def mNot (a : Cm Bool) : Cm Bool := fun ρ => (a ρ).bind fun c ρ => .ok (!c) ρ
def mIfE {α : Type} (c : Cm Bool) (a b : Cm α) : Cm α := fun ρ => (c ρ).bind fun k ρ => if k then a ρ else b ρ

/-! ### names and constants -/
section
variable {X : Cx} {g : Gh} {W : WX} {x : Str} {pos : Pos}
theorem e_int {i : Int} {j : Nat} : PE X (.Constant (.int i) j pos) (tE g W (mC (.int i))) := pe_int.imp fun σ H Q ⟨sl, tm, s, h⟩ => h H sl (.sc (.int i)) (s.push _ trivial) rfl rfl
theorem e_bl {b : Bool} {j : Nat} : PE X (.Constant (.bool b) j pos) (tE g W (mC (.bl b))) := pe_bl.imp fun σ H Q ⟨sl, tm, s, h⟩ => h H sl (.sc (.bl b)) (s.push _ trivial) rfl rfl
theorem e_non {j : Nat} : PE X (.Constant .none j pos) (tE g W (mC .non)) := pe_non.imp fun σ H Q ⟨sl, tm, s, h⟩ => h H sl (.sc .non) (s.push _ trivial) rfl rfl
theorem e_str {z : Str} {l : List Nat} {j : Nat} (h : z = ⟨l.toArray⟩) (hg : (Sc.str l).good) : PE X (.Constant (.str z) j pos) (tE g W (mC (.str l))) := by
  subst h
  exact pe_str.imp fun σ H Q ⟨sl, tm, s, h⟩ => h H sl (.sc (.str l)) (s.push _ hg) rfl rfl
theorem e_var {i : Nat} (hp : PE X (.Name x pos) (tVar i)) : PE X (.Name x pos) (tE g W (mVar i)) := hp.imp fun σ H Q ⟨sl, tm, s, h⟩ => by
  unfold mVar at h
  split at h
  · rename_i d e
    obtain ⟨t, e1, e2, _, e3⟩ := s.val e
    subst e2
    refine ⟨t.v, e3, ?_⟩
    have := h H (sl.set i (some t.fz)) t.fz (s.read e1) (by rw [den_set]; simp [T.fz_d]) (T.fz_d t)
    rwa [T.fz_v] at this
  · exact h.elim
theorem e_move {i : Nat} (hp : PE X (.Name x pos) (tVar i)) : PE X (.Name x pos) (tE g W (mMove i)) := hp.imp fun σ H Q ⟨sl, tm, s, h⟩ => by
  unfold mMove at h
  split at h
  · rename_i d e
    obtain ⟨t, e1, e2, _, e3⟩ := s.val e
    subst e2
    exact ⟨t.v, e3, h H (sl.set i none) t (s.move e1) (by rw [den_set]; rfl) rfl⟩
  · exact h.elim
/-- a module's constant: an int, a text -/
theorem e_gI {i : Int} {u : Value} (hg : Gl X x) (hm : X.mg x = some u) (r : RelV (.int i) u) (hd : (x == ("__debug__" : Str)) = false := by decide) : PE X (.Name x pos) (tE g W (mC (.int i))) :=
  (pe_glob hg hm r hd).imp fun σ H Q ⟨sl, tm, s, h⟩ => h H sl (.sc (.int i)) (s.push _ trivial) rfl rfl
theorem e_gS {l : List Nat} {u : Value} (hgl : Gl X x) (hg : (Sc.str l).good) (hm : X.mg x = some u) (r : RelV (.str ⟨l.toArray⟩) u) (hd : (x == ("__debug__" : Str)) = false := by decide) : PE X (.Name x pos) (tE g W (mC (.str l))) :=
  (pe_glob hgl hm r hd).imp fun σ H Q ⟨sl, tm, s, h⟩ => h H sl (.sc (.str l)) (s.push _ hg) rfl rfl
end

/-! ### operands -/
def tO (g : Gh) (W : WX) : Opd → TE
  | .v i => tVar i
  | .e m => tE g W m
/-- what an operand left: its value stands in the heap as its data -/
structure Held (g : Gh) (H : Hp) (o : Opd) (σ : L2.St) (sl : List (Option T)) (t : Option T) (v : V) : Prop where
  is : match o, t with
    | .v i, none => σ[i]? = some (some v)
    | .e _, some u => v = u.v
    | _, _ => False
def xs? (t : Option T) (tm : List T) : List T := match t with
  | none => tm
  | some u => u :: tm
section
variable {g : Gh} {W : WX} {H : Hp} {σ : L2.St} {sl : List (Option T)} {tm : List T} {Q : VK} {α : Type}
theorem tO.of {o : Opd} {f : Option D → Cm α} {k : α → DE → Prop} (s : SR g H σ sl tm) (h : Lands g W tm ((o.run (den sl)).bind f) k)
    (q : ∀ H' sl' t v, SR g H' σ sl' (xs? t tm) → Held g H' o σ sl' t v → Lands g W tm (f (t.map T.d) (den sl')) k → Q v H') : tO g W o σ H Q := by
  cases o with
  | v i =>
    simp only [Opd.run] at h
    split at h
    · rename_i d e
      obtain ⟨t, e1, e2, _, e3⟩ := s.val e
      exact ⟨t.v, e3, q H sl none t.v s ⟨e3⟩ h⟩
    · exact h.elim
  | e m =>
    refine tE.of (f := fun d ρ => f (some d) ρ) (k := k) s ?_ fun H' sl' t s' h' => q H' sl' (some t) t.v s' ⟨rfl⟩ h'
    simp only [Opd.run] at h
    revert h
    cases m (den sl) <;> exact id
/-- the data of a held operand, at the end -/
theorem Held.tree {o : Opd} {t : Option T} {v : V} {d : D} {tms : List T} (s : SR g H σ sl tms) (hd : Held g H o σ sl t v) (hm : ∀ u, t = some u → u ∈ tms) (e : o.get (t.map T.d) (den sl) = some d) :
    ∃ u : T, u.ok g.c H ∧ u.d = d ∧ u.v = v ∧ ∀ a, u.sh a ≤ So (T.sh a) sl + Ts.sh a tms := by
  obtain ⟨is⟩ := hd
  cases o with
  | v i =>
    cases t with
    | none =>
      simp only [Opd.get] at e
      have e' : (den sl)[i]? = some (some d) := by
        cases q : (den sl)[i]? with
        | none => rw [q] at e; simp at e
        | some o => rw [q] at e; simp at e; rw [e]
      obtain ⟨t, e1, e2, e4, e3⟩ := s.val e'
      simp only [] at is
      rw [e3] at is
      exact ⟨t, e4, e2, Option.some.inj (Option.some.inj is), fun a => by have := So_get (f := T.sh a) (s.slot e1); omega⟩
    | some u => exact is.elim
  | e m =>
    cases t with
    | none => exact is.elim
    | some u =>
      simp only [Opd.get, Option.map_some, Option.some.injEq] at e
      exact ⟨u, Ts.ok_iff.mp s.okT u (hm u rfl), e, is.symm, fun a => by have := Ts.sh_mem (a := a) (hm u rfl); omega⟩
theorem Lands.drops {r : R α} {k : α → DE → Prop} {t : Option T} (h : Lands g W tm r k) : Lands g W (xs? t tm) r k := by
  cases t with
  | none => exact h
  | some u => exact h.drop
theorem SR.xs {t : Option T} (s : SR g H σ sl (xs? t tm)) : SR g H σ sl tm := by
  cases t with
  | none => exact s
  | some u => exact s.pop
end
section
variable {X : Cx} {g : Gh} {W : WX} {pos : Pos} {a b : Expr}
theorem o_var {i : Nat} {x : Str} (hp : PE X (.Name x pos) (tVar i)) : PE X (.Name x pos) (tO g W (.v i)) := hp
theorem o_e {m : Cm D} (h : PE X a (tE g W m)) : PE X a (tO g W (.e m)) := h
/-- two operands, an answer that is no made thing -/
theorem p2_imp {f : D → D → Option Sc} {r : R2} {oa ob : Opd} (hr : ∀ H (u1 u2 : T) c Q, u1.ok g.c H → u2.ok g.c H → f u1.d u2.d = some c → (c.good → Q (c.v) H) → r u1.v u2.v H Q) :
    ∀ σ H Q, tE g W (mP2 f oa ob) σ H Q → tOp r (tO g W oa) (tO g W ob) σ H Q := fun σ H Q ⟨sl, tm, s, h⟩ => by
  refine tO.of s h fun H1 sl1 t1 v1 s1 d1 h1 => ?_
  refine tO.of s1 (Lands.drops h1) fun H2 sl2 t2 v2 s2 d2 h2 => ?_
  split at h2
  · rename_i x y ex ey
    have hm1 : ∀ u, t1 = some u → u ∈ xs? t2 (xs? t1 tm) := fun u e => by subst e; cases t2 <;> simp [xs?]
    have hm2 : ∀ u, t2 = some u → u ∈ xs? t2 (xs? t1 tm) := fun u e => by subst e; simp [xs?]
    have d1' : Held g H2 oa σ sl2 t1 v1 := ⟨d1.is⟩
    obtain ⟨u1, k1, e1, f1, _⟩ := d1'.tree s2 hm1 ex
    obtain ⟨u2, k2, e2, f2, _⟩ := d2.tree s2 hm2 ey
    subst f1 f2 e1 e2
    cases q : f u1.d u2.d with
    | none => rw [q] at h2; exact h2.elim
    | some c =>
      rw [q] at h2
      exact hr H2 u1 u2 c Q k1 k2 q fun gc => (h2 H2 sl2 (.sc c) (s2.xs.xs.push c gc) rfl rfl)
  · exact h2.elim
theorem p1_imp {f : D → Option Sc} {r : V → Hp → VK → Prop} {oa : Opd} (hr : ∀ H (u1 : T) c Q, u1.ok g.c H → f u1.d = some c → (c.good → Q (c.v) H) → r u1.v H Q) :
    ∀ σ H Q, tE g W (mP1 f oa) σ H Q → tO g W oa σ H fun x H1 => r x H1 Q := fun σ H Q ⟨sl, tm, s, h⟩ => by
  refine tO.of s h fun H1 sl1 t1 v1 s1 d1 h1 => ?_

  split at h1
  · rename_i x ex
    have hm1 : ∀ u, t1 = some u → u ∈ xs? t1 tm := fun u e => by subst e; simp [xs?]
    obtain ⟨u1, k1, e1, f1, _⟩ := d1.tree s1 hm1 ex
    subst f1 e1
    cases q : f u1.d with
    | none => rw [q] at h1; exact h1.elim
    | some c =>
      rw [q] at h1
      exact hr H1 u1 c Q k1 q fun gc => (h1 H1 sl1 (.sc c) (s1.xs.push c gc) rfl rfl)
  · exact h1.elim
/-- two expressions, an answer made of them -/
theorem bin_imp {f : D → D → Option D} {r : R2} {ma mb : Cm D}
    (hr : ∀ H σ sl tm (t1 t2 : T) d Q, SR g H σ sl (t2 :: t1 :: tm) → f t1.d t2.d = some d → (∀ H' t, SR g H' σ sl (t :: tm) → t.d = d → Q t.v H') → r t1.v t2.v H Q) :
    ∀ σ H Q, tE g W (mBin f ma mb) σ H Q → tOp r (tE g W ma) (tE g W mb) σ H Q := fun σ H Q ⟨sl, tm, s, h⟩ => by
  refine tE.of s h fun H1 sl1 t1 s1 h1 => ?_
  refine tE.of s1 (Lands.drop h1) fun H2 sl2 t2 s2 h2 => ?_
  cases q : f t1.d t2.d with
  | none => rw [q] at h2; exact h2.elim
  | some d =>
    rw [q] at h2
    exact hr H2 σ sl2 tm t1 t2 d Q s2 q fun H' t s' e => h2 H' sl2 t s' rfl e
end
end VS

/-! VS, part d: operators, comparisons, subscripts, displays. -/
namespace VS
open PySem PySem.Spec PyProof.Rows L2

theorem SZ_eq : sizeLine = 16777216 := sizeLine_eq
theorem Ts.d_append : ∀ xs ys : List T, Ts.d (xs ++ ys) = Ts.d xs ++ Ts.d ys := fun xs ys => by simp [Ts.d_map]
theorem Ts.d_len (xs : List T) : (Ts.d xs).length = xs.length := by simp [Ts.d_map]

/-! ### == -/
def Sc.eqB : Sc → Sc → Bool
  | .non, .non => true
  | .bl a, .bl b => a == b
  | .bl a, .int b => (if a then 1 else 0) == b
  | .int a, .bl b => a == (if b then 1 else 0)
  | .int a, .int b => a == b
  | .str a, .str b => a == b
  | _, _ => false
mutual
def D.eqB : D → D → Bool
  | .sc a, .sc b => a.eqB b
  | .lst _ xs, .lst _ ys => Ds.eqB xs ys
  | .tup xs, .tup ys => Ds.eqB xs ys
  | _, _ => false
def Ds.eqB : List D → List D → Bool
  | [], [] => true
  | x :: xs, y :: ys => x.eqB y && Ds.eqB xs ys
  | _, _ => false
end
def D.flatN : Nat → D → Bool
  | _, .sc _ => true
  | n + 1, .lst _ xs => xs.all (D.flatN n)
  | n + 1, .tup xs => xs.all (D.flatN n)
  | _, _ => false
def Sc.pd : Sc → PyData
  | .non => .none
  | .bl b => .bool b
  | .int i => .int i
  | .str s => .str ⟨s.toArray⟩
mutual
def T.pd : T → PyData
  | .sc s => s.pd
  | .lst _ _ xs => .list (Ts.pd xs)
  | .tup _ _ xs => .tuple (Ts.pd xs)
  | _ => .none
def Ts.pd : List T → List PyData
  | [] => []
  | t :: ts => t.pd :: Ts.pd ts
end
theorem Sc.eqv (a b : Sc) : PyData.eqv a.pd b.pd = a.eqB b := by
  cases a <;> cases b <;> simp [Sc.pd, Sc.eqB, PyData.eqv, Bool.beq_eq_decide_eq]
theorem flatN_lst {n : Nat} {o : Ow} {xs : List D} (h : D.flatN n (.lst o xs) = true) : ∃ m, n = m + 1 ∧ xs.all (D.flatN m) = true := by
  cases n with
  | zero => simp [D.flatN] at h
  | succ m => exact ⟨m, rfl, by simpa [D.flatN] using h⟩
theorem flatN_tup {n : Nat} {xs : List D} (h : D.flatN n (.tup xs) = true) : ∃ m, n = m + 1 ∧ xs.all (D.flatN m) = true := by
  cases n with
  | zero => simp [D.flatN] at h
  | succ m => exact ⟨m, rfl, by simpa [D.flatN] using h⟩
mutual
theorem T.eqv : ∀ (n m : Nat) (a b : T), D.flatN n a.d = true → D.flatN m b.d = true → PyData.eqv a.pd b.pd = a.d.eqB b.d
  | n, m, .sc a, b, _, h => by
    cases b with
    | sc b => simp [T.pd, T.d, D.eqB, Sc.eqv]
    | lst _ _ xs => cases a <;> simp [T.pd, T.d, D.eqB, Sc.pd, PyData.eqv]
    | tup _ _ xs => cases a <;> simp [T.pd, T.d, D.eqB, Sc.pd, PyData.eqv]
    | obj _ _ _ _ _ _ => simp [T.d] at h; cases m <;> simp [D.flatN] at h
    | exn _ _ _ _ _ => simp [T.d] at h; cases m <;> simp [D.flatN] at h
    | dct _ _ _ _ _ => simp [T.d] at h; cases m <;> simp [D.flatN] at h
  | n, m, .lst _ _ xs, b, k, h => by
    cases b with
    | sc b => cases b <;> simp [T.pd, T.d, D.eqB, Sc.pd, PyData.eqv]
    | lst _ _ ys =>
      simp only [T.d] at k h
      obtain ⟨n, rfl, k⟩ := flatN_lst k
      obtain ⟨m, rfl, h⟩ := flatN_lst h
      simp [T.pd, T.d, D.eqB, PyData.eqv, Ts.eqv n m xs ys k h]
    | tup _ _ xs => simp [T.pd, T.d, D.eqB, PyData.eqv]
    | obj _ _ _ _ _ _ => simp [T.d] at h; cases m <;> simp [D.flatN] at h
    | exn _ _ _ _ _ => simp [T.d] at h; cases m <;> simp [D.flatN] at h
    | dct _ _ _ _ _ => simp [T.d] at h; cases m <;> simp [D.flatN] at h
  | n, m, .tup _ _ xs, b, k, h => by
    cases b with
    | sc b => cases b <;> simp [T.pd, T.d, D.eqB, Sc.pd, PyData.eqv]
    | lst _ _ ys => simp [T.pd, T.d, D.eqB, PyData.eqv]
    | tup _ _ ys =>
      simp only [T.d] at k h
      obtain ⟨n, rfl, k⟩ := flatN_tup k
      obtain ⟨m, rfl, h⟩ := flatN_tup h
      simp [T.pd, T.d, D.eqB, PyData.eqv, Ts.eqv n m xs ys k h]
    | obj _ _ _ _ _ _ => simp [T.d] at h; cases m <;> simp [D.flatN] at h
    | exn _ _ _ _ _ => simp [T.d] at h; cases m <;> simp [D.flatN] at h
    | dct _ _ _ _ _ => simp [T.d] at h; cases m <;> simp [D.flatN] at h
  | n, m, .obj _ _ _ _ _ _, b, k, h => by simp [T.d] at k; cases n <;> simp [D.flatN] at k
  | n, m, .exn _ _ _ _ _, b, k, h => by simp [T.d] at k; cases n <;> simp [D.flatN] at k
  | n, m, .dct _ _ _ _ _, b, k, h => by simp [T.d] at k; cases n <;> simp [D.flatN] at k
theorem Ts.eqv : ∀ (n m : Nat) (a b : List T), (Ts.d a).all (D.flatN n) = true → (Ts.d b).all (D.flatN m) = true → PyData.eqvAll (Ts.pd a) (Ts.pd b) = Ds.eqB (Ts.d a) (Ts.d b)
  | n, m, [], b, _, _ => by cases b <;> simp [Ts.pd, Ts.d, Ds.eqB, PyData.eqvAll]
  | n, m, x :: xs, [], _, _ => by simp [Ts.pd, Ts.d, Ds.eqB, PyData.eqvAll]
  | n, m, x :: xs, y :: ys, k, h => by
    simp only [Ts.d, List.all_cons, Bool.and_eq_true] at k h
    simp [Ts.pd, Ts.d, Ds.eqB, PyData.eqvAll, T.eqv n m x y k.1 h.1, Ts.eqv n m xs ys k.2 h.2]
end
theorem strOk_good {l : List Nat} (h : (Sc.str l).good) : PyData.strOk ⟨l.toArray⟩ = true := by
  unfold PyData.strOk
  simp only [List.all_toArray, List.all_eq_true, decide_eq_true_eq]
  exact fun c hc => h.2 c hc
mutual
theorem T.lay {c : Cfg} {H : Hp} : ∀ (n : Nat) (t : T), t.ok c H → D.flatN n t.d = true → t.pd.canLay0 = true ∧ t.pd.depth ≤ n
  | n, .sc s, k, _ => by
    cases s <;> simp [T.pd, Sc.pd, PyData.canLay0, PyData.depth]
    simp only [T.ok] at k
    exact strOk_good k
  | n, .lst a o xs, k, h => by
    simp only [T.d] at h
    obtain ⟨m, rfl, h⟩ := flatN_lst h
    have k' : Ts.ok c H xs := by cases o <;> simp only [T.ok] at k <;> exact k.2.2
    have := Ts.lay m xs k' h
    simp [T.pd, PyData.canLay0, PyData.depth, this]
  | n, .tup a st xs, k, h => by
    simp only [T.d] at h
    obtain ⟨m, rfl, h⟩ := flatN_tup h
    have k' : Ts.ok c H xs := by cases st <;> simp only [T.ok] at k <;> exact k.2.2
    have := Ts.lay m xs k' h
    simp [T.pd, PyData.canLay0, PyData.depth, this]
  | n, .obj _ _ _ _ _ _, k, h => by simp [T.d] at h; cases n <;> simp [D.flatN] at h
  | n, .exn _ _ _ _ _, k, h => by simp [T.d] at h; cases n <;> simp [D.flatN] at h
  | n, .dct _ _ _ _ _, k, h => by simp [T.d] at h; cases n <;> simp [D.flatN] at h
theorem Ts.lay {c : Cfg} {H : Hp} : ∀ (n : Nat) (ts : List T), Ts.ok c H ts → (Ts.d ts).all (D.flatN n) = true → PyData.canLayAll0 (Ts.pd ts) = true ∧ PyData.depthAll (Ts.pd ts) ≤ n
  | n, [], _, _ => by simp [Ts.pd, PyData.canLayAll0, PyData.depthAll]
  | n, t :: ts, k, h => by
    simp only [Ts.ok] at k
    simp only [Ts.d, List.all_cons, Bool.and_eq_true] at h
    have h1 := T.lay n t k.1 h.1
    have h2 := Ts.lay n ts k.2 h.2
    simp [Ts.pd, PyData.canLayAll0, PyData.depthAll, h1, h2]
    omega
end
theorem sqL_stc {K : PySem.W.Frag} {H : Hp} {a : Addr} {vs : List V} (h : StcL K a vs) : SqL K H a vs := by
  rcases h with (h | ⟨_, h⟩) | h
  · cases h
  · cases h
  · exact .inr h
theorem sqT_stc {K : PySem.W.Frag} {H : Hp} {a : Addr} {vs : List V} (h : StcT K a vs) : SqT K H a vs := by
  rcases h with (h | ⟨_, h⟩) | h
  · cases h
  · cases h
  · exact .inr h
theorem lst_sq {c : Cfg} {H : Hp} {a : Addr} {o : Ow} {xs : List T} (h : (T.lst a o xs).ok c H) : SqL c.K H a (xs.map T.v) ∧ xs.length ≤ 16777216 ∧ Ts.ok c H xs := by
  cases o <;> simp only [T.ok] at h
  · exact ⟨.of h.1, h.2⟩
  · exact ⟨.of h.1, h.2⟩
  · obtain ⟨⟨ob, h1⟩, h2⟩ := h; exact ⟨.inl (.inr ⟨ob, h1⟩), h2⟩
  · exact ⟨sqL_stc h.1, h.2⟩
theorem tup_sq {c : Cfg} {H : Hp} {a : Addr} {o : Bool} {xs : List T} (h : (T.tup a o xs).ok c H) : SqT c.K H a (xs.map T.v) ∧ xs.length ≤ 16777216 ∧ Ts.ok c H xs := by
  cases o <;> simp only [T.ok] at h
  · exact ⟨.of h.1, h.2⟩
  · exact ⟨sqT_stc h.1, h.2⟩
mutual
theorem T.dp {c : Cfg} {H : Hp} : ∀ (n : Nat) (t : T), t.ok c H → D.flatN n t.d = true → Dp c.K H t.v t.pd
  | n, .sc s, k, _ => by
    cases s <;> simp only [T.v, T.pd, Sc.v, Sc.pd]
    · exact .non
    · exact .bl _
    · exact .int _
    · exact .str _
  | n, .lst a o xs, k, h => by
    simp only [T.d] at h
    obtain ⟨m, rfl, h⟩ := flatN_lst h
    have q := lst_sq k
    simp only [T.v, T.pd]
    exact .lst q.1 (Ts.dp m xs q.2.2 h)
  | n, .tup a st xs, k, h => by
    simp only [T.d] at h
    obtain ⟨m, rfl, h⟩ := flatN_tup h
    have q := tup_sq k
    simp only [T.v, T.pd]
    exact .tup q.1 (Ts.dp m xs q.2.2 h)
  | n, .obj _ _ _ _ _ _, k, h => by simp [T.d] at h; cases n <;> simp [D.flatN] at h
  | n, .exn _ _ _ _ _, k, h => by simp [T.d] at h; cases n <;> simp [D.flatN] at h
  | n, .dct _ _ _ _ _, k, h => by simp [T.d] at h; cases n <;> simp [D.flatN] at h
theorem Ts.dp {c : Cfg} {H : Hp} : ∀ (n : Nat) (ts : List T), Ts.ok c H ts → (Ts.d ts).all (D.flatN n) = true → DpAll c.K H (ts.map T.v) (Ts.pd ts)
  | n, [], _, _ => by simp only [Ts.pd, List.map_nil]; exact .nil
  | n, t :: ts, k, h => by
    simp only [Ts.ok] at k
    simp only [Ts.d, List.all_cons, Bool.and_eq_true] at h
    simp only [Ts.pd, List.map_cons]
    exact .cons (T.dp n t k.1 h.1) (Ts.dp n ts k.2 h.2)
end
def eqD (x y : D) : Option Sc := if D.flatN 8 x && D.flatN 8 y then some (.bl (x.eqB y)) else none
def neD (x y : D) : Option Sc := if D.flatN 8 x && D.flatN 8 y then some (.bl (!x.eqB y)) else none
theorem shaped_of {c : Cfg} {H : Hp} {t : T} (k : t.ok c H) (h : D.flatN 8 t.d = true) : SeqAt.shaped t.pd = true := by
  have := T.lay 8 t k h
  unfold SeqAt.shaped
  rw [this.1, decide_eq_true (by omega)]
  rfl

/-! ### the operators' functions -/
def addD : D → D → Option D
  | .sc (.int i), .sc (.int j) => some (.int (i + j))
  | .sc (.str a), .sc (.str b) => if a.length + b.length ≤ 16777216 then some (.str (a ++ b)) else none
  | .lst o xs, .lst p ys => if (o = .own ∨ o = .shr) ∧ (p = .own ∨ p = .shr) ∧ xs.length + ys.length ≤ 16777216 then some (.lst .own (xs ++ ys)) else none
  | _, _ => none
def subD : D → D → Option D
  | .sc (.int i), .sc (.int j) => some (.int (i - j))
  | _, _ => none
mutual
def D.pur : D → Bool
  | .sc _ => true
  | .lst o xs => o != .own && Ds.pur xs
  | .tup xs => Ds.pur xs
  | .obj o _ _ xs => o != .own && Ds.pur xs
  | .exn _ _ _ => true
  | .dct o _ xs => o != .own && Ds.pur xs
def Ds.pur : List D → Bool
  | [] => true
  | x :: xs => x.pur && Ds.pur xs
end
def mulD : D → D → Option D
  | .sc (.int i), .sc (.int j) => if i.natAbs < 18446744073709551616 ∨ j.natAbs < 18446744073709551616 then some (.int (i * j)) else none
  | .sc (.str a), .sc (.int n) => if a.length * n.toNat ≤ 16777216 ∧ n.natAbs < 4611686018427387904 then some (.str (List.replicate n.toNat a).flatten) else none
  | .lst o xs, .sc (.int n) => if (o = .own ∨ o = .shr) ∧ Ds.pur xs = true ∧ xs.length * n.toNat ≤ 16777216 ∧ n.natAbs < 4611686018427387904 then some (.lst .own (List.replicate n.toNat xs).flatten) else none
  | _, _ => none
def fdivD : D → D → Option D
  | .sc (.int i), .sc (.int j) => if 0 < j ∧ j < 4611686018427387904 then some (.int (i / j)) else none
  | _, _ => none
def modD : D → D → Option D
  | .sc (.int i), .sc (.int j) => if 0 < j then some (.int (i % j)) else none
  | _, _ => none
def powD : D → D → Option D
  | .sc (.int i), .sc (.int j) => if 0 ≤ j ∧ j ≤ 1000000 ∧ i.natAbs < 18446744073709551616 then some (.int (i ^ j.toNat)) else none
  | _, _ => none
def negD : D → Option D
  | .sc (.int i) => some (.int (-i))
  | _ => none
def cmpI (p : Int → Int → Bool) : D → D → Option Sc
  | .sc (.int i), .sc (.int j) => some (.bl (p i j))
  | _, _ => none
def ltD := cmpI fun i j => decide (i < j)
def leD := cmpI fun i j => decide (i ≤ j)
def gtD := cmpI fun i j => decide (j < i)
def geD := cmpI fun i j => decide (j ≤ i)
def isNon : D → D → Option Sc
  | x, .sc .non => some (.bl (match x with | .sc .non => true | _ => false))
  | _, _ => none
def isntNon : D → D → Option Sc
  | x, .sc .non => some (.bl (match x with | .sc .non => false | _ => true))
  | _, _ => none
def scs : List D → Option (List Sc)
  | [] => some []
  | .sc s :: r => (scs r).map (s :: ·)
  | _ => none
def inStr (a b : List Nat) : Bool := !(Builtin.Str.occurrences ⟨b.toArray⟩ ⟨a.toArray⟩ 0 b.length 1).isEmpty
def inD (neg : Bool) : D → D → Option Sc
  | .sc (.str a), .sc (.str b) => some (.bl (neg ^^ inStr a b))
  | .sc x, .lst _ ys => (scs ys).map fun l => .bl (neg ^^ l.any (·.eqB x))
  | .sc x, .tup ys => (scs ys).map fun l => .bl (neg ^^ l.any (·.eqB x))
  | _, _ => none

section
variable {X : Cx} {g : Gh} {W : WX} {pos : Pos} {a b : Expr} {ma mb : Cm D} {oa ob : Opd}
theorem good_append {x y : List Nat} (h1 : (Sc.str x).good) (h2 : (Sc.str y).good) (h : x.length + y.length ≤ 16777216) : (Sc.str (x ++ y)).good := by
  refine ⟨by simpa using h, fun c hc => ?_⟩
  rcases List.mem_append.mp hc with q | q
  · exact h1.2 c q
  · exact h2.2 c q
theorem Str.app (x y : List Nat) : ((⟨x.toArray⟩ : Str) ++ (⟨y.toArray⟩ : Str)) = ⟨(x ++ y).toArray⟩ := by
  show (⟨x.toArray ++ y.toArray⟩ : Str) = _
  simp
theorem e_addW (hx : ∀ {r : R2}, OpR X (binaryOp .Add) r → PE X (.BinOp a .Add b pos) (tOp r (tE g W ma) (tE g W mb))) : PE X (.BinOp a .Add b pos) (tE g W (mBin addD ma mb)) := by
  refine (hx (OpR.or op_add (OpR.or op_add_str op_cat))).imp (bin_imp fun H σ sl tm t1 t2 d Q s h k => ?_)
  have k1 : t1.ok g.c H := by have := s.okT; simp only [Ts.ok] at this; exact this.2.1
  have k2 := s.top
  cases t1 with
  | sc x =>
    cases t2 with
    | sc y =>
      cases x <;> cases y <;> simp [T.d, addD] at h
      · subst h
        exact .inl ⟨_, _, rfl, rfl, k H _ (s.pop.pop.push (.int _) trivial) rfl⟩
      · rename_i x y
        obtain ⟨h1, rfl⟩ := h
        simp only [T.ok] at k1 k2
        refine .inr (.inl ⟨_, _, rfl, rfl, by rw [SZ_eq]; simpa [Str.length] using h1, ?_⟩)
        rw [Str.app]
        exact k H (.sc (.str (x ++ y))) (s.pop.pop.push _ (good_append k1 k2 h1)) rfl
    | _ => cases x <;> simp [T.d, addD] at h
  | lst a o xs =>
    cases t2 with
    | lst b p ys =>
      simp only [T.d, addD, Ts.d_len] at h
      split at h
      · rename_i hc
        obtain ⟨h1, h2, h3⟩ := hc
        cases h
        refine .inr (.inr ⟨a, b, xs.map T.v, ys.map T.v, rfl, rfl, ?_, ?_, by rw [SZ_eq]; simpa using h3, fun q nq => ?_⟩)
        · rcases h1 with rfl | rfl <;> (simp only [T.ok] at k1; exact k1.1)
        · rcases h2 with rfl | rfl <;> (simp only [T.ok] at k2; exact k2.1)
        · have s' := s.newL (xs := [.lst b p ys, .lst a o xs]) (tm := tm) (ts := xs ++ ys) nq (by simpa using h3)
            (Ts.ok_iff.mpr fun t m => by
              rcases List.mem_append.mp m with m | m
              · exact Ts.ok_iff.mp (lst_sq k1).2.2 t m
              · exact Ts.ok_iff.mp (lst_sq k2).2.2 t m) (fun z => by
              simp only [Ts.oc_append, Ts.sh_append, Ts.oc, Ts.sh, T.oc, T.sh]; omega)
          rw [List.map_append] at s'
          exact k _ _ s' (by simp [T.d, Ts.d_append])
      · cases h
    | sc y => cases y <;> simp [T.d, addD] at h
    | _ => simp [T.d, addD] at h
  | tup _ _ _ => simp [T.d, addD] at h
  | obj _ _ _ _ _ _ => simp [T.d, addD] at h
  | exn _ _ _ _ _ => simp [T.d, addD] at h
  | dct _ _ _ _ _ => simp [T.d, addD] at h
theorem e_add (ha : PE X a (tE g W ma)) (hb : PE X b (tE g W mb)) : PE X (.BinOp a .Add b pos) (tE g W (mBin addD ma mb)) := e_addW fun ho => pe_op ho ha hb
/-- an operator of two ints -/
theorem bin_int {op : Operator} {r : R2} {f : D → D → Option D} (ho : OpR X (binaryOp op) r) (ha : PE X a (tE g W ma)) (hb : PE X b (tE g W mb))
    (hf : ∀ x y d, f x y = some d → ∃ i j k, x = .int i ∧ y = .int j ∧ d = .int k ∧ ∀ H Q, Q (.int k) H → r (.int i) (.int j) H Q) : PE X (.BinOp a op b pos) (tE g W (mBin f ma mb)) := by
  refine (pe_op ho ha hb).imp (bin_imp fun H σ sl tm t1 t2 d Q s h k => ?_)
  obtain ⟨i, j, n, e1, e2, rfl, hr⟩ := hf _ _ _ h
  cases t1 with
  | sc x =>
    cases t2 with
    | sc y =>
      simp only [T.d, D.int, D.sc.injEq] at e1 e2
      subst e1 e2
      exact hr H Q (k H (.sc (.int n)) (s.pop.pop.push _ trivial) rfl)
    | _ => simp [T.d] at e2
  | _ => simp [T.d] at e1
theorem e_sub (ha : PE X a (tE g W ma)) (hb : PE X b (tE g W mb)) : PE X (.BinOp a .Sub b pos) (tE g W (mBin subD ma mb)) :=
  bin_int op_sub ha hb fun x y d h => by
    unfold subD at h; split at h
    · cases h; exact ⟨_, _, _, rfl, rfl, rfl, fun H Q q => ⟨_, _, rfl, rfl, q⟩⟩
    · cases h
theorem e_fdiv (ha : PE X a (tE g W ma)) (hb : PE X b (tE g W mb)) : PE X (.BinOp a .FloorDiv b pos) (tE g W (mBin fdivD ma mb)) :=
  bin_int op_fdivW ha hb fun x y d h => by
    unfold fdivD at h; split at h
    · split at h
      · rename_i i j c
        cases h
        refine ⟨_, _, _, rfl, rfl, rfl, fun H Q q => ⟨_, _, rfl, rfl, wide_div (b := 62) c.1 ?_ (by decide) (by decide), q⟩⟩
        have : (2 : Nat) ^ 62 = 4611686018427387904 := by decide
        omega
      · cases h
    · cases h
theorem e_mod (ha : PE X a (tE g W ma)) (hb : PE X b (tE g W mb)) : PE X (.BinOp a .Mod b pos) (tE g W (mBin modD ma mb)) :=
  bin_int op_mod ha hb fun x y d h => by
    unfold modD at h; split at h
    · split at h
      · rename_i i j c
        cases h
        exact ⟨_, _, _, rfl, rfl, rfl, fun H Q q => ⟨_, _, rfl, rfl, c, q⟩⟩
      · cases h
    · cases h
theorem e_pow (ha : PE X a (tE g W ma)) (hb : PE X b (tE g W mb)) : PE X (.BinOp a .Pow b pos) (tE g W (mBin powD ma mb)) :=
  bin_int op_pow ha hb fun x y d h => by
    unfold powD at h; split at h
    · split at h
      · rename_i i j c
        cases h
        refine ⟨_, _, _, rfl, rfl, rfl, fun H Q q => ⟨_, _, rfl, rfl, ⟨c.1, c.2.1, ?_⟩, q⟩⟩
        have : (2 : Nat) ^ 64 = 18446744073709551616 := by decide
        omega
      · cases h
    · cases h
/-- a text some times over -/
theorem op_mul_str : OpR X (binaryOp .Mult) (fun x y H Q => ∃ (z : List Nat) (n : Int), x = .str ⟨z.toArray⟩ ∧ y = .int n ∧ z.length * n.toNat ≤ 16777216 ∧ n.natAbs < 4611686018427387904 ∧ Q (.str ⟨((List.replicate n.toNat z).flatten).toArray⟩) H) := by
  intro pins s σ H x y v u Q I rx ry h
  obtain ⟨z, n, rfl, rfl, hz, hn, q⟩ := h
  obtain ⟨t, rfl⟩ := rx
  obtain ⟨t', rfl⟩ := ry
  have e63 : (2 : Int) ^ 63 = 9223372036854775808 := by decide
  have fin : ∀ w : Str, w = ⟨((List.replicate n.toNat z).flatten).toArray⟩ → ∀ s', Inv X pins σ H s' → ∀ u, RelV (.str w) u → EP X pins σ Q u s' := fun w e s' I' u r => ⟨_, H, I', r, by rw [e]; exact q⟩
  refine PySem.P.mul_str ?_ ?_ ?_ ?_
  · have h1 : ¬ n < -(2 ^ 63 : Int) := by rw [e63]; omega
    have h2 : ¬ n ≥ 2 ^ 63 := by rw [e63]; omega
    rw [decide_eq_false h1, decide_eq_false h2]; rfl
  · intro h1 _
    have hl : z.length ≤ 16777216 := by
      have : 1 ≤ n.toNat := by omega
      exact Nat.le_trans (Nat.le_mul_of_pos_right _ this) hz
    rw [e63]
    have hs : (⟨z.toArray⟩ : Str).length = z.length := by simp [Str.length]
    rw [hs]
    intro hgt
    have hgt : (9223372036854775808 - 1) / n < (z.length : Int) := hgt
    have h3 := (Int.ediv_lt_iff_lt_mul (by omega : (0 : Int) < n)).mp hgt
    have h4 : ((z.length * n.toNat : Nat) : Int) = (z.length : Int) * n := by
      rw [Int.natCast_mul, Int.toNat_of_nonneg (by omega)]
    have h5 : ((z.length * n.toNat : Nat) : Int) ≤ 16777216 := by omega
    rw [h4] at h5
    omega
  · intro _ _
    have hs : (⟨z.toArray⟩ : Str).length = z.length := by simp [Str.length]
    rw [hs]
    unfold Builtin.Str.tooLong
    rw [SZ_eq]
    exact decide_eq_false (by omega)
  · have fl : ∀ (k : Nat) (a0 : Array Nat), (List.replicate k z.toArray).foldl (· ++ ·) a0 = a0 ++ ((List.replicate k z).flatten).toArray := by
      intro k
      induction k with
      | zero => intro a0; simp
      | succ k ih =>
        intro a0
        rw [List.replicate_succ, List.foldl_cons, ih, List.replicate_succ, List.flatten_cons]
        simp [Array.append_assoc]
    by_cases c1 : n < 1
    · rw [if_pos c1]
      have e0 : n.toNat = 0 := by omega
      exact ⟨by decide, fin _ (by rw [e0]; rfl) _ (I.tok _) _ ⟨_, rfl⟩⟩
    · rw [if_neg c1]
      by_cases c2 : (n == 1 || (⟨z.toArray⟩ : Str).length == 0) = true
      · rw [if_pos c2]
        refine fin _ ?_ _ I _ ⟨t, rfl⟩
        rcases Bool.or_eq_true_iff.mp c2 with e | e
        · have e1 : n = 1 := by simpa using e
          subst e1
          simp
        · have e1 : z = [] := by simpa [Str.length] using e
          subst e1
          simp
      · rw [if_neg c2]
        refine ⟨?_, fin _ ?_ _ (I.tok _) _ ⟨_, rfl⟩⟩
        · rw [fl]
          show (((#[] : Array Nat) ++ ((List.replicate n.toNat z).flatten).toArray).size) ≤ sizeLine
          rw [SZ_eq]
          simp [Nat.mul_comm]
          simpa [Nat.mul_comm] using hz
        · rw [fl]; simp
mutual
theorem T.pur_oc (a : Addr) : ∀ t : T, t.d.pur = true → t.oc a = 0
  | .sc _, _ => by simp [T.oc]
  | .lst b o xs, h => by
    simp only [T.d, D.pur, Bool.and_eq_true] at h
    have := Ts.pur_oc a xs h.2
    cases o <;> simp_all [T.oc, b2]
  | .tup _ _ xs, h => by
    simp only [T.d, D.pur] at h
    simp [T.oc, Ts.pur_oc a xs h]
  | .obj _ _ o _ _ xs, h => by
    simp only [T.d, D.pur, Bool.and_eq_true] at h
    have := Ts.pur_oc a xs h.2
    cases o <;> simp_all [T.oc, b2]
  | .exn _ _ _ _ _, _ => by simp [T.oc]
  | .dct b _ o _ xs, h => by
    simp only [T.d, D.pur, Bool.and_eq_true] at h
    have := Ts.pur_oc a xs h.2
    cases o <;> simp_all [T.oc, b2]
theorem Ts.pur_oc (a : Addr) : ∀ ts : List T, Ds.pur (Ts.d ts) = true → Ts.oc a ts = 0
  | [], _ => by simp [Ts.oc]
  | t :: ts, h => by
    simp only [Ts.d, Ds.pur, Bool.and_eq_true] at h
    simp [Ts.oc, T.pur_oc a t h.1, Ts.pur_oc a ts h.2]
end
theorem Ts.rep_sh (a : Addr) (xs : List T) : ∀ n : Nat, 0 < Ts.sh a (List.replicate n xs).flatten → 0 < Ts.sh a xs
  | 0, h => by simp [Ts.sh] at h
  | n + 1, h => by
    rw [List.replicate_succ, List.flatten_cons, Ts.sh_append] at h
    by_cases e : 0 < Ts.sh a xs
    · exact e
    · exact Ts.rep_sh a xs n (by omega)
theorem Ts.rep_oc (a : Addr) (xs : List T) (h : Ts.oc a xs = 0) : ∀ n : Nat, Ts.oc a (List.replicate n xs).flatten = 0
  | 0 => by simp [Ts.oc]
  | n + 1 => by rw [List.replicate_succ, List.flatten_cons, Ts.oc_append, h, Ts.rep_oc a xs h n]
theorem Ts.rep_d (xs : List T) (n : Nat) : Ts.d (List.replicate n xs).flatten = (List.replicate n (Ts.d xs)).flatten := by
  simp [Ts.d_map, List.map_flatten]
theorem good_rep {x : List Nat} {n : Nat} (h1 : (Sc.str x).good) (h : x.length * n ≤ 16777216) : (Sc.str (List.replicate n x).flatten).good := by
  refine ⟨by simpa [Nat.mul_comm] using h, fun c hc => ?_⟩
  obtain ⟨l, hl, hc⟩ := List.mem_flatten.mp hc
  rw [(List.mem_replicate.mp hl).2] at hc
  exact h1.2 c hc
theorem e_mul (ha : PE X a (tE g W ma)) (hb : PE X b (tE g W mb)) : PE X (.BinOp a .Mult b pos) (tE g W (mBin mulD ma mb)) := by
  refine (pe_op (OpR.or op_mul (OpR.or op_mul_str op_rep)) ha hb).imp (bin_imp fun H σ sl tm t1 t2 d Q s h k => ?_)
  have k1 : t1.ok g.c H := by have := s.okT; simp only [Ts.ok] at this; exact this.2.1
  have e64 : (2 : Int) ^ 64 = 18446744073709551616 := by decide
  have e63 : (2 : Int) ^ 63 = 9223372036854775808 := by decide
  cases t1 with
  | sc x =>
    cases t2 with
    | sc y =>
      cases x <;> cases y <;> simp [T.d, mulD] at h
      · obtain ⟨h1, rfl⟩ := h
        refine .inl ⟨_, _, rfl, rfl, ?_, k H _ (s.pop.pop.push (.int _) trivial) rfl⟩
        unfold CMul
        rw [e64]
        omega
      · rename_i x n
        obtain ⟨⟨h1, h2⟩, rfl⟩ := h
        simp only [T.ok] at k1
        exact .inr (.inl ⟨x, n, rfl, rfl, h1, h2, k H (.sc (.str _)) (s.pop.pop.push _ (good_rep k1 h1)) rfl⟩)
    | _ => cases x <;> simp [T.d, mulD] at h
  | lst a o xs =>
    cases t2 with
    | sc y =>
      cases y <;> simp only [T.d, mulD] at h <;> try cases h
      rename_i n
      split at h
      · rename_i hc
        obtain ⟨h1, h2, h3, h4⟩ := hc
        rw [Ts.d_len] at h3
        cases h
        refine .inr (.inr ⟨a, n, xs.map T.v, rfl, rfl, ?_, by rw [e63]; omega, by rw [e63]; omega, by rw [SZ_eq]; simpa using h3, fun q nq => ?_⟩)
        · rcases h1 with rfl | rfl <;> (simp only [T.ok] at k1; exact k1.1)
        · have s' := s.newL (xs := [.sc (.int n), .lst a o xs]) (tm := tm) (ts := (List.replicate n.toNat xs).flatten) nq (by simpa [Nat.mul_comm] using h3)
            (Ts.ok_iff.mpr fun t m => by
              obtain ⟨l, hl, hc⟩ := List.mem_flatten.mp m
              rw [(List.mem_replicate.mp hl).2] at hc
              exact Ts.ok_iff.mp (lst_sq k1).2.2 t hc) (fun z => by
              have z1 := Ts.pur_oc z xs h2
              have z2 := Ts.rep_oc z xs z1 n.toNat
              have z3 := Ts.rep_sh z xs n.toNat
              simp only [Ts.oc, Ts.sh, T.oc, T.sh]; omega)
          have em : List.map T.v (List.replicate n.toNat xs).flatten = (List.replicate n.toNat (xs.map T.v)).flatten := by simp [List.map_flatten]
          rw [em] at s'
          exact k _ _ s' (by simp [T.d, Ts.rep_d])
      · cases h
    | _ => simp [T.d, mulD] at h
  | tup _ _ _ => cases t2 <;> simp [T.d, mulD] at h
  | obj _ _ _ _ _ _ => cases t2 <;> simp [T.d, mulD] at h
  | exn _ _ _ _ _ => cases t2 <;> simp [T.d, mulD] at h
  | dct _ _ _ _ _ => cases t2 <;> simp [T.d, mulD] at h
end
end VS

/-! VS, part e: comparisons, tests, subscripts, slices, displays. -/
namespace VS
open PySem PySem.Spec PyProof.Rows L2

theorem _root_.L2.PW.imp {X : Cx} {e : Expr} {t t' : TT} (h : PW X e t) (w : ∀ σ H Q, t' σ H Q → t σ H Q) : PW X e t' := ⟨fun wh pins s σ H Q I q => h.run wh pins s σ H Q I (w σ H Q q)⟩

section
variable {X : Cx} {g : Gh} {W : WX} {pos : Pos} {a b c : Expr} {ma mb mc : Cm D} {oa ob oc : Opd}
/-- the forms of a comparison's rule -/
def HR2 (g : Gh) (f : D → D → Option Sc) (r : R2) : Prop := ∀ H (u1 u2 : T) c Q, u1.ok g.c H → u2.ok g.c H → f u1.d u2.d = some c → (c.good → Q (c.v) H) → r u1.v u2.v H Q
theorem test_imp {m : Cm D} {σ : L2.St} {H : Hp} {Q : Bool → Hp → Prop} (h : tT g W (mTest m) σ H Q) : tE g W m σ H fun x H' => ∃ k, x = .bl k ∧ Q k H' := by
  obtain ⟨sl, tm, s, h⟩ := h
  refine ⟨sl, tm, s, ?_⟩
  unfold mTest at h
  cases e : m (den sl) with
  | ok d ρ =>
    rw [e] at h
    intro H' sl' t s' e1 e2
    subst e1 e2
    cases t with
    | sc x =>
      cases x with
      | bl k => exact ⟨k, rfl, h H' sl' s'.pop rfl⟩
      | _ => exact h.elim
    | _ => exact h.elim
  | exc x ρ => rw [e] at h; exact h
  | stuck => rw [e] at h; exact h
theorem t_val (h : PE X a (tE g W ma)) (he : ∀ whole, isTrue a X.env whole = (do let v ← whole; standAt a.pos; holding [v] (truthy v)) := by intro _; rfl) : PT X a (tT g W (mTest ma)) :=
  (pt_val h he).imp fun σ H Q q => test_imp q
theorem e_cmp {op : CmpOp} {r : R2} {f : D → D → Option Sc} (ho : OpR X (compareOp op) r) (hr : HR2 g f r) (ha : PE X a (tO g W oa)) (hb : PE X b (tO g W ob)) (hm : behindInMarks op b = false) :
    PE X (.Compare a [op] [b] pos) (tE g W (mP2 f oa ob)) := (pe_cmpR ho ha hb hm).imp (p2_imp hr)
theorem t_cmp {op : CmpOp} {r : R2} {f : D → D → Option Sc} (ho : OpR X (compareOp op) r) (hr : HR2 g f r) (ha : PE X a (tO g W oa)) (hb : PE X b (tO g W ob)) (hm : behindInMarks op b = false) :
    PT X (.Compare a [op] [b] pos) (tT g W (mTest (mP2 f oa ob))) := (pt_cmpR ho ha hb hm).imp fun σ H Q q => p2_imp hr σ H _ (test_imp q)
theorem hr_int {p : Int → Int → Bool} : HR2 g (cmpI p) (rI0 fun i j => .bl (p i j)) := fun H u1 u2 c Q k1 k2 h q => by
  cases u1 with
  | sc x =>
    cases u2 with
    | sc y =>
      cases x <;> cases y <;> simp [T.d, cmpI] at h
      subst h
      exact ⟨_, _, rfl, rfl, q trivial⟩
    | _ => cases x <;> simp [T.d, cmpI] at h
  | _ => simp [T.d, cmpI] at h
theorem hr_eq : HR2 g eqD (rEqD g.c.K) := fun H u1 u2 c Q k1 k2 h q => by
  unfold eqD at h
  split at h
  · rename_i hc
    obtain ⟨h1, h2⟩ := Bool.and_eq_true_iff.mp hc
    cases h
    refine ⟨_, _, T.dp 8 u1 k1 h1, T.dp 8 u2 k2 h2, shaped_of k1 h1, shaped_of k2 h2, ?_⟩
    rw [T.eqv 8 8 u1 u2 h1 h2]
    exact q trivial
  · cases h
theorem hr_ne : HR2 g neD (rNeD g.c.K) := fun H u1 u2 c Q k1 k2 h q => by
  unfold neD at h
  split at h
  · rename_i hc
    obtain ⟨h1, h2⟩ := Bool.and_eq_true_iff.mp hc
    cases h
    refine ⟨_, _, T.dp 8 u1 k1 h1, T.dp 8 u2 k2 h2, shaped_of k1 h1, shaped_of k2 h2, ?_⟩
    rw [T.eqv 8 8 u1 u2 h1 h2]
    exact q trivial
  · cases h
theorem v_non {t : T} : (t.v = .non) ↔ t.d = .non := by
  cases t with
  | sc x => cases x <;> simp [T.v, T.d, Sc.v]
  | _ => simp [T.v, T.d]
theorem hr_isN : HR2 g isNon (fun x y H Q => y = .non ∧ Q (.bl (decide (x = .non))) H) := fun H u1 u2 c Q k1 k2 h q => by
  unfold isNon at h
  split at h
  · rename_i d hd
    have e : u2.v = .non := v_non.mpr hd
    cases h
    refine ⟨e, ?_⟩
    have z : decide (u1.v = .non) = (match u1.d with | .sc .non => true | _ => false) := by
      by_cases hh : u1.d = .non
      · rw [decide_eq_true (v_non.mpr hh), hh]
      · rw [decide_eq_false (fun w => hh (v_non.mp w))]
        split <;> simp_all
    rw [z]
    exact q trivial
  · cases h
theorem hr_notN : HR2 g isntNon (fun x y H Q => y = .non ∧ Q (.bl (!decide (x = .non))) H) := fun H u1 u2 c Q k1 k2 h q => by
  unfold isntNon at h
  split at h
  · rename_i d hd
    have e : u2.v = .non := v_non.mpr hd
    cases h
    refine ⟨e, ?_⟩
    have z : (!decide (u1.v = .non)) = (match u1.d with | .sc .non => false | _ => true) := by
      by_cases hh : u1.d = .non
      · rw [decide_eq_true (v_non.mpr hh), hh]; rfl
      · rw [decide_eq_false (fun w => hh (v_non.mp w))]
        split <;> simp_all
    rw [z]
    exact q trivial
  · cases h
theorem scs_ok : ∀ {ts : List T} {l : List Sc}, scs (Ts.d ts) = some l → ts.map T.v = l.map Sc.v ∧ (ts.map T.v).all flatV = true
  | [], l, h => by simp [Ts.d, scs] at h; subst h; simp
  | t :: ts, l, h => by
    cases t with
    | sc x =>
      simp only [Ts.d, T.d, scs, Option.map_eq_some_iff] at h
      obtain ⟨r, hr, rfl⟩ := h
      have ih := scs_ok hr
      have fx : flatV (T.sc x).v = true := by cases x <;> rfl
      simp only [List.map_cons, List.all_cons, ih.1, fx, Bool.true_and]
      refine ⟨rfl, ?_⟩
      rw [← ih.1]; exact ih.2
    | _ => simp [Ts.d, T.d, scs] at h
theorem eqV_sc (x y : Sc) : eqV x.v y.v = x.eqB y := by
  cases x <;> cases y <;> simp [Sc.v, eqV, Sc.eqB, Bool.beq_eq_decide_eq]
theorem inV_sc (x : Sc) (l : List Sc) : inV x.v (l.map Sc.v) = l.any (·.eqB x) := by
  unfold inV
  rw [List.any_map]
  congr 1
  funext y
  exact eqV_sc y x
theorem hr_in : HR2 g (inD false) (fun x y H Q => (∃ i j, x = .str i ∧ y = .str j ∧ Q (.bl (!(Builtin.Str.occurrences j i 0 j.length 1).isEmpty)) H) ∨ rIn g.c.K false x y H Q) := fun H u1 u2 c Q k1 k2 h q => by
  cases u1 with
  | sc x =>
    have fx : flatV x.v = true := by cases x <;> rfl
    cases u2 with
    | sc y =>
      cases x <;> cases y <;> simp [T.d, inD] at h
      subst h
      refine .inl ⟨_, _, rfl, rfl, ?_⟩
      have := q trivial
      simpa [inStr, Str.length, Sc.v] using this
    | lst p o ys =>
      have hh : (scs (Ts.d ys)).map (fun l => Sc.bl (false ^^ l.any (·.eqB x))) = some c := by cases x <;> simpa [T.d, inD] using h
      obtain ⟨l, hl, rfl⟩ := Option.map_eq_some_iff.mp hh
      have e := scs_ok hl
      refine .inr ⟨p, _, rfl, .inl (lst_sq k2).1, fx, e.2, ?_⟩
      have := q trivial
      rw [e.1, show (T.sc x).v = x.v from rfl, inV_sc]
      simpa [Sc.v] using this
    | tup p o ys =>
      have hh : (scs (Ts.d ys)).map (fun l => Sc.bl (false ^^ l.any (·.eqB x))) = some c := by cases x <;> simpa [T.d, inD] using h
      obtain ⟨l, hl, rfl⟩ := Option.map_eq_some_iff.mp hh
      have e := scs_ok hl
      refine .inr ⟨p, _, rfl, .inr (tup_sq k2).1, fx, e.2, ?_⟩
      have := q trivial
      rw [e.1, show (T.sc x).v = x.v from rfl, inV_sc]
      simpa [Sc.v] using this
    | _ => cases x <;> simp [T.d, inD] at h
  | _ => cases u2 <;> simp [T.d, inD] at h
theorem hr_notin : HR2 g (inD true) (fun x y H Q => (∃ i j, x = .str i ∧ y = .str j ∧ Q (.bl (!(!(Builtin.Str.occurrences j i 0 j.length 1).isEmpty))) H) ∨ rIn g.c.K true x y H Q) := fun H u1 u2 c Q k1 k2 h q => by
  cases u1 with
  | sc x =>
    have fx : flatV x.v = true := by cases x <;> rfl
    cases u2 with
    | sc y =>
      cases x <;> cases y <;> simp [T.d, inD] at h
      subst h
      refine .inl ⟨_, _, rfl, rfl, ?_⟩
      have := q trivial
      simpa [inStr, Str.length, Sc.v] using this
    | lst p o ys =>
      have hh : (scs (Ts.d ys)).map (fun l => Sc.bl (true ^^ l.any (·.eqB x))) = some c := by cases x <;> simpa [T.d, inD] using h
      obtain ⟨l, hl, rfl⟩ := Option.map_eq_some_iff.mp hh
      have e := scs_ok hl
      refine .inr ⟨p, _, rfl, .inl (lst_sq k2).1, fx, e.2, ?_⟩
      have := q trivial
      rw [e.1, show (T.sc x).v = x.v from rfl, inV_sc]
      simpa [Sc.v] using this
    | tup p o ys =>
      have hh : (scs (Ts.d ys)).map (fun l => Sc.bl (true ^^ l.any (·.eqB x))) = some c := by cases x <;> simpa [T.d, inD] using h
      obtain ⟨l, hl, rfl⟩ := Option.map_eq_some_iff.mp hh
      have e := scs_ok hl
      refine .inr ⟨p, _, rfl, .inr (tup_sq k2).1, fx, e.2, ?_⟩
      have := q trivial
      rw [e.1, show (T.sc x).v = x.v from rfl, inV_sc]
      simpa [Sc.v] using this
    | _ => cases x <;> simp [T.d, inD] at h
  | _ => cases u2 <;> simp [T.d, inD] at h

/-! ### and, or, not -/
variable {ta tb : Cm Bool} {rest : List Expr}
theorem and_imp (σ : L2.St) (H : Hp) (Q : Bool → Hp → Prop) (h : tT g W (mAnd ta tb) σ H Q) : tAnd (tT g W ta) (tT g W tb) σ H Q := by
  obtain ⟨sl, tm, s, h⟩ := h
  refine tT.of s h fun H' sl' k s' h' => ?_
  cases k with
  | true => rw [if_pos rfl]; exact ⟨sl', tm, s', h'⟩
  | false => rw [if_neg Bool.false_ne_true]; exact h' H' sl' s' rfl
theorem or_imp (σ : L2.St) (H : Hp) (Q : Bool → Hp → Prop) (h : tT g W (mOr ta tb) σ H Q) : tOr (tT g W ta) (tT g W tb) σ H Q := by
  obtain ⟨sl, tm, s, h⟩ := h
  refine tT.of s h fun H' sl' k s' h' => ?_
  cases k with
  | false => rw [if_neg Bool.false_ne_true]; exact ⟨sl', tm, s', h'⟩
  | true => rw [if_pos rfl]; exact h' H' sl' s' rfl
theorem w_and (ha : PT X a (tT g W ta)) (hb : PW X (.BoolOp .And (b :: rest) pos) (tT g W tb)) : PW X (.BoolOp .And (a :: b :: rest) pos) (tT g W (mAnd ta tb)) := (pw_and ha hb).imp and_imp
theorem w_or (ha : PT X a (tT g W ta)) (hb : PW X (.BoolOp .Or (b :: rest) pos) (tT g W tb)) : PW X (.BoolOp .Or (a :: b :: rest) pos) (tT g W (mOr ta tb)) := (pw_or ha hb).imp or_imp
theorem t_not (ha : PT X a (tT g W ta)) : PT X (.UnaryOp .Not a pos) (tT g W (mNot ta)) := (pt_not ha).imp fun σ H Q ⟨sl, tm, s, h⟩ =>
  tT.of s h fun H' sl' k s' h' => h' H' sl' s' rfl
/-- a test as a value -/
def mAndV (a b : Cm D) : Cm D := fun ρ => (a ρ).bind fun d ρ => match d with
  | .sc (.bl c) => if c then b ρ else .ok (.bl false) ρ
  | _ => .stuck
def mOrV (a b : Cm D) : Cm D := fun ρ => (a ρ).bind fun d ρ => match d with
  | .sc (.bl c) => if c then .ok (.bl true) ρ else b ρ
  | _ => .stuck
def notD : D → Option D
  | .sc (.bl b) => some (.bl (!b))
  | _ => none
theorem e_and (ha : PE X a (tE g W ma)) (hb : PE X (.BoolOp .And (b :: rest) pos) (tE g W mb)) : PE X (.BoolOp .And (a :: b :: rest) pos) (tE g W (mAndV ma mb)) := (pe_and ha hb).imp fun σ H Q ⟨sl, tm, s, h⟩ => by
  refine tE.of s h fun H' sl' t s' h' => ?_
  cases t with
  | sc x =>
    cases x with
    | bl k =>
      refine ⟨k, rfl, ?_⟩
      cases k with
      | true => rw [if_pos rfl]; exact ⟨sl', tm, s'.pop, h'⟩
      | false => rw [if_neg Bool.false_ne_true]; exact h' H' sl' (.sc (.bl false)) s' rfl rfl
    | _ => exact h'.elim
  | _ => exact h'.elim
theorem e_not (ha : PE X a (tE g W ma)) : PE X (.UnaryOp .Not a pos) (tE g W (mUn notD ma)) := (pe_not ha).imp fun σ H Q ⟨sl, tm, s, h⟩ => by
  refine tE.of s h fun H' sl' t s' h' => ?_
  cases t with
  | sc x =>
    cases x with
    | bl k => exact ⟨k, rfl, h' H' sl' (.sc (.bl (!k))) (s'.pop.push _ trivial) rfl rfl⟩
    | _ => exact h'.elim
  | _ => exact h'.elim
theorem e_if (hc : PT X c (tT g W ta)) (ha : PE X a (tE g W ma)) (hb : PE X b (tE g W mb)) : PE X (.IfExp c a b pos) (tE g W (mIfE ta ma mb)) := (pe_ifExp hc ha hb).imp fun σ H Q ⟨sl, tm, s, h⟩ => by
  refine tT.of s h fun H' sl' k s' h' => ?_
  cases k with
  | true => rw [if_pos rfl]; exact ⟨sl', tm, s', h'⟩
  | false => rw [if_neg Bool.false_ne_true]; exact ⟨sl', tm, s', h'⟩
/-- a <= b <= c -/
def mChain (f f' : D → D → Option Sc) (a b c : Cm D) : Cm D := fun ρ => (a ρ).bind fun x ρ => (b ρ).bind fun y ρ => (lift (f x y) ρ).bind fun k ρ => match k with
  | .bl true => (c ρ).bind fun z ρ => (lift (f' y z) ρ).bind fun s ρ => .ok (.sc s) ρ
  | .bl false => .ok (.bl false) ρ
  | _ => .stuck
end
end VS

/-! VS, part f: arguments, displays, subscripts, slices, chains, calls of built-ins. -/
namespace VS
open PySem PySem.Spec PyProof.Rows L2

def mArgs : List (Cm D) → Cm (List D)
  | [] => fun ρ => .ok [] ρ
  | m :: ms => fun ρ => (m ρ).bind fun d ρ => (mArgs ms ρ).bind fun ds ρ => .ok (d :: ds) ρ
def tA (g : Gh) (W : WX) (ms : List (Cm D)) : TA := fun σ H Q => ∃ sl tm, SR g H σ sl tm ∧ Lands g W tm (mArgs ms (den sl)) fun ds ρ' => ∀ H' sl' ts, SR g H' σ sl' (ts.reverse ++ tm) → den sl' = ρ' → Ts.d ts = ds → Q (ts.map T.v) H'
theorem _root_.L2.PA.imp {X : Cx} {e : List Expr} {t t' : TA} (h : PA X e t) (w : ∀ σ H Q, t' σ H Q → t σ H Q) : PA X e t' := ⟨fun pos pins s σ H Q I q => h.run pos pins s σ H Q I (w σ H Q q)⟩
theorem Ts.oc_rev (a : Addr) : ∀ ts : List T, Ts.oc a ts.reverse = Ts.oc a ts
  | [] => rfl
  | t :: ts => by simp [Ts.oc_append, Ts.oc, Ts.oc_rev a ts]; omega
theorem Ts.sh_rev (a : Addr) : ∀ ts : List T, Ts.sh a ts.reverse = Ts.sh a ts
  | [] => rfl
  | t :: ts => by simp [Ts.sh_append, Ts.sh, Ts.sh_rev a ts]; omega
def mLst (ms : List (Cm D)) : Cm D := fun ρ => (mArgs ms ρ).bind fun ds ρ => if ds.length ≤ 16777216 then .ok (.lst .own ds) ρ else .stuck
def mTup (ms : List (Cm D)) : Cm D := fun ρ => (mArgs ms ρ).bind fun ds ρ => if ds.length ≤ 16777216 then .ok (.tup ds) ρ else .stuck

section
variable {X : Cx} {g : Gh} {W : WX} {pos : Pos} {a b c e : Expr} {es : List Expr} {ma mb mc : Cm D} {ms : List (Cm D)} {oa ob oc : Opd} {α : Type}
theorem tA.of {σ : L2.St} {H : Hp} {sl : List (Option T)} {tm : List T} {Q : List V → Hp → Prop} {f : List D → Cm α} {k : α → DE → Prop} (s : SR g H σ sl tm) (h : Lands g W tm ((mArgs ms (den sl)).bind f) k)
    (q : ∀ H' sl' ts, SR g H' σ sl' (ts.reverse ++ tm) → Lands g W tm (f (Ts.d ts) (den sl')) k → Q (ts.map T.v) H') : tA g W ms σ H Q := by
  refine ⟨sl, tm, s, ?_⟩
  cases e : mArgs ms (den sl) with
  | ok d ρ =>
    rw [e] at h
    intro H' sl' ts s' e1 e2
    subst e1; subst e2
    exact q H' sl' ts s' h
  | exc x ρ => rw [e] at h; exact h
  | stuck => rw [e] at h; exact h
theorem a_nil : PA X [] (tA g W []) := pa_nil.imp fun σ H Q ⟨sl, tm, s, h⟩ => h H sl [] s rfl rfl
theorem a_cons (ha : PE X e (tE g W ma)) (hr : PA X es (tA g W ms)) (hs : starEach (e :: es) X.env = (false, eval e X.env) :: starEach es X.env := by rfl) : PA X (e :: es) (tA g W (ma :: ms)) :=
  (pa_cons ha hr hs).imp fun σ H Q ⟨sl, tm, s, h⟩ => by
    refine tE.of s h fun H1 sl1 t1 s1 h1 => ?_
    refine tA.of s1 (Lands.drop h1) fun H2 sl2 ts s2 h2 => ?_
    exact h2 H2 sl2 (t1 :: ts) (by simpa using s2) rfl (by simp [Ts.d])
theorem SR.okx {H : Hp} {σ : L2.St} {sl : List (Option T)} {tm ts : List T} (s : SR g H σ sl (ts.reverse ++ tm)) : Ts.ok g.c H ts := by
  have := s.okT
  rw [Ts.ok_iff] at this ⊢
  exact fun t m => this t (List.mem_append_left _ (List.mem_reverse.mpr m))
theorem e_lst (h : PA X es (tA g W ms)) : PE X (.List es pos) (tE g W (mLst ms)) := (pe_lst h).imp fun σ H Q ⟨sl, tm, s, h⟩ => by
  refine tA.of s h fun H1 sl1 ts s1 h1 => ?_
  by_cases hz : (Ts.d ts).length ≤ 16777216
  · rw [if_pos hz] at h1
    rw [Ts.d_len] at hz
    refine ⟨by rw [SZ_eq]; simpa using hz, fun p hp => ?_⟩
    exact h1 _ _ _ (s1.newL hp hz s1.okx fun z => by rw [Ts.oc_rev, Ts.sh_rev]; omega) rfl (by simp [T.d])
  · rw [if_neg hz] at h1; exact h1.elim
theorem e_tup {k : Nat} (h : PA X es (tA g W ms)) : PE X (.Tuple es k pos) (tE g W (mTup ms)) := (pe_tup h).imp fun σ H Q ⟨sl, tm, s, h⟩ => by
  refine tA.of s h fun H1 sl1 ts s1 h1 => ?_
  by_cases hz : (Ts.d ts).length ≤ 16777216
  · rw [if_pos hz] at h1
    rw [Ts.d_len] at hz
    refine ⟨by rw [SZ_eq]; simpa using hz, fun p hp => ?_⟩
    exact h1 _ _ _ (s1.newT hp hz s1.okx fun z => by rw [Ts.oc_rev, Ts.sh_rev]; omega) rfl (by simp [T.d])
  · rw [if_neg hz] at h1; exact h1.elim

/-! ### a <= b <= c -/
theorem chain_imp {f f' : D → D → Option Sc} {r r' : R2} (hr : HR2 g f r) (hr' : HR2 g f' r') (σ : L2.St) (H : Hp) (Q : VK) (h : tE g W (mChain f f' ma mb mc) σ H Q) : tChain r r' (tE g W ma) (tE g W mb) (tE g W mc) σ H Q := by
  obtain ⟨sl, tm, s, h⟩ := h
  refine tE.of s h fun H1 sl1 t1 s1 h1 => ?_
  refine tE.of s1 (Lands.drop h1) fun H2 sl2 t2 s2 h2 => ?_
  have k1 : t1.ok g.c H2 := by have := s2.okT; simp only [Ts.ok] at this; exact this.2.1
  cases q : f t1.d t2.d with
  | none => rw [q] at h2; exact h2.elim
  | some x =>
    rw [q] at h2
    refine hr H2 t1 t2 x _ k1 s2.top q fun gx => ?_
    cases x with
    | bl k =>
      refine ⟨k, rfl, ?_⟩
      cases k with
      | true =>
        refine ite2 (fun _ => ?_) (fun n => absurd rfl n)
        refine tE.of s2 (Lands.drop h2) fun H3 sl3 t3 s3 h3 => ?_
        have k2 : t2.ok g.c H3 := by have := s3.okT; simp only [Ts.ok] at this; exact this.2.1
        cases q2 : f' t2.d t3.d with
        | none => rw [q2] at h3; exact h3.elim
        | some y =>
          rw [q2] at h3
          exact hr' H3 t2 t3 y _ k2 s3.top q2 fun gy => h3 H3 sl3 (.sc y) (s3.pop.pop.pop.push y gy) rfl rfl
      | false =>
        refine ite2 (fun n => absurd n Bool.false_ne_true) (fun _ => ?_)
        exact h2 H2 sl2 (.sc (.bl false)) (s2.pop.pop.push _ trivial) rfl rfl
    | _ => exact h2.elim
theorem e_chain {op op' : CmpOp} {f f' : D → D → Option Sc} {r r' : R2} (ho : OpR X (compareOp op) r) (ho' : OpR X (compareOp op') r') (hr : HR2 g f r) (hr' : HR2 g f' r') (ha : PE X a (tE g W ma)) (hb : PE X b (tE g W mb)) (hc : PE X c (tE g W mc))
    (hm : lastMarks [op, op'] [b, c] = false := by with_unfolding_all rfl) : PE X (.Compare a [op, op'] [b, c] pos) (tE g W (mChain f f' ma mb mc)) := (pe_chain ho ho' ha hb hc hm).imp (chain_imp hr hr')
theorem t_chain {op op' : CmpOp} {f f' : D → D → Option Sc} {r r' : R2} (ho : OpR X (compareOp op) r) (ho' : OpR X (compareOp op') r') (hr : HR2 g f r) (hr' : HR2 g f' r') (ha : PE X a (tE g W ma)) (hb : PE X b (tE g W mb)) (hc : PE X c (tE g W mc))
    (hm : lastMarks [op, op'] [b, c] = false := by with_unfolding_all rfl) : PT X (.Compare a [op, op'] [b, c] pos) (tT g W (mTest (mChain f f' ma mb mc))) := (pt_chain ho ho' ha hb hc hm).imp fun σ H Q q => chain_imp hr hr' σ H _ (test_imp q)

/-! ### subscripts -/
def idxD : D → Int → Option D
  | .sc (.str l), i => (atI l i).map fun c => .str [c]
  | .lst _ xs, i => atI xs i
  | .tup xs, i => atI xs i
  | _, _ => none
def mIdx (oa : Opd) (mb : Cm D) : Cm D := fun ρ => (oa.run ρ).bind fun t ρ => (mb ρ).bind fun j ρ => match oa.get t ρ, j with
  | some x, .sc (.int i) => match idxD x i with
    | some d => match oa with
      | .e _ => .ok d ρ
      | .v k => if d.pur then .ok d ρ else .ok d.fz (ρ.set k (some x.fz))
    | none => .stuck
  | _, _ => .stuck
theorem atI_map {α β : Type} (f : α → β) (xs : List α) (i : Int) : atI (xs.map f) i = (atI xs i).map f := by
  unfold atI
  rw [List.length_map]
  cases ixN xs.length i with
  | none => rfl
  | some j => simp
theorem atI_mem {α : Type} {xs : List α} {i : Int} {x : α} (h : atI xs i = some x) : x ∈ xs := by
  unfold atI at h
  cases e : ixN xs.length i with
  | none => rw [e] at h; cases h
  | some j => rw [e] at h; exact List.mem_of_getElem? h
theorem SR.dup {H : Hp} {σ : L2.St} {sl : List (Option T)} {tm : List T} {i : Nat} {t u : T} (s : SR g H σ sl tm) (h : sl[i]? = some (some t)) (ok : u.ok g.c H) (ho : ∀ a, u.oc a = 0) (hs : ∀ a, u.sh a ≤ t.sh a) : SR g H σ sl (u :: tm) := by
  refine s.tmp (by simp only [Ts.ok]; exact ⟨ok, s.okT⟩) fun a => ?_
  have := ho a; have := hs a
  have z := So_get (f := T.sh a) (s.slot h)
  simp only [Ts.oc, Ts.sh]
  omega
/-- what an index finds, as a tree -/
theorem idx_tree {H : Hp} {u : T} {i : Int} {d : D} (k : u.ok g.c H) (h : idxD u.d i = some d) : ∃ x : T, x.d = d ∧ x.ok g.c H ∧ (∀ a, x.oc a ≤ u.oc a ∧ x.sh a ≤ u.sh a) ∧ (x.fz.ok g.c H) ∧ (∀ a, x.fz.sh a ≤ u.fz.sh a) ∧
    ∀ Q : VK, Q x.v H → rIx g.c.K u.v (.int i) H Q := by
  cases u with
  | sc s =>
    cases s with
    | str l =>
      simp only [T.d, idxD, Option.map_eq_some_iff] at h
      obtain ⟨c, hc, rfl⟩ := h
      simp only [T.ok] at k
      have gk : (Sc.str [c]).good := ⟨by simp, fun z hz => by simp at hz; subst hz; exact k.2 _ (atI_mem hc)⟩
      refine ⟨.sc (.str [c]), rfl, by simpa [T.ok] using gk, fun a => by simp [T.oc, T.sh], by simpa [T.ok, T.fz] using gk, fun a => by simp [T.fz, T.sh], fun Q q => ?_⟩
      exact .inr (.inr ⟨_, i, c, rfl, rfl, by rw [SZ_eq]; simpa [Str.length] using k.1, hc, q⟩)
    | _ => simp [T.d, idxD] at h
  | lst p o xs =>
    simp only [T.d, idxD, Ts.d_map, atI_map, Option.map_eq_some_iff] at h
    obtain ⟨x, hx, rfl⟩ := h
    have q := lst_sq k
    have m := atI_mem hx
    have kx := Ts.ok_iff.mp q.2.2 x m
    refine ⟨x, rfl, kx, fun a => ?_, T.fz_ok x kx, fun a => ?_, fun Q hq => ?_⟩
    · have h1 := Ts.oc_mem (a := a) m; have h2 := Ts.sh_mem (a := a) m
      simp only [T.oc, T.sh]; omega
    · have h1 := Ts.oc_mem (a := a) m; have h2 := Ts.sh_mem (a := a) m
      simp only [T.fz_sh, T.oc, T.sh]; omega
    · exact .inl ⟨p, _, i, _, rfl, rfl, q.1, by rw [atI_map, hx]; rfl, hq⟩
  | tup p o xs =>
    simp only [T.d, idxD, Ts.d_map, atI_map, Option.map_eq_some_iff] at h
    obtain ⟨x, hx, rfl⟩ := h
    have q := tup_sq k
    have m := atI_mem hx
    have kx := Ts.ok_iff.mp q.2.2 x m
    refine ⟨x, rfl, kx, fun a => ?_, T.fz_ok x kx, fun a => ?_, fun Q hq => ?_⟩
    · have h1 := Ts.oc_mem (a := a) m; have h2 := Ts.sh_mem (a := a) m
      simp only [T.oc, T.sh]; omega
    · have h1 := Ts.oc_mem (a := a) m; have h2 := Ts.sh_mem (a := a) m
      simp only [T.fz_sh, T.oc, T.sh]; omega
    · exact .inr (.inl ⟨p, _, i, _, rfl, rfl, q.1, by rw [atI_map, hx]; rfl, hq⟩)
  | _ => simp [T.d, idxD] at h
theorem e_idx (ha : PE X a (tO g W oa)) (hb : PE X b (tE g W mb)) (hK : X.K = g.c.K) (hs : PlainIx b := by exact fun _ _ => rfl) : PE X (.Subscript a b pos) (tE g W (mIdx oa mb)) := (pe_ix (hK ▸ ix_seq) ha hb hs).imp fun σ H Q ⟨sl, tm, s, h⟩ => by
  refine tO.of s h fun H1 sl1 t1 v1 s1 d1 h1 => ?_
  refine tE.of s1 (Lands.drops h1) fun H2 sl2 t2 s2 h2 => ?_
  have d1' : Held g H2 oa σ sl2 t1 v1 := ⟨d1.is⟩
  have hm1 : ∀ u, t1 = some u → u ∈ t2 :: xs? t1 tm := fun u e => by subst e; simp [xs?]
  split at h2
  · rename_i x i ex ei
    split at h2
    · rename_i d hd
      cases t2 with
      | sc y =>
        simp only [T.d, D.int, D.sc.injEq] at ei
        subst ei
        cases oa with
        | e m =>
          cases t1 with
          | none => exact d1.is.elim
          | some u =>
            obtain rfl : v1 = u.v := d1.is
            simp only [Opd.get, Option.map_some, Option.some.injEq] at ex
            subst ex
            have ku : u.ok g.c H2 := by have := s2.okT; simp only [xs?, Ts.ok] at this; exact this.2.1
            obtain ⟨x, rfl, kx, hc, _, _, q⟩ := idx_tree ku hd
            exact q Q (h2 H2 sl2 x (SR.part s2.pop kx hc) rfl rfl)
        | v k =>
          cases t1 with
          | some u => exact d1.is.elim
          | none =>
            have e' : (den sl2)[k]? = some (some x) := by
              simp only [Opd.get] at ex
              cases q : (den sl2)[k]? with
              | none => rw [q] at ex; simp at ex
              | some o => rw [q] at ex; simp at ex; rw [ex]
            obtain ⟨u, e1, e2, e4, e3⟩ := s2.val e'
            have ev : v1 = u.v := by
              have z : σ[k]? = some (some v1) := d1.is
              rw [e3] at z
              exact (Option.some.inj (Option.some.inj z)).symm
            subst ev
            subst e2
            obtain ⟨x, rfl, kx, hc, kf, hf, q⟩ := idx_tree e4 hd
            by_cases hp : x.d.pur = true
            · simp only [hp, if_true] at h2
              exact q Q (h2 H2 sl2 x (SR.dup s2.pop e1 kx (fun a => T.pur_oc a x hp) fun a => (hc a).2) rfl rfl)
            · simp only [hp] at h2
              have s3 := SR.part (u := x.fz) (s2.pop.read e1) kf fun a => ⟨by rw [T.fz_oc]; omega, hf a⟩
              have := h2 H2 (sl2.set k (some u.fz)) x.fz s3 (by rw [den_set]; simp [T.fz_d]) (T.fz_d x)
              rw [T.fz_v] at this
              exact q Q this
      | _ => simp [T.d] at ei
    · exact h2.elim
  · exact h2.elim

/-! ### slices -/
def cutL {α : Type} (xs : List α) (lo hi : Option Int) : List α := (xs.drop (HT.sIx xs.length 0 lo)).take (HT.sIx xs.length xs.length hi - HT.sIx xs.length 0 lo)
theorem cutL_map {α β : Type} (f : α → β) (xs : List α) (lo hi : Option Int) : cutL (xs.map f) lo hi = (cutL xs lo hi).map f := by
  unfold cutL; simp
theorem cutL_mem {α : Type} {xs : List α} {lo hi : Option Int} {x : α} (h : x ∈ cutL xs lo hi) : x ∈ xs := List.mem_of_mem_drop (List.mem_of_mem_take h)
theorem cutL_len {α : Type} (xs : List α) (lo hi : Option Int) : (cutL xs lo hi).length ≤ xs.length := by
  unfold cutL; simp; omega
def mPart : Option (Cm D) → Cm (Option Int)
  | none => fun ρ => .ok none ρ
  | some m => fun ρ => (m ρ).bind fun d ρ => match d with
    | .sc (.int i) => .ok (some i) ρ
    | _ => .stuck
def tPt (g : Gh) (W : WX) (m : Cm (Option Int)) : TO := fun σ H Q => ∃ sl tm, SR g H σ sl tm ∧ Lands g W tm (m (den sl)) fun o ρ' => ∀ H' sl', SR g H' σ sl' tm → den sl' = ρ' → Q o H'
theorem _root_.L2.PO.imp {X : Cx} {e : Option Expr} {t t' : TO} (h : PO X e t) (w : ∀ σ H Q, t' σ H Q → t σ H Q) : PO X e t' := ⟨fun pins s σ H Q I q => h.run pins s σ H Q I (w σ H Q q)⟩
theorem p_none : PO X none (tPt g W (mPart none)) := po_none.imp fun σ H Q ⟨sl, tm, s, h⟩ => h H sl s rfl
theorem p_some (h : PE X a (tE g W ma)) : PO X (some a) (tPt g W (mPart (some ma))) := (po_some h).imp fun σ H Q ⟨sl, tm, s, h⟩ => by
  refine tE.of s h fun H1 sl1 t1 s1 h1 => ?_
  cases t1 with
  | sc x =>
    cases x with
    | int i => exact ⟨i, rfl, h1 H1 sl1 s1.pop rfl⟩
    | _ => exact h1.elim
  | _ => exact h1.elim
theorem tPt.of {σ : L2.St} {H : Hp} {sl : List (Option T)} {tm : List T} {Q : Option Int → Hp → Prop} {m : Cm (Option Int)} {f : Option Int → Cm α} {k : α → DE → Prop} (s : SR g H σ sl tm) (h : Lands g W tm ((m (den sl)).bind f) k)
    (q : ∀ H' sl' o, SR g H' σ sl' tm → Lands g W tm (f o (den sl')) k → Q o H') : tPt g W m σ H Q := by
  refine ⟨sl, tm, s, ?_⟩
  cases e : m (den sl) with
  | ok d ρ =>
    rw [e] at h
    intro H' sl' s' e1
    subst e1
    exact q H' sl' d s' h
  | exc x ρ => rw [e] at h; exact h
  | stuck => rw [e] at h; exact h
def sliceD (lo hi : Option Int) : D → Option D
  | .sc (.str l) => some (.str (cutL l lo hi))
  | .lst _ xs => if Ds.pur xs then some (.lst .own (cutL xs lo hi)) else none
  | _ => none
def mSlc (oa : Opd) (lo hi : Option (Cm D)) : Cm D := fun ρ => (oa.run ρ).bind fun t ρ => (mPart lo ρ).bind fun l ρ => (mPart hi ρ).bind fun u ρ => match oa.get t ρ with
  | some x => lift (sliceD l u x) ρ
  | none => .stuck
theorem Ds.pur_mem {t : T} : ∀ {ts : List T}, Ds.pur (Ts.d ts) = true → t ∈ ts → t.d.pur = true
  | [], _, h => by cases h
  | u :: ts, h, m => by
    simp only [Ts.d, Ds.pur, Bool.and_eq_true] at h
    rcases List.mem_cons.mp m with rfl | m
    · exact h.1
    · exact Ds.pur_mem h.2 m
theorem e_slc {lo hi : Option Expr} {ml mh : Option (Cm D)} {p2 : Pos} (ha : PE X a (tO g W oa)) (hl : PO X lo (tPt g W (mPart ml))) (hh : PO X hi (tPt g W (mPart mh))) (hK : X.K = g.c.K) : PE X (.Subscript a (.Slice lo hi none p2) pos) (tE g W (mSlc oa ml mh)) :=
  (pe_slice (SlR.or sl_list sl_str) ha hl hh).imp fun σ H Q ⟨sl, tm, s, h⟩ => by
  refine tO.of s h fun H1 sl1 t1 v1 s1 d1 h1 => ?_
  refine tPt.of s1 (Lands.drops h1) fun H2 sl2 l s2 h2 => ?_
  refine tPt.of s2 h2 fun H3 sl3 u s3 h3 => ?_
  have d1' : Held g H3 oa σ sl3 t1 v1 := ⟨d1.is⟩
  have hm1 : ∀ u, t1 = some u → u ∈ xs? t1 tm := fun u e => by subst e; simp [xs?]
  split at h3
  · rename_i x ex
    obtain ⟨w, kw, ew, fw, hw⟩ := d1'.tree s3 hm1 ex
    subst fw ew
    cases w with
    | sc y =>
      cases y with
      | str z =>
        simp only [T.d, sliceD, lift_some] at h3
        simp only [T.ok] at kw
        refine .inr ⟨_, rfl, by rw [SZ_eq]; simpa [Str.length] using kw.1, ?_⟩
        have gk : (Sc.str (cutL z l u)).good := ⟨Nat.le_trans (cutL_len _ _ _) kw.1, fun c hc => kw.2 c (cutL_mem hc)⟩
        exact h3 H3 sl3 (.sc (.str (cutL z l u))) (s3.xs.push _ gk) rfl rfl
      | _ => exact h3.elim
    | lst p o xs =>
      simp only [T.d, sliceD] at h3
      split at h3
      · rename_i hp
        have q := lst_sq kw
        refine .inl ⟨p, _, rfl, by rw [hK]; exact q.1, fun n hn => ?_⟩
        have ec : cutV (xs.map T.v) l u = (cutL xs l u).map T.v := cutL_map T.v xs l u
        rw [ec]
        -- the new list's items are held by the old one too
        have hnew : SR g H3 σ sl3 ((cutL xs l u).reverse ++ tm) := by
          have hO : ∀ a, Ts.oc a (cutL xs l u) = 0 := fun a => Nat.eq_zero_of_not_pos fun hpos => by
            obtain ⟨t, m, ht⟩ := Ts.pos_oc hpos
            have := T.pur_oc a t (Ds.pur_mem hp (cutL_mem m))
            omega
          have hS : ∀ a, 0 < Ts.sh a (cutL xs l u) → 0 < Ts.sh a xs := fun a hpos => by
            obtain ⟨t, m, ht⟩ := Ts.pos_sh hpos
            have := Ts.sh_mem (a := a) (cutL_mem m)
            omega
          have okc : Ts.ok g.c H3 ((cutL xs l u).reverse ++ tm) := by
            rw [Ts.ok_iff]
            intro t m
            rcases List.mem_append.mp m with m | m
            · exact Ts.ok_iff.mp q.2.2 t (cutL_mem (List.mem_reverse.mp m))
            · exact Ts.ok_iff.mp s3.xs.okT t m
          refine s3.tmp okc fun a => ?_
          have z1 := hO a
          have z2 := hS a
          have z3 := hw a
          have z4 : Ts.sh a xs ≤ (T.lst p o xs).sh a := by simp only [T.sh]; omega
          rw [Ts.oc_append, Ts.sh_append, Ts.oc_rev, Ts.sh_rev]
          cases t1 with
          | none => simp only [xs?] at z3 ⊢; omega
          | some w => simp only [xs?, Ts.oc, Ts.sh] at z3 ⊢; omega
        exact h3 _ _ _ (hnew.newL hn (Nat.le_trans (cutL_len _ _ _) q.2.1) (by
          rw [Ts.ok_iff]; exact fun t m => Ts.ok_iff.mp q.2.2 t (cutL_mem m)) fun z => by rw [Ts.oc_rev, Ts.sh_rev]; omega) rfl (by simp [T.d, Ts.d_map, cutL_map])
      · exact h3.elim
    | _ => exact h3.elim
  · exact h3.elim
end
end VS

/-! VS, part g: statements. -/
namespace VS
open PySem PySem.Spec PyProof.Rows L2

inductive Out where
  | nx | brk | ct
  | ret (d : D)
  deriving Repr
/-- what is wanted behind a statement, by the data -/
def Post (g : Gh) (tm : List T) (De : Ends) (o : Out) (ρ' : DE) : Prop := match o with
  | .nx => ∀ H' σ' sl', SR g H' σ' sl' tm → den sl' = ρ' → De.nx σ' H'
  | .brk => ∀ H' σ' sl', SR g H' σ' sl' tm → den sl' = ρ' → De.bk σ' H'
  | .ct => ∀ H' σ' sl', SR g H' σ' sl' tm → den sl' = ρ' → De.ct σ' H'
  | .ret d => ∀ H' σ' sl' t, SR g H' σ' sl' (t :: tm) → den sl' = ρ' → t.d = d → De.rt t.v H'
def tS (g : Gh) (W : WX) (m : Cm Out) : TS := fun De σ H => ∃ sl tm, SR g H σ sl tm ∧ Lands g W tm (m (den sl)) (Post g tm De)
theorem _root_.L2.PS.imp {X : Cx} {e : Stmt} {t t' : TS} (h : PS X e t) (w : ∀ De σ H, t' De σ H → t De σ H) : PS X e t' := ⟨fun pins s σ H De I q => h.run pins s σ H De I (w De σ H q)⟩
theorem _root_.L2.PSs.imp {X : Cx} {e : List Stmt} {t t' : TS} (h : PSs X e t) (w : ∀ De σ H, t' De σ H → t De σ H) : PSs X e t' := ⟨fun pins s σ H De I q => h.run pins s σ H De I (w De σ H q)⟩

def mSeq (a b : Cm Out) : Cm Out := fun ρ => (a ρ).bind fun o ρ => match o with
  | .nx => b ρ
  | o => .ok o ρ
def mNext : Cm Out := fun ρ => .ok .nx ρ
def mBreak : Cm Out := fun ρ => .ok .brk ρ
def mCont : Cm Out := fun ρ => .ok .ct ρ
def mSet (i : Nat) (m : Cm D) : Cm Out := fun ρ => (m ρ).bind fun d ρ => .ok .nx (ρ.set i (some d))
def mAug (f : D → D → Option D) (i : Nat) (m : Cm D) : Cm Out := fun ρ => match ρ[i]? with
  | some (some _) => (m ρ).bind fun y ρ => match ρ[i]? with
    | some (some x) => (lift (f x y) ρ).bind fun d ρ => .ok .nx (ρ.set i (some d))
    | _ => .stuck
  | _ => .stuck
def mRet (m : Cm D) : Cm Out := fun ρ => (m ρ).bind fun d ρ => .ok (.ret d) ρ
def mDrop (m : Cm D) : Cm Out := fun ρ => (m ρ).bind fun _ ρ => .ok .nx ρ
def mIf (c : Cm Bool) (a b : Cm Out) : Cm Out := mIfE c a b
/-- the items of what is walked, one by one -/
def forL (g : D → Cm Unit) (b : Cm Out) : List D → Cm Out
  | [] => fun ρ => .ok .nx ρ
  | d :: ds => fun ρ => (g d ρ).bind fun _ ρ => (b ρ).bind fun o ρ => match o with
    | .nx => forL g b ds ρ
    | .ct => forL g b ds ρ
    | .brk => .ok .nx ρ
    | .ret x => .ok (.ret x) ρ
def mFor (m : Cm (List D)) (g : D → Cm Unit) (b : Cm Out) : Cm Out := fun ρ => (m ρ).bind fun ds ρ => forL g b ds ρ
def whileL (c : Cm Bool) (b : Cm Out) : Nat → Cm Out
  | 0 => fun _ => .stuck
  | n + 1 => fun ρ => (c ρ).bind fun k ρ => if k then (b ρ).bind fun o ρ => match o with
      | .nx => whileL c b n ρ
      | .ct => whileL c b n ρ
      | .brk => .ok .nx ρ
      | .ret x => .ok (.ret x) ρ
    else .ok .nx ρ
def mPut (i : Nat) : D → Cm Unit := fun d ρ => .ok () (ρ.set i (some d))

section
variable {X : Cx} {g : Gh} {W : WX} {pos : Pos} {a b c e tg iter : Expr} {st : Stmt} {sts sa sb body : List Stmt} {ma mb : Cm D} {mc : Cm Bool} {m m' : Cm Out} {α : Type}
theorem tS.of {De De' : Ends} {σ : L2.St} {H : Hp} {sl : List (Option T)} {tm : List T} {f : Out → Cm α} {k : α → DE → Prop} (s : SR g H σ sl tm) (h : Lands g W tm ((m (den sl)).bind f) k)
    (q : ∀ o sl', Lands g W tm (f o (den sl')) k → Post g tm De' o (den sl')) (hp : ∀ o sl', Post g tm De' o (den sl') → Post g tm De o (den sl')) (hd : ∀ ρ, ∃ sl', ρ = den sl') : tS g W m De σ H := by
  refine ⟨sl, tm, s, ?_⟩
  cases e : m (den sl) with
  | ok o ρ =>
    rw [e] at h
    obtain ⟨sl', rfl⟩ := hd ρ
    exact hp o sl' (q o sl' h)
  | exc x ρ => rw [e] at h; exact h
  | stuck => rw [e] at h; exact h
theorem ss_nil : PSs X [] (tS g W mNext) := pss_nil.imp fun De σ H ⟨sl, tm, s, h⟩ => h H σ sl s rfl
theorem seq_imp (De : Ends) (σ : L2.St) (H : Hp) (q : tS g W (mSeq m m') De σ H) : tSeq (tS g W m) (tS g W m') De σ H := by
  obtain ⟨sl, tm, s, h⟩ := q
  refine ⟨sl, tm, s, ?_⟩
  unfold mSeq at h
  cases e : m (den sl) with
  | ok o ρ =>
    rw [e] at h
    cases o with
    | nx => exact fun H' σ' sl' s' e' => ⟨sl', tm, s', by subst e'; exact h⟩
    | brk => exact h
    | ct => exact h
    | ret d => exact h
  | exc x ρ => rw [e] at h; exact h
  | stuck => rw [e] at h; exact h
theorem ss_cons (h1 : PS X st (tS g W m)) (h2 : PSs X sts (tS g W m')) : PSs X (st :: sts) (tS g W (mSeq m m')) := (pss_cons h1 h2).imp seq_imp
theorem ss_one (h1 : PS X st (tS g W m)) : PSs X [st] (tS g W m) := pss_one h1
theorem s_pass : PS X (.Pass pos) (tS g W mNext) := ps_pass.imp fun De σ H ⟨sl, tm, s, h⟩ => h H σ sl s rfl
theorem not_io {i : Nat} {l : List Nat} (h : g.io.map (·.1) = l) (hi : l.contains i = false) : ∀ p ∈ g.io, p.1 ≠ i := fun p hp e => by
  have : i ∈ l := by rw [← h, ← e]; exact List.mem_map_of_mem hp
  simp at hi
  exact hi this
theorem set_imp {i : Nat} (hi : i < g.N) (hio : ∀ p ∈ g.io, p.1 ≠ i) (De : Ends) (σ : L2.St) (H : Hp) (q : tS g W (mSet i ma) De σ H) : tAsg (tE g W ma) (gName i) De σ H := by
  obtain ⟨sl, tm, s, h⟩ := q
  refine tE.of s h fun H' sl' t s' h' => ?_
  exact h' H' _ _ (s'.store hi hio) (by rw [den_set]; rfl)
theorem s_set {i : Nat} {x : Str} {pos' : Pos} (hp : PS X (.Assign [.Name x pos'] e pos) (tAsg (tE g W ma) (gName i))) (hi : i < g.N) (hio : ∀ p ∈ g.io, p.1 ≠ i) : PS X (.Assign [.Name x pos'] e pos) (tS g W (mSet i ma)) :=
  hp.imp (set_imp hi hio)
theorem s_ret (h : PE X e (tE g W ma)) : PS X (.Return (some e) pos) (tS g W (mRet ma)) := (ps_ret h).imp fun De σ H ⟨sl, tm, s, h⟩ => by
  refine tE.of s h fun H' sl' t s' h' => ?_
  exact h' H' σ sl' t s' rfl rfl
theorem s_expr (h : PE X e (tE g W ma)) (hs : swapsWith e none pos.line X.env = pure false := by rfl) : PS X (.Expr e pos) (tS g W (mDrop ma)) := (ps_expr h hs).imp fun De σ H ⟨sl, tm, s, h⟩ => by
  refine tE.of s h fun H' sl' t s' h' => ?_
  exact h' H' σ sl' s'.pop rfl
theorem s_if (hc : PT X c (tT g W mc)) (ha : PSs X sa (tS g W m)) (hb : PSs X sb (tS g W m')) : PS X (.If c sa sb pos) (tS g W (mIf mc m m')) := (ps_if hc ha hb).imp fun De σ H ⟨sl, tm, s, h⟩ => by
  refine tT.of s h fun H' sl' k s' h' => ?_
  cases k with
  | true => rw [if_pos rfl]; exact ⟨sl', tm, s', h'⟩
  | false => rw [if_neg Bool.false_ne_true]; exact ⟨sl', tm, s', h'⟩

/-! ### targets -/
def tG (g : Gh) (W : WX) (f : D → Cm Unit) : TG := fun v σ H Q => ∃ sl tm t, SR g H σ sl (t :: tm) ∧ t.v = v ∧ Lands g W tm (f t.d (den sl)) fun _ ρ' => ∀ H' σ' sl', SR g H' σ' sl' tm → den sl' = ρ' → Q σ' H'
theorem _root_.L2.PG.imp {X : Cx} {e : Expr} {t t' : TG} (h : PG X e t) (w : ∀ v σ H Q, t' v σ H Q → t v σ H Q) : PG X e t' := ⟨fun pins s σ H v u Q I r q => h.run pins s σ H v u Q I r (w v σ H Q q)⟩
theorem g_name {i : Nat} (hp : PG X tg (gName i)) (hi : i < g.N) (hio : ∀ p ∈ g.io, p.1 ≠ i) : PG X tg (tG g W (mPut i)) := hp.imp fun v σ H Q ⟨sl, tm, t, s, e, h⟩ => by
  subst e
  exact h H _ _ (s.store hi hio) (by rw [den_set]; rfl)
/-- the targets of a tuple's items, from the left -/
def putAll : List (D → Cm Unit) → List D → Cm Unit
  | [], [] => fun ρ => .ok () ρ
  | f :: fs, d :: ds => fun ρ => (f d ρ).bind fun _ ρ => putAll fs ds ρ
  | _, _ => fun _ => .stuck
def mUnp (fs : List (D → Cm Unit)) : D → Cm Unit
  | .tup ds => putAll fs ds
  | _ => fun _ => .stuck
def tGs (g : Gh) (W : WX) (fs : List (D → Cm Unit)) : TGs := fun vs σ H Q => ∃ sl tm ts, SR g H σ sl (ts ++ tm) ∧ ts.map T.v = vs ∧ Lands g W tm (putAll fs (Ts.d ts) (den sl)) fun _ ρ' => ∀ H' σ' sl', SR g H' σ' sl' tm → den sl' = ρ' → Q σ' H'
theorem _root_.L2.PGs.imp {X : Cx} {e : List Expr} {t t' : TGs} (h : PGs X e t) (w : ∀ v σ H Q, t' v σ H Q → t v σ H Q) : PGs X e t' := ⟨fun pins s σ H v u Q I r q => h.run pins s σ H v u Q I r (w v σ H Q q)⟩
theorem Lands.dropsL {tm : List T} {r : R α} {k : α → DE → Prop} : ∀ {ts : List T}, Lands g W tm r k → Lands g W (ts ++ tm) r k
  | [], h => h
  | t :: ts, h => Lands.drop (Lands.dropsL (ts := ts) h)
theorem gs_nil : PGs X [] (tGs g W []) := pgs_nil.imp fun vs σ H Q ⟨sl, tm, ts, s, e, h⟩ => by
  cases ts with
  | nil => exact ⟨e.symm, h H σ sl s rfl⟩
  | cons t ts => exact h.elim
theorem gs_cons {es : List Expr} {f : D → Cm Unit} {fs : List (D → Cm Unit)} (h1 : PG X e (tG g W f)) (h2 : PGs X es (tGs g W fs)) (hs : (assignEach (e :: es) X.env).map (·.2) = assign e X.env :: (assignEach es X.env).map (·.2) := by rfl) :
    PGs X (e :: es) (tGs g W (f :: fs)) := (pgs_cons h1 h2 hs).imp fun vs σ H Q ⟨sl, tm, ts, s, e, h⟩ => by
  cases ts with
  | nil => exact h.elim
  | cons t ts =>
    refine ⟨t.v, ts.map T.v, e.symm, sl, ts ++ tm, t, s, rfl, ?_⟩
    simp only [Ts.d, putAll] at h
    cases q : f t.d (den sl) with
    | ok u ρ =>
      rw [q] at h
      intro H' σ' sl' s' e'
      exact ⟨sl', tm, ts, s', rfl, by subst e'; exact h⟩
    | exc x ρ => rw [q] at h; exact Lands.dropsL (r := (R.exc x ρ : R Unit)) (k := fun _ _ => False) (ts := ts) h
    | stuck => rw [q] at h; exact h
theorem SR.open_ {H : Hp} {σ : L2.St} {sl : List (Option T)} {tm : List T} {p : Addr} {st : Bool} {xs : List T} (s : SR g H σ sl (T.tup p st xs :: tm)) : SR g H σ sl (xs ++ tm) := by
  have k := s.okT
  simp only [Ts.ok] at k
  have q := tup_sq k.1
  refine s.tmp ?_ fun a => ?_
  · rw [Ts.ok_iff]
    intro t m
    rcases List.mem_append.mp m with m | m
    · exact Ts.ok_iff.mp q.2.2 t m
    · exact Ts.ok_iff.mp k.2 t m
  · rw [Ts.oc_append, Ts.sh_append]
    simp only [Ts.oc, Ts.sh, T.oc, T.sh]
    omega
theorem g_tup {es : List Expr} {k n : Nat} {fs : List (D → Cm Unit)} (hc : X.calm = true) (h : PGs X es (tGs g W fs)) (hK : X.K = g.c.K)
    (hn : (assignEach es X.env).length = n := by rfl) (hst : (assignEach es X.env).findIdx? (·.1) = none := by rfl) (hfn : fs.length = n := by rfl) : PG X (.Tuple es k pos) (tG g W (fun d ρ => match d with
      | .tup ds => if ds.length = fs.length then putAll fs ds ρ else .stuck
      | _ => .stuck)) := (pg_tup hc h hn hst).imp fun v σ H Q ⟨sl, tm, t, s, e, h⟩ => by
  subst e
  cases t with
  | tup p st xs =>
    simp only [T.d] at h
    split at h
    · rename_i hl
      rw [Ts.d_len] at hl
      have q := tup_sq s.top
      refine ⟨p, _, rfl, by rw [hK]; exact q.1, by simp; omega, sl, tm, xs, s.open_, rfl, h⟩
    · exact h.elim
  | _ => exact h.elim
/-- target = value -/
def mAsg (ma : Cm D) (f : D → Cm Unit) : Cm Out := fun ρ => (ma ρ).bind fun d ρ => (f d ρ).bind fun _ ρ => .ok .nx ρ
theorem s_asg {f : D → Cm Unit} (he : PE X e (tE g W ma)) (hg : PG X tg (tG g W f)) (hs : swapsWithSole [tg] e pos.line X.env = pure false := by rfl) (hw : swappedStores [tg] e X.env = pure none := by rfl)
    (h1 : (assignEach [tg] X.env).map (·.2) = [assign tg X.env] := by rfl) : PS X (.Assign [tg] e pos) (tS g W (mAsg ma f)) := (ps_asg he hg hs hw h1).imp fun De σ H ⟨sl, tm, s, h⟩ => by
  refine tE.of s h fun H' sl' t s' h' => ?_
  refine ⟨sl', tm, t, s', rfl, ?_⟩
  cases q : f t.d (den sl') with
  | ok u ρ => rw [q] at h'; exact h'
  | exc x ρ => rw [q] at h'; exact h'
  | stuck => rw [q] at h'; exact h'
/-- a, b = x, y -/
def mPar (i j : Nat) (ma mb : Cm D) : Cm Out := fun ρ => (ma ρ).bind fun x ρ => (mb ρ).bind fun y ρ => .ok .nx ((ρ.set i (some x)).set j (some y))
end
end VS

/-! VS, part h: x += e, for, while, what is walked. -/
namespace VS
open PySem PySem.Spec PyProof.Rows L2

section
variable {X : Cx} {g : Gh} {W : WX} {pos : Pos} {a b c e tg iter : Expr} {st : Stmt} {sts sa sb body : List Stmt} {ma mb : Cm D} {mc : Cm Bool} {m m' : Cm Out} {α : Type}
/-! ### x += e of ints and texts -/
def augA : D → D → Option D
  | .sc (.int i), .sc (.int j) => some (.int (i + j))
  | .sc (.str a), .sc (.str b) => if a.length + b.length ≤ 16777216 then some (.str (a ++ b)) else none
  | _, _ => none
theorem aug_sc {f : D → D → Option D} {ti : TIp} {i : Nat} (hi : i < g.N) (hio : ∀ p ∈ g.io, p.1 ≠ i)
    (hf : ∀ x y d, f x y = some d → ∃ a b c : Sc, x = .sc a ∧ y = .sc b ∧ d = .sc c ∧ (a.good → b.good → c.good) ∧ ∀ H Q, Q c.v H → ti a.v b.v H Q) (De : Ends) (σ : L2.St) (H : Hp) (q : tS g W (mAug f i ma) De σ H) : tAug i (tE g W ma) ti De σ H := by
  obtain ⟨sl, tm, s, h⟩ := q
  unfold mAug at h
  split at h
  · rename_i d0 e0
    obtain ⟨t0, e1, _, _, e3⟩ := s.val e0
    refine ⟨t0.v, e3, ?_⟩
    refine tE.of s h fun H' sl' t s' h' => ?_
    split at h'
    · rename_i x ex
      obtain ⟨t1, g1, g2, g4, g3⟩ := s'.val ex
      rw [e3] at g3
      have ev : t0.v = t1.v := Option.some.inj (Option.some.inj g3)
      subst g2
      cases qf : f t1.d t.d with
      | none => rw [qf] at h'; exact h'.elim
      | some d =>
        rw [qf] at h'
        obtain ⟨x, y, z, k1, k2, rfl, kg, kt⟩ := hf _ _ _ qf
        cases t1 with
        | sc x' =>
          cases t with
          | sc y' =>
            simp only [T.d, D.sc.injEq] at k1 k2
            subst k1 k2
            rw [ev]
            have gx : x'.good := by simpa [T.ok] using g4
            have gy : y'.good := by simpa [T.ok] using s'.top
            refine kt H' _ ?_
            exact h' H' _ _ ((s'.pop.push z (kg gx gy)).store hi hio) (by rw [den_set]; rfl)
          | _ => simp [T.d] at k2
        | _ => simp [T.d] at k1
    · exact h'.elim
  · exact h.elim
theorem ip_of {op : Operator} {r : R2} (h : OpR X (inplaceOp op) r) : PIp X op r := fun pins s σ H x y v u Q I r1 r2 q => h pins s σ H x y v u Q I r1 r2 q
theorem ip_addA : PIp X .Add (fun x y H Q => (∃ i j, x = .int i ∧ y = .int j ∧ Q (.int (i + j)) H) ∨ ∃ i j, x = .str i ∧ y = .str j ∧ i.length + j.length ≤ sizeLine ∧ Q (.str (i ++ j)) H) := ip_of (OpR.or iop_add iop_add_str)
theorem s_augA {i : Nat} {x : Str} {pos' : Pos} (hp : PS X (.AugAssign (.Name x pos') .Add e pos) (tAug i (tE g W ma) (fun x y H Q => (∃ i j, x = .int i ∧ y = .int j ∧ Q (.int (i + j)) H) ∨ ∃ i j, x = .str i ∧ y = .str j ∧ i.length + j.length ≤ sizeLine ∧ Q (.str (i ++ j)) H)))
    (hi : i < g.N) (hio : ∀ p ∈ g.io, p.1 ≠ i) : PS X (.AugAssign (.Name x pos') .Add e pos) (tS g W (mAug augA i ma)) := hp.imp (aug_sc hi hio fun x y d h => by
  unfold augA at h
  split at h
  · cases h
    exact ⟨_, _, _, rfl, rfl, rfl, fun _ _ => trivial, fun H Q q => .inl ⟨_, _, rfl, rfl, q⟩⟩
  · split at h
    · rename_i x y hz
      cases h
      exact ⟨_, _, _, rfl, rfl, rfl, fun gx gy => good_append gx gy hz, fun H Q q => .inr ⟨_, _, rfl, rfl, by rw [SZ_eq]; simpa [Str.length] using hz, by rw [Str.app]; exact q⟩⟩
    · cases h
  · cases h)
/-! ### what is walked -/
/-- an iterator that gives these data, one by one, while hd is held -/
structure ItOk (g : Gh) (J : It) (hd : List T) (ds : List D) : Prop where
  stop : ∀ H σ sl tm, SR g H σ sl (hd ++ tm) → J.stop ds.length H
  go : ∀ i d H σ sl tm, SR g H σ sl (hd ++ tm) → ds[i]? = some d → J.go i H ∧ ∀ x H', J.yld i H x H' → ∃ t : T, SR g H' σ sl (t :: (hd ++ tm)) ∧ t.d = d ∧ t.v = x
def tI (g : Gh) (W : WX) (m : Cm (List D)) : TI := fun σ H R => ∃ sl tm, SR g H σ sl tm ∧ Lands g W tm (m (den sl)) fun ds ρ' => ∀ H' sl' hd J, SR g H' σ sl' (hd ++ tm) → den sl' = ρ' → ItOk g J hd ds → R J H'
theorem _root_.L2.PI.imp {X : Cx} {tg e : Expr} {t t' : TI} (h : PI X tg e t) (w : ∀ σ H Q, t' σ H Q → t σ H Q) : PI X tg e t' := ⟨fun pins s σ H Q I q => h.run pins s σ H Q I (w σ H Q q)⟩
theorem exP.dropsL {tm : List T} {x : Ex} {ρ : DE} : ∀ {ts : List T}, exP g W tm x ρ → exP g W (ts ++ tm) x ρ
  | [], h => h
  | t :: ts, h => exP.drop (exP.dropsL (ts := ts) h)
theorem SR.popL {H : Hp} {σ : L2.St} {sl : List (Option T)} {tm : List T} : ∀ {ts : List T}, SR g H σ sl (ts ++ tm) → SR g H σ sl tm
  | [], h => h
  | t :: ts, h => SR.popL (ts := ts) h.pop
theorem SR.popL1 {H : Hp} {σ : L2.St} {sl : List (Option T)} {tm : List T} {u : T} : ∀ {ts : List T}, SR g H σ sl (u :: (ts ++ tm)) → SR g H σ sl (u :: tm)
  | [], h => h
  | t :: ts, h => SR.popL1 (ts := ts) (h.tmp (by have := h.okT; simp only [List.cons_append, Ts.ok] at this ⊢; exact ⟨this.1, this.2.2⟩) fun a => by simp only [List.cons_append, Ts.oc, Ts.sh]; omega)
theorem for_imp {mi : Cm (List D)} {f : D → Cm Unit} (De : Ends) (σ : L2.St) (H : Hp) (q : tS g W (mFor mi f m) De σ H) : tFor (tI g W mi) (tG g W f) (tS g W m) De σ H := by
  obtain ⟨sl, tm, s, h⟩ := q
  unfold mFor at h
  refine ⟨sl, tm, s, ?_⟩
  cases e : mi (den sl) with
  | exc x ρ => rw [e] at h; exact h
  | stuck => rw [e] at h; exact h
  | ok ds ρ =>
    rw [e] at h
    intro H1 sl1 hd J s1 e1 hJ
    subst e1
    refine ⟨fun i n σ H => ∃ sl, SR g H σ sl (hd ++ tm) ∧ n = ds.length - i ∧ i ≤ ds.length ∧ Lands g W tm (forL f m (ds.drop i) (den sl)) (Post g tm De), ⟨ds.length, sl1, s1, by omega, by omega, by simpa using h⟩, ?_⟩
    rintro i n σ H ⟨sl, s, rfl, hi, hl⟩
    by_cases hlt : i < ds.length
    · obtain ⟨d, hd'⟩ : ∃ d, ds[i]? = some d := ⟨ds[i], List.getElem?_eq_getElem hlt⟩
      have hdrop : ds.drop i = d :: ds.drop (i + 1) := by
        rw [List.drop_eq_getElem_cons hlt]
        rw [List.getElem?_eq_getElem hlt] at hd'
        rw [Option.some.inj hd']
      rw [hdrop] at hl
      obtain ⟨go, yl⟩ := hJ.go i d H σ sl tm s hd'
      refine .inr ⟨go, fun σ' H' => ∃ sl, SR g H' σ' sl (hd ++ tm) ∧ Lands g W tm (forL f m (ds.drop (i + 1)) (den sl)) (Post g tm De), fun σ' H' ⟨sl', s', h'⟩ => ⟨ds.length - (i + 1), by omega, sl', s', rfl, by omega, h'⟩, fun x H' hy => ?_⟩
      obtain ⟨t, s2, rfl, rfl⟩ := yl x H' hy
      refine ⟨sl, hd ++ tm, t, s2, rfl, ?_⟩
      simp only [forL] at hl
      cases q1 : f t.d (den sl) with
      | exc x ρ => rw [q1] at hl; exact exP.dropsL hl
      | stuck => rw [q1] at hl; exact hl
      | ok u ρ =>
        rw [q1] at hl
        intro H3 σ3 sl3 s3 e3
        subst e3
        refine ⟨sl3, hd ++ tm, s3, ?_⟩
        simp only [R.bind_ok] at hl
        cases q2 : m (den sl3) with
        | exc x ρ => rw [q2] at hl; exact exP.dropsL hl
        | stuck => rw [q2] at hl; exact hl
        | ok o ρ =>
          rw [q2] at hl
          cases o with
          | nx => exact fun H' σ' sl' s' e' => ⟨sl', s', by subst e'; exact hl⟩
          | ct => exact fun H' σ' sl' s' e' => ⟨sl', s', by subst e'; exact hl⟩
          | brk => exact fun H' σ' sl' s' e' => hl H' σ' sl' s'.popL e'
          | ret d => exact fun H' σ' sl' t s' e1 e2 => hl H' σ' sl' t s'.popL1 e1 e2
    · have e : i = ds.length := by omega
      subst e
      rw [List.drop_length] at hl
      exact .inl ⟨hJ.stop H σ sl tm s, hl H σ sl s.popL rfl⟩
theorem s_for {mi : Cm (List D)} {f : D → Cm Unit} (hp : PassesOwn (model X.prog X.w) X.A X.env X.xe) (hc : X.calm = true) (hi : PI X tg iter (tI g W mi)) (hg : PG X tg (tG g W f)) (hb : PSs X body (tS g W m))
    (hs : ∀ x, foldedSetIterable iter X.env x = pure x := by intro _; rfl) : PS X (.For tg iter body [] pos) (tS g W (mFor mi f m)) := (ps_for hp hc hi hg hb hs).imp for_imp
def FUEL : Nat := 1000000000
def mWhile (c : Cm Bool) (b : Cm Out) : Cm Out := whileL c b FUEL
theorem while_imp (n : Nat) (De : Ends) (σ : L2.St) (H : Hp) (q : tS g W (whileL mc m n) De σ H) : tWhile (tT g W mc) (tS g W m) De σ H := by
  obtain ⟨sl, tm, s, h⟩ := q
  refine ⟨fun n σ H => ∃ sl, SR g H σ sl tm ∧ Lands g W tm (whileL mc m n (den sl)) (Post g tm De), ⟨n, sl, s, h⟩, ?_⟩
  rintro n σ H ⟨sl, s, h⟩
  cases n with
  | zero => exact h.elim
  | succ n =>
    simp only [whileL] at h
    refine tT.of s h fun H' sl' k s' h' => ?_
    cases k with
    | false => rw [if_neg Bool.false_ne_true]; exact h' H' σ sl' s' rfl
    | true =>
      rw [if_pos rfl]
      refine ⟨fun σ' H' => ∃ sl, SR g H' σ' sl tm ∧ Lands g W tm (whileL mc m n (den sl)) (Post g tm De), fun σ' H' ⟨sl, s, h⟩ => ⟨n, by omega, sl, s, h⟩, sl', tm, s', ?_⟩
      simp only [if_true] at h'
      cases q2 : m (den sl') with
      | exc x ρ => rw [q2] at h'; exact h'
      | stuck => rw [q2] at h'; exact h'
      | ok o ρ =>
        rw [q2] at h'
        cases o with
        | nx => exact fun H' σ' sl' s' e' => ⟨sl', s', by subst e'; exact h'⟩
        | ct => exact fun H' σ' sl' s' e' => ⟨sl', s', by subst e'; exact h'⟩
        | brk => exact h'
        | ret d => exact h'
theorem s_while (hp : PassesOwn (model X.prog X.w) X.A X.env X.xe) (hc : PT X c (tT g W mc)) (hb : PSs X body (tS g W m)) : PS X (.While c body [] pos) (tS g W (mWhile mc m)) := (ps_while hp hc hb).imp (while_imp FUEL)

/-- a list (or a tuple) that is walked: held by two from now on -/
def mItemsL (ma : Cm D) : Cm (List D) := fun ρ => (ma ρ).bind fun d ρ => match d.fz with
  | .lst _ ds => .ok ds ρ
  | _ => .stuck
def mItemsT (ma : Cm D) : Cm (List D) := fun ρ => (ma ρ).bind fun d ρ => match d.fz with
  | .tup ds => .ok ds ρ
  | _ => .stuck
theorem SR.fz1 {H : Hp} {σ : L2.St} {sl : List (Option T)} {tm : List T} {t : T} (s : SR g H σ sl (t :: tm)) : SR g H σ sl (t.fz :: tm) :=
  s.tmp (by have := s.okT; simp only [Ts.ok] at this ⊢; exact ⟨T.fz_ok t this.1, this.2⟩) fun a => by
    have i := s.inv a
    simp only [Ts.oc, Ts.sh, T.fz_oc, T.fz_sh] at i ⊢
    omega
theorem SR.dupK {H : Hp} {σ : L2.St} {sl : List (Option T)} {tm tms : List T} {u : T} (s : SR g H σ sl tm) (ok : u.ok g.c H) (ho : ∀ a, u.oc a = 0) (hs : ∀ a, u.sh a ≤ Ts.sh a tm) : SR g H σ sl (u :: tm) :=
  s.tmp (by simp only [Ts.ok]; exact ⟨ok, s.okT⟩) fun a => by have := ho a; have := hs a; simp only [Ts.oc, Ts.sh]; omega
theorem it_list {K : PySem.W.Frag} (hK : K = g.c.K) {p : Addr} {o : Ow} {xs : List T} (hx : ∀ a, Ts.oc a xs = 0) : ItOk g (Itl K p) [T.lst p o xs] (Ts.d xs) where
  stop := fun H σ sl tm s => by
    have q := lst_sq s.top
    exact ⟨_, by rw [hK]; exact q.1, by simp [Ts.d_len]⟩
  go := fun i d H σ sl tm s h => by
    have q := lst_sq s.top
    rw [Ts.d_map, List.getElem?_map, Option.map_eq_some_iff] at h
    obtain ⟨t, ht, rfl⟩ := h
    have m := List.mem_of_getElem? ht
    refine ⟨⟨_, t.v, by rw [hK]; exact q.1, by rw [List.getElem?_map, ht]; rfl⟩, fun x H' hy => ?_⟩
    obtain ⟨rfl, hy⟩ := hy
    have e := hy _ (by rw [hK]; exact q.1)
    rw [List.getElem?_map, ht] at e
    refine ⟨t, s.dupK (tms := []) (Ts.ok_iff.mp q.2.2 t m) (fun a => ?_) (fun a => ?_), rfl, Option.some.inj e⟩
    · have h1 := Ts.oc_mem (a := a) m; have := hx a; omega
    · have h1 := Ts.sh_mem (a := a) m
      simp only [List.singleton_append, Ts.sh, T.sh]; omega
theorem i_list (hK : X.K = g.c.K) (h : PE X iter (tE g W ma)) : PI X tg iter (tI g W (mItemsL ma)) := (pi_list h).imp fun σ H R ⟨sl, tm, s, q⟩ => by
  refine tE.of s q fun H' sl' t s' h' => ?_
  rw [← T.fz_d] at h'
  have s2 := s'.fz1
  rw [← T.fz_v]
  cases e : t.fz with
  | lst p o xs =>
    rw [e] at h' s2
    refine ⟨p, rfl, ⟨_, by rw [hK]; exact (lst_sq s2.top).1⟩, h' H' sl' [_] _ s2 rfl (it_list hK fun a => ?_)⟩
    have := T.fz_oc a t
    rw [e] at this
    simp only [T.oc] at this
    omega
  | _ => rw [e] at h'; exact h'.elim
/-- range -/
def rangeD (lo : Int) (n : Nat) : List D := (List.range n).map fun k : Nat => D.int (lo + (k : Int))
def smallR (i : Int) : Prop := i.natAbs < 4611686018427387904
instance (i : Int) : Decidable (smallR i) := by unfold smallR; infer_instance
def mRange1 (ma : Cm D) : Cm (List D) := fun ρ => (ma ρ).bind fun d ρ => match d with
  | .sc (.int j) => if smallR j then .ok (rangeD 0 j.toNat) ρ else .stuck
  | _ => .stuck
def mRange2 (ma mb : Cm D) : Cm (List D) := fun ρ => (ma ρ).bind fun d ρ => (mb ρ).bind fun d' ρ => match d, d' with
  | .sc (.int i), .sc (.int j) => if smallR i ∧ smallR j then .ok (rangeD i (j - i).toNat) ρ else .stuck
  | _, _ => .stuck
theorem it_range {lo : Int} {n : Nat} : ItOk g (Itr lo n) [] (rangeD lo n) where
  stop := fun H σ sl tm s => by simp [rangeD, Itr]
  go := fun i d H σ sl tm s h => by
    unfold rangeD at h
    rw [List.getElem?_map, Option.map_eq_some_iff] at h
    obtain ⟨k, hk, rfl⟩ := h
    have hlt : i < n := by
      by_cases q : i < n
      · exact q
      · rw [List.getElem?_eq_none (by simp; omega)] at hk; cases hk
    rw [List.getElem?_range hlt] at hk
    cases hk
    refine ⟨hlt, fun x H' hy => ?_⟩
    obtain ⟨rfl, rfl⟩ := hy
    exact ⟨.sc (.int (lo + (i : Int))), s.push _ trivial, rfl, rfl⟩
theorem small62 {i : Int} (h : smallR i) : -(2 ^ 62) ≤ i ∧ i < 2 ^ 62 := by
  have : (2 : Int) ^ 62 = 4611686018427387904 := by decide
  unfold smallR at h
  omega
theorem tA1 {σ : L2.St} {H : Hp} {sl : List (Option T)} {tm : List T} {Q : List V → Hp → Prop} {f : D → Cm α} {k : α → DE → Prop} (s : SR g H σ sl tm) (h : Lands g W tm ((ma (den sl)).bind f) k)
    (q : ∀ H' sl' t, SR g H' σ sl' (t :: tm) → Lands g W tm (f t.d (den sl')) k → Q [t.v] H') : tA g W [ma] σ H Q := by
  refine tA.of (f := fun ds ρ => match ds with | [d] => f d ρ | _ => .stuck) (k := k) s ?_ fun H' sl' ts s' h' => ?_
  · revert h
    simp only [mArgs]
    cases ma (den sl) <;> simp [R.bind, Lands]
  · match ts, s', h' with
    | [], _, h' => exact h'.elim
    | _ :: _ :: _, _, h' => exact h'.elim
    | [t], s', h' => exact q H' sl' t s' h'
theorem tA2 {σ : L2.St} {H : Hp} {sl : List (Option T)} {tm : List T} {Q : List V → Hp → Prop} {f : D → D → Cm α} {k : α → DE → Prop} (s : SR g H σ sl tm) (h : Lands g W tm ((ma (den sl)).bind fun x ρ => (mb ρ).bind fun y ρ => f x y ρ) k)
    (q : ∀ H' sl' t u, SR g H' σ sl' (u :: t :: tm) → Lands g W tm (f t.d u.d (den sl')) k → Q [t.v, u.v] H') : tA g W [ma, mb] σ H Q := by
  refine tA.of (f := fun ds ρ => match ds with | [x, y] => f x y ρ | _ => .stuck) (k := k) s ?_ fun H' sl' ts s' h' => ?_
  · revert h
    simp only [mArgs]
    cases ma (den sl) with
    | ok x ρ => cases e : mb ρ <;> simp [e, R.bind, Lands]
    | exc x ρ => simp [R.bind, Lands]
    | stuck => simp [R.bind, Lands]
  · match ts, s', h' with
    | [], _, h' => exact h'.elim
    | [_], _, h' => exact h'.elim
    | _ :: _ :: _ :: _, _, h' => exact h'.elim
    | [t, u], s', h' => exact q H' sl' t u s' h'
theorem i_range1 {p : Pos} (hg : Gl X "range") (hm : X.mg "range" = none) (ha : PA X [a] (tA g W [ma])) (hs : starEach [a] X.env = [(false, eval a X.env)] := by rfl) : PI X tg (.Call (.Name "range" p) [a] [] pos) (tI g W (mRange1 ma)) := (pi_range1 hg hm ha hs).imp fun σ H R ⟨sl, tm, s, q⟩ => by
  refine tA1 s q fun H' sl' t s' h' => ?_
  cases t with
  | sc x =>
    cases x with
    | int j =>
      simp only [T.d] at h'
      split at h'
      · rename_i hj
        exact ⟨j, rfl, (small62 hj).1, (small62 hj).2, h' H' sl' [] _ s'.pop rfl it_range⟩
      · exact h'.elim
    | _ => exact h'.elim
  | _ => exact h'.elim
theorem i_range2 {p : Pos} (hg : Gl X "range") (hm : X.mg "range" = none) (ha : PA X [a, b] (tA g W [ma, mb])) (hs : starEach [a, b] X.env = [(false, eval a X.env), (false, eval b X.env)] := by rfl) (hs2 : starEach [b] X.env = [(false, eval b X.env)] := by rfl) :
    PI X tg (.Call (.Name "range" p) [a, b] [] pos) (tI g W (mRange2 ma mb)) := (pi_range2 hg hm ha hs hs2).imp fun σ H R ⟨sl, tm, s, q⟩ => by
  refine tA2 s q fun H' sl' t u s' h' => ?_
  cases t with
  | sc x =>
    cases u with
    | sc y =>
      cases x with
      | int i =>
        cases y with
        | int j =>
          simp only [T.d] at h'
          split at h'
          · rename_i hj
            exact ⟨i, j, rfl, ⟨(small62 hj.1).1, (small62 hj.1).2, (small62 hj.2).1, (small62 hj.2).2⟩, h' H' sl' [] _ s'.pop.pop rfl it_range⟩
          · exact h'.elim
        | _ => exact h'.elim
      | _ => exact h'.elim
    | _ => exact absurd h' (by cases x <;> exact id)
  | _ => exact h'.elim
end
end VS

/-! VS, part i: comprehensions. -/
namespace VS
open PySem PySem.Spec PyProof.Rows L2

def wipeD (ρ : DE) : List Nat → DE
  | [] => ρ
  | v :: vs => (wipeD ρ vs).set v none
def wipeS (sl : List (Option T)) : List Nat → List (Option T)
  | [] => sl
  | v :: vs => (wipeS sl vs).set v none
/-- what stood in the block's own slots: nothing, or no made thing -/
def saved (ρ : DE) : List Nat → Option (List (Option Sc))
  | [] => some []
  | v :: vs => match ρ[v]? with
    | some none => (saved ρ vs).map (none :: ·)
    | some (some (.sc s)) => (saved ρ vs).map (some s :: ·)
    | _ => none
def restD (ρ : DE) : List Nat → List (Option Sc) → DE
  | v :: vs, s :: ss => (restD ρ vs ss).set v (s.map D.sc)
  | _, _ => ρ
def lcL (g : D → Cm Unit) (t : Cm Bool) (e : Cm D) (vs : List Nat) : List D → Cm (List D)
  | [] => fun ρ => .ok [] ρ
  | d :: ds => fun ρ => (g d ρ).bind fun _ ρ => (t ρ).bind fun b ρ => if b then (e ρ).bind fun y ρ => (lcL g t e vs ds (wipeD ρ vs)).bind fun r ρ => .ok (y :: r) ρ else lcL g t e vs ds (wipeD ρ vs)
/-- nothing is raised within -/
def unexc {α : Type} : R α → R α
  | .ok a ρ => .ok a ρ
  | _ => .stuck
@[simp] theorem unexc_ok {α : Type} (a : α) (ρ : DE) : unexc (.ok a ρ) = .ok a ρ := rfl
def mYes : Cm Bool := fun ρ => .ok true ρ
def mLc (mi : Cm (List D)) (g : D → Cm Unit) (t : Cm Bool) (e : Cm D) (vs : List Nat) : Cm D := fun ρ => (mi ρ).bind fun ds ρ => match saved ρ vs with
  | some ss => if ds.length ≤ 16777216 then (unexc (lcL g t e vs ds (wipeD ρ vs))).bind fun r ρ => .ok (.lst .own r) (restD ρ vs ss) else .stuck
  | none => .stuck

section
variable {X : Cx} {g : Gh} {W : WX} {pos : Pos} {ma mb : Cm D} {mc : Cm Bool} {α : Type}
theorem den_wipe (sl : List (Option T)) : ∀ vs : List Nat, den (wipeS sl vs) = wipeD (den sl) vs
  | [] => rfl
  | v :: vs => by unfold wipeS wipeD; rw [den_set, den_wipe sl vs]; rfl
theorem wipeS_get {sl : List (Option T)} {i : Nat} {t : T} : ∀ {vs : List Nat}, (wipeS sl vs)[i]? = some (some t) → sl[i]? = some (some t) ∧ i ∉ vs
  | [], h => ⟨h, by simp⟩
  | v :: vs, h => by
    unfold wipeS at h
    rcases set_get h with ⟨_, e⟩ | ⟨ne, e⟩
    · cases e
    · obtain ⟨h1, h2⟩ := wipeS_get e
      exact ⟨h1, by simp only [List.mem_cons, not_or]; exact ⟨ne, h2⟩⟩
theorem wipeS_len (sl : List (Option T)) : ∀ vs : List Nat, (wipeS sl vs).length = sl.length
  | [] => rfl
  | v :: vs => by unfold wipeS; rw [List.length_set, wipeS_len sl vs]
theorem So_wipe {f : T → Nat} (sl : List (Option T)) : ∀ vs : List Nat, So f (wipeS sl vs) ≤ So f sl
  | [] => by simp [wipeS]
  | v :: vs => by
    unfold wipeS
    have ih := So_wipe (f := f) sl vs
    by_cases h : v < (wipeS sl vs).length
    · have := So_set (f := f) (x := none) (List.getElem?_eq_getElem h)
      simp only [fO] at this
      omega
    · rw [List.set_eq_of_length_le (by omega)]; exact ih
theorem wipe_get {σ : L2.St} {i : Nat} : ∀ {vs : List Nat}, i ∉ vs → (wipe σ vs)[i]? = σ[i]?
  | [], _ => rfl
  | v :: vs, h => by
    simp only [List.mem_cons, not_or] at h
    unfold wipe
    rw [List.getElem?_set_ne (fun e => h.1 e.symm)]
    exact wipe_get h.2
theorem lookup_zip {α : Type} {i : Nat} {x : α} : ∀ {vs : List Nat} {ss : List α}, (vs.zip ss).lookup i = some x → i ∈ vs
  | [], _, h => by simp at h
  | v :: vs, [], h => by simp at h
  | v :: vs, s :: ss, h => by
    rw [List.zip_cons_cons, List.lookup_cons] at h
    split at h
    · rename_i e
      have e : i = v := by simpa using e
      simp [e]
    · exact List.mem_cons_of_mem _ (lookup_zip h)
theorem mem_get {α : Type} {x : α} {l : List α} (h : x ∈ l) : ∃ i : Nat, l[i]? = some x := by
  obtain ⟨i, hi, e⟩ := List.getElem_of_mem h
  exact ⟨i, by rw [List.getElem?_eq_getElem hi, e]⟩
/-- into a block -/
theorem SR.wipe {H : Hp} {σ : L2.St} {sl : List (Option T)} {tm : List T} {vs : List Nat} (s : SR g H σ sl tm) (hio : ∀ p ∈ g.io, p.1 ∉ vs) : SR g H (L2.wipe σ vs) (wipeS sl vs) tm := by
  refine s.go (fun t m => ?_) s.okT (fun a => .inl ?_) (fun _ => .inl rfl) (by rw [wipe_length]; exact s.len) (by rw [wipeS_len]; exact s.slen) (fun i t h => ?_) (fun p hp => ?_)
  · obtain ⟨i, hi⟩ := mem_get m
    exact s.okS t (List.mem_of_getElem? (wipeS_get hi).1)
  · have h1 := So_wipe (f := T.oc a) sl vs
    have h2 := So_wipe (f := T.sh a) sl vs
    omega
  · obtain ⟨h1, h2⟩ := wipeS_get h
    rw [wipe_get h2]
    exact s.at_ i t h1
  · rw [wipe_get (hio p hp)]
    exact s.io p hp
/-- .. and on, the slots wiped again -/
theorem SR.rewipe {H : Hp} {σ σ2 : L2.St} {sl : List (Option T)} {tm : List T} {vs : List Nat} (s : SR g H σ2 sl tm) (hw : L2.wipe σ2 vs = L2.wipe σ vs) (hio : ∀ p ∈ g.io, p.1 ∉ vs) : SR g H (L2.wipe σ vs) (wipeS sl vs) tm := by
  rw [← hw]; exact s.wipe hio
/-- out of a block -/
theorem SR.unwipe {H : Hp} {σ : L2.St} {tm : List T} {ws : List Nat} (hσ : σ.length = g.N) : ∀ {vs : List Nat} {ss : List (Option Sc)} {sl : List (Option T)}, vs.Nodup → (∀ v ∈ vs, v ∈ ws) → (∀ p ∈ g.io, p.1 ∉ ws) →
    (∀ (i : Nat) (s : Sc), (vs.zip ss).lookup i = some (some s) → σ[i]? = some (some s.v) ∧ s.good) → vs.length = ss.length → SR g H (L2.wipe σ ws) (wipeS sl ws) tm →
    ∃ sl', den sl' = restD (den (wipeS sl ws)) vs ss ∧ (∀ t, some t ∈ sl' → t.ok g.c H) ∧ (∀ a, So (T.oc a) sl' = So (T.oc a) (wipeS sl ws) ∧ So (T.sh a) sl' = So (T.sh a) (wipeS sl ws)) ∧ sl'.length = g.N ∧ ∀ (i : Nat) (t : T), sl'[i]? = some (some t) → σ[i]? = some (some t.v)
  | [], [], sl, _, _, _, _, _, s => ⟨wipeS sl ws, rfl, s.okS, fun a => ⟨rfl, rfl⟩, s.slen, fun i t h => by
      have := s.at_ i t h
      exact (wipe_some this).1⟩
  | v :: vs, x :: ss, sl, nd, hv, hio, hs, hl, s => by
    obtain ⟨nv, nd⟩ := List.nodup_cons.mp nd
    obtain ⟨sl', e1, e2, e3, e4, e5⟩ := SR.unwipe (vs := vs) (ss := ss) hσ nd (fun u hu => hv u (List.mem_cons_of_mem _ hu)) hio (fun i s h => hs i s (by
      rw [List.zip_cons_cons, List.lookup_cons]
      have : (i == v) = false := by
        rw [beq_eq_false_iff_ne]
        rintro rfl
        exact nv (lookup_zip h)
      rw [this]; exact h)) (by simpa using hl) s
    have hx : ∀ s, x = some s → σ[v]? = some (some s.v) ∧ s.good := fun s e => hs v s (by rw [List.zip_cons_cons, List.lookup_cons, beq_self_eq_true, e])
    by_cases hlt : v < sl'.length
    · refine ⟨sl'.set v (x.map T.sc), ?_, fun t m => ?_, fun a => ?_, by simp [e4], fun i t h => ?_⟩
      · rw [den_set, e1]
        simp only [restD]
        cases x <;> rfl
      · rcases mem_set m with e | e
        · cases x with
          | none => cases e
          | some s => cases e; simpa [T.ok] using (hx s rfl).2
        · exact e2 t e
      · have g0 : sl'[v]? = some none ∨ ∃ s : Sc, sl'[v]? = some (some (T.sc s)) ∨ True := .inr ⟨.non, .inr trivial⟩
        obtain ⟨y, hy⟩ : ∃ y, sl'[v]? = some y := ⟨sl'[v], List.getElem?_eq_getElem hlt⟩
        have h1 := So_set (f := T.oc a) (x := x.map T.sc) hy
        have h2 := So_set (f := T.sh a) (x := x.map T.sc) hy
        have ny : y = none := by
          have z : (den sl')[v]? = (den (wipeS sl ws))[v]? := by
            rw [e1]
            clear e1 e2 e3 e4 e5 hx hs hl s hv hy h1 h2
            revert nv
            induction vs generalizing ss with
            | nil => intro _; rfl
            | cons u us ih =>
              intro nv
              cases ss with
              | nil => rfl
              | cons z zs =>
                simp only [restD]
                simp only [List.mem_cons, not_or] at nv
                rw [List.getElem?_set_ne (fun e => nv.1 e.symm)]
                exact ih zs (List.nodup_cons.mpr ⟨nv.2, (List.nodup_cons.mp nd).2⟩) (List.nodup_cons.mp nd).2 nv.2
          have w : ∀ t, (wipeS sl ws)[v]? ≠ some (some t) := fun t e => (wipeS_get e).2 (hv v (by simp))
          cases y with
          | none => rfl
          | some t =>
            exfalso
            have z1 : (den sl')[v]? = some (some t.d) := by unfold den; rw [List.getElem?_map, hy]; rfl
            rw [z] at z1
            obtain ⟨t', z2, _⟩ := den_get z1
            exact w t' z2
        subst ny
        have h3 := e3 a
        cases x <;> simp [fO, T.oc, T.sh] at h1 h2 ⊢ <;> omega
      · rcases set_get h with ⟨rfl, e⟩ | ⟨_, e⟩
        · cases x with
          | none => cases e
          | some s => cases e; exact (hx s rfl).1
        · exact e5 i t e
    · refine ⟨sl', ?_, e2, e3, e4, e5⟩
      rw [e1]
      simp only [restD]
      rw [List.set_eq_of_length_le]
      rw [← e1, den_len]
      omega
theorem saved_ok {H : Hp} {σ : L2.St} {sl : List (Option T)} {tm : List T} (s : SR g H σ sl tm) : ∀ {vs : List Nat} {ss : List (Option Sc)}, saved (den sl) vs = some ss → vs.length = ss.length ∧ ∀ (i : Nat) (x : Sc), (vs.zip ss).lookup i = some (some x) → σ[i]? = some (some x.v) ∧ x.good
  | [], ss, h => by simp [saved] at h; subst h; simp
  | v :: vs, ss, h => by
    unfold saved at h
    split at h
    · obtain ⟨r, hr, rfl⟩ := Option.map_eq_some_iff.mp h
      obtain ⟨h1, h2⟩ := saved_ok s hr
      refine ⟨by simp [h1], fun i x hx => ?_⟩
      rw [List.zip_cons_cons, List.lookup_cons] at hx
      split at hx
      · cases hx
      · exact h2 i x hx
    · rename_i y e
      obtain ⟨r, hr, rfl⟩ := Option.map_eq_some_iff.mp h
      obtain ⟨h1, h2⟩ := saved_ok s hr
      refine ⟨by simp [h1], fun i x hx => ?_⟩
      rw [List.zip_cons_cons, List.lookup_cons] at hx
      split at hx
      · rename_i hb
        have hb : i = v := by simpa using hb
        subst hb
        cases hx
        obtain ⟨t, e1, e2, e4, e3⟩ := s.val e
        cases t with
        | sc z =>
          simp only [T.d, D.sc.injEq] at e2
          subst e2
          exact ⟨e3, by simpa [T.ok] using e4⟩
        | _ => simp [T.d] at e2
      · exact h2 i x hx
    · cases h
abbrev W0 : WX := fun _ _ _ _ => False
/-- a list held on top grows by what is held above it -/
theorem SR.grow {H : Hp} {σ : L2.St} {sl : List (Option T)} {tm : List T} {p : Addr} {xs : List T} {t : T} (s : SR g H σ sl (t :: T.lst p .own xs :: tm)) (hz : xs.length < 16777216) :
    SR g (upd H p (.lst ((xs ++ [t]).map T.v))) σ sl (T.lst p .own (xs ++ [t]) :: tm) := by
  have k := s.okT
  simp only [Ts.ok, T.ok] at k
  obtain ⟨kt, ⟨kp, kz, kx⟩, ktm⟩ := k
  have iv := s.inv p
  simp only [Ts.oc, Ts.sh, T.oc, T.sh] at iv
  have b1 : b2 (True ∧ True) = 1 := by simp [b2]
  rw [b1] at iv
  refine s.go (s.stayS fun a q => upd_ne fun e => ?_) ?_ (fun a => .inl ?_) (fun a => ?_) s.len s.slen s.at_ s.io
  · subst e; omega
  · simp only [Ts.ok, T.ok]
    refine ⟨⟨upd_same, by simp; omega, ?_⟩, Ts.stay tm ktm fun a q => upd_ne fun e => ?_⟩
    · rw [Ts.ok_iff]
      intro u m
      rcases List.mem_append.mp m with m | m
      · refine T.stay u (Ts.ok_iff.mp kx u m) fun a q => upd_ne fun e => ?_
        subst e
        have h1 := Ts.oc_mem (a := a) m; have h2 := Ts.sh_mem (a := a) m
        omega
      · have e := List.mem_singleton.mp m
        subst e
        refine T.stay u kt fun a q => upd_ne fun e => ?_
        subst e; omega
    · subst e; omega
  · simp only [Ts.oc, Ts.sh, T.oc, T.sh, Ts.oc_append, Ts.sh_append]
    omega
  · by_cases e : a = p
    · subst e
      refine .inr (.inr ?_)
      simp only [Ts.oc, T.oc]
      rw [b1]
      omega
    · exact .inl (upd_ne e)
theorem lc_imp {mi : Cm (List D)} {f : D → Cm Unit} {t : Cm Bool} {e : Cm D} {vs : List Nat} (hnd : vs.Nodup) (hio : ∀ p ∈ g.io, p.1 ∉ vs) (hw : ∀ (d : D) (ρ : DE) (u : Unit) (ρ' : DE), f d ρ = .ok u ρ' → True)
    {gt : TG} (hg : ∀ (v : V) (σ : L2.St) (H : Hp) (Q : L2.St → Hp → Prop), tG g W0 f v (L2.wipe σ vs) H (fun σ2 H2 => L2.wipe σ2 vs = L2.wipe σ vs → Q σ2 H2) → gt v (L2.wipe σ vs) H fun σ2 H2 => L2.wipe σ2 vs = L2.wipe σ vs ∧ Q σ2 H2) (σ : L2.St) (H : Hp) (Q : VK) (q : tE g W (mLc mi f t e vs) σ H Q) :
    tLc (tI g W mi) gt (tT g W0 t) (tE g W0 e) vs σ H Q := by
  obtain ⟨sl, tm, s, h⟩ := q
  unfold mLc at h
  refine ⟨sl, tm, s, ?_⟩
  cases ei : mi (den sl) with
  | exc x ρ => rw [ei] at h; exact h
  | stuck => rw [ei] at h; exact h
  | ok ds ρ =>
    rw [ei] at h
    intro H1 sl1 hd J s1 e1 hJ Dd hD
    subst e1
    simp only [R.bind_ok] at h
    split at h
    · rename_i ss hss
      obtain ⟨hl, hsv⟩ := saved_ok s1 hss
      by_cases hz : ds.length ≤ 16777216
      · rw [if_pos hz] at h
        -- the new list, held
        have s2 : SR g (upd H1 Dd (.lst [])) σ sl1 (T.lst Dd .own [] :: (hd ++ tm)) := by
          have := s1.newL (xs := []) (tm := hd ++ tm) (ts := []) hD (by simp) (by simp [Ts.ok]) (fun a => by simp [Ts.oc, Ts.sh])
          simpa using this
        have reorder : ∀ {H σ sl} {acc : List T}, SR g H σ sl (T.lst Dd .own acc :: (hd ++ tm)) → SR g H σ sl (hd ++ (T.lst Dd .own acc :: tm)) := fun {H σ sl acc} s => s.tmp (by
          have := s.okT
          rw [Ts.ok_iff] at this ⊢
          intro u m
          exact this u (by simp at m ⊢; rcases m with m | m | m <;> simp [m])) fun a => by simp only [Ts.oc, Ts.sh, Ts.oc_append, Ts.sh_append]; omega
        have reorder' : ∀ {H σ sl} {acc : List T} {u : T}, SR g H σ sl (u :: (hd ++ (T.lst Dd .own acc :: tm))) → SR g H σ sl (u :: T.lst Dd .own acc :: (hd ++ tm)) := fun {H σ sl acc u} s => s.tmp (by
          have := s.okT
          rw [Ts.ok_iff] at this ⊢
          intro u m
          exact this u (by simp at m ⊢; rcases m with m | m | m | m <;> simp [m])) fun a => by simp only [Ts.oc, Ts.sh, Ts.oc_append, Ts.sh_append]; omega
        have reorder1 : ∀ {H σ sl} {acc : List T}, SR g H σ sl (hd ++ (T.lst Dd .own acc :: tm)) → SR g H σ sl (T.lst Dd .own acc :: (hd ++ tm)) := fun {H σ sl acc} s => s.tmp (by
          have := s.okT
          rw [Ts.ok_iff] at this ⊢
          intro u m
          exact this u (by simp at m ⊢; rcases m with m | m | m <;> simp [m])) fun a => by simp only [Ts.oc, Ts.sh, Ts.oc_append, Ts.sh_append]; omega
        -- what the rest of the walk makes
        have Rest : ∀ (i : Nat) (acc : List T) (ρ : DE), Prop := fun i acc ρ => True
        refine ⟨fun i n H => ∃ sl acc, SR g H (L2.wipe σ vs) (wipeS sl vs) (T.lst Dd .own acc :: (hd ++ tm)) ∧ n = ds.length - i ∧ i ≤ ds.length ∧ acc.length ≤ i ∧
          Lands g W tm ((unexc (lcL f t e vs (ds.drop i) (den (wipeS sl vs)))).bind fun r ρ => R.ok (D.lst .own (Ts.d acc ++ r)) (restD ρ vs ss)) (fun d ρ' => ∀ H' sl' t, SR g H' σ sl' (t :: tm) → den sl' = ρ' → t.d = d → Q t.v H'),
          ⟨ds.length, sl1, [], s2.wipe hio, by omega, by omega, by simp, by simpa [den_wipe, Ts.d] using h⟩, ?_⟩
        rintro i n H ⟨sl, acc, s, rfl, hi, hacc, hl'⟩
        by_cases hlt : i < ds.length
        · obtain ⟨d, hd'⟩ : ∃ d, ds[i]? = some d := ⟨ds[i], List.getElem?_eq_getElem hlt⟩
          have hdrop : ds.drop i = d :: ds.drop (i + 1) := by
            rw [List.drop_eq_getElem_cons hlt]
            rw [List.getElem?_eq_getElem hlt] at hd'
            rw [Option.some.inj hd']
          rw [hdrop] at hl'
          obtain ⟨go, yl⟩ := hJ.go i d H _ _ (T.lst Dd .own acc :: tm) (reorder s) hd'
          refine .inr ⟨go, fun H' => ∃ sl acc, SR g H' (L2.wipe σ vs) (wipeS sl vs) (T.lst Dd .own acc :: (hd ++ tm)) ∧ acc.length ≤ i + 1 ∧
            Lands g W tm ((unexc (lcL f t e vs (ds.drop (i + 1)) (den (wipeS sl vs)))).bind fun r ρ => R.ok (D.lst .own (Ts.d acc ++ r)) (restD ρ vs ss)) (fun d ρ' => ∀ H' sl' t, SR g H' σ sl' (t :: tm) → den sl' = ρ' → t.d = d → Q t.v H'),
            fun H' ⟨sl', acc', s', ha, h'⟩ => ⟨ds.length - (i + 1), by omega, sl', acc', s', rfl, by omega, ha, h'⟩, fun x H' hy => ?_⟩
          obtain ⟨tt, s2, rfl, rfl⟩ := yl x H' hy
          refine hg _ _ _ _ ⟨wipeS sl vs, hd ++ (T.lst Dd .own acc :: tm), tt, s2, rfl, ?_⟩
          simp only [lcL] at hl'
          cases q1 : f tt.d (den (wipeS sl vs)) with
          | exc x ρ => rw [q1] at hl'; exact hl'.elim
          | stuck => rw [q1] at hl'; exact hl'.elim
          | ok u ρ =>
            rw [q1] at hl'
            simp only [R.bind_ok] at hl'
            intro H3 σ3 sl3 s3 e3 hwp
            subst e3
            refine ⟨sl3, hd ++ (T.lst Dd .own acc :: tm), s3, ?_⟩
            cases q2 : t (den sl3) with
            | exc x ρ => rw [q2] at hl'; exact hl'.elim
            | stuck => rw [q2] at hl'; exact hl'.elim
            | ok b ρ =>
              rw [q2] at hl'
              simp only [R.bind_ok] at hl'
              intro H4 sl4 s4 e4
              subst e4
              cases b with
              | false =>
                rw [if_neg Bool.false_ne_true]
                simp only [Bool.false_eq_true, if_false] at hl'
                have hσ : L2.wipe σ3 vs = L2.wipe σ vs := hwp
                refine ⟨sl4, acc, (reorder1 s4).rewipe hσ hio, by omega, ?_⟩
                rw [den_wipe]
                exact hl'
              | true =>
                rw [if_pos rfl]
                simp only [if_true] at hl'
                refine ⟨sl4, hd ++ (T.lst Dd .own acc :: tm), s4, ?_⟩
                cases q3 : e (den sl4) with
                | exc x ρ => rw [q3] at hl'; exact hl'.elim
                | stuck => rw [q3] at hl'; exact hl'.elim
                | ok y ρ =>
                  rw [q3] at hl'
                  simp only [R.bind_ok] at hl'
                  intro H5 sl5 u s5 e5 ey
                  subst e5 ey
                  have s6 := reorder' s5
                  have ko := s6.okT
                  simp only [Ts.ok, T.ok] at ko
                  refine ⟨acc.map T.v, ko.2.1.1, by rw [SZ_eq, List.length_map]; omega, ?_⟩
                  have s7 := s6.grow (by omega)
                  rw [List.map_append] at s7
                  have hσ : L2.wipe σ3 vs = L2.wipe σ vs := hwp
                  refine ⟨sl5, acc ++ [u], s7.rewipe hσ hio, by simp; omega, ?_⟩
                  rw [den_wipe]
                  cases q4 : lcL f t e vs (ds.drop (i + 1)) (wipeD (den sl5) vs) with
                  | exc x ρ => rw [q4] at hl'; exact hl'.elim
                  | stuck => rw [q4] at hl'; exact hl'.elim
                  | ok r ρ =>
                    rw [q4] at hl'
                    simpa [Ts.d_append, Ts.d] using hl'
        · have e : i = ds.length := by omega
          subst e
          rw [List.drop_length] at hl'
          refine .inl ⟨hJ.stop H _ _ (T.lst Dd .own acc :: tm) (reorder s), ?_⟩
          simp only [lcL, unexc_ok, R.bind_ok, List.append_nil] at hl'
          obtain ⟨sl', e1, e2, e3, e4, e5⟩ := SR.unwipe (sl := sl) s1.len hnd (fun v h => h) hio hsv hl s
          have s3 : SR g H σ sl' (T.lst Dd .own acc :: tm) := by
            refine (s.tmp (tm' := T.lst Dd .own acc :: tm) (by
              have := s.okT
              rw [Ts.ok_iff] at this ⊢
              intro u m
              exact this u (by simp at m ⊢; rcases m with m | m <;> simp [m])) fun a => by simp only [Ts.oc, Ts.sh, Ts.oc_append, Ts.sh_append]; omega).go e2 ?_ (fun a => .inl ?_) (fun _ => .inl rfl) s1.len e4 e5 s1.io
            · have := s.okT
              rw [Ts.ok_iff] at this ⊢
              intro u m
              exact this u (by simp at m ⊢; rcases m with m | m <;> simp [m])
            · have := e3 a; omega
          exact hl' H sl' _ s3 e1 (by simp [T.d])
      · rw [if_neg hz] at h; exact h.elim
    · exact h.elim
end
end VS
namespace VS
open PySem PySem.Spec PyProof.Rows L2
section
variable {X : Cx} {g : Gh} {W : WX} {pos : Pos} {ma mb : Cm D} {mc : Cm Bool} {elt tg iter : Expr} {ifs : List Expr} {scope : Scope} {own : List (Str × Nat)} {mi : Cm (List D)} {t : Cm Bool} {e : Cm D}
theorem hg_name {i : Nat} (hi : i < g.N) (hio : ∀ p ∈ g.io, p.1 ≠ i) (v : V) (σ : L2.St) (H : Hp) (Q : L2.St → Hp → Prop) (h : tG g W0 (mPut i) v (L2.wipe σ [i]) H (fun σ2 H2 => L2.wipe σ2 [i] = L2.wipe σ [i] → Q σ2 H2)) :
    gName i v (L2.wipe σ [i]) H fun σ2 H2 => L2.wipe σ2 [i] = L2.wipe σ [i] ∧ Q σ2 H2 := by
  obtain ⟨sl, tm, t, s, rfl, h⟩ := h
  have e : L2.wipe ((L2.wipe σ [i]).set i (some t.v)) [i] = L2.wipe σ [i] := by simp [L2.wipe]
  exact ⟨e, h H _ _ (s.store hi hio) (by rw [den_set]; rfl) e⟩
theorem hg_pair {i j : Nat} (hij : i ≠ j) (hi : i < g.N) (hio : ∀ p ∈ g.io, p.1 ≠ i) (hj : j < g.N) (hjo : ∀ p ∈ g.io, p.1 ≠ j) {K : PySem.W.Frag} (hK : K = g.c.K) (v : V) (σ : L2.St) (H : Hp) (Q : L2.St → Hp → Prop)
    (h : tG g W0 (mUnp [mPut i, mPut j]) v (L2.wipe σ [i, j]) H (fun σ2 H2 => L2.wipe σ2 [i, j] = L2.wipe σ [i, j] → Q σ2 H2)) :
    gTup K 2 (gCons (gName i) (gCons (gName j) gNil)) v (L2.wipe σ [i, j]) H fun σ2 H2 => L2.wipe σ2 [i, j] = L2.wipe σ [i, j] ∧ Q σ2 H2 := by
  obtain ⟨sl, tm, t, s, rfl, h⟩ := h
  cases t with
  | tup p st xs =>
    simp only [T.d, mUnp] at h
    match xs, s, h with
    | [], _, h => exact h.elim
    | [_], _, h => exact absurd h (by simp [putAll, Ts.d, mPut, R.bind, Lands])
    | _ :: _ :: _ :: _, _, h => exact absurd h (by simp [putAll, Ts.d, mPut, R.bind, Lands])
    | [x, y], s, h =>
      have q := tup_sq s.top
      refine ⟨p, _, rfl, by rw [hK]; exact q.1, rfl, x.v, [y.v], rfl, y.v, [], rfl, rfl, ?_⟩
      have e : L2.wipe (((L2.wipe σ [i, j]).set i (some x.v)).set j (some y.v)) [i, j] = L2.wipe σ [i, j] := by
        simp only [L2.wipe]
        rw [List.set_set, List.set_comm _ _ hij, List.set_set, List.set_comm _ _ hij]
        simp [List.set_set]
      exact ⟨e, h H _ _ ((s.open_.store hi hio).store hj hjo) (by rw [den_set, den_set]; rfl) e⟩
  | _ => exact h.elim
theorem ts_nil : PTs X [] (tT g W mYes) := ⟨fun pins s σ H Q I ⟨sl, tm, st, h⟩ => pts_nil.run pins s σ H Q I (h H sl st rfl)⟩
theorem ts_one {c : Expr} (h : PT X c (tT g W t)) : PTs X [c] (tT g W t) := pts_one h
theorem e_lc {gt : TG} {f : D → Cm Unit} (hc : X.calm = true) (hN : X.N.Nodup) (hi : PI X tg iter (tI g W mi)) (ok : BlkOk X.N X.env.scope scope own)
    (hg : ∀ (s : Shared) (H : Hp) (C : Addr) (cl : List (Str × Addr)) (fp : List Addr), PG (X.blk s H scope (compEnvC scope cl C X.env) fp) tg gt)
    (ht : ∀ (s : Shared) (H : Hp) (C : Addr) (cl : List (Str × Addr)) (fp : List Addr), PTs (X.blk s H scope (compEnvC scope cl C X.env) fp) ifs (tT g W0 t))
    (he : ∀ (s : Shared) (H : Hp) (C : Addr) (cl : List (Str × Addr)) (fp : List Addr), PE (X.blk s H scope (compEnvC scope cl C X.env) fp) elt (tE g W0 e))
    (hnd : (own.map (·.2)).Nodup) (hio : ∀ p ∈ g.io, p.1 ∉ own.map (·.2))
    (hgt : ∀ (v : V) (σ : L2.St) (H : Hp) (Q : L2.St → Hp → Prop), tG g W0 f v (L2.wipe σ (own.map (·.2))) H (fun σ2 H2 => L2.wipe σ2 (own.map (·.2)) = L2.wipe σ (own.map (·.2)) → Q σ2 H2) → gt v (L2.wipe σ (own.map (·.2))) H fun σ2 H2 => L2.wipe σ2 (own.map (·.2)) = L2.wipe σ (own.map (·.2)) ∧ Q σ2 H2)
    (hs : ∀ x, foldedSetIterable iter X.env x = pure x := by intro _; rfl) :
    PE X (.ListComp elt [⟨tg, iter, ifs, 0⟩] scope pos) (tE g W (mLc mi f t e (own.map (·.2)))) := (pe_lc hc hN hi ok hg ht he hs).imp (lc_imp hnd hio (fun _ _ _ _ _ => trivial) hgt)
theorem s_setLc {i : Nat} {y : Str} {py spos : Pos} {gt : TG} {f : D → Cm Unit} (hi' : i < g.N) (hio' : ∀ p ∈ g.io, p.1 ≠ i) (hc : X.calm = true) (hN : X.N.Nodup) (hy : X.N[i]? = some y) (hyl : X.env.scope.names.lookup y = some .local)
    (hsw : swapsWith (.ListComp elt [⟨tg, iter, ifs, 0⟩] scope pos) (some (.Name y py)) spos.line X.env = pure true) (hi : PI X tg iter (tI g W mi)) (ok : BlkOk X.N X.env.scope scope own)
    (hg : ∀ (s : Shared) (H : Hp) (C : Addr) (cl : List (Str × Addr)) (fp : List Addr), PG (X.blk s H scope (compEnvC scope cl C X.env) fp) tg gt)
    (ht : ∀ (s : Shared) (H : Hp) (C : Addr) (cl : List (Str × Addr)) (fp : List Addr), PTs (X.blk s H scope (compEnvC scope cl C X.env) fp) ifs (tT g W0 t))
    (he : ∀ (s : Shared) (H : Hp) (C : Addr) (cl : List (Str × Addr)) (fp : List Addr), PE (X.blk s H scope (compEnvC scope cl C X.env) fp) elt (tE g W0 e))
    (hnd : (own.map (·.2)).Nodup) (hio : ∀ p ∈ g.io, p.1 ∉ own.map (·.2))
    (hgt : ∀ (v : V) (σ : L2.St) (H : Hp) (Q : L2.St → Hp → Prop), tG g W0 f v (L2.wipe σ (own.map (·.2))) H (fun σ2 H2 => L2.wipe σ2 (own.map (·.2)) = L2.wipe σ (own.map (·.2)) → Q σ2 H2) → gt v (L2.wipe σ (own.map (·.2))) H fun σ2 H2 => L2.wipe σ2 (own.map (·.2)) = L2.wipe σ (own.map (·.2)) ∧ Q σ2 H2)
    (hs : ∀ x, foldedSetIterable iter X.env x = pure x := by intro _; rfl) :
    PS X (.Assign [.Name y py] (.ListComp elt [⟨tg, iter, ifs, 0⟩] scope pos) spos) (tS g W (mSet i (mLc mi f t e (own.map (·.2))))) :=
  (ps_setLc hc hN hy hyl hsw hi ok hg ht he hs).imp fun De σ H q => lc_imp hnd hio (fun _ _ _ _ _ => trivial) hgt σ H _ (set_imp hi' hio' De σ H q)
end
end VS

/-! VS, part j: what a def is worth, and its calls. -/
namespace VS
open PySem PySem.Spec PyProof.Rows L2

inductive RF where
  | ok (d : D) (ds : List D)
  | exc (x : Ex) (ds : List D)
  | stuck
  deriving Repr
def ioGet (ρ : DE) : List Nat → Option (List D)
  | [] => some []
  | i :: is => match ρ[i]? with
    | some (some d) => (ioGet ρ is).map (d :: ·)
    | _ => none
def endF (io : List Nat) : R Out → RF
  | .ok .nx ρ => match ioGet ρ io with
    | some ds => .ok .non ds
    | none => .stuck
  | .ok (.ret d) ρ => match ioGet ρ io with
    | some ds => .ok d ds
    | none => .stuck
  | .exc x ρ => match ioGet ρ io with
    | some ds => .exc x ds
    | none => .stuck
  | _ => .stuck
def startD (n : Nat) (args : List D) : DE := args.map some ++ List.replicate (n - args.length) none
def runF (n : Nat) (io : List Nat) (m : Cm Out) (args : List D) : RF := endF io (m (startD n args))

/-- what comes of a call: the trees behind it, from those ahead -/
structure Aft (c : Cfg) (H : Hp) (ts : List T) (H' : Hp) (us : List T) : Prop where
  ok : Ts.ok c H' us
  inv : ∀ a, Ts.oc a us = 0 ∨ (Ts.oc a us = 1 ∧ Ts.sh a us = 0)
  prov : ∀ a, Sol c H a → Ts.oc a ts = 0 → Ts.oc a us = 0 ∧ (Ts.sh a ts = 0 → Ts.sh a us = 0)
  frame : ∀ a o, H a = some o → NT o → Ts.oc a ts = 0 → H' a = some o
  tabs : LamX.Tabs c.tb H'
def ioV (vs : List V) : List Nat → Option (List V)
  | [] => some []
  | i :: is => match vs[i]? with
    | some v => (ioV vs is).map (v :: ·)
    | none => none
/-- the promise of a def by its mirror: np parameters, those at io are handed in to be changed -/
def spM (c : Cfg) (np : Nat) (io : List Nat) (M : List D → RF) : Sp := fun vs H Q E => ∃ ts : List T, vs = ts.map T.v ∧ Ts.ok c H ts ∧ LamX.Tabs c.tb H ∧ (∀ a, Ts.oc a ts = 0 ∨ (Ts.oc a ts = 1 ∧ Ts.sh a ts = 0)) ∧ ts.length = np ∧
  match M (Ts.d ts) with
  | .ok d ds => ∀ H' t us, Aft c H ts H' (t :: us) → t.d = d → Ts.d us = ds → ioV vs io = some (us.map T.v) → Q t.v H'
  | .exc x ds => ∀ H' a dx us, Aft c H ts H' (T.exn a dx x.cls x.ns x.xs :: us) → Ts.d us = ds → ioV vs io = some (us.map T.v) → E (.ref (c.cls x.cls)) dx H'
  | .stuck => False
theorem spM_len {c : Cfg} {np : Nat} {io : List Nat} {M : List D → RF} {ps : List Str} (h : ps.length = np) : ∀ vs H Q E, spM c np io M vs H Q E → vs.length = ps.length := fun vs H Q E ⟨ts, e, _, _, _, hl, _⟩ => by
  rw [e, h]; simpa using hl

section
variable {P : Program} {w : World} {K : PySem.W.Frag} {mg : Str → Option Value} {base : Heap} {c : Cfg}
theorem So_somes (f : T → Nat) (hf : Nat → Nat) : ∀ (ts : List T) (n : Nat), So f (ts.map some ++ List.replicate n none) = So f (ts.map some)
  | [], n => by
    induction n with
    | zero => simp
    | succ n ih => simp [List.replicate_succ, So] at ih ⊢; exact ih
  | t :: ts, n => by simp [So, So_somes f hf ts n]
theorem So_oc (a : Addr) : ∀ ts : List T, So (T.oc a) (ts.map some) = Ts.oc a ts
  | [] => rfl
  | t :: ts => by simp [So, Ts.oc, So_oc a ts]
theorem So_sh (a : Addr) : ∀ ts : List T, So (T.sh a) (ts.map some) = Ts.sh a ts
  | [] => rfl
  | t :: ts => by simp [So, Ts.sh, So_sh a ts]
theorem ioGet_set {ρ : DE} {i : Nat} (x : Option D) : ∀ {io : List Nat}, i ∉ io → ioGet (ρ.set i x) io = ioGet ρ io
  | [], _ => rfl
  | j :: js, h => by
    simp only [List.mem_cons, not_or] at h
    unfold ioGet
    rw [List.getElem?_set_ne h.1, ioGet_set x h.2]
/-- the io slots' trees at the end, gathered -/
theorem io_end {g : Gh} {H : Hp} {σ : L2.St} {sl : List (Option T)} {vs : List V} : ∀ {io : List Nat} {ds : List D} {pre : List T}, ioGet (den sl) io = some ds → io.Nodup → (∀ i ∈ io, ∃ v, vs[i]? = some v ∧ σ[i]? = some (some v)) → SR g H σ sl pre →
    ∃ us sl', Ts.d us = ds ∧ ioV vs io = some (us.map T.v) ∧ SR g H σ sl' (us ++ pre)
  | [], ds, pre, h, _, _, s => by
    simp [ioGet] at h; subst h
    exact ⟨[], sl, rfl, rfl, s⟩
  | i :: io, ds, pre, h, nd, hv, s => by
    obtain ⟨ni, nd⟩ := List.nodup_cons.mp nd
    unfold ioGet at h
    split at h
    · rename_i d e
      obtain ⟨r, hr, rfl⟩ := Option.map_eq_some_iff.mp h
      obtain ⟨t, e1, e2, e4, e3⟩ := s.val e
      subst e2
      obtain ⟨v, v1, v2⟩ := hv i (by simp)
      have s1 := s.move e1
      have hr' : ioGet (den (sl.set i none)) io = some r := by rw [den_set, ioGet_set _ ni]; exact hr
      obtain ⟨us, sl', h1, h2, h3⟩ := io_end hr' nd (fun k hk => hv k (List.mem_cons_of_mem _ hk)) s1
      refine ⟨t :: us, sl', by simp [Ts.d, h1], ?_, h3.tmp ?_ fun a => ?_⟩
      · unfold ioV
        rw [v1, h2]
        rw [v2] at e3
        simp [Option.some.inj (Option.some.inj e3)]
      · have := h3.okT
        rw [Ts.ok_iff] at this ⊢
        intro u m
        exact this u (by simp at m ⊢; rcases m with m | m | m <;> simp [m])
      · simp only [List.cons_append, Ts.oc, Ts.sh, Ts.oc_append, Ts.sh_append]; omega
    · cases h
theorem Aft.of {g : Gh} {H : Hp} {σ : L2.St} {sl : List (Option T)} {us : List T} (s : SR g H σ sl us) : Aft g.c g.H0 g.A0 H us where
  ok := s.okT
  inv := fun a => by have := s.inv a; omega
  prov := fun a h0 h1 => by
    have p := s.prov a h0 h1
    exact ⟨by omega, fun h => by have := p.2 h; omega⟩
  frame := s.frame
  tabs := s.tabs
/-- THE RULE: a def keeps the promise of its mirror (its body's reading, at the entry) -/
theorem body_ok {X : Cx} {sbody : List Stmt} {N ps : List Str} {np : Nat} {io : List Nat} {m : Cm Out} {scope : Scope} {H : Hp} {vs : List V} {Q : VK} {E : XK} (body : ∀ (g : Gh), g.c = c → g.N = N.length → g.io.map (·.1) = io → PSs X sbody (tS g (fun cls d _ H => E cls d H) m))
    (S : FnScope N ps scope) (hps : ps.length = np) (hN : np ≤ N.length) (hio : ∀ i ∈ io, i < np) (hnd : io.Nodup) (h : spM c np io (runF N.length io m) vs H Q E) :
    ∃ t, PSs X sbody t ∧ t { nx := fun _ H' => Q .non H', rt := Q } (L2.start N vs) H := by
  obtain ⟨ts, rfl, okt, tbs, inv, hl, q⟩ := h
  obtain ⟨vio, hvio⟩ : ∃ vio : List (Nat × V), vio.map (·.1) = io ∧ ∀ p ∈ vio, (ts.map T.v)[p.1]? = some p.2 := by
    clear q hnd body
    induction io with
    | nil => exact ⟨[], rfl, fun _ h => by cases h⟩
    | cons i io ih =>
      obtain ⟨r, r1, r2⟩ := ih (fun j hj => hio j (List.mem_cons_of_mem _ hj))
      have hi : i < (ts.map T.v).length := by simp; have := hio i (by simp); omega
      refine ⟨(i, (ts.map T.v)[i]) :: r, by simp [r1], fun p hp => ?_⟩
      rcases List.mem_cons.mp hp with rfl | hp
      · exact List.getElem?_eq_getElem hi
      · exact r2 p hp
  let g : Gh := ⟨c, H, ts, N.length, vio, []⟩
  refine ⟨tS g (fun cls d _ H => E cls d H) m, body g rfl rfl hvio.1, ?_⟩
  have hst : L2.start N (ts.map T.v) = ts.map (fun t => some t.v) ++ List.replicate (N.length - ts.length) none := by
    unfold L2.start; simp
  have hsd : den (ts.map some ++ List.replicate (N.length - ts.length) none) = startD N.length (Ts.d ts) := by
    unfold den startD
    rw [List.map_append, List.map_map, Ts.d_len, Ts.d_map, List.map_map, List.map_replicate]
    rfl
  have getS : ∀ (i : Nat) (t : T), (ts.map some ++ List.replicate (N.length - ts.length) none)[i]? = some (some t) → ts[i]? = some t := fun i t h => by
    by_cases hi : i < ts.length
    · rw [List.getElem?_append_left (by simpa using hi), List.getElem?_map] at h
      cases e : ts[i]? with
      | none => rw [e] at h; cases h
      | some u => rw [e] at h; simpa using h
    · rw [List.getElem?_append_right (by simpa using hi), List.getElem?_replicate] at h
      split at h <;> cases h
  have getσ : ∀ (i : Nat) (v : V), (ts.map T.v)[i]? = some v → (L2.start N (ts.map T.v))[i]? = some (some v) := fun i v h => by
    rw [hst]
    have hi : i < ts.length := by
      by_cases q : i < ts.length
      · exact q
      · rw [List.getElem?_eq_none (by simp; omega)] at h; cases h
    rw [List.getElem?_append_left (by simpa using hi), List.getElem?_map]
    rw [List.getElem?_map] at h
    cases e : ts[i]? with
    | none => rw [e] at h; cases h
    | some u => rw [e] at h; simp at h; simp [h]
  have s0 : SR g H (L2.start N (ts.map T.v)) (ts.map some ++ List.replicate (N.length - ts.length) none) [] := by
    refine ⟨fun t m => ?_, by simp [Ts.ok], fun a => ?_, fun a h0 h1 => ?_, fun a o h _ _ => h, ?_, ?_, fun i t h => ?_, fun p hp => ?_, fun p hp => (List.not_mem_nil hp).elim, tbs⟩
    · obtain ⟨i, hi⟩ := mem_get m
      exact Ts.ok_iff.mp okt t (List.mem_of_getElem? (getS i t hi))
    · rw [So_somes _ id, So_somes _ id, So_oc, So_sh]
      simpa [Ts.oc, Ts.sh] using inv a
    · rw [So_somes _ id, So_somes _ id, So_oc, So_sh]
      exact ⟨by simpa [Ts.oc] using h1, fun h => by simpa [Ts.sh] using h⟩
    · rw [hst]; simp [g]; omega
    · simp [g]; omega
    · exact getσ i _ (by rw [List.getElem?_map, getS i t h]; rfl)
    · exact getσ p.1 p.2 (hvio.2 p hp)
  refine ⟨_, [], s0, ?_⟩
  rw [hsd]
  unfold runF at q
  -- the end, whatever it is
  have fin : ∀ {H' σ' sl' pre ds}, SR g H' σ' sl' pre → ioGet (den sl') io = some ds → ∃ us, Ts.d us = ds ∧ ioV (ts.map T.v) io = some (us.map T.v) ∧ Aft c H ts H' (us ++ pre) := fun {H' σ' sl' pre ds} s e => by
    obtain ⟨us, sl2, h1, h2, h3⟩ := io_end (vs := ts.map T.v) e hnd (fun i hi => by
      rw [← hvio.1] at hi
      obtain ⟨p, hp, rfl⟩ := List.mem_map.mp hi
      exact ⟨p.2, hvio.2 p hp, s.io p hp⟩) s
    exact ⟨us, h1, h2, Aft.of h3⟩
  have flip : ∀ {H' : Hp} {t : T} {us : List T}, Aft c H ts H' (us ++ [t]) → Aft c H ts H' (t :: us) := fun {H' t us} h =>
    ⟨by have := h.ok; rw [Ts.ok_iff] at this ⊢; exact fun u m => this u (by simp at m ⊢; rcases m with m | m <;> simp [m]), fun a => by have := h.inv a; simp only [Ts.oc_append, Ts.sh_append, Ts.oc, Ts.sh] at this ⊢; omega,
     fun a h0 h1 => by have := h.prov a h0 h1; simp only [Ts.oc_append, Ts.sh_append, Ts.oc, Ts.sh] at this ⊢; exact ⟨by omega, fun z => by have := this.2 z; omega⟩, h.frame, h.tabs⟩
  cases e : m (startD N.length (Ts.d ts)) with
  | stuck => rw [e] at q; exact q.elim
  | exc x ρ =>
    rw [e] at q
    intro H' σ' sl' a dx s' e'
    subst e'
    simp only [endF] at q
    cases e2 : ioGet (den sl') io with
    | none => rw [e2] at q; exact q.elim
    | some ds =>
      rw [e2] at q
      obtain ⟨us, h1, h2, h3⟩ := fin s' e2
      exact q H' a dx us (flip h3) h1 h2
  | ok o ρ =>
    rw [e] at q
    cases o with
    | nx =>
      intro H' σ' sl' s' e'
      subst e'
      simp only [endF] at q
      cases e2 : ioGet (den sl') io with
      | none => rw [e2] at q; exact q.elim
      | some ds =>
        rw [e2] at q
        obtain ⟨us, h1, h2, h3⟩ := fin (s'.push .non trivial) e2
        exact q H' (.sc .non) us (flip h3) rfl h1 h2
    | ret d =>
      intro H' σ' sl' t s' e' ed
      subst e'
      simp only [endF] at q
      cases e2 : ioGet (den sl') io with
      | none => rw [e2] at q; exact q.elim
      | some ds =>
        rw [e2] at q
        obtain ⟨us, h1, h2, h3⟩ := fin s' e2
        exact q H' t us (flip h3) ed h1 h2
    | brk => exact q.elim
    | ct => exact q.elim
end
end VS

/-! VS, part k: calls of defs. -/
namespace VS
open PySem PySem.Spec PyProof.Rows L2

/-- an argument: a slot whose made thing may be changed (s), that is looked at (p), an expression, held by several (e) or alone (t) -/
inductive Ag where
  | s (i : Nat)
  | p (i : Nat)
  | e (m : Cm D)
  | t (m : Cm D)
def agRun : List Ag → Cm (List (Option D))
  | [] => fun ρ => .ok [] ρ
  | .s i :: as => fun ρ => match ρ[i]? with
    | some (some _) => (agRun as ρ).bind fun ts ρ => .ok (none :: ts) ρ
    | _ => .stuck
  | .p i :: as => fun ρ => match ρ[i]? with
    | some (some _) => (agRun as ρ).bind fun ts ρ => .ok (none :: ts) ρ
    | _ => .stuck
  | .e m :: as => fun ρ => (m ρ).bind fun d ρ => (agRun as ρ).bind fun ts ρ => .ok (some d :: ts) ρ
  | .t m :: as => fun ρ => (m ρ).bind fun d ρ => (agRun as ρ).bind fun ts ρ => .ok (some d :: ts) ρ
/-- the arguments' data, and the slots behind: emptied, frozen -/
def agGet : List Ag → List (Option D) → DE → Option (List D × DE)
  | [], [], ρ => some ([], ρ)
  | .s i :: as, none :: ts, ρ => match ρ[i]? with
    | some (some d) => (agGet as ts (ρ.set i none)).map fun r => (d :: r.1, r.2)
    | _ => none
  | .p i :: as, none :: ts, ρ => match ρ[i]? with
    | some (some d) => (agGet as ts (ρ.set i (some d.fz))).map fun r => (d.fz :: r.1, r.2)
    | _ => none
  | .e _ :: as, some d :: ts, ρ => (agGet as ts ρ).map fun r => (d.fz :: r.1, r.2)
  | .t _ :: as, some d :: ts, ρ => (agGet as ts ρ).map fun r => (d :: r.1, r.2)
  | _, _, _ => none
/-- where what may be changed comes back to: a slot, or nowhere -/
def agOuts : List Ag → List (Option Nat)
  | [] => []
  | .s i :: as => some i :: agOuts as
  | .p _ :: as => agOuts as
  | .e _ :: as => agOuts as
  | .t _ :: as => none :: agOuts as
/-- the places among the arguments of those that may be changed -/
def agIo : Nat → List Ag → List Nat
  | _, [] => []
  | n, .s _ :: as => n :: agIo (n + 1) as
  | n, .p _ :: as => agIo (n + 1) as
  | n, .e _ :: as => agIo (n + 1) as
  | n, .t _ :: as => n :: agIo (n + 1) as
def putD (ρ : DE) : List (Option Nat) → List D → DE
  | some i :: is, d :: ds => (putD ρ is ds).set i (some d)
  | none :: is, d :: ds => putD ρ is ds
  | _, _ => ρ
def D.isSc : D → Bool
  | .sc _ => true
  | _ => false
/-- what shares nothing with anything -/
def D.isFree : D → Bool
  | .sc _ => true
  | .lst .own xs => xs.all D.isSc
  | _ => false
theorem isSc_cnt {a : Addr} : ∀ {ts : List T}, (Ts.d ts).all D.isSc = true → Ts.oc a ts = 0 ∧ Ts.sh a ts = 0
  | [], _ => by simp [Ts.oc, Ts.sh]
  | t :: ts, h => by
    simp only [Ts.d, List.all_cons, Bool.and_eq_true] at h
    have ih := isSc_cnt (a := a) h.2
    cases t with
    | sc x => simp [Ts.oc, Ts.sh, T.oc, T.sh, ih]
    | _ => simp [T.d, D.isSc] at h
def mCall (M : List D → RF) (as : List Ag) : Cm D := fun ρ => (agRun as ρ).bind fun ts ρ => match agGet as ts ρ with
  | some (ds, ρ') => match M ds with
    | .ok d us => if us.length = (agOuts as).length then (if d.isFree && (agOuts as).isEmpty then .ok d ρ else .ok d (putD ρ' (agOuts as) us)) else .stuck
    | .exc x us => if us.length = (agOuts as).length then .exc x (putD ρ' (agOuts as) us) else .stuck
    | .stuck => .stuck
  | none => .stuck
def AgV (σ : L2.St) : List Ag → List (Option T) → List V → Prop
  | [], [], [] => True
  | .s i :: as, none :: us, v :: vs => σ[i]? = some (some v) ∧ AgV σ as us vs
  | .p i :: as, none :: us, v :: vs => σ[i]? = some (some v) ∧ AgV σ as us vs
  | .e _ :: as, some t :: us, v :: vs => v = t.v ∧ AgV σ as us vs
  | .t _ :: as, some t :: us, v :: vs => v = t.v ∧ AgV σ as us vs
  | _, _, _ => False
def live : List (Option T) → List T
  | [] => []
  | none :: r => live r
  | some t :: r => t :: live r
def agSlots : List Ag → List Nat
  | [] => []
  | .s i :: as => i :: agSlots as
  | .p _ :: as => agSlots as
  | .e _ :: as => agSlots as
  | .t _ :: as => agSlots as
section
variable {X : Cx} {g : Gh} {W : WX} {pos : Pos} {α : Type}
theorem outs_slots : ∀ as : List Ag, (agOuts as).filterMap id = agSlots as
  | [] => rfl
  | .s i :: as => by simp [agOuts, agSlots, outs_slots as]
  | .p _ :: as => by simp [agOuts, agSlots, outs_slots as]
  | .e _ :: as => by simp [agOuts, agSlots, outs_slots as]
  | .t _ :: as => by simp [agOuts, agSlots, outs_slots as]
/-- the arguments' trees side by side, the slots emptied or frozen -/
theorem gather {H : Hp} {σ : L2.St} {tm : List T} : ∀ {as : List Ag} {us : List (Option T)} {vs : List V} {ds : List D} {ρ' : DE} {sl : List (Option T)} {pre : List T}, AgV σ as us vs → agGet as (us.map (Option.map T.d)) (den sl) = some (ds, ρ') →
    SR g H σ sl (pre ++ (live us ++ tm)) → ∃ ts sl', SR g H σ sl' (pre ++ (ts ++ tm)) ∧ den sl' = ρ' ∧ ts.map T.v = vs ∧ Ts.d ts = ds ∧ (agOuts as = [] → ∀ a, Ts.oc a ts = 0) ∧ (∀ i : Nat, sl[i]? = some none → sl'[i]? = some none) ∧ ∀ i : Nat, i ∈ agSlots as → sl'[i]? = some none
  | [], [], [], ds, ρ', sl, pre, _, h, s => by
    simp [agGet] at h
    obtain ⟨rfl, rfl⟩ := h
    exact ⟨[], sl, by simpa [live] using s, rfl, rfl, rfl, fun _ _ => rfl, fun _ h => h, fun i h => by simp [agSlots] at h⟩
  | .s i :: as, none :: us, v :: vs, ds, ρ', sl, pre, hv, h, s => by
    obtain ⟨h1, hv⟩ := hv
    simp only [List.map_cons, Option.map_none, agGet] at h
    split at h
    · rename_i d e
      obtain ⟨⟨r1, r2⟩, hr, er⟩ := Option.map_eq_some_iff.mp h
      cases er
      obtain ⟨t, e1, e2, e4, e3⟩ := s.val e
      subst e2
      have s1 := s.move e1
      have s2 : SR g H σ (sl.set i none) ((pre ++ [t]) ++ (live us ++ tm)) := s1.tmp (by
        have := s1.okT
        rw [Ts.ok_iff] at this ⊢
        intro u m
        exact this u (by simp [live] at m ⊢; rcases m with m | m | m | m <;> simp [m])) fun a => by simp only [live, List.cons_append, Ts.oc, Ts.sh, Ts.oc_append, Ts.sh_append]; omega
      obtain ⟨ts, sl', g1, g2, g3, g4, g5, g6, g7⟩ := gather hv (by rw [den_set]; exact hr) s2
      have hi : i < sl.length := by
        by_cases q : i < sl.length
        · exact q
        · rw [List.getElem?_eq_none (by omega)] at e1; cases e1
      refine ⟨t :: ts, sl', by simpa using g1, g2, ?_, by simp [Ts.d, g4], fun h => by simp [agOuts] at h, fun j hj => g6 j ?_, fun j hj => ?_⟩
      · rw [h1] at e3
        simp [g3, Option.some.inj (Option.some.inj e3)]
      · by_cases q : i = j
        · subst q; rw [List.getElem?_set_self hi]
        · rw [List.getElem?_set_ne q]; exact hj
      · rcases List.mem_cons.mp hj with rfl | hj
        · exact g6 _ (by rw [List.getElem?_set_self hi])
        · exact g7 j hj
    · cases h
  | .p i :: as, none :: us, v :: vs, ds, ρ', sl, pre, hv, h, s => by
    obtain ⟨h1, hv⟩ := hv
    simp only [List.map_cons, Option.map_none, agGet] at h
    split at h
    · rename_i d e
      obtain ⟨⟨r1, r2⟩, hr, er⟩ := Option.map_eq_some_iff.mp h
      cases er
      obtain ⟨t, e1, e2, e4, e3⟩ := s.val e
      subst e2
      have s1 := s.read e1
      have s2 : SR g H σ (sl.set i (some t.fz)) ((pre ++ [t.fz]) ++ (live us ++ tm)) := s1.tmp (by
        have := s1.okT
        rw [Ts.ok_iff] at this ⊢
        intro u m
        exact this u (by simp [live] at m ⊢; rcases m with m | m | m | m <;> simp [m])) fun a => by simp only [live, List.cons_append, Ts.oc, Ts.sh, Ts.oc_append, Ts.sh_append]; omega
      obtain ⟨ts, sl', g1, g2, g3, g4, g5, g6, g7⟩ := gather hv (by rw [den_set]; simpa [T.fz_d] using hr) s2
      refine ⟨t.fz :: ts, sl', by simpa using g1, g2, ?_, by simp [Ts.d, g4, T.fz_d], fun h a => by simp [Ts.oc, T.fz_oc, g5 h a], fun j hj => g6 j ?_, fun j hj => g7 j hj⟩
      · rw [h1] at e3
        simp [g3, T.fz_v, Option.some.inj (Option.some.inj e3)]
      · by_cases q : i = j
        · subst q; rw [e1] at hj; cases hj
        · rw [List.getElem?_set_ne q]; exact hj
    · cases h
  | .e m :: as, some t :: us, v :: vs, ds, ρ', sl, pre, hv, h, s => by
    obtain ⟨h1, hv⟩ := hv
    subst h1
    simp only [List.map_cons, Option.map_some, agGet] at h
    obtain ⟨⟨r1, r2⟩, hr, er⟩ := Option.map_eq_some_iff.mp h
    cases er
    have s2 : SR g H σ sl ((pre ++ [t.fz]) ++ (live us ++ tm)) := s.tmp (by
        have := s.okT
        rw [Ts.ok_iff] at this ⊢
        intro u m
        simp [live] at m this
        rcases m with m | m | m | m
        · exact this u (.inl m)
        · subst m; exact T.fz_ok t (this t (.inr (.inl rfl)))
        · exact this u (.inr (.inr (.inl m)))
        · exact this u (.inr (.inr (.inr m)))) fun a => by
          have iv := s.inv a
          simp only [live, List.cons_append, Ts.oc, Ts.sh, Ts.oc_append, Ts.sh_append, T.fz_oc, T.fz_sh] at iv ⊢; omega
    obtain ⟨ts, sl', g1, g2, g3, g4, g5, g6, g7⟩ := gather hv hr s2
    exact ⟨t.fz :: ts, sl', by simpa using g1, g2, by simp [g3, T.fz_v], by simp [Ts.d, g4, T.fz_d], fun h a => by simp [Ts.oc, T.fz_oc, g5 h a], g6, g7⟩
  | .t m :: as, some t :: us, v :: vs, ds, ρ', sl, pre, hv, h, s => by
    obtain ⟨h1, hv⟩ := hv
    subst h1
    simp only [List.map_cons, Option.map_some, agGet] at h
    obtain ⟨⟨r1, r2⟩, hr, er⟩ := Option.map_eq_some_iff.mp h
    cases er
    have s2 : SR g H σ sl ((pre ++ [t]) ++ (live us ++ tm)) := by simpa [live] using s
    obtain ⟨ts, sl', g1, g2, g3, g4, g5, g6, g7⟩ := gather hv hr s2
    exact ⟨t :: ts, sl', by simpa using g1, g2, by simp [g3], by simp [Ts.d, g4], fun h => by simp [agOuts] at h, g6, g7⟩
  | [], [], _ :: _, _, _, _, _, hv, _, _ => hv.elim
  | [], _ :: _, _, _, _, _, _, hv, _, _ => hv.elim
  | .s _ :: _, [], _, _, _, _, _, hv, _, _ => hv.elim
  | .s _ :: _, none :: _, [], _, _, _, _, hv, _, _ => hv.elim
  | .s _ :: _, some _ :: _, _, _, _, _, _, hv, _, _ => hv.elim
  | .p _ :: _, [], _, _, _, _, _, hv, _, _ => hv.elim
  | .p _ :: _, none :: _, [], _, _, _, _, hv, _, _ => hv.elim
  | .p _ :: _, some _ :: _, _, _, _, _, _, hv, _, _ => hv.elim
  | .e _ :: _, [], _, _, _, _, _, hv, _, _ => hv.elim
  | .e _ :: _, none :: _, _, _, _, _, _, hv, _, _ => hv.elim
  | .e _ :: _, some _ :: _, [], _, _, _, _, hv, _, _ => hv.elim
  | .t _ :: _, [], _, _, _, _, _, hv, _, _ => hv.elim
  | .t _ :: _, none :: _, _, _, _, _, _, hv, _, _ => hv.elim
  | .t _ :: _, some _ :: _, [], _, _, _, _, hv, _, _ => hv.elim
/-- the call itself -/
theorem SR.call {H H' : Hp} {σ : L2.St} {sl : List (Option T)} {tm ts us : List T} (s : SR g H σ sl (ts ++ tm)) (h : Aft g.c H ts H' us) : SR g H' σ sl (us ++ tm) := by
  have iv := s.inv
  have kept : ∀ a, 0 < So (T.oc a) sl + So (T.sh a) sl + Ts.oc a tm + Ts.sh a tm → H' a = H a := fun a q => by
    have i := iv a
    rw [Ts.oc_append, Ts.sh_append] at i
    obtain ⟨u, e2, pu⟩ := s.plain (a := a) (by rw [Ts.oc_append, Ts.sh_append]; omega)
    rw [e2]
    exact h.frame a u e2 (plain_nt pu) (by omega)
  refine s.goT (s.stayS fun a q => kept a (by omega)) ?_ (fun a => ?_) (fun a o ha hn ho => ?_) h.tabs s.len s.slen s.at_ s.io
  · have k := s.okT
    rw [Ts.ok_iff] at k ⊢
    intro t m
    rcases List.mem_append.mp m with m | m
    · exact Ts.ok_iff.mp h.ok t m
    · refine T.stay t (k t (List.mem_append_right _ m)) fun a q => kept a ?_
      have h1 := Ts.oc_mem (a := a) m; have h2 := Ts.sh_mem (a := a) m
      omega
  · have i := iv a
    have j := h.inv a
    have p := h.prov a
    rw [Ts.oc_append, Ts.sh_append] at i ⊢
    rw [Ts.oc_append, Ts.sh_append]
    by_cases hn : Sol g.c H a
    · by_cases ho : Ts.oc a ts = 0
      · have p := p hn ho
        refine .inl ⟨by omega, fun q => .inl ?_⟩
        by_cases z : Ts.sh a ts = 0
        · have := p.2 z; omega
        · omega
      · refine .inr ⟨.inr (by omega), ?_⟩
        omega
    · have fr : So (T.oc a) sl + Ts.oc a (ts ++ tm) + So (T.sh a) sl + Ts.sh a (ts ++ tm) = 0 := Nat.eq_zero_of_not_pos fun q => by
        obtain ⟨u, e2, pu⟩ := s.plain q
        exact hn ⟨u, e2, .inl (plain_nt pu)⟩
      rw [Ts.oc_append, Ts.sh_append] at fr
      refine .inr ⟨.inl hn, ?_⟩
      omega
  · rw [Ts.oc_append] at ho
    exact h.frame a o ha hn (by omega)
/-- a tree goes back to its slot -/
theorem SR.back {H : Hp} {σ : L2.St} {sl : List (Option T)} {tm : List T} {i : Nat} {t : T} (s : SR g H σ sl (t :: tm)) (hv : σ[i]? = some (some t.v)) (hn : sl[i]? = some none) : SR g H σ (sl.set i (some t)) tm := by
  have k := s.okT
  simp only [Ts.ok] at k
  refine s.turn (fun u hu => ?_) k.2 (fun a => ?_) (by simp [s.slen]) fun j u hu => ?_
  · rcases mem_set hu with e | e
    · cases e; exact k.1
    · exact s.okS u e
  · have h1 := So_set (f := T.oc a) (x := some t) hn
    have h2 := So_set (f := T.sh a) (x := some t) hn
    simp only [fO, Ts.oc, Ts.sh] at h1 h2 ⊢
    omega
  · rcases set_get hu with ⟨rfl, e⟩ | ⟨_, e⟩
    · cases e; exact hv
    · exact s.at_ _ _ e
/-- more stands in the heap -/
theorem SR.extK {H H' : Hp} {σ : L2.St} {sl : List (Option T)} {tm : List T} (s : SR g H σ sl tm) (h : ∀ a o, H a = some o → NT o → H' a = some o) (hT : LamX.Tabs g.c.tb H') : SR g H' σ sl tm := by
  have kept : ∀ a, 0 < So (T.oc a) sl + Ts.oc a tm + So (T.sh a) sl + Ts.sh a tm → H' a = H a := fun a q => by
    obtain ⟨o, e, po⟩ := s.plain q
    rw [e]
    exact h a o e (plain_nt po)
  exact s.goT (s.stayS fun a q => kept a (by omega)) (s.stayT fun a q => kept a (by omega)) (fun a => .inl ⟨Nat.le_refl _, fun q => .inl q⟩) (fun a o ha hn _ => h a o ha hn) hT s.len s.slen s.at_ s.io
theorem putD_get {ρ : DE} {i : Nat} : ∀ {is : List (Option Nat)} {ds : List D}, some i ∉ is → (putD ρ is ds)[i]? = ρ[i]?
  | [], _, _ => by simp [putD]
  | some j :: is, [], _ => by simp [putD]
  | none :: is, [], _ => by simp [putD]
  | none :: is, d :: ds, h => by
    simp only [List.mem_cons, not_or] at h
    simp only [putD]
    exact putD_get h.2
  | some j :: is, d :: ds, h => by
    simp only [List.mem_cons, not_or, Option.some.injEq] at h
    simp only [putD]
    rw [List.getElem?_set_ne (fun e => h.1 e.symm)]
    exact putD_get h.2
/-- .. all of them -/
theorem scatter {H : Hp} {σ : L2.St} {tm : List T} : ∀ {is : List (Option Nat)} {us : List T} {sl : List (Option T)}, (is.filterMap id).Nodup → (∀ i ∈ is.filterMap id, sl[i]? = some none) → is.length = us.length → (∀ (j : Nat) (i : Nat) (u : T), is[j]? = some (some i) → us[j]? = some u → σ[i]? = some (some u.v)) →
    SR g H σ sl (us ++ tm) → ∃ sl', SR g H σ sl' tm ∧ den sl' = putD (den sl) is (Ts.d us)
  | [], [], sl, _, _, _, _, s => ⟨sl, s, rfl⟩
  | [], _ :: _, _, _, _, h, _, _ => by cases h
  | _ :: _, [], _, _, _, h, _, _ => by cases h
  | none :: is, u :: us, sl, nd, hn, hl, hv, s => by
    obtain ⟨sl', s2, e2⟩ := scatter (is := is) (us := us) (by simpa using nd) (fun j hj => hn j (by simpa using hj)) (by simpa using hl) (fun j k w h1 h2 => hv (j + 1) k w (by simpa using h1) (by simpa using h2)) s.pop
    exact ⟨sl', s2, by rw [e2]; rfl⟩
  | some i :: is, u :: us, sl, nd, hn, hl, hv, s => by
    simp only [List.filterMap_cons, id] at nd hn
    obtain ⟨ni, nd⟩ := List.nodup_cons.mp nd
    -- the others first, this one held
    have s1 : SR g H σ sl (us ++ (u :: tm)) := s.tmp (by
        have := s.okT
        rw [Ts.ok_iff] at this ⊢
        intro t m
        exact this t (by simp at m ⊢; rcases m with m | m | m <;> simp [m])) fun a => by simp only [List.cons_append, Ts.oc, Ts.sh, Ts.oc_append, Ts.sh_append]; omega
    obtain ⟨sl', s2, e2⟩ := scatter nd (fun j hj => hn j (List.mem_cons_of_mem _ hj)) (by simpa using hl) (fun j k w h1 h2 => hv (j + 1) k w (by simpa using h1) (by simpa using h2)) s1
    have e3 : sl'[i]? = some none := by
      have z : (den sl')[i]? = some none := by
        rw [e2, putD_get (fun m => ni (List.mem_filterMap.mpr ⟨_, m, rfl⟩))]
        unfold den
        rw [List.getElem?_map, hn i (by simp)]
        rfl
      unfold den at z
      rw [List.getElem?_map] at z
      cases q : sl'[i]? with
      | none => rw [q] at z; cases z
      | some o =>
        cases o with
        | none => rfl
        | some t => rw [q] at z; simp at z
    exact ⟨sl'.set i (some u), s2.back (hv 0 i u rfl rfl) e3, by rw [den_set, e2]; rfl⟩
end
end VS
namespace VS
open PySem PySem.Spec PyProof.Rows L2
def tAs (g : Gh) (W : WX) (as : List Ag) : TA := fun σ H Q => ∃ sl tm, SR g H σ sl tm ∧ Lands g W tm (agRun as (den sl)) fun ts ρ' => ∀ H' sl' us vs, SR g H' σ sl' ((live us).reverse ++ tm) → den sl' = ρ' → us.map (Option.map T.d) = ts → AgV σ as us vs → Q vs H'
section
variable {X : Cx} {g : Gh} {W : WX} {pos : Pos} {α : Type} {e : Expr} {es : List Expr} {m : Cm D} {as : List Ag}
theorem as_nil : PA X [] (tAs g W []) := pa_nil.imp fun σ H Q ⟨sl, tm, s, h⟩ => h H sl [] [] s rfl rfl trivial
theorem tAs.go {σ : L2.St} {H : Hp} {sl : List (Option T)} {tm : List T} {Q : List V → Hp → Prop} {f : List (Option D) → Cm α} {k : α → DE → Prop} (s : SR g H σ sl tm) (h : Lands g W tm ((agRun as (den sl)).bind f) k)
    (q : ∀ H' sl' us vs, SR g H' σ sl' ((live us).reverse ++ tm) → AgV σ as us vs → Lands g W tm (f (us.map (Option.map T.d)) (den sl')) k → Q vs H') : tAs g W as σ H Q := by
  refine ⟨sl, tm, s, ?_⟩
  cases e : agRun as (den sl) with
  | ok d ρ =>
    rw [e] at h
    intro H' sl' us vs s' e1 e2 hv
    subst e1; subst e2
    exact q H' sl' us vs s' hv h
  | exc x ρ => rw [e] at h; exact h
  | stuck => rw [e] at h; exact h
theorem as_s {i : Nat} (ha : PE X e (tVar i)) (hr : PA X es (tAs g W as)) (hs : starEach (e :: es) X.env = (false, eval e X.env) :: starEach es X.env := by rfl) : PA X (e :: es) (tAs g W (.s i :: as)) :=
  (pa_cons ha hr hs).imp fun σ H Q ⟨sl, tm, s, h⟩ => by
    simp only [agRun] at h
    split at h
    · rename_i d e
      obtain ⟨t, e1, e2, e4, e3⟩ := s.val e
      refine ⟨t.v, e3, ?_⟩
      refine tAs.go s h fun H1 sl1 us vs s1 hv h1 => ?_
      exact h1 H1 sl1 (none :: us) (t.v :: vs) s1 rfl rfl ⟨e3, hv⟩
    · exact h.elim
theorem as_p {i : Nat} (ha : PE X e (tVar i)) (hr : PA X es (tAs g W as)) (hs : starEach (e :: es) X.env = (false, eval e X.env) :: starEach es X.env := by rfl) : PA X (e :: es) (tAs g W (.p i :: as)) :=
  (pa_cons ha hr hs).imp fun σ H Q ⟨sl, tm, s, h⟩ => by
    simp only [agRun] at h
    split at h
    · rename_i d e
      obtain ⟨t, e1, e2, e4, e3⟩ := s.val e
      refine ⟨t.v, e3, ?_⟩
      refine tAs.go s h fun H1 sl1 us vs s1 hv h1 => ?_
      exact h1 H1 sl1 (none :: us) (t.v :: vs) s1 rfl rfl ⟨e3, hv⟩
    · exact h.elim
theorem as_e (ha : PE X e (tE g W m)) (hr : PA X es (tAs g W as)) (hs : starEach (e :: es) X.env = (false, eval e X.env) :: starEach es X.env := by rfl) : PA X (e :: es) (tAs g W (.e m :: as)) :=
  (pa_cons ha hr hs).imp fun σ H Q ⟨sl, tm, s, h⟩ => by
    simp only [agRun] at h
    refine tE.of s h fun H1 sl1 t1 s1 h1 => ?_
    refine tAs.go s1 (Lands.drop h1) fun H2 sl2 us vs s2 hv h2 => ?_
    exact h2 H2 sl2 (some t1 :: us) (t1.v :: vs) (by simpa [live] using s2) rfl rfl ⟨rfl, hv⟩
theorem ioV_ag {σ : L2.St} : ∀ {as : List Ag} {us : List (Option T)} {vs pre ws : List V}, AgV σ as us vs → ioV (pre ++ vs) (agIo pre.length as) = some ws → ws.length = (agOuts as).length ∧ ∀ (j i : Nat) (w : V), (agOuts as)[j]? = some (some i) → ws[j]? = some w → σ[i]? = some (some w)
  | [], us, vs, pre, ws, hv, h => by
    simp [agIo, ioV] at h; subst h
    simp [agOuts]
  | .s i :: as, none :: us, v :: vs, pre, ws, hv, h => by
    obtain ⟨h1, hv⟩ := hv
    simp only [agIo, ioV] at h
    rw [List.getElem?_append_right (Nat.le_refl _), Nat.sub_self] at h
    simp only [List.getElem?_cons_zero] at h
    obtain ⟨r, hr, rfl⟩ := Option.map_eq_some_iff.mp h
    have ih := ioV_ag (pre := pre ++ [v]) hv (by simpa using hr)
    refine ⟨by simp [agOuts, ih.1], fun j k w hj hw => ?_⟩
    cases j with
    | zero => simp [agOuts] at hj hw; subst hj hw; exact h1
    | succ j => exact ih.2 j k w (by simpa [agOuts] using hj) (by simpa using hw)
  | .e _ :: as, some t :: us, v :: vs, pre, ws, hv, h => by
    obtain ⟨h1, hv⟩ := hv
    simp only [agIo] at h
    have ih := ioV_ag (pre := pre ++ [v]) hv (by simpa using h)
    exact ⟨by simpa [agOuts] using ih.1, fun j k w hj hw => ih.2 j k w (by simpa [agOuts] using hj) hw⟩
  | .t _ :: as, some t :: us, v :: vs, pre, ws, hv, h => by
    obtain ⟨h1, hv⟩ := hv
    simp only [agIo, ioV] at h
    rw [List.getElem?_append_right (Nat.le_refl _), Nat.sub_self] at h
    simp only [List.getElem?_cons_zero] at h
    obtain ⟨r, hr, rfl⟩ := Option.map_eq_some_iff.mp h
    have ih := ioV_ag (pre := pre ++ [v]) hv (by simpa using hr)
    refine ⟨by simp [agOuts, ih.1], fun j k w hj hw => ?_⟩
    cases j with
    | zero => simp [agOuts] at hj
    | succ j => exact ih.2 j k w (by simpa [agOuts] using hj) (by simpa using hw)
  | .p i :: as, none :: us, v :: vs, pre, ws, hv, h => by
    obtain ⟨h1, hv⟩ := hv
    simp only [agIo] at h
    have ih := ioV_ag (pre := pre ++ [v]) hv (by simpa using h)
    exact ⟨by simpa [agOuts] using ih.1, fun j k w hj hw => ih.2 j k w (by simpa [agOuts] using hj) hw⟩
  | .p _ :: _, [], _, _, _, hv, _ => hv.elim
  | .p _ :: _, none :: _, [], _, _, hv, _ => hv.elim
  | .p _ :: _, some _ :: _, _, _, _, hv, _ => hv.elim
  | .s _ :: _, [], _, _, _, hv, _ => hv.elim
  | .s _ :: _, none :: _, [], _, _, hv, _ => hv.elim
  | .s _ :: _, some _ :: _, _, _, _, hv, _ => hv.elim
  | .e _ :: _, [], _, _, _, hv, _ => hv.elim
  | .e _ :: _, none :: _, _, _, _, hv, _ => hv.elim
  | .e _ :: _, some _ :: _, [], _, _, hv, _ => hv.elim
  | .t _ :: _, [], _, _, _, hv, _ => hv.elim
  | .t _ :: _, none :: _, _, _, _, hv, _ => hv.elim
  | .t _ :: _, some _ :: _, [], _, _, hv, _ => hv.elim
theorem AgV.len {σ : L2.St} : ∀ {as : List Ag} {us : List (Option T)} {vs : List V}, AgV σ as us vs → vs.length = as.length
  | [], [], [], _ => rfl
  | [], [], _ :: _, h => h.elim
  | [], _ :: _, _, h => h.elim
  | .s _ :: as, none :: us, v :: vs, h => by simp [AgV.len h.2]
  | .e _ :: as, some t :: us, v :: vs, h => by simp [AgV.len h.2]
  | .p _ :: as, none :: us, v :: vs, h => by simp [AgV.len h.2]
  | .p _ :: _, [], _, h => h.elim
  | .p _ :: _, none :: _, [], h => h.elim
  | .p _ :: _, some _ :: _, _, h => h.elim
  | .t _ :: as, some t :: us, v :: vs, h => by simp [AgV.len h.2]
  | .s _ :: _, [], _, h => h.elim
  | .s _ :: _, none :: _, [], h => h.elim
  | .s _ :: _, some _ :: _, _, h => h.elim
  | .e _ :: _, [], _, h => h.elim
  | .e _ :: _, none :: _, _, h => h.elim
  | .e _ :: _, some _ :: _, [], h => h.elim
  | .t _ :: _, [], _, h => h.elim
  | .t _ :: _, none :: _, _, h => h.elim
  | .t _ :: _, some _ :: _, [], h => h.elim
theorem live_rev {us : List (Option T)} {tm : List T} {H : Hp} {σ : L2.St} {sl : List (Option T)} (s : SR g H σ sl ((live us).reverse ++ tm)) : SR g H σ sl ([] ++ (live us ++ tm)) := s.tmp (by
  have := s.okT
  rw [Ts.ok_iff] at this ⊢
  intro u m
  exact this u (by simpa using m)) fun a => by simp only [List.nil_append, Ts.oc_append, Ts.sh_append, Ts.oc_rev, Ts.sh_rev]; omega
theorem call_imp {c : Cfg} {M : List D → RF} {np : Nat} {io : List Nat} (hc : g.c = c) (hio : agIo 0 as = io) (hl : as.length = np) (hnd : (agSlots as).Nodup) (σ : L2.St) (H : Hp) (Q : VK) (q : tE g W (mCall M as) σ H Q) :
    tAs g W as σ H fun vs H1 => spM c np io M vs H1 Q (WE W σ) := by
  obtain ⟨sl, tm, s, h⟩ := q
  unfold mCall at h
  refine tAs.go s h fun H1 sl1 us vs s1 hv h1 => ?_
  cases eg : agGet as (us.map (Option.map T.d)) (den sl1) with
  | none => rw [eg] at h1; exact h1.elim
  | some r =>
    obtain ⟨ds, ρ'⟩ := r
    rw [eg] at h1
    obtain ⟨ts, sl2, s2, eρ, e1, e2, hfz, _, hno⟩ := gather hv eg (live_rev s1)
    rw [List.nil_append] at s2
    have kts : Ts.ok g.c H1 ts := by
      have := s2.okT
      rw [Ts.ok_iff] at this ⊢
      exact fun u m => this u (List.mem_append_left _ m)
    refine ⟨ts, e1.symm, hc ▸ kts, hc ▸ s2.tabs, fun a => ?_, ?_, ?_⟩
    · have := s2.inv a
      rw [Ts.oc_append, Ts.sh_append] at this
      omega
    · have := hv.len
      rw [← e1] at this
      simpa [hl] using this
    · rw [e2]
      simp only [] at h1
      -- behind the call
      have back : ∀ {H' : Hp} {t : T} {ws : List T}, Aft c H1 ts H' (t :: ws) → ioV vs io = some (ws.map T.v) → ∃ sl', SR g H' σ sl' (t :: tm) ∧ den sl' = putD ρ' (agOuts as) (Ts.d ws) ∧ ws.length = (agOuts as).length := fun {H' t ws} ha hi => by
        have s3 := s2.call (hc ▸ ha)
        have s4 : SR g H' σ sl2 (ws ++ (t :: tm)) := s3.tmp (by
          have := s3.okT
          rw [Ts.ok_iff] at this ⊢
          intro u m
          exact this u (by simp at m ⊢; rcases m with m | m | m <;> simp [m])) fun a => by simp only [List.cons_append, Ts.oc, Ts.sh, Ts.oc_append, Ts.sh_append]; omega
        rw [← hio] at hi
        have w := ioV_ag (pre := []) hv hi
        have wl : ws.length = (agOuts as).length := by simpa using w.1
        obtain ⟨sl', g1, g2⟩ := scatter (is := agOuts as) (by rw [outs_slots]; exact hnd) (fun i hi => by rw [outs_slots] at hi; exact hno i hi) wl.symm (fun j i u h1 h2 => w.2 j i u.v h1 (by rw [List.getElem?_map, h2]; rfl)) s4
        exact ⟨sl', g1, by rw [g2, eρ], wl⟩
      cases em : M ds with
      | stuck => rw [em] at h1; exact h1.elim
      | ok d ws =>
        rw [em] at h1
        intro H' t us' ha ed eu hi
        obtain ⟨sl', g1, g2, g3⟩ := back ha hi
        subst ed eu
        simp only [] at h1
        rw [if_pos (by rw [Ts.d_len]; exact g3)] at h1
        by_cases hsc : (t.d.isFree && (agOuts as).isEmpty) = true
        · rw [if_pos hsc] at h1
          obtain ⟨h2, h3⟩ := Bool.and_eq_true_iff.mp hsc
          have ho : agOuts as = [] := List.isEmpty_iff.mp h3
          have gt : t.ok g.c H' := by have := ha.ok; simp only [Ts.ok] at this; exact hc ▸ this.1
          have s5 : SR g H' σ sl1 tm := (s1.popL).extK (fun a o e n => ha.frame a o e n (hfz ho a)) (hc ▸ ha.tabs)
          cases t with
          | sc x => exact h1 H' sl1 (.sc x) (s5.push x (by simpa [T.ok] using gt)) rfl rfl
          | lst p o xs =>
            cases o <;> simp only [T.d, D.isFree] at h2 <;> try cases h2
            have cx : ∀ a, Ts.oc a xs = 0 ∧ Ts.sh a xs = 0 := fun a => isSc_cnt h2
            have s0 := s1.popL
            have root : ¬ Sol g.c H1 p := fun e => by
              have := (ha.prov p (hc ▸ e) (hfz ho p)).1
              simp [Ts.oc, T.oc, b2] at this
            have fr : So (T.oc p) sl1 + Ts.oc p tm + So (T.sh p) sl1 + Ts.sh p tm = 0 := Nat.eq_zero_of_not_pos fun q => by
              obtain ⟨u, e2, pu⟩ := s0.plain q
              exact root ⟨u, e2, .inl (plain_nt pu)⟩
            refine h1 H' sl1 (T.lst p .own xs) (s0.goT s5.okS (by simp only [Ts.ok]; exact ⟨gt, s5.okT⟩) (fun a => ?_) (fun a o e n _ => ha.frame a o e n (hfz ho a)) (hc ▸ ha.tabs) s0.len s0.slen s0.at_ s0.io) rfl rfl
            · have := cx a
              simp only [Ts.oc, Ts.sh, T.oc, T.sh]
              by_cases e : p = a
              · subst e
                refine .inr ⟨.inl root, .inr ?_⟩
                simp [b2]
                omega
              · simp [b2, e]
                refine .inl ⟨by omega, fun q => .inl (by omega)⟩
          | _ => simp [T.d, D.isFree] at h2
        · rw [if_neg hsc] at h1
          exact h1 H' sl' t g1 g2 rfl
      | exc x ws =>
        rw [em] at h1
        intro H' a dx us' ha eu hi
        obtain ⟨sl', g1, g2, g3⟩ := back ha hi
        subst eu
        simp only [] at h1
        rw [if_pos (by rw [Ts.d_len]; exact g3)] at h1
        have := h1 H' σ sl' a dx g1 g2
        rw [← hc]
        exact this
theorem e_call {f : Addr} {fd : FuncData} {ps : List Str} {x : Str} {p : Pos} {c : Cfg} {M : List D → RF} {k np : Nat} {io : List Nat} (F : FnOk X.prog X.w X.K X.mg X.base (L2.CX X.prog X.w) k f fd ps (spM c np io M)) (hr : Room k X.A) (hg : Gl X x) (hm : X.mg x = some (.ref f)) (hk : PySem.W.keepIn X.K (.ref f) = true) (hb : Binds X.K fd ps []) (tk : Takes X W)
    (ha : PA X (e :: es) (tAs g W as)) (hc : g.c = c) (hio : agIo 0 as = io) (hl : as.length = np) (hnd : (agSlots as).Nodup) (hdb : (x == ("__debug__" : Str)) = false := by decide) (he : starEach (e :: es) X.env = (false, eval e X.env) :: starEach es X.env := by rfl) (hpl : (backTo pos (starEach es X.env)).any (·.1) = false := by rfl) :
    PE X (.Call (.Name x p) (e :: es) [] pos) (tE g W (mCall M as)) := (pe_callS (E := WE W) F hr hg hm hk hb (fun σ => passAt tk σ) ha hdb he hpl).imp (call_imp hc hio hl hnd)
end
end VS

/-! VS, part l: built-ins. -/
namespace VS
open PySem PySem.Spec PyProof.Rows L2

/-! ### isinstance against a built-in class -/
inductive Ty where
  | int | bool | str | list | tuple
  deriving DecidableEq
def Ty.name : Ty → String
  | .int => "int" | .bool => "bool" | .str => "str" | .list => "list" | .tuple => "tuple"
def isTy : Ty → D → Option Sc
  | .int, .sc (.int _) => some (.bl true)
  | .int, .sc (.bl _) => some (.bl true)
  | .bool, .sc (.bl _) => some (.bl true)
  | .str, .sc (.str _) => some (.bl true)
  | .list, .lst _ _ => some (.bl true)
  | .tuple, .tup _ => some (.bl true)
  | _, .sc _ => some (.bl false)
  | _, .lst _ _ => some (.bl false)
  | _, .tup _ => some (.bl false)
  | _, .exn C _ _ => if C = "dict" then some (.bl false) else none
  | _, _ => none
def dTy : D → Option String
  | .sc .non => some "NoneType"
  | .sc (.bl _) => some "bool"
  | .sc (.int _) => some "int"
  | .sc (.str _) => some "str"
  | .lst _ _ => some "list"
  | .tup _ => some "tuple"
  | .exn C _ _ => if C = "dict" then some "dict" else none
  | _ => none
def isTab (a b : String) : Bool := a == b || (a == "bool" && b == "int")
theorem kitB_tab : ∀ a ∈ (["NoneType", "bool", "int", "str", "list", "tuple", "dict"] : List String), ∀ b ∈ (["int", "bool", "str", "list", "tuple"] : List String), kitB a b = some (isTab a b) := by decide +kernel
theorem isTy_tab (y : Ty) (d : D) (c : Sc) (h : isTy y d = some c) : ∃ a, dTy d = some a ∧ c = .bl (isTab a y.name) ∧ a ∈ (["NoneType", "bool", "int", "str", "list", "tuple", "dict"] : List String) := by
  cases d with
  | sc s => cases s <;> cases y <;> (simp only [isTy, Option.some.injEq] at h; subst h; refine ⟨_, rfl, ?_, ?_⟩ <;> decide)
  | lst _ _ => cases y <;> (simp only [isTy, Option.some.injEq] at h; subst h; refine ⟨_, rfl, ?_, ?_⟩ <;> decide)
  | tup _ => cases y <;> (simp only [isTy, Option.some.injEq] at h; subst h; refine ⟨_, rfl, ?_, ?_⟩ <;> decide)
  | exn C ns xs =>
    by_cases e : C = "dict"
    · subst e
      cases y <;> (simp only [isTy, if_true, Option.some.injEq] at h; subst h; refine ⟨"dict", by simp [dTy], ?_, ?_⟩ <;> decide)
    · cases y <;> simp [isTy, e] at h
  | _ => cases y <;> simp [isTy] at h
theorem tyX_of {c : Cfg} {H : Hp} {t : T} {a : String} (k : t.ok c H) (h : dTy t.d = some a) : TyX c.K H t.v (.type a) := by
  cases t with
  | sc s =>
    cases s <;> (simp only [T.d, dTy, Option.some.injEq] at h; subst h)
    · exact .base .non
    · exact .base (.bl _)
    · exact .base (.int _)
    · exact .base (.str _)
  | lst p o xs =>
    simp only [T.d, dTy, Option.some.injEq] at h; subst h
    cases o <;> simp only [T.ok] at k
    · exact .base (.lst k.1)
    · exact .base (.lst k.1)
    · obtain ⟨⟨o, e⟩, _⟩ := k; exact .base (.frz e)
    · rcases k.1 with (h | ⟨_, h⟩) | ⟨o, its, n, hk, hc, _⟩
      · cases h
      · cases h
      · exact .kList hk hc
  | tup p o xs =>
    simp only [T.d, dTy, Option.some.injEq] at h; subst h
    cases o <;> simp only [T.ok] at k
    · exact .base (.tup k.1)
    · rcases k.1 with (h | ⟨_, h⟩) | ⟨o, its, n, hk, hc, _⟩
      · cases h
      · cases h
      · exact .kTuple hk hc
  | exn p dx C ns xs =>
    simp only [T.d, dTy] at h
    split at h
    · rename_i e
      subst e
      cases h
      simp only [T.ok] at k
      cases dx with
      | none => exact absurd rfl k.2.2.2
      | some d =>
        obtain ⟨k1, k2, k3⟩ := k
        have k3 := k3 trivial
        subst k3
        simp only [exnO, if_true] at k2
        exact .base (.dK k2)
    · cases h
  | _ => simp [T.d, dTy] at h

section
variable {X : Cx} {g : Gh} {W : WX} {pos p p2 : Pos} {a b : Expr} {x : Str} {ma mb : Cm D} {oa ob : Opd} {α : Type}
theorem Ty.cls {n : String} : ∀ u, RelV (V.ty n) u → u = Value.type n := fun u h => h
theorem boot_ty (y : Ty) : bootBuiltins (Str.ofString y.name) = some (.type y.name) := by cases y <;> decide +kernel
theorem e_isi {y : Ty} {tn : Str} (ht : tn = Str.ofString y.name) (hK : X.K = g.c.K) (hg : Gl X "isinstance") (hm : X.mg "isinstance" = none) (hg2 : Gl X tn) (hm2 : X.mg tn = none) (ha : PE X a (tO g W oa)) (hn2 : tn ≠ "__name__") (hd2 : (tn == ("__debug__" : Str)) = false)
    (hs1 : starEach (a :: [.Name tn p2]) X.env = (false, eval a X.env) :: starEach [.Name tn p2] X.env := by rfl) (hs2 : starEach [.Name tn p2] X.env = (false, eval (.Name tn p2) X.env) :: starEach [] X.env := by rfl) (hpl : (backTo pos (starEach [.Name tn p2] X.env)).any (·.1) = false := by rfl) :
    PE X (.Call (.Name "isinstance" p) [a, .Name tn p2] [] pos) (tE g W (mP1 (isTy y) oa)) := by
  have hb : PE X (.Name tn p2) (tC (.ty y.name)) := pe_bltn hg2 hm2 (by rw [ht]; exact boot_ty y) rfl hn2 hd2
  refine (pe_callB call_isi hg hm (by decide +kernel) (pa_cons ha (pa_cons hb pa_nil hs2) hs1) (hpl := hpl) (he := hs1)).imp ?_
  refine p1_imp fun H u c Q k h q => ?_
  obtain ⟨t, e1, rfl, hmem⟩ := isTy_tab y u.d c h
  refine ⟨u.v, .ty y.name, .type t, .type y.name, isTab t y.name, rfl, .ty _, ?_, ?_, q trivial⟩
  · rw [hK]; exact tyX_of k e1
  · rw [hK]
    exact kit_ty (kitB_tab t hmem y.name (by cases y <;> decide))

/-! ### a built-in of one operand that is only looked at -/
def HR1 (g : Gh) (f : D → Option Sc) (r : List V → Hp → VK → Prop) : Prop := ∀ H (u : T) c Q, u.ok g.c H → f u.d = some c → (c.good → Q (c.v) H) → r [u.v] H Q
theorem e_b1 {id : String} {f : D → Option Sc} {r : List V → Hp → VK → Prop} (hc : CallR X (.builtin id) r) (hr : HR1 g f r) (hg : Gl X x) (hm : X.mg x = none) (hv : bootBuiltins x = some (.builtin id)) (ha : PE X a (tO g W oa)) (hn : x ≠ "__name__" := by decide) (hdb : (x == ("__debug__" : Str)) = false := by decide)
    (he : starEach (a :: []) X.env = (false, eval a X.env) :: starEach [] X.env := by rfl) : PE X (.Call (.Name x p) [a] [] pos) (tE g W (mP1 f oa)) :=
  (pe_callB hc hg hm hv (pa_cons ha pa_nil he) hn hdb he rfl).imp (p1_imp hr)
theorem e_t1 {id : String} {f : D → Option Sc} {r : List V → Hp → VK → Prop} (hc : CallR X (.type id) r) (hr : HR1 g f r) (hg : Gl X x) (hm : X.mg x = none) (hv : bootBuiltins x = some (.type id)) (ha : PE X a (tO g W oa)) (hn : x ≠ "__name__" := by decide) (hdb : (x == ("__debug__" : Str)) = false := by decide)
    (he : starEach (a :: []) X.env = (false, eval a X.env) :: starEach [] X.env := by rfl) : PE X (.Call (.Name x p) [a] [] pos) (tE g W (mP1 f oa)) :=
  (pe_callTy hc hg hm hv (pa_cons ha pa_nil he) hn hdb he rfl).imp (p1_imp hr)
def lenD : D → Option Sc
  | .sc (.str l) => some (.int l.length)
  | .lst _ xs => some (.int xs.length)
  | .tup xs => some (.int xs.length)
  | _ => none
theorem hr_len {K : PySem.W.Frag} (hK : K = g.c.K) : HR1 g lenD (fun xs H Q => ∃ x n, xs = [x] ∧ LenV K x H n ∧ Q (.int n) H) := fun H u c Q k h q => by
  subst hK
  cases u with
  | sc s =>
    cases s <;> simp [T.d, lenD] at h
    subst h
    simp only [T.ok] at k
    exact ⟨_, _, rfl, ⟨by rw [SZ_eq]; simpa [Str.length] using k.1, by simp [Str.length]⟩, q trivial⟩
  | lst p o xs =>
    simp [T.d, lenD, Ts.d_len] at h
    subst h
    exact ⟨_, _, rfl, .inl ⟨_, (lst_sq k).1, by simp⟩, q trivial⟩
  | tup p o xs =>
    simp [T.d, lenD, Ts.d_len] at h
    subst h
    exact ⟨_, _, rfl, .inr ⟨_, (tup_sq k).1, by simp⟩, q trivial⟩
  | _ => simp [T.d, lenD] at h
def bls : List D → Option (List Bool)
  | [] => some []
  | .sc (.bl b) :: r => (bls r).map (b :: ·)
  | _ => none
theorem bls_ok : ∀ {ts : List T} {l : List Bool}, bls (Ts.d ts) = some l → ts.map T.v = l.map V.bl
  | [], l, h => by simp [Ts.d, bls] at h; subst h; rfl
  | t :: ts, l, h => by
    cases t with
    | sc x =>
      cases x <;> simp only [Ts.d, T.d, bls] at h <;> try cases h
      obtain ⟨r, hr, rfl⟩ := Option.map_eq_some_iff.mp h
      simp [bls_ok hr, T.v, Sc.v]
    | _ => simp [Ts.d, T.d, bls] at h
def allD : D → Option Sc
  | .lst _ xs => (bls xs).map fun l => .bl (l.all id)
  | _ => none
def anyD : D → Option Sc
  | .lst _ xs => (bls xs).map fun l => .bl (l.any id)
  | _ => none
theorem hr_all {K : PySem.W.Frag} (hK : K = g.c.K) : HR1 g allD (rAll K) := fun H u c Q k h q => by
  subst hK
  cases u with
  | lst p o xs =>
    simp only [T.d, allD] at h
    obtain ⟨l, hl, rfl⟩ := Option.map_eq_some_iff.mp h
    refine ⟨p, l, rfl, ?_, q trivial⟩
    rw [← bls_ok hl]; exact (lst_sq k).1
  | sc s => cases s <;> simp [T.d, allD] at h
  | _ => simp [T.d, allD] at h
def intL : List D → Option (List Int)
  | [] => some []
  | .sc (.int b) :: r => (intL r).map (b :: ·)
  | _ => none
theorem intL_ok : ∀ {ts : List T} {l : List Int}, intL (Ts.d ts) = some l → ts.map T.v = l.map V.int
  | [], l, h => by simp [Ts.d, intL] at h; subst h; rfl
  | t :: ts, l, h => by
    cases t with
    | sc x =>
      cases x <;> simp only [Ts.d, T.d, intL] at h <;> try cases h
      obtain ⟨r, hr, rfl⟩ := Option.map_eq_some_iff.mp h
      simp [intL_ok hr, T.v, Sc.v]
    | _ => simp [Ts.d, T.d, intL] at h
def sumD : D → Option Sc
  | .lst _ xs => (intL xs).map fun l => .int l.sum
  | _ => none
theorem hr_sum {K : PySem.W.Frag} (hK : K = g.c.K) : HR1 g sumD (rSum K) := fun H u c Q k h q => by
  subst hK
  cases u with
  | lst p o xs =>
    simp only [T.d, sumD] at h
    obtain ⟨l, hl, rfl⟩ := Option.map_eq_some_iff.mp h
    refine ⟨p, l, rfl, ?_, q trivial⟩
    rw [← intL_ok hl]; exact (lst_sq k).1
  | sc s => cases s <;> simp [T.d, sumD] at h
  | _ => simp [T.d, sumD] at h
/-- int(flag), int(n), int(text) -/
def intD : D → Option Sc
  | .sc (.int i) => some (.int i)
  | .sc (.bl b) => some (.int (if b then 1 else 0))
  | _ => none
/-! ### max, min of two -/
theorem e_b2 {id : String} {f : D → D → Option D} {r : List V → Hp → VK → Prop} (hc : CallR X (.builtin id) r) (hg : Gl X x) (hm : X.mg x = none) (hv : bootBuiltins x = some (.builtin id)) (ha : PA X [a, b] (tA g W [ma, mb]))
    (hr : ∀ H σ sl tm (t1 t2 : T) d Q, SR g H σ sl (t2 :: t1 :: tm) → f t1.d t2.d = some d → (∀ H' t, SR g H' σ sl (t :: tm) → t.d = d → Q t.v H') → r [t1.v, t2.v] H Q) (hn : x ≠ "__name__" := by decide) (hdb : (x == ("__debug__" : Str)) = false := by decide)
    (he : starEach [a, b] X.env = (false, eval a X.env) :: starEach [b] X.env := by rfl) (hpl : (backTo pos (starEach [b] X.env)).any (·.1) = false := by rfl) : PE X (.Call (.Name x p) [a, b] [] pos) (tE g W (mBin f ma mb)) :=
  (pe_callB hc hg hm hv ha hn hdb he hpl).imp fun σ H Q ⟨sl, tm, s, h⟩ => by
    refine tA2 (k := fun d ρ' => ∀ H' sl' t, SR g H' σ sl' (t :: tm) → den sl' = ρ' → t.d = d → Q t.v H') (f := fun x y => lift (f x y)) s h fun H' sl' t u s' h' => ?_
    cases q : f t.d u.d with
    | none => rw [q] at h'; exact h'.elim
    | some d =>
      rw [q] at h'
      exact hr H' σ sl' tm t u d Q s' q fun H'' t s'' e => h' H'' sl' t s'' rfl e
def maxD : D → D → Option D
  | .sc (.int i), .sc (.int j) => some (.int (max i j))
  | _, _ => none
def minD : D → D → Option D
  | .sc (.int i), .sc (.int j) => some (.int (min i j))
  | _, _ => none
theorem br_max (H : Hp) (σ : L2.St) (sl : List (Option T)) (tm : List T) (t1 t2 : T) (d : D) (Q : VK) (s : SR g H σ sl (t2 :: t1 :: tm)) (h : maxD t1.d t2.d = some d) (q : ∀ H' t, SR g H' σ sl (t :: tm) → t.d = d → Q t.v H') : (fun (xs : List V) H Q => ∃ i j, xs = [.int i, .int j] ∧ Q (V.int (if j > i then j else i)) H) [t1.v, t2.v] H Q := by
  cases t1 with
  | sc x =>
    cases t2 with
    | sc y =>
      cases x <;> cases y <;> simp [T.d, maxD] at h
      rename_i i j
      refine ⟨i, j, rfl, ?_⟩
      have e : (if j > i then j else i) = max i j := by rw [Int.max_def]; split <;> split <;> omega
      rw [e]
      exact q H (.sc (.int _)) (s.pop.pop.push _ trivial) h
    | _ => cases x <;> simp [T.d, maxD] at h
  | _ => simp [T.d, maxD] at h
theorem br_min (H : Hp) (σ : L2.St) (sl : List (Option T)) (tm : List T) (t1 t2 : T) (d : D) (Q : VK) (s : SR g H σ sl (t2 :: t1 :: tm)) (h : minD t1.d t2.d = some d) (q : ∀ H' t, SR g H' σ sl (t :: tm) → t.d = d → Q t.v H') : (fun (xs : List V) H Q => ∃ i j, xs = [.int i, .int j] ∧ Q (V.int (if j < i then j else i)) H) [t1.v, t2.v] H Q := by
  cases t1 with
  | sc x =>
    cases t2 with
    | sc y =>
      cases x <;> cases y <;> simp [T.d, minD] at h
      rename_i i j
      refine ⟨i, j, rfl, ?_⟩
      have e : (if j < i then j else i) = min i j := by rw [Int.min_def]; split <;> split <;> omega
      rw [e]
      exact q H (.sc (.int _)) (s.pop.pop.push _ trivial) h
    | _ => cases x <;> simp [T.d, minD] at h
  | _ => simp [T.d, minD] at h

/-! ### a new list of a list's items -/
/-- the items of what an operand is, in a new list -/
theorem SR.copy {H : Hp} {σ : L2.St} {sl : List (Option T)} {tm : List T} {t1 : Option T} {n : Addr} {xs ys : List T} (s : SR g H σ sl (xs? t1 tm)) (kx : Ts.ok g.c H xs) (hp : Ds.pur (Ts.d xs) = true)
    (hw : ∀ a, Ts.sh a xs ≤ So (T.sh a) sl + Ts.sh a (xs? t1 tm)) (hy : ∀ t ∈ ys, t ∈ xs) (hz : ys.length ≤ 16777216) (hn : H n = none) : SR g (upd H n (.lst (ys.map T.v))) σ sl (.lst n .own ys :: tm) := by
  have hO : ∀ a, Ts.oc a ys = 0 := fun a => Nat.eq_zero_of_not_pos fun hpos => by
    obtain ⟨t, m, ht⟩ := Ts.pos_oc hpos
    have := T.pur_oc a t (Ds.pur_mem hp (hy t m))
    omega
  have hS : ∀ a, 0 < Ts.sh a ys → 0 < Ts.sh a xs := fun a hpos => by
    obtain ⟨t, m, ht⟩ := Ts.pos_sh hpos
    have := Ts.sh_mem (a := a) (hy t m)
    omega
  have oky : Ts.ok g.c H ys := by rw [Ts.ok_iff]; exact fun t m => Ts.ok_iff.mp kx t (hy t m)
  have hnew : SR g H σ sl (ys.reverse ++ tm) := by
    refine s.tmp ?_ fun a => ?_
    · rw [Ts.ok_iff]
      intro t m
      rcases List.mem_append.mp m with m | m
      · exact Ts.ok_iff.mp oky t (List.mem_reverse.mp m)
      · exact Ts.ok_iff.mp s.xs.okT t m
    · have z1 := hO a
      have z2 := hS a
      have z3 := hw a
      rw [Ts.oc_append, Ts.sh_append, Ts.oc_rev, Ts.sh_rev]
      cases t1 with
      | none => simp only [xs?] at z3 ⊢; omega
      | some w => simp only [xs?, Ts.oc, Ts.sh] at z3 ⊢; omega
  exact hnew.newL hn hz oky fun z => by rw [Ts.oc_rev, Ts.sh_rev]; omega
def mNew (f : D → Option D) (oa : Opd) : Cm D := fun ρ => (oa.run ρ).bind fun t ρ => match oa.get t ρ with
  | some x => lift (f x) ρ
  | none => .stuck
def listD : D → Option D
  | .lst _ xs => if Ds.pur xs then some (.lst .own xs) else none
  | .tup xs => if Ds.pur xs then some (.lst .own xs) else none
  | _ => none
theorem e_list (hK : X.K = g.c.K) (hg : Gl X "list") (hm : X.mg "list" = none) (ha : PE X a (tO g W oa)) (he : starEach (a :: []) X.env = (false, eval a X.env) :: starEach [] X.env := by rfl) : PE X (.Call (.Name "list" p) [a] [] pos) (tE g W (mNew listD oa)) :=
  (pe_callTy call_list_of hg hm (by decide +kernel) (pa_cons ha pa_nil he) (he := he)).imp fun σ H Q ⟨sl, tm, s, h⟩ => by
    refine tO.of s h fun H1 sl1 t1 v1 s1 d1 h1 => ?_
    have hm1 : ∀ u, t1 = some u → u ∈ xs? t1 tm := fun u e => by subst e; simp [xs?]
    split at h1
    · rename_i x ex
      obtain ⟨w, kw, ew, fw, hw⟩ := d1.tree s1 hm1 ex
      subst fw ew
      cases w with
      | lst p o xs =>
        simp only [T.d, listD] at h1
        split at h1
        · rename_i hp
          have q := lst_sq kw
          refine ⟨p, _, rfl, .inl (by rw [hK]; exact q.1), fun n hn => ?_⟩
          exact h1 _ _ _ (s1.copy q.2.2 hp (fun a => by have := hw a; simp only [T.sh] at this; omega) (fun t m => m) q.2.1 hn) rfl rfl
        · exact h1.elim
      | tup p o xs =>
        simp only [T.d, listD] at h1
        split at h1
        · rename_i hp
          have q := tup_sq kw
          refine ⟨p, _, rfl, .inr (by rw [hK]; exact q.1), fun n hn => ?_⟩
          exact h1 _ _ _ (s1.copy q.2.2 hp (fun a => by have := hw a; simp only [T.sh] at this; omega) (fun t m => m) q.2.1 hn) rfl rfl
        · exact h1.elim
      | sc y => cases y <;> exact h1.elim
      | _ => exact h1.elim
    · exact h1.elim

/-! ### a list in a slot is changed -/
/-- x.append(e) -/
def mApp (i : Nat) (ma : Cm D) : Cm D := fun ρ => match ρ[i]? with
  | some (some (.lst _ _)) => (ma ρ).bind fun d ρ => match ρ[i]? with
    | some (some (.lst .own xs)) => if xs.length < 16777216 then .ok .non (ρ.set i (some (.lst .own (xs ++ [d])))) else .stuck
    | _ => .stuck
  | _ => .stuck
def mExt (i : Nat) (ma : Cm D) : Cm D := fun ρ => match ρ[i]? with
  | some (some (.lst _ _)) => (ma ρ).bind fun d ρ => match ρ[i]?, d with
    | some (some (.lst .own xs)), .lst o ys => if (o = .own ∨ o = .shr) ∧ xs.length + ys.length ≤ 16777216 then .ok .non (ρ.set i (some (.lst .own (xs ++ ys)))) else .stuck
    | _, _ => .stuck
  | _ => .stuck
/-- the tree in a slot is written: its list becomes zs, of its own items and of what is held on top -/
theorem SR.write {H : Hp} {σ : L2.St} {sl : List (Option T)} {tm es : List T} {i : Nat} {p : Addr} {xs zs : List T} (s : SR g H σ sl (es ++ tm)) (h : sl[i]? = some (some (T.lst p .own xs))) (hz : zs.length ≤ 16777216)
    (hk : Ts.ok g.c H zs) (ho : ∀ a, Ts.oc a zs ≤ Ts.oc a xs + Ts.oc a es) (hs : ∀ a, 0 < Ts.sh a zs → 0 < Ts.sh a xs + Ts.sh a es) :
    SR g (upd H p (.lst (zs.map T.v))) σ (sl.set i (some (T.lst p .own zs))) tm := by
  have hmem := s.slot h
  have k := s.okS _ hmem
  simp only [T.ok] at k
  have b1 : b2 (True ∧ True) = 1 := by simp [b2]
  have g1 := So_get (f := T.oc p) hmem
  simp only [T.oc] at g1
  rw [b1] at g1
  have iv := s.inv p
  rw [Ts.oc_append, Ts.sh_append] at iv
  have c1 : ∀ a, So (T.oc a) (sl.set i (some (T.lst p .own zs))) + (b2 (Ow.own = Ow.own ∧ p = a) + Ts.oc a xs) = So (T.oc a) sl + (b2 (Ow.own = Ow.own ∧ p = a) + Ts.oc a zs) := fun a => by
    have := So_set (f := T.oc a) (x := some (T.lst p .own zs)) h
    simpa [fO, T.oc] using this
  have c2 : ∀ a, So (T.sh a) (sl.set i (some (T.lst p .own zs))) + Ts.sh a xs = So (T.sh a) sl + Ts.sh a zs := fun a => by
    have := So_set (f := T.sh a) (x := some (T.lst p .own zs)) h
    simp only [fO, T.sh] at this
    omega
  have k0 : Ts.oc p zs = 0 ∧ Ts.sh p zs = 0 := by
    have h1 := ho p
    have h2 := hs p
    have g2 := So_get (f := T.sh p) hmem
    simp only [T.sh] at g2
    omega
  refine s.go (fun t m => ?_) ?_ (fun a => .inl ?_) (fun a => ?_) s.len (by simp [s.slen]) (fun j t hj => ?_) s.io
  · rcases mem_set m with e | e
    · cases e
      simp only [T.ok]
      exact ⟨upd_same, hz, Ts.stay zs hk fun a q => upd_ne fun e => by subst e; omega⟩
    · obtain ⟨j, hj⟩ := mem_get m
      rcases set_get hj with ⟨rfl, e'⟩ | ⟨ne, e'⟩
      · cases e'
        simp only [T.ok]
        exact ⟨upd_same, hz, Ts.stay zs hk fun a q => upd_ne fun e => by subst e; omega⟩
      · refine T.stay t (s.okS t e) fun a q => upd_ne fun ea => ?_
        subst ea
        -- another slot can't hold it
        have d0 := So_set (f := T.oc a) (x := none) h
        have d1 := So_get (f := T.oc a) (sl := sl.set i none) (t := t) (List.mem_of_getElem? (i := j) (by rw [List.getElem?_set_ne (Ne.symm ne)]; exact e'))
        have d2 := So_get (f := T.sh a) e
        simp only [fO, T.oc] at d0
        rw [b1] at d0
        omega
  · have kt := s.okT
    rw [Ts.ok_iff] at kt ⊢
    intro t m
    refine T.stay t (kt t (List.mem_append_right _ m)) fun a q => upd_ne fun ea => ?_
    subst ea
    have h1 := Ts.oc_mem (a := a) m; have h2 := Ts.sh_mem (a := a) m
    omega
  · have d1 := c1 a
    have d2 := c2 a
    have h1 := ho a
    have h2 := hs a
    have g2 := So_get (f := T.sh a) hmem
    have g3 := So_get (f := T.oc a) hmem
    simp only [T.sh, T.oc] at g2 g3
    rw [Ts.oc_append, Ts.sh_append]
    refine ⟨by omega, fun q => .inl ?_⟩
    omega
  · by_cases e : a = p
    · subst e
      refine .inr (.inr ?_)
      omega
    · exact .inl (upd_ne e)
  · rcases set_get hj with ⟨rfl, e⟩ | ⟨_, e⟩
    · cases e; have := s.at_ _ _ h; simpa [T.v] using this
    · exact s.at_ _ _ e
theorem own_list {H : Hp} {σ : L2.St} {sl : List (Option T)} {tm : List T} {i : Nat} {xs : List D} (s : SR g H σ sl tm) (h : (den sl)[i]? = some (some (.lst .own xs))) : ∃ p ts, sl[i]? = some (some (T.lst p .own ts)) ∧ Ts.d ts = xs ∧ H p = some (.lst (ts.map T.v)) ∧ Ts.ok g.c H ts ∧ σ[i]? = some (some (.ref p)) := by
  obtain ⟨t, e1, e2, e4, e3⟩ := s.val h
  cases t with
  | lst p o ts =>
    simp only [T.d, D.lst.injEq] at e2
    obtain ⟨rfl, rfl⟩ := e2
    simp only [T.ok] at e4
    exact ⟨p, ts, e1, rfl, e4.1, e4.2.2, e3⟩
  | _ => simp [T.d] at e2
theorem some_list {H : Hp} {σ : L2.St} {sl : List (Option T)} {tm : List T} {i : Nat} {o : Ow} {xs : List D} (hK : X.K = g.c.K) (s : SR g H σ sl tm) (h : (den sl)[i]? = some (some (.lst o xs))) : ∃ p, σ[i]? = some (some (.ref p)) ∧ tyV X.K "list" (.ref p) H := by
  obtain ⟨t, e1, e2, e4, e3⟩ := s.val h
  cases t with
  | lst p o ts => exact ⟨p, e3, .inl ⟨rfl, _, by rw [hK]; exact (lst_sq e4).1⟩⟩
  | _ => simp [T.d] at e2
theorem e_app {y : Str} {apos : Pos} {i : Nat} (hK : X.K = g.c.K) (hp : PE X (.Call (.Attribute (.Name y p) "append" apos) [a] [] pos) (tBM X.K "list" rAppend (tVar i) (tA g W [ma]))) : PE X (.Call (.Attribute (.Name y p) "append" apos) [a] [] pos) (tE g W (mApp i ma)) :=
  hp.imp fun σ H Q ⟨sl, tm, s, h⟩ => by
    unfold mApp at h
    split at h
    · rename_i o xs e0
      obtain ⟨p, e3, hty⟩ := some_list hK s e0
      refine ⟨_, e3, hty, tA1 s h fun H1 sl1 t s1 h1 => ?_⟩
      split at h1
      · rename_i ys e1
        obtain ⟨p', ts, g1, rfl, g3, g4, g5⟩ := own_list s1 e1
        rw [e3] at g5
        cases g5
        split at h1
        · rename_i hz
          rw [Ts.d_len] at hz
          refine ⟨_, _, t.v, rfl, rfl, g3, by rw [SZ_eq]; simpa using hz, ?_⟩
          have s2 := SR.write (zs := ts ++ [t]) (es := [t]) (tm := tm) s1 g1 (by simp; omega) (by
              rw [Ts.ok_iff]; intro u m
              rcases List.mem_append.mp m with m | m
              · exact Ts.ok_iff.mp g4 u m
              · have e := List.mem_singleton.mp m; subst e; exact s1.top) (fun a => by simp [Ts.oc_append, Ts.oc]) (fun a => by simp [Ts.sh_append, Ts.sh])
          rw [List.map_append] at s2
          exact h1 _ _ (.sc .non) (s2.push _ trivial) (by rw [den_set]; simp [T.d, Ts.d_append, Ts.d]) rfl
        · exact h1.elim
      · exact h1.elim
    · exact h.elim
/-- x[i] = e -/
def mSetI (i : Nat) (mi : Cm D) : D → Cm Unit := fun d ρ => match ρ[i]? with
  | some (some (.lst _ _)) => (mi ρ).bind fun j ρ => match ρ[i]?, j with
    | some (some (.lst .own xs)), .sc (.int k) => match ixN xs.length k with
      | some n => .ok () (ρ.set i (some (.lst .own (xs.set n d))))
      | none => .stuck
    | _, _ => .stuck
  | _ => .stuck
theorem Ts.d_set (ts : List T) (n : Nat) (t : T) : Ts.d (ts.set n t) = (Ts.d ts).set n t.d := by simp [Ts.d_map, List.map_set]
theorem Ts.oc_set (a : Addr) (t : T) : ∀ (ts : List T) (n : Nat), Ts.oc a (ts.set n t) ≤ Ts.oc a ts + t.oc a
  | [], n => by simp [Ts.oc]
  | u :: ts, 0 => by simp [Ts.oc]; omega
  | u :: ts, n + 1 => by have := Ts.oc_set a t ts n; simp [Ts.oc]; omega
theorem Ts.sh_set (a : Addr) (t : T) : ∀ (ts : List T) (n : Nat), Ts.sh a (ts.set n t) ≤ Ts.sh a ts + t.sh a
  | [], n => by simp [Ts.sh]
  | u :: ts, 0 => by simp [Ts.sh]; omega
  | u :: ts, n + 1 => by have := Ts.sh_set a t ts n; simp [Ts.sh]; omega
theorem g_set {y : Str} {i : Nat} (hp : PG X (.Subscript (.Name y p) a pos) (gSub (tVar i) (tE g W ma) rSetL)) : PG X (.Subscript (.Name y p) a pos) (tG g W (mSetI i ma)) :=
  hp.imp fun v σ H Q ⟨sl, tm, t, s, e, h⟩ => by
    subst e
    unfold mSetI at h
    split at h
    · rename_i o xs e0
      obtain ⟨t0, _, e2, e4, e3⟩ := s.val e0
      refine ⟨t0.v, e3, tE.of s (Lands.drop h) fun H1 sl1 u s1 h1 => ?_⟩
      split at h1
      · rename_i ys k e1 ek
        obtain ⟨p', ts, g1, rfl, g3, g4, g5⟩ := own_list s1 e1
        rw [e3] at g5
        have ev : t0.v = .ref p' := Option.some.inj (Option.some.inj g5)
        cases u with
        | sc z =>
          simp only [T.d, D.int, D.sc.injEq] at ek
          subst ek
          rw [Ts.d_len] at h1
          cases en : ixN ts.length k with
          | none => rw [en] at h1; exact h1.elim
          | some n =>
            rw [en] at h1
            refine ⟨p', ts.map T.v, k, n, ev, rfl, g3, by rw [List.length_map]; exact en, ?_⟩
            have s1' := s1.pop
            have s2 := SR.write (zs := ts.set n t) (es := [t]) (tm := tm) s1' g1 (by simp; have := s1'.okS _ (s1'.slot g1); simp only [T.ok] at this; exact this.2.1) (by
                rw [Ts.ok_iff]; intro w m
                rcases mem_set m with e | m
                · subst e; exact s1'.top
                · exact Ts.ok_iff.mp g4 w m) (fun a => by have := Ts.oc_set a t ts n; simp only [Ts.oc]; omega) (fun a => by have := Ts.sh_set a t ts n; simp only [Ts.sh]; omega)
            rw [List.map_set] at s2
            exact h1 _ _ _ s2 (by rw [den_set]; simp [T.d, Ts.d_set])
        | _ => simp [T.d] at ek
      · exact h1.elim
    · exact h.elim
end
end VS

/-! VS, part m: the def of the text, the end of a law. -/
namespace VS
open PySem PySem.Spec PyProof.Rows L2
theorem fn_okD {P : Program} {w : World} {K : PySem.W.Frag} {mg : Str → Option Value} {base : Heap} {c : Cfg} {x qual : Str} {params : Arguments} {sbody : List Stmt} {scope : Scope} {dvs : List V} {kws : List (Str × V)} {f : Addr} {fd : FuncData} {N ps : List Str} {k np : Nat} {io : List Nat} {m : Cm Out}
    (F : FunD K x qual params sbody scope dvs kws f fd) (S : FnScope N ps scope) (hps : ps.length = np) (hN : np ≤ N.length) (hio : ∀ i ∈ io, i < np) (hnd : io.Nodup)
    (body : ∀ (g : Gh) (cdv : Value) (A : Around) (outer : List Env) (s : Shared) (H : Hp) (E : XK), Room k (A.deeper (envOfC qual scope s.heap.objs.size f cdv)) → g.c = c → g.N = N.length → g.io.map (·.1) = io →
      PSs (cxOf (L2.CX P w) P w K mg base N qual scope f cdv A outer s H E) sbody (tS g (fun cls d _ H => E cls d H) m)) :
    FnOk P w K mg base (L2.CX P w) (k + 1) f fd ps (spM c np io (runF N.length io m)) := by
  obtain ⟨oc, od, dV, kV, doc, pm, an, cdv, ct, osl, rfl, lk, hcd, _, _⟩ := F.ex
  refine fn_of lk hcd S (spM_len hps) fun A outer s H vs Q E hr h => ?_
  exact body_ok (fun g => body g cdv A outer s H E hr) S hps hN hio hnd h
end VS

/-! VS, part n: what a text's proof leans on. -/
namespace VS
open PySem PySem.Spec PyProof.Rows L2
def mStuckO : Cm Out := fun _ => .stuck
def mStuckD : Cm D := fun _ => .stuck
section
variable {X : Cx} {g : Gh} {W : WX} {pos : Pos} {K : PySem.W.Frag} {st : Stmt} {e a : Expr} {es : List Expr} {as : List Ag}
theorem hq_eq (hK : K = g.c.K) : HR2 g eqD (rEqD K) := by subst hK; exact hr_eq
theorem hq_ne (hK : K = g.c.K) : HR2 g neD (rNeD K) := by subst hK; exact hr_ne
theorem hq_in (hK : K = g.c.K) : HR2 g (inD false) (fun x y H Q => (∃ i j, x = .str i ∧ y = .str j ∧ Q (.bl (!(Builtin.Str.occurrences j i 0 j.length 1).isEmpty)) H) ∨ rIn K false x y H Q) := by subst hK; exact hr_in
theorem hq_notin (hK : K = g.c.K) : HR2 g (inD true) (fun x y H Q => (∃ i j, x = .str i ∧ y = .str j ∧ Q (.bl (!(!(Builtin.Str.occurrences j i 0 j.length 1).isEmpty))) H) ∨ rIn K true x y H Q) := by subst hK; exact hr_notin

/-- a def of the text: where it stands, its name in the module, how its arguments bind -/
structure At (K : PySem.W.Frag) (mg : Str → Option Value) (x : Str) (st : Stmt) (ps : List Str) (f : Addr) (fd : FuncData) : Prop where
  F : FunD K x x (defArgs st) (defBody st) (defScope st) [] [] f fd
  g : mg x = some (.ref f)
  b : Binds K fd ps []

/-! ### calls by keywords alone -/
/-- one keyword -/
theorem e_gI2 {x : Str} {i : Int} (hg : Gl X x) (h : ∃ t, X.mg x = some (.int i t)) (hd : (x == ("__debug__" : Str)) = false := by decide) : PE X (.Name x pos) (tE g W (mC (.int i))) := by
  obtain ⟨t, h⟩ := h
  exact e_gI hg h ⟨t, rfl⟩ hd
theorem e_gS2 {x : Str} {l : List Nat} (hg : Gl X x) (hl : (Sc.str l).good) (h : ∃ t, X.mg x = some (.str ⟨l.toArray⟩ t)) (hd : (x == ("__debug__" : Str)) = false := by decide) : PE X (.Name x pos) (tE g W (mC (.str l))) := by
  obtain ⟨t, h⟩ := h
  exact e_gS hg hl h ⟨t, rfl⟩ hd
/-- a tuple of the text: of ints and texts -/
def mK (l : List Sc) : Cm D := fun ρ => .ok (.tup (l.map D.sc)) ρ
theorem e_gT {x : Str} {l : List Sc} (hK : X.K = g.c.K) (hl : l.length ≤ 16777216 ∧ ∀ s ∈ l, s.good) (hg : Gl X x) (h : ∃ a, X.mg x = some (.ref a) ∧ StcT X.K a (l.map Sc.v)) (hd : (x == ("__debug__" : Str)) = false := by decide) : PE X (.Name x pos) (tE g W (mK l)) := by
  obtain ⟨a, h, hs⟩ := h
  refine (pe_glob (v := .ref a) hg h rfl hd).imp fun σ H Q ⟨sl, tm, s, q⟩ => ?_
  have vm : (l.map T.sc).map T.v = l.map Sc.v := by rw [List.map_map]; rfl
  have om : ∀ (a : Addr) (m : List Sc), Ts.oc a (m.map T.sc) = 0 ∧ Ts.sh a (m.map T.sc) = 0 := fun a m => by
    induction m with
    | nil => simp [Ts.oc, Ts.sh]
    | cons i m ih => simp [Ts.oc, Ts.sh, T.oc, T.sh, ih]
  exact q H sl (T.tup a true (l.map T.sc)) (s.tmp (by
    simp only [Ts.ok, T.ok]
    refine ⟨⟨by rw [vm, ← hK]; exact hs, by simpa using hl.1, ?_⟩, s.okT⟩
    rw [Ts.ok_iff]; intro t ht
    obtain ⟨i, hi, rfl⟩ := List.mem_map.mp ht
    exact hl.2 i hi) fun b => by have := om b l; simp only [Ts.oc, Ts.sh, T.oc, T.sh]; have := b2_false (p := (true = false ∧ a = b)) (by simp); omega) rfl (by simp [T.d, Ts.d_map])
theorem comp_io {l vs : List Nat} (h : g.io.map (·.1) = l) (hv : l.all (fun i => !vs.contains i) = true) : ∀ p ∈ g.io, p.1 ∉ vs := fun p hp hm => by
  have := List.all_eq_true.mp hv p.1 (by rw [← h]; exact List.mem_map_of_mem hp)
  simp at this
  exact this hm
/-- a tuple's items to several targets -/
def mTupT (fs : List (D → Cm Unit)) : D → Cm Unit := fun d ρ => match d with
  | .tup ds => if ds.length = fs.length then putAll fs ds ρ else .stuck
  | _ => .stuck
theorem g_tupT {es : List Expr} {k n : Nat} {fs : List (D → Cm Unit)} (hc : X.calm = true) (h : PGs X es (tGs g W fs)) (hK : X.K = g.c.K)
    (hn : (assignEach es X.env).length = n := by rfl) (hst : (assignEach es X.env).findIdx? (·.1) = none := by rfl) (hfn : fs.length = n := by rfl) : PG X (.Tuple es k pos) (tG g W (mTupT fs)) := g_tup hc h hK hn hst hfn
end
end VS

/-! VS, part o: a text's methods, join, replace, a loop over a text. -/
namespace VS
open PySem PySem.Spec PyProof.Rows L2
section
variable {X : Cx} {g : Gh} {W : WX} {pos : Pos} {a b e f : Expr} {ma mb m : Cm D} {oa ob : Opd}
theorem str_eq {x : Str} {l : List Nat} (h : x.cps.toList = l) : x = ⟨l.toArray⟩ := by
  subst h
  cases x
  simp
def mM (f : D → D → Option Sc) (x y : Opd) : Cm D := fun ρ => (x.run ρ).bind fun t ρ => match x.get t ρ with
  | some (.sc (.str _)) => (y.run ρ).bind fun u ρ => match x.get t ρ, y.get u ρ with
    | some v, some w => (lift (f v w) ρ).bind fun s ρ => .ok (.sc s) ρ
    | _, _ => .stuck
  | _ => .stuck
def HM1 (g : Gh) (f : D → D → Option Sc) (r : V → List V → Hp → VK → Prop) : Prop := ∀ H (u1 u2 : T) c Q, u1.ok g.c H → u2.ok g.c H → f u1.d u2.d = some c → (c.good → Q (c.v) H) → r u1.v [u2.v] H Q
theorem m1_imp {f : D → D → Option Sc} {r : V → List V → Hp → VK → Prop} (hr : HM1 g f r) : ∀ σ H Q, tE g W (mM f oa ob) σ H Q → tM1 r (tO g W oa) (tO g W ob) σ H Q := fun σ H Q ⟨sl, tm, s, h⟩ => by
  refine tO.of s h fun H1 sl1 t1 v1 s1 d1 h1 => ?_
  split at h1
  · rename_i x ex
    have hm0 : ∀ u, t1 = some u → u ∈ xs? t1 tm := fun u e => by subst e; simp [xs?]
    obtain ⟨u0, k0, e0, f0, _⟩ := d1.tree s1 hm0 ex
    refine ⟨?_, ?_⟩
    · subst f0
      cases u0 with
      | sc y => simp only [T.d, D.sc.injEq] at e0; subst e0; exact ⟨_, rfl⟩
      | _ => simp [T.d] at e0
    · refine tO.of s1 (Lands.drops h1) fun H2 sl2 t2 v2 s2 d2 h2 => ?_
      split at h2
      · rename_i x y ex ey
        have hm1 : ∀ u, t1 = some u → u ∈ xs? t2 (xs? t1 tm) := fun u e => by subst e; cases t2 <;> simp [xs?]
        have hm2 : ∀ u, t2 = some u → u ∈ xs? t2 (xs? t1 tm) := fun u e => by subst e; simp [xs?]
        have d1' : Held g H2 oa σ sl2 t1 v1 := ⟨d1.is⟩
        obtain ⟨u1, k1, e1, f1, _⟩ := d1'.tree s2 hm1 ex
        obtain ⟨u2, k2, e2, f2, _⟩ := d2.tree s2 hm2 ey
        subst f1 f2 e1 e2
        cases q : f u1.d u2.d with
        | none => rw [q] at h2; exact h2.elim
        | some c =>
          rw [q] at h2
          exact hr H2 u1 u2 c Q k1 k2 q fun gc => (h2 H2 sl2 (.sc c) (s2.xs.xs.push c gc) rfl rfl)
      · exact h2.elim
  · exact h1.elim
theorem e_m {id : String} {name : Str} {apos : Pos} {fm : D → D → Option Sc} {r : V → List V → Hp → VK → Prop} (slot : Slot "str" name id) (ty : typeOf (.builtin id) = pure (.type "method_descriptor")) (rule : MtR X id r) (hr : HM1 g fm r) (ho : PE X a (tO g W oa)) (he : PE X b (tO g W ob))
    (hs : starEach [b] X.env = [(false, eval b X.env)] := by rfl) (hbase : attributeBase a name X.env (eval a X.env) = eval a X.env := by rfl) (hline : (apos.endLine == pos.line) = true := by rfl) :
    PE X (.Call (.Attribute a name apos) [b] [] pos) (tE g W (mM fm oa ob)) := (pe_m1 slot ty rule ho he hs hbase hline).imp (m1_imp hr)
/-! ### join -/
def strL : List D → Option (List (List Nat))
  | [] => some []
  | .sc (.str b) :: r => (strL r).map (b :: ·)
  | _ => none
theorem strL_ok {c : Cfg} {H : Hp} : ∀ {ts : List T} {l : List (List Nat)}, Ts.ok c H ts → strL (Ts.d ts) = some l → ts.map T.v = (l.map fun z => (⟨z.toArray⟩ : Str)).map V.str ∧ ∀ z ∈ l, (Sc.str z).good
  | [], l, k, h => by simp [Ts.d, strL] at h; subst h; simp
  | t :: ts, l, k, h => by
    cases t with
    | sc x =>
      cases x <;> simp only [Ts.d, T.d, strL] at h <;> try cases h
      rename_i z
      obtain ⟨r, hr, rfl⟩ := Option.map_eq_some_iff.mp h
      simp only [Ts.ok] at k
      obtain ⟨q1, q2⟩ := strL_ok k.2 hr
      refine ⟨by simp only [List.map_cons, q1]; rfl, fun y hy => ?_⟩
      rcases List.mem_cons.1 hy with rfl | hy
      · simpa [T.ok] using k.1
      · exact q2 y hy
    | _ => simp [Ts.d, T.d, strL] at h
def glL (s : List Nat) : List (List Nat) → List Nat
  | [] => []
  | x :: r => s ++ x ++ glL s r
def joinL (s : List Nat) : List (List Nat) → List Nat
  | [] => []
  | x :: r => x ++ glL s r
theorem gl_glue (s : List Nat) : ∀ r : List (List Nat), StrLaws.glueL s (r.map fun z => (⟨z.toArray⟩ : Str)) = glL s r
  | [] => rfl
  | x :: r => by simp [StrLaws.glueL, glL, gl_glue s r]
theorem join_eq (s : List Nat) (ys : List (List Nat)) : Txt.join ⟨s.toArray⟩ (ys.map fun z => (⟨z.toArray⟩ : Str)) = ⟨(joinL s ys).toArray⟩ := by
  refine str_eq ?_
  cases ys with
  | nil => rfl
  | cons x r =>
    simp only [List.map_cons]
    show (Builtin.Str.glued _ _).cps.toList = _
    rw [StrLaws.glued_list]
    simp [StrLaws.glueT, joinL, gl_glue]
theorem gl_len (s : List Nat) : ∀ r : List (List Nat), (glL s r).length = (r.map List.length).sum + r.length * s.length
  | [] => by simp [glL]
  | x :: r => by simp [glL, gl_len s r, Nat.add_mul]; omega
theorem join_len (s : List Nat) (r : List (List Nat)) : (joinL s r).length ≤ (r.map List.length).sum + r.length * s.length := by
  cases r with
  | nil => simp [joinL]
  | cons x r => simp [joinL, gl_len s r, Nat.add_mul]; omega
theorem gl_mem (s : List Nat) (c : Nat) : ∀ r : List (List Nat), c ∈ glL s r → c ∈ s ∨ ∃ z ∈ r, c ∈ z
  | [], h => by simp [glL] at h
  | x :: r, h => by
    simp only [glL, List.mem_append] at h
    rcases h with (h | h) | h
    · exact Or.inl h
    · exact Or.inr ⟨x, by simp, h⟩
    · rcases gl_mem s c r h with h | ⟨z, h1, h2⟩
      · exact Or.inl h
      · exact Or.inr ⟨z, by simp [h1], h2⟩
theorem join_mem (s : List Nat) (c : Nat) (r : List (List Nat)) (h : c ∈ joinL s r) : c ∈ s ∨ ∃ z ∈ r, c ∈ z := by
  cases r with
  | nil => simp [joinL] at h
  | cons x r =>
    simp only [joinL, List.mem_append] at h
    rcases h with h | h
    · exact Or.inr ⟨x, by simp, h⟩
    · rcases gl_mem s c r h with h | ⟨z, h1, h2⟩
      · exact Or.inl h
      · exact Or.inr ⟨z, by simp [h1], h2⟩
def joinD : D → D → Option Sc
  | .sc (.str s), .lst _ xs => match strL xs with
    | some ys => if (ys.map List.length).sum + ys.length * s.length ≤ 16777216 then some (.str (joinL s ys)) else none
    | none => none
  | _, _ => none
theorem hs_join {K : PySem.W.Frag} (hK : K = g.c.K) : HM1 g joinD (fun x xs H Q => ∃ a p, ∃ ys : List Str, x = .str a ∧ xs = [.ref p] ∧ (SqL K H p (ys.map V.str) ∨ SqT K H p (ys.map V.str)) ∧
    (ys.map (·.length)).sum + ys.length * a.length ≤ 16777216 ∧ Q (.str (Txt.join a ys)) H) := fun H u1 u2 c Q k1 k2 h q => by
  subst hK
  cases u1 with
  | sc x =>
    cases u2 with
    | lst p o xs =>
      cases x <;> simp only [T.d, joinD] at h <;> try cases h
      rename_i s
      cases e : strL (Ts.d xs) with
      | none => rw [e] at h; cases h
      | some ys =>
        rw [e] at h
        simp only at h
        split at h
        · rename_i hl
          cases h
          have kk := lst_sq k2
          obtain ⟨e1, e2⟩ := strL_ok kk.2.2 e
          simp only [T.ok] at k1
          refine ⟨_, p, ys.map fun z => (⟨z.toArray⟩ : Str), rfl, rfl, .inl ?_, ?_, ?_⟩
          · rw [← e1]; exact kk.1
          · simpa [Str.length, Function.comp_def] using hl
          · rw [join_eq]
            refine q ⟨?_, fun c hc => ?_⟩
            · exact Nat.le_trans (join_len s ys) hl
            · rcases join_mem s c ys hc with h | ⟨z, h1, h2⟩
              · exact k1.2 c h
              · exact (e2 z h1).2 c h2
        · cases h
    | sc y => cases x <;> simp [T.d, joinD] at h
    | _ => cases x <;> simp [T.d, joinD] at h
  | _ => simp [T.d, joinD] at h
/-! ### replace, of two written texts -/
def mRepl (y z : List Nat) (m : Cm D) : Cm D := fun ρ => (m ρ).bind fun d ρ => match d with
  | .sc (.str x) => if x.length + (x.length + 1) * z.length ≤ 16777216 ∧ (StrLaws.replL y z x).all (fun c => decide (c < 1114112)) = true then .ok (.str (StrLaws.replL y z x)) ρ else .stuck
  | _ => .stuck
theorem repl_imp {y z : List Nat} (hy : 1 ≤ y.length) : ∀ σ H Q, tE g W (mRepl y z m) σ H Q → CwR.tReplC (tE g W m) ⟨y.toArray⟩ ⟨z.toArray⟩ σ H Q := fun σ H Q ⟨sl, tm, s, h⟩ => by
  refine tE.of s h fun H1 sl1 t1 s1 h1 => ?_
  cases t1 with
  | sc x =>
    cases x with
    | str x =>
      simp only [T.d] at h1
      split at h1
      · rename_i hl
        refine ⟨⟨x.toArray⟩, rfl, by simpa [Str.length] using hl.1, ?_⟩
        have e : Txt.replace ⟨x.toArray⟩ ⟨y.toArray⟩ ⟨z.toArray⟩ = ⟨(StrLaws.replL y z x).toArray⟩ := str_eq (by rw [StrLaws.replace_list (by simpa [Str.length] using hy)])
        have gl : (StrLaws.replL y z x).length ≤ 16777216 := by
          have := TK.replace_len ⟨x.toArray⟩ ⟨y.toArray⟩ ⟨z.toArray⟩
          rw [e] at this
          simp [Str.length] at this
          omega
        rw [e]
        exact h1 H1 sl1 (.sc (.str _)) (s1.pop.push _ ⟨gl, fun c hc => by simpa using List.all_eq_true.1 hl.2 c hc⟩) rfl rfl
      · exact h1.elim
    | _ => exact h1.elim
  | _ => exact h1.elim
theorem _root_.L2.PET.imp {X : Cx} {e : Expr} {t t' : TE} (h : PET X e t) (w : ∀ σ H Q, t' σ H Q → t σ H Q) : PET X e t' := fun pins s σ H Q h0 I q => h pins s σ H Q h0 I (w σ H Q q)
theorem e_repl1 {y z : List Nat} {ys zs : Str} {j k : Nat} {c0 c1 apos : Pos} (h1 : ys = ⟨y.toArray⟩) (h2 : zs = ⟨z.toArray⟩) (hy : 1 ≤ y.length) (ho : PE X a (tE g W m)) (hyz : (ys == zs) = false := by decide)
    (hst : starEach [.Constant (.str ys) j c0, .Constant (.str zs) k c1] X.env = [(false, eval (.Constant (.str ys) j c0) X.env), (false, eval (.Constant (.str zs) k c1) X.env)] := by rfl)
    (hbase : attributeBase a "replace" X.env (eval a X.env) = eval a X.env := by rfl) (hline : (apos.endLine == pos.line) = true := by rfl) :
    PET X (.Call (.Attribute a "replace" apos) [.Constant (.str ys) j c0, .Constant (.str zs) k c1] [] pos) (tE g W (mRepl y z m)) := by
  subst h1 h2
  exact (CwR.pet_replC ho hyz hst hbase hline).imp (repl_imp hy)
theorem e_repl2 {y z : List Nat} {ys zs : Str} {j k : Nat} {c0 c1 apos : Pos} (h1 : ys = ⟨y.toArray⟩) (h2 : zs = ⟨z.toArray⟩) (hy : 1 ≤ y.length) (ho : PET X a (tE g W m)) (hyz : (ys == zs) = false := by decide)
    (hst : starEach [.Constant (.str ys) j c0, .Constant (.str zs) k c1] X.env = [(false, eval (.Constant (.str ys) j c0) X.env), (false, eval (.Constant (.str zs) k c1) X.env)] := by rfl)
    (hbase : attributeBase a "replace" X.env (eval a X.env) = eval a X.env := by rfl) (hline : (apos.endLine == pos.line) = true := by rfl) :
    PET X (.Call (.Attribute a "replace" apos) [.Constant (.str ys) j c0, .Constant (.str zs) k c1] [] pos) (tE g W (mRepl y z m)) := by
  subst h1 h2
  exact (CwR.pet_replT ho hyz hst hbase hline).imp (repl_imp hy)
/-- a written text ahead of what wants a token -/
theorem pe_opT {op : Operator} {r : R2} {cs : Str} {j : Nat} {p : Pos} {tf : TE} (ho : OpR X (binaryOp op) r) (hb : PET X b tf) : PE X (.BinOp (.Constant (.str cs) j p) op b pos) (tOp r (tC (.str cs)) tf) := by
  refine ⟨fun pins s σ H Q I h => ?_⟩
  refine wpAny_BinOp (Calls.Constant_str ?_)
  exact thn (hb pins _ σ H _ (by show 1 ≤ s.toks + 1; omega) (I.tok _) h) fun u s2 ⟨y, H2, I2, r2, q2⟩ => ho pins s2 σ H2 _ y _ u Q I2 (show RelV (.str cs) (.str cs s.toks) from ⟨_, rfl⟩) r2 q2
theorem e_addT {c : List Nat} {cs : Str} {j : Nat} {p : Pos} (h1 : cs = ⟨c.toArray⟩) (hg : (Sc.str c).good) (hb : PET X b (tE g W mb)) : PE X (.BinOp (.Constant (.str cs) j p) .Add b pos) (tE g W (mBin addD (mC (.str c)) mb)) :=
  e_addW fun ho => (pe_opT ho hb).imp fun σ H Q ⟨sl, tm, s, h⟩ => by
    subst h1
    exact h H sl (.sc (.str c)) (s.push _ hg) rfl rfl
/-! ### a loop over a text -/
def mItemsS (ma : Cm D) : Cm (List D) := fun ρ => (ma ρ).bind fun d ρ => match d with
  | .sc (.str l) => .ok (l.map fun c => D.str [c]) ρ
  | _ => .stuck
theorem it_str {l : List Nat} (hl : (Sc.str l).good) : ItOk g (Its ⟨l.toArray⟩) [] (l.map fun c => D.str [c]) where
  stop := fun H σ sl tm s => by simp [Its]
  go := fun i d H σ sl tm s h => by
    rw [List.getElem?_map, Option.map_eq_some_iff] at h
    obtain ⟨c, hc, rfl⟩ := h
    obtain ⟨hlt, e⟩ := List.getElem?_eq_some_iff.1 hc
    refine ⟨by simpa [Its] using hlt, fun x H' hy => ?_⟩
    obtain ⟨rfl, c', hc', rfl⟩ := hy
    have : c' = c := by simp [hc] at hc'; omega
    subst this
    exact ⟨.sc (.str [c']), s.push _ ⟨by simp, fun z hz => by simp at hz; subst hz; exact hl.2 _ (List.mem_of_getElem? hc)⟩, rfl, rfl⟩
theorem i_str (h : PE X e (tE g W ma)) {tg : Expr} : PI X tg e (tI g W (mItemsS ma)) := (pi_str h).imp fun σ H R ⟨sl, tm, s, q⟩ => by
  refine tE.of s q fun H' sl' t s' h' => ?_
  cases t with
  | sc x =>
    cases x with
    | str l =>
      have k := s'.top
      simp only [T.ok] at k
      exact ⟨_, rfl, h' H' sl' [] _ s'.pop rfl (it_str k)⟩
    | _ => exact h'.elim
  | _ => exact h'.elim
end
end VS

/-! VS, part p: max with a default, two keywords. -/
namespace VS
open PySem PySem.Spec PyProof.Rows L2
section
variable {X : Cx} {g : Gh} {W : WX} {pos : Pos} {a b e f : Expr} {ma mb m : Cm D}
def maxDefD : D → D → Option D
  | .lst _ xs, .sc s => match intL xs with
    | some [] => some (.sc s)
    | some (y :: ys) => some (.int (ys.foldl (fun a y => if a < y then y else a) y))
    | none => none
  | _, _ => none
theorem max_imp (H : Hp) (σ : L2.St) (sl : List (Option T)) (tm : List T) (t1 t2 : T) (d : D) (Q : VK) (s : SR g H σ sl (t2 :: t1 :: tm)) (h : maxDefD t1.d t2.d = some d) (q : ∀ H' t, SR g H' σ sl (t :: tm) → t.d = d → Q t.v H') :
    ∃ p ns, t1.v = .ref p ∧ SqL g.c.K H p (ns.map V.int) ∧ (ns = [] → Q t2.v H) ∧ ∀ y ys, ns = y :: ys → Q (.int (ys.foldl (fun a y => if a < y then y else a) y)) H := by
  have k1 : t1.ok g.c H := by have := s.okT; simp only [Ts.ok] at this; exact this.2.1
  cases t1 with
  | lst p o xs =>
    cases t2 with
    | sc z =>
      simp only [T.d, maxDefD] at h
      cases e : intL (Ts.d xs) with
      | none => rw [e] at h; cases h
      | some l =>
        rw [e] at h
        have hq := intL_ok e
        refine ⟨p, l, rfl, by rw [← hq]; exact (lst_sq k1).1, fun hl => ?_, fun y ys hl => ?_⟩
        · subst hl
          cases h
          have kz := s.top
          exact q H (.sc z) (s.pop.pop.push _ kz) rfl
        · subst hl
          cases h
          exact q H (.sc (.int _)) (s.pop.pop.push _ trivial) rfl
    | _ => simp [T.d, maxDefD] at h
  | sc x => cases x <;> simp [T.d, maxDefD] at h
  | _ => simp [T.d, maxDefD] at h
theorem e_maxdef {p kp : Pos} {k : Nat} (hK : X.K = g.c.K) (hr : Room k X.A) (hg : Gl X "max") (hm : X.mg "max" = none) (ha : PE X a (tE g W ma)) (hb : PE X b (tE g W mb))
    (he : starEach [a] X.env = (false, eval a X.env) :: starEach [] X.env := by rfl) :
    PE X (.Call (.Name "max" p) [a] [⟨some "default", b, kp⟩] pos) (tE g W (mBin maxDefD ma mb)) := by
  refine ⟨fun pins s σ H Q I h => ?_⟩
  obtain ⟨sl, tm, s0, h0⟩ := h
  have hv : bootBuiltins "max" = some (.builtin "max") := by decide +kernel
  refine wpAny_Call_Name_kw (ld_blt I hg hm hv ?_ (by decide) (by decide))
  refine PyProof.Rows.callWith_kw ?_ (by rw [he]; rfl) (by rw [he]; rfl)
  have hpa : PA X [a] (tCons (tE g W ma) tNil) := pa_cons ha pa_nil he
  have hpk : PK X [⟨some "default", b, kp⟩] (tCons (tE g W mb) tNil) := pk_cons hb pk_nil
  let Post : V → List V → Hp → Prop := fun v ws H2 => ∃ u P ns, ws = [u] ∧ v = V.ref P ∧ SqL X.K H2 P (ns.map V.int) ∧ (ns = [] → Q u H2) ∧ ∀ y ys, ns = y :: ys → Q (.int (ys.foldl (fun a y => if a < y then y else a) y)) H2
  refine thn (hpa.run pos pins s σ H (fun vs H1 => ∃ v, vs = [v] ∧ tE g W mb σ H1 fun u H2 => Post v [u] H2) I ?_) fun us s1 ⟨vs, H1, I1, r1, v, ev, q1⟩ => ?_
  · show tE g W ma σ H _
    refine tE.of (f := fun x ρ => (mb ρ).bind fun y ρ => lift (maxDefD x y) ρ) s0 h0 fun H' sl' t s' h' => ?_
    refine ⟨t.v, rfl, ?_⟩
    refine tE.of s' (Lands.drop h') fun H2 sl2 t2 s2 h2 => ?_
    cases q : maxDefD t.d t2.d with
    | none => rw [q] at h2; exact h2.elim
    | some d =>
      rw [q] at h2
      obtain ⟨P, ns, e1, e2, e3, e4⟩ := max_imp H2 σ sl2 tm t t2 d Q s2 q fun H' t s' e => h2 H' sl2 t s' rfl e
      exact ⟨_, P, ns, rfl, e1, by rw [hK]; exact e2, e3, e4⟩
  · subst ev
    obtain ⟨z, rfl, rz0⟩ := Vals.one r1
    refine thn (hpk.run pos pins s1 σ H1 (Post v) I1 q1) fun ws s2 ⟨zs, H2, I2, rz, u, P, ns, ez, ep, hs, q0, qq⟩ => ?_
    subst ez ep
    obtain ⟨w, rfl, rw0⟩ := Vals.one rz
    cases rz0
    obtain ⟨its, rv, hl, _⟩ := I2.list hs
    have hun := hr.un
    show wpAny _ _ (call (.builtin "max") [.ref P] [(Str.ofString "default", w)]) _ _ _
    refine PySem.W.max_list_datum_default (α := Int) (xs := ns) hr.hd hl.isList (PySem.W.HoldAll.of_ints (by simpa using rv.ints)) (by show X.A.units + 1 + 0 < cLine; omega) (fun e h' tk hk => ?_) (fun y ys i v h' tk e hi hv hk => ?_)
    · exact ⟨u, H2, I2.kept hk, rw0, q0 e⟩
    · obtain ⟨t, rfl⟩ := PySem.W.int_of_holds hv
      refine ⟨.int _, H2, I2.kept hk, ⟨_, rfl⟩, ?_⟩
      have := qq y ys e
      simpa [PySem.W.maxOf, PySem.W.DatumOrd.lt] using this
end
end VS
namespace VS
open PySem PySem.Spec PyProof.Rows L2
section
variable {X : Cx} {g : Gh} {W : WX} {pos : Pos} {a b e f : Expr} {ma mb m : Cm D}
end
end VS
namespace VS
open PySem PySem.Spec PyProof.Rows L2
/-! ### strip of some signs -/
def ldrop (p : Nat → Bool) (l : List Nat) : List Nat := l.dropWhile p
def rdrop (p : Nat → Bool) (l : List Nat) : List Nat := (l.reverse.dropWhile p).reverse
def stripL (b : List Nat) (l : List Nat) : List Nat := rdrop b.contains (ldrop b.contains l)
theorem drop_tw (p : Nat → Bool) : ∀ l : List Nat, l.drop (l.takeWhile p).length = l.dropWhile p
  | [] => rfl
  | x :: l => by
    by_cases h : p x = true
    · simp [h, drop_tw p l]
    · simp [h]
theorem take_tw (p : Nat → Bool) (d : List Nat) : d.take (d.length - (d.reverse.takeWhile p).length) = rdrop p d := by
  unfold rdrop
  rw [← drop_tw, List.drop_reverse, List.reverse_reverse]
theorem contains_arr (b : List Nat) : (⟨b.toArray⟩ : Str).cps.contains = b.contains := by
  funext c
  simp
theorem strip_eq (a b : List Nat) : Txt.stripChars ⟨a.toArray⟩ ⟨b.toArray⟩ = ⟨(stripL b a).toArray⟩ := by
  have e1 : stripLo b.contains true ⟨a.toArray⟩ = (a.takeWhile b.contains).length := by simp [stripLo]
  have e2 : stripHi b.contains true ⟨a.toArray⟩ (a.takeWhile b.contains).length = a.length - ((a.dropWhile b.contains).reverse.takeWhile b.contains).length := by
    simp [stripHi, Str.length, drop_tw]
  have hlen : a.length = (a.takeWhile b.contains).length + (a.dropWhile b.contains).length := by
    rw [← List.length_append, List.takeWhile_append_dropWhile]
  have hs : Builtin.Str.strSub ⟨a.toArray⟩ (a.takeWhile b.contains).length (a.length - ((a.dropWhile b.contains).reverse.takeWhile b.contains).length) = ⟨(stripL b a).toArray⟩ := by
    refine str_eq ?_
    unfold Builtin.Str.strSub stripL ldrop
    rw [← take_tw]
    simp only [Array.toList_extract]
    rw [List.extract_eq_take_drop, ← drop_tw]
    congr 1
    rw [drop_tw]
    omega
  unfold Txt.stripChars Txt.stripBy
  rw [contains_arr]
  unfold stripSame stripped
  rw [e1, e2, hs]
  split
  · rename_i h
    rw [Bool.and_eq_true] at h
    have h1 : (a.takeWhile b.contains).length = 0 := by simpa using h.1
    have h2 : a.length - ((a.dropWhile b.contains).reverse.takeWhile b.contains).length = a.length := by simpa [Str.length] using h.2
    rw [← hs, h1, h2]
    refine (str_eq ?_).symm
    simp [Builtin.Str.strSub]
  · rfl
def stripM : D → D → Option Sc
  | .sc (.str a), .sc (.str b) => some (.str (stripL b a))
  | _, _ => none
theorem strip_sub (b : List Nat) (a : List Nat) : ∀ c ∈ stripL b a, c ∈ a := fun c h => by
  unfold stripL rdrop ldrop at h
  rw [List.mem_reverse] at h
  have := (List.dropWhile_sublist _).subset h
  rw [List.mem_reverse] at this
  exact (List.dropWhile_sublist _).subset this
theorem strip_len (b : List Nat) (a : List Nat) : (stripL b a).length ≤ a.length := by
  unfold stripL rdrop ldrop
  have h1 := (List.dropWhile_sublist b.contains (l := (a.dropWhile b.contains).reverse)).length_le
  have h2 := (List.dropWhile_sublist b.contains (l := a)).length_le
  simp at h1 ⊢
  omega
theorem hs_strip {g : Gh} : HM1 g stripM (fun x xs H Q => ∃ a b, x = .str a ∧ xs = [.str b] ∧ a.length ≤ sizeLine ∧ Q (.str (Txt.stripChars a b)) H) := fun H u1 u2 c Q k1 k2 h q => by
  cases u1 with
  | sc x =>
    cases u2 with
    | sc y =>
      cases x <;> cases y <;> simp [T.d, stripM] at h
      rename_i a b
      subst h
      simp only [T.ok] at k1
      refine ⟨_, _, rfl, rfl, ?_, ?_⟩
      · rw [sizeLine_eq]; simpa [Str.length] using k1.1
      · rw [strip_eq]
        exact q ⟨Nat.le_trans (strip_len b a) k1.1, fun c hc => k1.2 c (strip_sub b a c hc)⟩
    | _ => cases x <;> simp [T.d, stripM] at h
  | _ => simp [T.d, stripM] at h
end VS

/-! VS, part q: range with a step, a list to several targets, or of texts, methods without arguments. -/
namespace VS
open PySem PySem.Spec PyProof.Rows L2
section
variable {X : Cx} {g : Gh} {W : WX} {pos : Pos} {a b c e f tg : Expr} {ma mb mc m : Cm D} {oa ob : Opd} {rest : List Expr}
/-! ### range(i, j, c) -/
def stepD (lo c : Int) (n : Nat) : List D := (List.range n).map fun k : Nat => D.int (lo + (k : Int) * c)
def mRange3 (ma mb mc : Cm D) : Cm (List D) := fun ρ => (ma ρ).bind fun d ρ => (mb ρ).bind fun d' ρ => (mc ρ).bind fun d'' ρ => match d, d', d'' with
  | .sc (.int i), .sc (.int j), .sc (.int c) => if c ≠ 0 ∧ c.natAbs < 1073741824 ∧ Builtin.Range.small i j c = true then .ok (stepD i c (Builtin.Range.rangeSize i j c).toNat) ρ else .stuck
  | _, _, _ => .stuck
theorem it_step {lo c : Int} {n : Nat} : ItOk g (Itc lo c n) [] (stepD lo c n) where
  stop := fun H σ sl tm s => by simp [stepD, Itc]
  go := fun i d H σ sl tm s h => by
    unfold stepD at h
    rw [List.getElem?_map, Option.map_eq_some_iff] at h
    obtain ⟨k, hk, rfl⟩ := h
    have hlt : i < n := by
      by_cases q : i < n
      · exact q
      · rw [List.getElem?_eq_none (by simp; omega)] at hk; cases hk
    rw [List.getElem?_range hlt] at hk
    cases hk
    refine ⟨hlt, fun x H' hy => ?_⟩
    obtain ⟨rfl, rfl⟩ := hy
    exact ⟨.sc (.int (lo + (i : Int) * c)), s.push _ trivial, rfl, rfl⟩
theorem tA3 {α : Type} {σ : L2.St} {H : Hp} {sl : List (Option T)} {tm : List T} {Q : List V → Hp → Prop} {f : D → D → D → Cm α} {k : α → DE → Prop} (s : SR g H σ sl tm) (h : Lands g W tm ((ma (den sl)).bind fun x ρ => (mb ρ).bind fun y ρ => (mc ρ).bind fun z ρ => f x y z ρ) k)
    (q : ∀ H' sl' t u v, SR g H' σ sl' (v :: u :: t :: tm) → Lands g W tm (f t.d u.d v.d (den sl')) k → Q [t.v, u.v, v.v] H') : tA g W [ma, mb, mc] σ H Q := by
  refine tA.of (f := fun ds ρ => match ds with | [x, y, z] => f x y z ρ | _ => .stuck) (k := k) s ?_ fun H' sl' ts s' h' => ?_
  · revert h
    simp only [mArgs]
    cases ma (den sl) with
    | ok x ρ =>
      cases e : mb ρ with
      | ok y ρ => cases e2 : mc ρ <;> simp [e, e2, R.bind, Lands]
      | exc x ρ => simp [e, R.bind, Lands]
      | stuck => simp [e, R.bind, Lands]
    | exc x ρ => simp [R.bind, Lands]
    | stuck => simp [R.bind, Lands]
  · match ts, s', h' with
    | [], _, h' => exact h'.elim
    | [_], _, h' => exact h'.elim
    | [_, _], _, h' => exact h'.elim
    | _ :: _ :: _ :: _ :: _, _, h' => exact h'.elim
    | [t, u, v], s', h' => exact q H' sl' t u v s' h'
theorem i_range3 {p : Pos} (hg : Gl X "range") (hm : X.mg "range" = none) (ha : PA X [a, b, c] (tA g W [ma, mb, mc])) (hs : starEach [a, b, c] X.env = (false, eval a X.env) :: starEach [b, c] X.env := by rfl) (hpl : (backTo pos (starEach [b, c] X.env)).any (·.1) = false := by rfl) :
    PI X tg (.Call (.Name "range" p) [a, b, c] [] pos) (tI g W (mRange3 ma mb mc)) := (pi_range3 hg hm ha hs hpl).imp fun σ H R ⟨sl, tm, s, q⟩ => by
  refine tA3 s q fun H' sl' t u v s' h' => ?_
  cases t with
  | sc x =>
    cases x with
    | int i =>
      cases u with
      | sc y =>
        cases y with
        | int j =>
          cases v with
          | sc z =>
            cases z with
            | int c =>
              simp only [T.d] at h'
              split at h'
              · rename_i hj
                exact ⟨i, j, c, _, rfl, ⟨hj.1, hj.2.1, hj.2.2, PyProof.Rows.rangeSize_toNat i j c⟩, h' H' sl' [] _ s'.pop.pop.pop rfl it_step⟩
              · exact h'.elim
            | _ => exact h'.elim
          | _ => exact h'.elim
        | _ => exact h'.elim
      | _ => exact h'.elim
    | _ => exact h'.elim
  | _ => exact h'.elim
/-! ### a list to several targets -/
def mTupL (fs : List (D → Cm Unit)) : D → Cm Unit := fun d ρ => match d with
  | .lst _ ds => if ds.length = fs.length ∧ ds.all D.isSc = true then putAll fs ds ρ else .stuck
  | _ => .stuck
theorem sc_free {xs : List T} (h : (Ts.d xs).all D.isSc = true) (p : Addr) : Ts.oc p xs = 0 ∧ Ts.sh p xs = 0 := by
  induction xs with
  | nil => simp [Ts.oc, Ts.sh]
  | cons t ts ih =>
    simp only [Ts.d, List.all_cons, Bool.and_eq_true] at h
    have := ih h.2
    cases t with
    | sc x => simp [Ts.oc, Ts.sh, T.oc, T.sh, this]
    | _ => simp [T.d, D.isSc] at h
theorem g_tupL {es : List Expr} {k n : Nat} {fs : List (D → Cm Unit)} (hc : X.calm = true) (h : PGs X es (tGs g W fs)) (hK : X.K = g.c.K)
    (hn : (assignEach es X.env).length = n := by rfl) (hst : (assignEach es X.env).findIdx? (·.1) = none := by rfl) (hfn : fs.length = n := by rfl) : PG X (.Tuple es k pos) (tG g W (mTupL fs)) := (pg_unl hc h hn hst).imp fun v σ H Q ⟨sl, tm, t, s, e, h⟩ => by
  subst e
  cases t with
  | lst p o xs =>
    simp only [T.d, mTupL] at h
    split at h
    · rename_i hl
      have q := lst_sq s.top
      have fr := sc_free hl.2
      refine ⟨p, _, rfl, by rw [hK]; exact q.1, by have := hl.1; rw [Ts.d_len] at this; simp; omega, sl, tm, xs, ?_, rfl, h⟩
      refine s.tmp ?_ fun a => ?_
      · have k := s.okT
        simp only [Ts.ok] at k
        rw [Ts.ok_iff]
        intro t ht
        rcases List.mem_append.mp ht with ht | ht
        · exact Ts.ok_iff.mp q.2.2 t ht
        · exact Ts.ok_iff.mp k.2 t ht
      · have := fr a
        rw [Ts.oc_append, Ts.sh_append]
        simp only [Ts.oc, Ts.sh]
        refine ⟨by omega, fun z => .inl (by omega)⟩
    · exact h.elim
  | _ => exact h.elim
/-! ### a text, or another -/
/-! ### a text's method without arguments -/
def HM0 (g : Gh) (f : D → Option Sc) (r : V → List V → Hp → VK → Prop) : Prop := ∀ H (u1 : T) c Q, u1.ok g.c H → f u1.d = some c → (c.good → Q (c.v) H) → (∃ a, u1.v = .str a) ∧ r u1.v [] H Q
theorem e_m0 {id : String} {name : Str} {apos : Pos} {fm : D → Option Sc} {r : V → List V → Hp → VK → Prop} (slot : Slot "str" name id) (ty : typeOf (.builtin id) = pure (.type "method_descriptor")) (rule : MtR X id r) (hr : HM0 g fm r) (ho : PE X a (tO g W oa))
    (hbase : attributeBase a name X.env (eval a X.env) = eval a X.env := by rfl) (hline : (apos.endLine == pos.line) = true := by rfl) :
    PE X (.Call (.Attribute a name apos) [] [] pos) (tE g W (mP1 fm oa)) := (pe_m0 slot ty rule ho hbase hline).imp (p1_imp hr)
end
end VS
namespace VS
open PySem
theorem fits_of {i : Int} (h : -1000000 ≤ i) (h2 : i ≤ 1000000) : Builtin.Range.rangeFitsLong i = true := by
  unfold Builtin.Range.rangeFitsLong
  have e : (2 : Int) ^ 63 = 9223372036854775808 := by decide
  rw [e, Bool.and_eq_true, decide_eq_true_eq, decide_eq_true_eq]
  constructor <;> omega
theorem small_up (n c : Int) (hn : 0 ≤ n) (hn2 : n ≤ 500000) (hc : 0 < c) (hc2 : c ≤ 1000) (hz : 0 ≤ Builtin.Range.rangeSize 0 n c ∧ Builtin.Range.rangeSize 0 n c ≤ 500000) : Builtin.Range.small 0 n c = true := by
  unfold Builtin.Range.small
  rw [fits_of (i := 0) (by decide) (by decide), fits_of (i := n) (by omega) (by omega), fits_of (i := c) (by omega) (by omega), fits_of (i := Builtin.Range.rangeSize 0 n c) (by omega) (by omega), if_pos (by omega), fits_of (i := n + (c - 1)) (by omega) (by omega)]
  simp
theorem size_up (n c : Nat) (hc : 0 < c) : Builtin.Range.rangeSize 0 (n : Int) (c : Int) = (((n + c - 1) / c : Nat) : Int) := by
  unfold Builtin.Range.rangeSize
  rw [if_pos (by omega)]
  by_cases q : n = 0
  · subst q
    have : (0 + c - 1) / c = 0 := Nat.div_eq_of_lt (by omega)
    rw [this]; simp
  · rw [if_pos (by omega)]
    have e : (n + c - 1) = (n - 1) + c := by omega
    rw [e, Nat.add_div_right _ hc]
    have e2 : ((n : Int) - 0 - 1) = ((n - 1 : Nat) : Int) := by omega
    rw [e2]
    simp
end VS
namespace VS
open PySem
theorem range3_ok {ma mb mc : Cm D} {ρ ρ1 ρ2 ρ3 : DE} {n c N : Nat} (h1 : ma ρ = .ok (.int 0) ρ1) (h2 : mb ρ1 = .ok (.int n) ρ2) (h3 : mc ρ2 = .ok (.int c) ρ3) (hc : 0 < c) (hc2 : c ≤ 1000) (hn : n ≤ 500000) (hN : (n + c - 1) / c = N) : mRange3 ma mb mc ρ = .ok (stepD 0 c N) ρ3 := by
  have hz := size_up n c hc
  rw [hN] at hz
  have hb : N ≤ 500000 := by
    rw [← hN]
    have := Nat.div_le_div_left (c := 1) (b := c) hc (by decide) (a := n + c - 1)
    by_cases q : n = 0
    · subst q
      have : (0 + c - 1) / c = 0 := Nat.div_eq_of_lt (by omega)
      omega
    · have h : (n + c - 1) / c ≤ n := by
        rw [show n + c - 1 = (n - 1) + c by omega, Nat.add_div_right _ hc]
        have := Nat.div_le_self (n - 1) c
        omega
      omega
  have hs : Builtin.Range.small 0 (n : Int) (c : Int) = true := small_up _ _ (by omega) (by omega) (by omega) (by omega) (by rw [hz]; omega)
  unfold mRange3
  rw [h1, R.bind_ok, h2, R.bind_ok, h3, R.bind_ok]
  simp only
  rw [if_pos ⟨by omega, by omega, hs⟩, hz, Int.toNat_natCast]
end VS

/-! VS, part s: the mirror's words, for simp. -/
namespace VS
open PySem L2
section
variable (ρ : DE) (a b c : Cm D) (t u : Cm Bool) (m m' : Cm Out) (i j : Nat)
@[simp] theorem mC_ (s : Sc) : mC s ρ = .ok (.sc s) ρ := (rfl)
@[simp] theorem mK_ (l : List Sc) : mK l ρ = .ok (.tup (l.map D.sc)) ρ := (rfl)
@[simp] theorem mVar_ : mVar i ρ = match ρ[i]? with
  | some (some d) => .ok d.fz (ρ.set i (some d.fz))
  | _ => .stuck := (rfl)
@[simp] theorem mMove_ : mMove i ρ = match ρ[i]? with
  | some (some d) => .ok d (ρ.set i none)
  | _ => .stuck := (rfl)
@[simp] theorem mBin_ (f : D → D → Option D) : mBin f a b ρ = (a ρ).bind fun x ρ => (b ρ).bind fun y ρ => lift (f x y) ρ := (rfl)
@[simp] theorem mUn_ (f : D → Option D) : mUn f a ρ = (a ρ).bind fun x ρ => lift (f x) ρ := (rfl)
@[simp] theorem orun_v : (Opd.v i).run ρ = match ρ[i]? with
    | some (some _) => .ok none ρ
    | _ => .stuck := (rfl)
@[simp] theorem orun_e : (Opd.e a).run ρ = (a ρ).bind fun d ρ => .ok (some d) ρ := (rfl)
@[simp] theorem oget_v (o : Option D) : (Opd.v i).get o ρ = (ρ[i]?).join := (rfl)
@[simp] theorem oget_e (o : Option D) : (Opd.e a).get o ρ = o := (rfl)
@[simp] theorem mP1_ (f : D → Option Sc) (x : Opd) : mP1 f x ρ = (x.run ρ).bind fun t ρ => match x.get t ρ with
  | some y => (lift (f y) ρ).bind fun s ρ => .ok (.sc s) ρ
  | none => .stuck := (rfl)
@[simp] theorem mP2_ (f : D → D → Option Sc) (x y : Opd) : mP2 f x y ρ = (x.run ρ).bind fun t ρ => (y.run ρ).bind fun u ρ => match x.get t ρ, y.get u ρ with
  | some v, some w => (lift (f v w) ρ).bind fun s ρ => .ok (.sc s) ρ
  | _, _ => .stuck := (rfl)
@[simp] theorem mTest_ : mTest a ρ = (a ρ).bind fun d ρ => match d with
  | .sc (.bl b) => .ok b ρ
  | _ => .stuck := (rfl)
@[simp] theorem mAnd_ : mAnd t u ρ = (t ρ).bind fun c ρ => if c then u ρ else .ok false ρ := (rfl)
@[simp] theorem mOr_ : mOr t u ρ = (t ρ).bind fun c ρ => if c then .ok true ρ else u ρ := (rfl)
@[simp] theorem mNot_ : mNot t ρ = (t ρ).bind fun c ρ => .ok (!c) ρ := (rfl)
@[simp] theorem mIfE_ {α : Type} (x y : Cm α) : mIfE t x y ρ = (t ρ).bind fun k ρ => if k then x ρ else y ρ := (rfl)
@[simp] theorem mIf_ : mIf t m m' ρ = (t ρ).bind fun k ρ => if k then m ρ else m' ρ := (rfl)
@[simp] theorem mAndV_ : mAndV a b ρ = (a ρ).bind fun d ρ => match d with
  | .sc (.bl c) => if c then b ρ else .ok (.bl false) ρ
  | _ => .stuck := (rfl)
@[simp] theorem mOrV_ : mOrV a b ρ = (a ρ).bind fun d ρ => match d with
  | .sc (.bl c) => if c then .ok (.bl true) ρ else b ρ
  | _ => .stuck := (rfl)
@[simp] theorem mChain_ (f f' : D → D → Option Sc) : mChain f f' a b c ρ = (a ρ).bind fun x ρ => (b ρ).bind fun y ρ => (lift (f x y) ρ).bind fun k ρ => match k with
  | .bl true => (c ρ).bind fun z ρ => (lift (f' y z) ρ).bind fun s ρ => .ok (.sc s) ρ
  | .bl false => .ok (.bl false) ρ
  | _ => .stuck := (rfl)
@[simp] theorem mArgs_nil : mArgs [] ρ = .ok [] ρ := (rfl)
@[simp] theorem mArgs_cons (ms : List (Cm D)) : mArgs (a :: ms) ρ = (a ρ).bind fun d ρ => (mArgs ms ρ).bind fun ds ρ => .ok (d :: ds) ρ := (rfl)
@[simp] theorem mLst_ (ms : List (Cm D)) : mLst ms ρ = (mArgs ms ρ).bind fun ds ρ => if ds.length ≤ 16777216 then .ok (.lst .own ds) ρ else .stuck := (rfl)
@[simp] theorem mTup_ (ms : List (Cm D)) : mTup ms ρ = (mArgs ms ρ).bind fun ds ρ => if ds.length ≤ 16777216 then .ok (.tup ds) ρ else .stuck := (rfl)
@[simp] theorem mIdx_e : mIdx (.e a) b ρ = (a ρ).bind fun x ρ => (b ρ).bind fun j ρ => match j with
  | .sc (.int i) => match idxD x i with
    | some d => .ok d ρ
    | none => .stuck
  | _ => .stuck := by
  unfold mIdx
  cases e : a ρ with
  | ok x ρ =>
    simp only [orun_e, e, R.bind_ok]
    cases e2 : b ρ with
    | ok j ρ => simp only [R.bind_ok, oget_e]; cases j <;> first | rfl | (rename_i s; cases s <;> rfl)
    | exc _ _ => rfl
    | stuck => rfl
  | exc _ _ => simp only [orun_e, e]; rfl
  | stuck => simp only [orun_e, e]; rfl
@[simp] theorem mIdx_v : mIdx (.v i) b ρ = match ρ[i]? with
  | some (some _) => (b ρ).bind fun j ρ => match (ρ[i]?).join, j with
    | some x, .sc (.int k) => match idxD x k with
      | some d => if d.pur then .ok d ρ else .ok d.fz (ρ.set i (some x.fz))
      | none => .stuck
    | _, _ => .stuck
  | _ => .stuck := by
  unfold mIdx
  simp only [orun_v]
  split
  · simp only [R.bind_ok]
    rfl
  · rfl
@[simp] theorem mPart_none : mPart none ρ = .ok none ρ := (rfl)
@[simp] theorem mPart_some : mPart (some a) ρ = (a ρ).bind fun d ρ => match d with
    | .sc (.int i) => .ok (some i) ρ
    | _ => .stuck := (rfl)
@[simp] theorem mSlc_ (x : Opd) (lo hi : Option (Cm D)) : mSlc x lo hi ρ = (x.run ρ).bind fun t ρ => (mPart lo ρ).bind fun l ρ => (mPart hi ρ).bind fun u ρ => match x.get t ρ with
  | some y => lift (sliceD l u y) ρ
  | none => .stuck := (rfl)
@[simp] theorem mNew_ (f : D → Option D) (x : Opd) : mNew f x ρ = (x.run ρ).bind fun t ρ => match x.get t ρ with
  | some y => lift (f y) ρ
  | none => .stuck := (rfl)
@[simp] theorem mSeq_ : mSeq m m' ρ = (m ρ).bind fun o ρ => match o with
  | .nx => m' ρ
  | o => .ok o ρ := (rfl)
@[simp] theorem mNext_ : mNext ρ = .ok .nx ρ := (rfl)
@[simp] theorem mBreak_ : mBreak ρ = .ok .brk ρ := (rfl)
@[simp] theorem mCont_ : mCont ρ = .ok .ct ρ := (rfl)
@[simp] theorem mStuckO_ : mStuckO ρ = .stuck := (rfl)
@[simp] theorem mSet_ : mSet i a ρ = (a ρ).bind fun d ρ => .ok .nx (ρ.set i (some d)) := (rfl)
@[simp] theorem mAug_ (f : D → D → Option D) : mAug f i a ρ = match ρ[i]? with
  | some (some _) => (a ρ).bind fun y ρ => match ρ[i]? with
    | some (some x) => (lift (f x y) ρ).bind fun d ρ => .ok .nx (ρ.set i (some d))
    | _ => .stuck
  | _ => .stuck := (rfl)
@[simp] theorem mRet_ : mRet a ρ = (a ρ).bind fun d ρ => .ok (.ret d) ρ := (rfl)
@[simp] theorem mDrop_ : mDrop a ρ = (a ρ).bind fun _ ρ => .ok .nx ρ := (rfl)
@[simp] theorem mPar_ : mPar i j a b ρ = (a ρ).bind fun x ρ => (b ρ).bind fun y ρ => .ok .nx ((ρ.set i (some x)).set j (some y)) := (rfl)
@[simp] theorem mAsg_ (f : D → Cm Unit) : mAsg a f ρ = (a ρ).bind fun d ρ => (f d ρ).bind fun _ ρ => .ok .nx ρ := (rfl)
@[simp] theorem mPut_ (d : D) : mPut i d ρ = .ok () (ρ.set i (some d)) := (rfl)
@[simp] theorem mTupT_ (fs : List (D → Cm Unit)) (ds : List D) : mTupT fs (.tup ds) ρ = if ds.length = fs.length then putAll fs ds ρ else .stuck := (rfl)
@[simp] theorem mUnp_ (fs : List (D → Cm Unit)) (ds : List D) : mUnp fs (.tup ds) ρ = putAll fs ds ρ := (rfl)
@[simp] theorem putAll_nil : putAll [] [] ρ = .ok () ρ := (rfl)
@[simp] theorem putAll_cons (f : D → Cm Unit) (fs : List (D → Cm Unit)) (d : D) (ds : List D) : putAll (f :: fs) (d :: ds) ρ = (f d ρ).bind fun _ ρ => putAll fs ds ρ := (rfl)
@[simp] theorem mSetI_ (d : D) : mSetI i a d ρ = match ρ[i]? with
  | some (some (.lst _ _)) => (a ρ).bind fun j ρ => match ρ[i]?, j with
    | some (some (.lst .own xs)), .sc (.int k) => match ixN xs.length k with
      | some n => .ok () (ρ.set i (some (.lst .own (xs.set n d))))
      | none => .stuck
    | _, _ => .stuck
  | _ => .stuck := (rfl)
@[simp] theorem mApp_ : mApp i a ρ = match ρ[i]? with
  | some (some (.lst _ _)) => (a ρ).bind fun d ρ => match ρ[i]? with
    | some (some (.lst .own xs)) => if xs.length < 16777216 then .ok .non (ρ.set i (some (.lst .own (xs ++ [d])))) else .stuck
    | _ => .stuck
  | _ => .stuck := (rfl)
@[simp] theorem mExt_ : mExt i a ρ = match ρ[i]? with
  | some (some (.lst _ _)) => (a ρ).bind fun d ρ => match ρ[i]?, d with
    | some (some (.lst .own xs)), .lst o ys => if (o = .own ∨ o = .shr) ∧ xs.length + ys.length ≤ 16777216 then .ok .non (ρ.set i (some (.lst .own (xs ++ ys)))) else .stuck
    | _, _ => .stuck
  | _ => .stuck := (rfl)
@[simp] theorem mFor_ (mi : Cm (List D)) (g : D → Cm Unit) : mFor mi g m ρ = (mi ρ).bind fun ds ρ => forL g m ds ρ := (rfl)
@[simp] theorem mItemsL_ : mItemsL a ρ = (a ρ).bind fun d ρ => match d.fz with
  | .lst _ ds => .ok ds ρ
  | _ => .stuck := (rfl)
@[simp] theorem mItemsT_ : mItemsT a ρ = (a ρ).bind fun d ρ => match d.fz with
  | .tup ds => .ok ds ρ
  | _ => .stuck := (rfl)
@[simp] theorem mRange1_ : mRange1 a ρ = (a ρ).bind fun d ρ => match d with
  | .sc (.int j) => if smallR j then .ok (rangeD 0 j.toNat) ρ else .stuck
  | _ => .stuck := (rfl)
@[simp] theorem mRange2_ : mRange2 a b ρ = (a ρ).bind fun d ρ => (b ρ).bind fun d' ρ => match d, d' with
  | .sc (.int i), .sc (.int j) => if smallR i ∧ smallR j then .ok (rangeD i (j - i).toNat) ρ else .stuck
  | _, _ => .stuck := (rfl)
@[simp] theorem mLc_ (mi : Cm (List D)) (g : D → Cm Unit) (vs : List Nat) : mLc mi g t a vs ρ = (mi ρ).bind fun ds ρ => match saved ρ vs with
  | some ss => if ds.length ≤ 16777216 then (unexc (lcL g t a vs ds (wipeD ρ vs))).bind fun r ρ => .ok (.lst .own r) (restD ρ vs ss) else .stuck
  | none => .stuck := (rfl)
@[simp] theorem mYes_ : mYes ρ = .ok true ρ := (rfl)
@[simp] theorem mCall_ (M : List D → RF) (as : List Ag) : mCall M as ρ = (agRun as ρ).bind fun ts ρ => match agGet as ts ρ with
  | some (ds, ρ') => match M ds with
    | .ok d us => if us.length = (agOuts as).length then (if d.isFree && (agOuts as).isEmpty then .ok d ρ else .ok d (putD ρ' (agOuts as) us)) else .stuck
    | .exc x us => if us.length = (agOuts as).length then .exc x (putD ρ' (agOuts as) us) else .stuck
    | .stuck => .stuck
  | none => .stuck := (rfl)
@[simp] theorem agRun_nil : agRun [] ρ = .ok [] ρ := (rfl)
@[simp] theorem agRun_s (as : List Ag) : agRun (.s i :: as) ρ = match ρ[i]? with
    | some (some _) => (agRun as ρ).bind fun ts ρ => .ok (none :: ts) ρ
    | _ => .stuck := (rfl)
@[simp] theorem agRun_p (as : List Ag) : agRun (.p i :: as) ρ = match ρ[i]? with
    | some (some _) => (agRun as ρ).bind fun ts ρ => .ok (none :: ts) ρ
    | _ => .stuck := (rfl)
@[simp] theorem agRun_e (as : List Ag) : agRun (.e a :: as) ρ = (a ρ).bind fun d ρ => (agRun as ρ).bind fun ts ρ => .ok (some d :: ts) ρ := (rfl)
@[simp] theorem agRun_t (as : List Ag) : agRun (.t a :: as) ρ = (a ρ).bind fun d ρ => (agRun as ρ).bind fun ts ρ => .ok (some d :: ts) ρ := (rfl)
@[simp] theorem agGet_nil : agGet [] [] ρ = some ([], ρ) := (rfl)
@[simp] theorem agGet_s (as : List Ag) (ts : List (Option D)) : agGet (.s i :: as) (none :: ts) ρ = match ρ[i]? with
    | some (some d) => (agGet as ts (ρ.set i none)).map fun r => (d :: r.1, r.2)
    | _ => none := (rfl)
@[simp] theorem agGet_p (as : List Ag) (ts : List (Option D)) : agGet (.p i :: as) (none :: ts) ρ = match ρ[i]? with
    | some (some d) => (agGet as ts (ρ.set i (some d.fz))).map fun r => (d.fz :: r.1, r.2)
    | _ => none := (rfl)
@[simp] theorem agGet_e (d : D) (as : List Ag) (ts : List (Option D)) : agGet (.e a :: as) (some d :: ts) ρ = (agGet as ts ρ).map fun r => (d.fz :: r.1, r.2) := (rfl)
@[simp] theorem agGet_t (d : D) (as : List Ag) (ts : List (Option D)) : agGet (.t a :: as) (some d :: ts) ρ = (agGet as ts ρ).map fun r => (d :: r.1, r.2) := (rfl)
end
@[simp] theorem agOuts_nil : agOuts [] = [] := (rfl)
@[simp] theorem agOuts_s (i : Nat) (as : List Ag) : agOuts (.s i :: as) = some i :: agOuts as := (rfl)
@[simp] theorem agOuts_p (i : Nat) (as : List Ag) : agOuts (.p i :: as) = agOuts as := (rfl)
@[simp] theorem agOuts_e (m : Cm D) (as : List Ag) : agOuts (.e m :: as) = agOuts as := (rfl)
@[simp] theorem agOuts_t (m : Cm D) (as : List Ag) : agOuts (.t m :: as) = none :: agOuts as := (rfl)
@[simp] theorem putD_nil (ρ : DE) (ds : List D) : putD ρ [] ds = ρ := by simp [putD]
@[simp] theorem putD_s (ρ : DE) (i : Nat) (is : List (Option Nat)) (d : D) (ds : List D) : putD ρ (some i :: is) (d :: ds) = (putD ρ is ds).set i (some d) := (rfl)
@[simp] theorem putD_n (ρ : DE) (is : List (Option Nat)) (d : D) (ds : List D) : putD ρ (none :: is) (d :: ds) = putD ρ is ds := (rfl)
@[simp] theorem runF_ (n : Nat) (io : List Nat) (m : Cm Out) (args : List D) : runF n io m args = endF io (m (startD n args)) := (rfl)
@[simp] theorem startD_ (n : Nat) (args : List D) : startD n args = args.map some ++ List.replicate (n - args.length) none := (rfl)
@[simp] theorem endF_nx (io : List Nat) (ρ : DE) : endF io (.ok .nx ρ) = match ioGet ρ io with
    | some ds => .ok .non ds
    | none => .stuck := (rfl)
@[simp] theorem endF_ret (io : List Nat) (d : D) (ρ : DE) : endF io (.ok (.ret d) ρ) = match ioGet ρ io with
    | some ds => .ok d ds
    | none => .stuck := (rfl)
@[simp] theorem endF_exc (io : List Nat) (x : Ex) (ρ : DE) : endF io (.exc x ρ) = match ioGet ρ io with
    | some ds => .exc x ds
    | none => .stuck := (rfl)
@[simp] theorem ioGet_nil (ρ : DE) : ioGet ρ [] = some [] := (rfl)
@[simp] theorem ioGet_cons (ρ : DE) (i : Nat) (is : List Nat) : ioGet ρ (i :: is) = match ρ[i]? with
    | some (some d) => (ioGet ρ is).map (d :: ·)
    | _ => none := (rfl)
/-! ### data -/
@[simp] theorem fz_sc (s : Sc) : (D.sc s).fz = .sc s := by simp [D.fz]
@[simp] theorem fz_lst (o : Ow) (xs : List D) : (D.lst o xs).fz = .lst (if o = .own then .shr else o) (xs.map D.fz) := by simp [D.fz, Ds.fz_map]
@[simp] theorem fz_tup (xs : List D) : (D.tup xs).fz = .tup (xs.map D.fz) := by simp [D.fz, Ds.fz_map]
theorem Ds.pur_all : ∀ xs : List D, Ds.pur xs = xs.all D.pur
  | [] => by simp [Ds.pur]
  | x :: xs => by simp [Ds.pur, Ds.pur_all xs]
@[simp] theorem pur_sc (s : Sc) : (D.sc s).pur = true := by simp [D.pur]
@[simp] theorem pur_lst (o : Ow) (xs : List D) : (D.lst o xs).pur = (o != .own && xs.all D.pur) := by simp [D.pur, Ds.pur_all]
@[simp] theorem pur_tup (xs : List D) : (D.tup xs).pur = xs.all D.pur := by simp [D.pur, Ds.pur_all]
@[simp] theorem isFree_sc (s : Sc) : (D.sc s).isFree = true := (rfl)
@[simp] theorem isFree_own (xs : List D) : (D.lst .own xs).isFree = xs.all D.isSc := (rfl)
@[simp] theorem isFree_shr (xs : List D) : (D.lst .shr xs).isFree = false := (rfl)
@[simp] theorem isFree_tup (xs : List D) : (D.tup xs).isFree = false := (rfl)
@[simp] theorem isSc_sc (s : Sc) : (D.sc s).isSc = true := (rfl)
@[simp] theorem flat_sc (n : Nat) (s : Sc) : D.flatN n (.sc s) = true := by cases n <;> rfl
@[simp] theorem flat_lst (n : Nat) (o : Ow) (xs : List D) : D.flatN (n + 1) (.lst o xs) = xs.all (D.flatN n) := by simp [D.flatN]
@[simp] theorem flat_tup (n : Nat) (xs : List D) : D.flatN (n + 1) (.tup xs) = xs.all (D.flatN n) := by simp [D.flatN]
@[simp] theorem addD_int (i j : Int) : addD (.int i) (.int j) = some (.int (i + j)) := (rfl)
@[simp] theorem addD_str (a b : List Nat) : addD (.str a) (.str b) = if a.length + b.length ≤ 16777216 then some (.str (a ++ b)) else none := (rfl)
@[simp] theorem addD_lst (o p : Ow) (xs ys : List D) : addD (.lst o xs) (.lst p ys) = if (o = .own ∨ o = .shr) ∧ (p = .own ∨ p = .shr) ∧ xs.length + ys.length ≤ 16777216 then some (.lst .own (xs ++ ys)) else none := (rfl)
@[simp] theorem subD_int (i j : Int) : subD (.int i) (.int j) = some (.int (i - j)) := (rfl)
@[simp] theorem mulD_int (i j : Int) : mulD (.int i) (.int j) = if i.natAbs < 18446744073709551616 ∨ j.natAbs < 18446744073709551616 then some (.int (i * j)) else none := (rfl)
@[simp] theorem mulD_str (a : List Nat) (n : Int) : mulD (.str a) (.int n) = if a.length * n.toNat ≤ 16777216 ∧ n.natAbs < 4611686018427387904 then some (.str (List.replicate n.toNat a).flatten) else none := (rfl)
@[simp] theorem mulD_lst (o : Ow) (xs : List D) (n : Int) : mulD (.lst o xs) (.int n) = if (o = .own ∨ o = .shr) ∧ Ds.pur xs = true ∧ xs.length * n.toNat ≤ 16777216 ∧ n.natAbs < 4611686018427387904 then some (.lst .own (List.replicate n.toNat xs).flatten) else none := (rfl)
@[simp] theorem fdivD_int (i j : Int) : fdivD (.int i) (.int j) = if 0 < j ∧ j < 4611686018427387904 then some (.int (i / j)) else none := (rfl)
@[simp] theorem modD_int (i j : Int) : modD (.int i) (.int j) = if 0 < j then some (.int (i % j)) else none := (rfl)
@[simp] theorem powD_int (i j : Int) : powD (.int i) (.int j) = if 0 ≤ j ∧ j ≤ 1000000 ∧ i.natAbs < 18446744073709551616 then some (.int (i ^ j.toNat)) else none := (rfl)
@[simp] theorem negD_int (i : Int) : negD (.int i) = some (.int (-i)) := (rfl)
@[simp] theorem notD_bl (b : Bool) : notD (.bl b) = some (.bl (!b)) := (rfl)
@[simp] theorem ltD_int (i j : Int) : ltD (.int i) (.int j) = some (.bl (decide (i < j))) := (rfl)
@[simp] theorem leD_int (i j : Int) : leD (.int i) (.int j) = some (.bl (decide (i ≤ j))) := (rfl)
@[simp] theorem gtD_int (i j : Int) : gtD (.int i) (.int j) = some (.bl (decide (j < i))) := (rfl)
@[simp] theorem geD_int (i j : Int) : geD (.int i) (.int j) = some (.bl (decide (j ≤ i))) := (rfl)
@[simp] theorem augA_int (i j : Int) : augA (.int i) (.int j) = some (.int (i + j)) := (rfl)
@[simp] theorem augA_str (a b : List Nat) : augA (.str a) (.str b) = if a.length + b.length ≤ 16777216 then some (.str (a ++ b)) else none := (rfl)
@[simp] theorem isNon_ (x : D) : isNon x .non = some (.bl (match x with | .sc .non => true | _ => false)) := (rfl)
@[simp] theorem isntNon_ (x : D) : isntNon x .non = some (.bl (match x with | .sc .non => false | _ => true)) := (rfl)
@[simp] theorem lenD_str (l : List Nat) : lenD (.str l) = some (.int l.length) := (rfl)
@[simp] theorem lenD_lst (o : Ow) (xs : List D) : lenD (.lst o xs) = some (.int xs.length) := (rfl)
@[simp] theorem lenD_tup (xs : List D) : lenD (.tup xs) = some (.int xs.length) := (rfl)
@[simp] theorem intD_int (i : Int) : intD (.int i) = some (.int i) := (rfl)
@[simp] theorem intD_bl (b : Bool) : intD (.bl b) = some (.int (if b then 1 else 0)) := (rfl)
@[simp] theorem maxD_int (i j : Int) : maxD (.int i) (.int j) = some (.int (max i j)) := (rfl)
@[simp] theorem minD_int (i j : Int) : minD (.int i) (.int j) = some (.int (min i j)) := (rfl)
@[simp] theorem idxD_lst (o : Ow) (xs : List D) (i : Int) : idxD (.lst o xs) i = atI xs i := (rfl)
@[simp] theorem idxD_tup (xs : List D) (i : Int) : idxD (.tup xs) i = atI xs i := (rfl)
@[simp] theorem idxD_str (l : List Nat) (i : Int) : idxD (.str l) i = (atI l i).map fun c => .str [c] := (rfl)
@[simp] theorem sliceD_str (lo hi : Option Int) (l : List Nat) : sliceD lo hi (.str l) = some (.str (cutL l lo hi)) := (rfl)
@[simp] theorem sliceD_lst (lo hi : Option Int) (o : Ow) (xs : List D) : sliceD lo hi (.lst o xs) = if xs.all D.pur then some (.lst .own (cutL xs lo hi)) else none := by simp [sliceD, Ds.pur_all]
@[simp] theorem listD_lst (o : Ow) (xs : List D) : listD (.lst o xs) = if xs.all D.pur then some (.lst .own xs) else none := by simp [listD, Ds.pur_all]
@[simp] theorem listD_tup (xs : List D) : listD (.tup xs) = if xs.all D.pur then some (.lst .own xs) else none := by simp [listD, Ds.pur_all]
@[simp] theorem eqD_ (x y : D) : eqD x y = if D.flatN 8 x && D.flatN 8 y then some (.bl (x.eqB y)) else none := (rfl)
@[simp] theorem neD_ (x y : D) : neD x y = if D.flatN 8 x && D.flatN 8 y then some (.bl (!x.eqB y)) else none := (rfl)
@[simp] theorem eqB_int (i j : Int) : D.eqB (.int i) (.int j) = (i == j) := by simp [D.eqB, Sc.eqB]
@[simp] theorem eqB_str (i j : List Nat) : D.eqB (.str i) (.str j) = (i == j) := by simp [D.eqB, Sc.eqB]
@[simp] theorem eqB_bl (i j : Bool) : D.eqB (.bl i) (.bl j) = (i == j) := by simp [D.eqB, Sc.eqB]
@[simp] theorem eqB_lst (o p : Ow) (xs ys : List D) : D.eqB (.lst o xs) (.lst p ys) = Ds.eqB xs ys := by simp [D.eqB]
@[simp] theorem eqB_tup (xs ys : List D) : D.eqB (.tup xs) (.tup ys) = Ds.eqB xs ys := by simp [D.eqB]
@[simp] theorem eqB_nil : Ds.eqB [] [] = true := by simp [Ds.eqB]
@[simp] theorem eqB_cons (x y : D) (xs ys : List D) : Ds.eqB (x :: xs) (y :: ys) = (x.eqB y && Ds.eqB xs ys) := by simp [Ds.eqB]
@[simp] theorem eqB_nc (y : D) (ys : List D) : Ds.eqB [] (y :: ys) = false := by simp [Ds.eqB]
@[simp] theorem eqB_cn (y : D) (ys : List D) : Ds.eqB (y :: ys) [] = false := by simp [Ds.eqB]
theorem eqB_map {α : Type} [DecidableEq α] (f : α → D) (hf : ∀ x y, (f x).eqB (f y) = decide (x = y)) : ∀ xs ys : List α, Ds.eqB (xs.map f) (ys.map f) = decide (xs = ys)
  | [], [] => by simp
  | [], y :: ys => by simp
  | x :: xs, [] => by simp
  | x :: xs, y :: ys => by simp [hf, eqB_map f hf xs ys]
@[simp] theorem eqB_ints (xs ys : List Int) : Ds.eqB (xs.map fun i => D.sc (.int i)) (ys.map fun i => D.sc (.int i)) = decide (xs = ys) := eqB_map _ (fun x y => by simp [Bool.beq_eq_decide_eq]) xs ys
@[simp] theorem eqB_strs (xs ys : List (List Nat)) : Ds.eqB (xs.map fun i => D.sc (.str i)) (ys.map fun i => D.sc (.str i)) = decide (xs = ys) := eqB_map _ (fun x y => by simp [Bool.beq_eq_decide_eq]) xs ys
@[simp] theorem allD_ (o : Ow) (bs : List Bool) : allD (.lst o (bs.map fun b => D.sc (.bl b))) = some (.bl (bs.all id)) := by
  have : bls (bs.map fun b => D.sc (.bl b)) = some bs := by induction bs with | nil => rfl | cons b bs ih => simp [bls, ih]
  simp [allD, this]
@[simp] theorem anyD_ (o : Ow) (bs : List Bool) : anyD (.lst o (bs.map fun b => D.sc (.bl b))) = some (.bl (bs.any id)) := by
  have : bls (bs.map fun b => D.sc (.bl b)) = some bs := by induction bs with | nil => rfl | cons b bs ih => simp [bls, ih]
  simp [anyD, this]
@[simp] theorem sumD_ (o : Ow) (bs : List Int) : sumD (.lst o (bs.map fun b => D.sc (.int b))) = some (.int bs.sum) := by
  have : intL (bs.map fun b => D.sc (.int b)) = some bs := by induction bs with | nil => rfl | cons b bs ih => simp [intL, ih]
  simp [sumD, this]
@[simp] theorem isTy_int_int (i : Int) : isTy .int (.int i) = some (.bl true) := (rfl)
@[simp] theorem isTy_bool_int (i : Int) : isTy .bool (.int i) = some (.bl false) := (rfl)
@[simp] theorem isTy_list (o : Ow) (xs : List D) : isTy .list (.lst o xs) = some (.bl true) := (rfl)
@[simp] theorem isTy_str (xs : List Nat) : isTy .str (.str xs) = some (.bl true) := (rfl)
@[simp] theorem isTy_tuple (xs : List D) : isTy .tuple (.tup xs) = some (.bl true) := (rfl)
theorem atI_nn {α : Type} (xs : List α) (i : Nat) (h : i < xs.length) : atI xs (i : Int) = xs[i]? := by
  unfold atI ixN
  rw [if_pos (by omega), if_pos (by omega)]
  simp
/-- an index of a written list -/
@[simp] theorem atI_z {α : Type} (x : α) (xs : List α) : atI (x :: xs) 0 = some x := by
  unfold atI ixN
  rw [if_pos (by omega), if_pos (by simp)]
  simp
theorem atI_s {α : Type} (x : α) (xs : List α) (i : Int) (h : 0 < i) : atI (x :: xs) i = atI xs (i - 1) := by
  unfold atI ixN
  rw [if_pos (by omega), if_pos (show (0 : Int) ≤ i - 1 by omega)]
  by_cases q : i < ((x :: xs).length : Nat)
  · rw [if_pos q, if_pos (by simp at q; omega)]
    have : i.toNat = (i - 1).toNat + 1 := by omega
    show (x :: xs)[i.toNat]? = xs[(i-1).toNat]?
    rw [this, List.getElem?_cons_succ]
  · rw [if_neg q, if_neg (by simp at q; omega)]
    rfl

/-! ### loops -/
/-- a for whose turns keep a relation; the turn may need its place -/
theorem forL_inv {g : D → Cm Unit} {b : Cm Out} {ds : List D} (I : Nat → DE → Prop)
    (h : ∀ i d ρ, ds[i]? = some d → I i ρ → ∃ ρ1, g d ρ = .ok () ρ1 ∧ ∃ o ρ2, b ρ1 = .ok o ρ2 ∧ (o = .nx ∨ o = .ct) ∧ I (i + 1) ρ2) :
    ∀ (n i : Nat) (ρ : DE), ds.length - i = n → i ≤ ds.length → I i ρ → ∃ ρ', forL g b (ds.drop i) ρ = .ok .nx ρ' ∧ I ds.length ρ'
  | 0, i, ρ, hn, hi, k => by
    have e : i = ds.length := by omega
    subst e
    rw [List.drop_length]
    exact ⟨ρ, rfl, k⟩
  | n + 1, i, ρ, hn, hi, k => by
    have hlt : i < ds.length := by omega
    rw [List.drop_eq_getElem_cons hlt]
    obtain ⟨ρ1, h1, o, ρ2, h2, h3, h4⟩ := h i _ ρ (List.getElem?_eq_getElem hlt) k
    obtain ⟨ρ', e1, e2⟩ := forL_inv I h n (i + 1) ρ2 (by omega) (by omega) h4
    refine ⟨ρ', ?_, e2⟩
    simp only [forL, h1, R.bind_ok, h2]
    rcases h3 with rfl | rfl <;> exact e1
theorem forL_inv0 {g : D → Cm Unit} {b : Cm Out} {ds : List D} {ρ : DE} (I : Nat → DE → Prop) (h0 : I 0 ρ)
    (h : ∀ i d ρ, ds[i]? = some d → I i ρ → ∃ ρ1, g d ρ = .ok () ρ1 ∧ ∃ o ρ2, b ρ1 = .ok o ρ2 ∧ (o = .nx ∨ o = .ct) ∧ I (i + 1) ρ2) : ∃ ρ', forL g b ds ρ = .ok .nx ρ' ∧ I ds.length ρ' := by
  simpa using forL_inv I h ds.length 0 ρ (by omega) (by omega) h0
/-- a comprehension whose steps are told by a function -/
theorem lcL_map {α : Type} {g : D → Cm Unit} {e : Cm D} {vs : List Nat} {ρ : DE} (el : α → D) (f : α → D) (hw : wipeD ρ vs = ρ)
    (h : ∀ x, ∃ ρ1 ρ2, g (el x) ρ = .ok () ρ1 ∧ e ρ1 = .ok (f x) ρ2 ∧ wipeD ρ2 vs = ρ) : ∀ xs : List α, lcL g mYes e vs (xs.map el) ρ = .ok (xs.map f) ρ
  | [] => rfl
  | x :: xs => by
    obtain ⟨ρ1, ρ2, h1, h2, h3⟩ := h x
    simp only [List.map_cons, lcL, h1, R.bind_ok, mYes_, if_true, h2, h3, lcL_map el f hw h xs]
end VS
namespace VS
end VS
namespace VS
@[simp] theorem fz_comp_int : D.fz ∘ D.int = D.int := by funext i; simp
@[simp] theorem fz_comp_str : D.fz ∘ D.str = D.str := by funext i; simp
@[simp] theorem fz_comp_bl : D.fz ∘ D.bl = D.bl := by funext i; simp
@[simp] theorem fz_map_int (ns : List Int) : (ns.map D.int).map D.fz = ns.map D.int := by simp
@[simp] theorem fz_map_str (ns : List (List Nat)) : (ns.map D.str).map D.fz = ns.map D.str := by simp
@[simp] theorem pur_all_int (ns : List Int) : (ns.map D.int).all D.pur = true := by simp
@[simp] theorem pur_all_str (ns : List (List Nat)) : (ns.map D.str).all D.pur = true := by simp
@[simp] theorem isSc_all_int (ns : List Int) : (ns.map D.int).all D.isSc = true := by simp
@[simp] theorem isSc_all_str (ns : List (List Nat)) : (ns.map D.str).all D.isSc = true := by simp
@[simp] theorem flat_all_int (n : Nat) (ns : List Int) : (ns.map D.int).all (D.flatN n) = true := by simp
@[simp] theorem flat_all_str (n : Nat) (ns : List (List Nat)) : (ns.map D.str).all (D.flatN n) = true := by simp
end VS
namespace VS
open L2
/-- an entry of a row of ints, by an int -/
def pk (l : List Int) (i : Int) : Int := l.getD i.toNat 0
theorem cut_take {α : Type} (xs : List α) (n : Nat) (h : n ≤ xs.length) : cutL xs none (some (n : Int)) = xs.take n := by
  unfold cutL; rw [HT.sIx_none, HT.sIx_nat, Nat.min_eq_left h]; simp
theorem cut_drop {α : Type} (xs : List α) (n : Nat) (h : n ≤ xs.length) : cutL xs (some (n : Int)) none = xs.drop n := by
  unfold cutL; rw [HT.sIx_none, HT.sIx_nat, Nat.min_eq_left h]
  exact List.take_of_length_le (by simp)
theorem cut_mid {α : Type} (xs : List α) (a b : Nat) (h : a ≤ b) (h2 : b ≤ xs.length) : cutL xs (some (a : Int)) (some (b : Int)) = (xs.drop a).take (b - a) := by
  unfold cutL; rw [HT.sIx_nat, HT.sIx_nat, Nat.min_eq_left h2, Nat.min_eq_left (Nat.le_trans h h2)]
/-- a row's ends, whatever the cut -/
theorem cut_sub {α : Type} (xs : List α) (lo hi : Option Int) : ∀ x ∈ cutL xs lo hi, x ∈ xs := fun x h => cutL_mem h
end VS
namespace VS
theorem allD_map {α : Type} (o : Ow) (f : α → Bool) (xs : List α) : allD (.lst o (xs.map fun x => D.sc (.bl (f x)))) = some (.bl (xs.all f)) := by
  have := allD_ o (xs.map f)
  simpa [Function.comp_def] using this
end VS
namespace VS
theorem rangeD_get {lo : Int} {n i : Nat} {d : D} (h : (rangeD lo n)[i]? = some d) : i < n ∧ d = D.int (lo + i) := by
  unfold rangeD at h
  rw [List.getElem?_map, Option.map_eq_some_iff] at h
  obtain ⟨k, hk, rfl⟩ := h
  obtain ⟨hl, rfl⟩ := List.getElem?_eq_some_iff.1 hk
  simp at hl ⊢
  exact hl
@[simp] theorem rangeD_len (lo : Int) (n : Nat) : (rangeD lo n).length = n := by simp [rangeD]
end VS
namespace VS
open L2
@[simp] theorem mM_e (f : D → D → Option Sc) (a b : Cm D) (ρ : DE) : mM f (.e a) (.e b) ρ = (a ρ).bind fun d ρ => match d with
  | .sc (.str _) => (b ρ).bind fun w ρ => (lift (f d w) ρ).bind fun s ρ => .ok (.sc s) ρ
  | _ => .stuck := by
  unfold mM
  cases e : a ρ with
  | ok x ρ =>
    simp only [orun_e, e, R.bind_ok, oget_e]
    cases x with
    | sc s =>
      cases s <;> try rfl
      cases e2 : b ρ <;> simp [R.bind]
    | _ => rfl
  | exc _ _ => simp only [orun_e, e]; rfl
  | stuck => simp only [orun_e, e]; rfl
@[simp] theorem mRepl_ (y z : List Nat) (m : Cm D) (ρ : DE) : mRepl y z m ρ = (m ρ).bind fun d ρ => match d with
  | .sc (.str x) => if x.length + (x.length + 1) * z.length ≤ 16777216 ∧ (PySem.StrLaws.replL y z x).all (fun c => decide (c < 1114112)) = true then .ok (.str (PySem.StrLaws.replL y z x)) ρ else .stuck
  | _ => .stuck := (rfl)
@[simp] theorem mItemsS_ (a : Cm D) (ρ : DE) : mItemsS a ρ = (a ρ).bind fun d ρ => match d with
  | .sc (.str l) => .ok (l.map fun c => D.str [c]) ρ
  | _ => .stuck := (rfl)
theorem inStr_one (c : Nat) (b : List Nat) : inStr [c] b = decide (c ∈ b) := by
  have := PySem.StrLaws.found_one ⟨b.toArray⟩ c
  simpa [inStr, PySem.Str.length] using this
@[simp] theorem inD_one (neg : Bool) (c : Nat) (b : List Nat) : inD neg (.str [c]) (.str b) = some (.bl (neg ^^ decide (c ∈ b))) := by
  rw [← inStr_one]; rfl
@[simp] theorem eqB_nilr (xs : List D) : Ds.eqB xs [] = xs.isEmpty := by cases xs <;> simp
theorem strL_map (l : List (List Nat)) : strL (l.map D.str) = some l := by
  induction l with
  | nil => rfl
  | cons x l ih => simp [strL, ih]
theorem joinL_nil (cs : List Nat) : joinL [] (cs.map fun c => [c]) = cs := by
  cases cs with
  | nil => rfl
  | cons c cs =>
    have : ∀ l : List Nat, glL [] (l.map fun c => [c]) = l := fun l => by induction l with | nil => rfl | cons x l ih => simp [glL, ih]
    simp [joinL, this]
theorem join_signs (o : Ow) (cs : List Nat) (h : cs.length ≤ 16777216) : joinD (.str []) (.lst o (cs.map fun c => D.str [c])) = some (.str cs) := by
  have e := strL_map (cs.map fun c => [c])
  simp only [List.map_map, Function.comp_def] at e
  have s : ((cs.map fun c => [c]).map List.length).sum = cs.length := by
    clear h e
    induction cs with
    | nil => rfl
    | cons c cs ih => simp at ih ⊢; omega
  simp only [joinD, e, joinL_nil]
  rw [if_pos (by rw [s]; simpa using h)]
/-- a comprehension whose steps draw -/
theorem lcL_draw {σ : Type} {g : D → Cm Unit} {e : Cm D} {vs : List Nat} (enc : σ → DE) (P : Nat → Prop)
    (h : ∀ s d, ∃ ρ1 ρ2 c s', g d (enc s) = .ok () ρ1 ∧ e ρ1 = .ok (.str [c]) ρ2 ∧ wipeD ρ2 vs = enc s' ∧ P c) : ∀ (ds : List D) (s : σ), ∃ (cs : List Nat) (s' : σ), lcL g mYes e vs ds (enc s) = .ok (cs.map fun c => D.str [c]) (enc s') ∧ cs.length = ds.length ∧ ∀ c ∈ cs, P c
  | [], s => ⟨[], s, rfl, rfl, by simp⟩
  | d :: ds, s => by
    obtain ⟨ρ1, ρ2, c, s1, h1, h2, h3, h4⟩ := h s d
    obtain ⟨cs, s', e1, e2, e3⟩ := lcL_draw enc P h ds s1
    refine ⟨c :: cs, s', by simp only [lcL, h1, R.bind_ok, mYes_, if_true, h2, h3, e1, List.map_cons], by simp [e2], fun x hx => ?_⟩
    rcases List.mem_cons.1 hx with rfl | hx
    · exact h4
    · exact e3 x hx
theorem repl_one (c : Nat) (z : List Nat) : ∀ l : List Nat, PySem.StrLaws.replL [c] z l = l.flatMap fun x => if x = c then z else [x]
  | [] => by rw [PySem.StrLaws.replL_nil]; rfl
  | x :: l => by
    by_cases q : x = c
    · subst q
      rw [PySem.StrLaws.replL_hit (by simp) (by simp)]
      simp [repl_one]
    · rw [PySem.StrLaws.replL_miss (by simpa using q), repl_one c z l]
      simp [q]
end VS
namespace VS
open L2
end VS

/-! VS, part t: exceptions: raise, try .. except. -/
namespace VS
open PySem PySem.Spec PyProof.Rows L2
def mRaise (C : String) : Cm Out := fun ρ => .exc ⟨C, [], []⟩ ρ
/-- raise C(why), raise C(why, e): C's own field f -/
def mRaiseF (C f : String) (ms : List (Cm D)) : Cm Out := fun ρ => (mArgs ms ρ).bind fun ds ρ => match ds with
  | [_] => .exc ⟨C, [f], [.int 0]⟩ ρ
  | [_, .sc s] => .exc ⟨C, [f], [s]⟩ ρ
  | _ => .stuck
/-- try: mb / except D as i: ms -/
def exT (all ds : List String) (C Dn : String) : Option Bool := if all.contains C && ds.contains Dn then some (C == Dn || Dn == "LetterError") else none
def mIsX (exm : String → String → Option Bool) (x : Ex) (Dn : String) : Cm D := match exm x.cls Dn with
  | some b => mC (.bl b)
  | none => mStuckD
def xfV : List String → List Sc → String → Option Sc
  | [f'], [s], f => if f' = f then some s else none
  | _, _, _ => none
theorem xfV_eq {ns : List String} {xs : List Sc} {f : String} {s : Sc} (h : xfV ns xs f = some s) : ns = [f] ∧ xs = [s] := by
  unfold xfV at h
  split at h
  · split at h
    · rename_i e
      cases h
      subst e
      exact ⟨rfl, rfl⟩
    · cases h
  · cases h
def mXf (x : Ex) (f : String) : Cm D := match xfV x.ns x.xs f with
  | some s => mC s
  | none => mStuckD
/-! ### what the written part says of the classes -/
structure CB (K : PySem.W.Frag) (C : Addr) : Prop where
  xf : XfC K C
  ty : PySem.W.typeIn K (.ref C) = some (.type "type")
  kp : PySem.W.keepIn K (.ref C) = true
  ca : PySem.W.findIn K (.ref C) "__class__" = some (some (.builtin "object.__class__"))
  sp : PySem.W.specialIn K (.builtin "object.__class__") "__get__" = some (some (.builtin "getset_descriptor.__get__"))
  tk : PySem.W.takesIn K (.builtin "object.__class__") = some true
  mr : PySem.W.mroIn K C (.type "object") = some true
  cl : (PySem.W.clsIn K C).isSome = true
  nA : PySem.W.findIn K (.ref C) "at" = some none
  nL : PySem.W.findIn K (.ref C) "line" = some none
  kv : PySem.W.kitOne K (.ref C) (.type "ValueError") = some true
theorem cB_ok {K : PySem.W.Frag} {C : Addr} (h : cB K C = true) : CB K C := by
  unfold cB at h
  simp only [Bool.and_eq_true, decide_eq_true_eq] at h
  obtain ⟨h1, h2, h3, h4, h5, h6, h7, h8, h9, h10, h11⟩ := h
  exact ⟨xfB_ok h1, h2, h3, h4, h5, h6, h7, h8, h9, h10, h11⟩
/-- the classes that may fly (all), those that are named (ds) -/
structure XT (K : PySem.W.Frag) (cls : String → Addr) (all ds : List String) : Prop where
  c : ∀ C ∈ all, CB K (cls C)
  exm : ∀ C ∈ all, ∀ Dn ∈ ds, PySem.W.exmOne K (.ref (cls C)) (.ref (cls Dn)) = some (C == Dn || Dn == "LetterError")
  kit : ∀ C ∈ all, ∀ Dn ∈ ds, PySem.W.kitOne K (.ref (cls C)) (.ref (cls Dn)) = some (C == Dn || Dn == "LetterError")
theorem xtB_ok {K : PySem.W.Frag} {cls : String → Addr} {all ds : List String} (h : xtB K cls all ds = true) : XT K cls all ds := by
  unfold xtB at h
  simp only [List.all_eq_true, Bool.and_eq_true, decide_eq_true_eq] at h
  exact ⟨fun C hC => cB_ok (h C hC).1, fun C hC Dn hD => ((h C hC).2 Dn hD).1, fun C hC Dn hD => ((h C hC).2 Dn hD).2⟩
theorem oexB_ok {K : PySem.W.Frag} {C : Addr} (h : oexB K C = true) : OexC K C := by
  unfold oexB at h
  simp only [Bool.and_eq_true, decide_eq_true_eq] at h
  obtain ⟨q, h2, h3, h4, h5⟩ := h
  refine ⟨?_, h2, h3, h4, h5⟩
  split at q
  · rename_i dd cd sl ho
    split at q
    · rename_i C' bm k0 k1 k2 k3 n k5 hm hs
      simp only [Bool.and_eq_true, beq_iff_eq, Bool.not_eq_true'] at q
      obtain ⟨⟨⟨⟨rfl, rfl⟩, hdel⟩, hdict⟩, hr⟩ := q
      obtain ⟨nm, bs, mro, ns, qn, hd, sn, sub, ab, col, del⟩ := cd
      dsimp only at hm hdel hdict
      subst hm hdel hdict
      have hsl : sl = #[k0, k1, k2, k3, some (.builtin "ValueError.__new__"), k5] := by
        obtain ⟨l⟩ := sl
        simp only at hs
        rw [hs]
      subst hsl
      exact ⟨nm, qn, ns, bs, bm, sn, sub, ab, col, dd, k0, k1, k2, k3, k5, ho, hr⟩
    · cases q
  · cases q

/-! ### the states -/
section
variable {g : Gh} {H : Hp} {σ : L2.St} {sl : List (Option T)} {tm : List T}
theorem SR.exn0 (s : SR g H σ sl tm) (a : Addr) (C : String) (hC : C ≠ "dict") : SR g H σ sl (T.exn a none C [] [] :: tm) :=
  s.tmp (by simp [Ts.ok, T.ok, hC]; exact s.okT) fun b => by simp [Ts.oc, Ts.sh, T.oc, T.sh, b2]; omega
theorem SR.exn1 {ts : List T} {d a : Addr} {C f : String} {v : Sc} (s : SR g H σ sl (ts ++ tm)) (hd : H d = none) (gv : v.good) (hC : C ≠ "dict") : SR g (upd H d (.xd [(Str.ofString f, v.v)])) σ sl (T.exn a (some d) C [f] [v] :: tm) := by
  have s := s.popL
  have fr := s.free hd
  refine s.go (s.stayS fun b q => upd_ne fun e => ?_) ?_ (fun b => ?_) (fun b => ?_) s.len s.slen s.at_ s.io
  · subst e; omega
  · simp only [Ts.ok, T.ok]
    refine ⟨⟨by simpa using gv, ?_⟩, s.stayT fun b q => upd_ne fun e => ?_⟩
    · rw [upd_same]; exact ⟨by unfold exnO; rw [if_neg hC]; rfl, fun e => absurd e hC⟩
    · subst e; omega
  · by_cases e : d = b
    · subst e
      refine .inr ⟨.inl hd, .inl ?_⟩
      simp only [Ts.oc, T.oc]; omega
    · refine .inl ?_
      simp [Ts.oc, Ts.sh, T.oc, T.sh, b2, e]
      omega
  · by_cases e : b = d
    · exact .inr (.inl (by rw [e]; exact hd))
    · exact .inl (upd_ne e)
/-- what stands while a suite holds the exception -/
abbrev Gh.sx (g : Gh) (i : Nat) (a : Addr) (d : Option Addr) (x : Ex) : Gh := { g with io := (i, .ref a) :: g.io, px := (match d with
  | none => []
  | some dd => [(dd, HO.xd (fieldsV x.ns (x.xs.map Sc.v)))]) ++ g.px }
theorem SR.unslot {i : Nat} (s : SR g H σ sl tm) (hio : ∀ p ∈ g.io, p.1 ≠ i) (v : Option V) : SR g H (σ.set i v) (sl.set i none) tm := by
  refine s.go (fun u hu => ?_) s.okT (fun a => .inl ?_) (fun _ => .inl rfl) (by simp [s.len]) (by simp [s.slen]) (fun j u hu => ?_) (fun p hp => ?_)
  · rcases mem_set hu with e | e
    · cases e
    · exact s.okS u e
  · by_cases hl : i < sl.length
    · have h1 := So_set (f := T.oc a) (x := none) (List.getElem?_eq_getElem hl)
      have h2 := So_set (f := T.sh a) (x := none) (List.getElem?_eq_getElem hl)
      simp only [fO] at h1 h2
      omega
    · rw [List.set_eq_of_length_le (by omega)]
      omega
  · rcases set_get hu with ⟨rfl, e⟩ | ⟨ne, e⟩
    · cases e
    · rw [List.getElem?_set_ne (Ne.symm ne)]
      exact s.at_ _ _ e
  · rw [List.getElem?_set_ne (Ne.symm (hio p hp))]
    exact s.io p hp
theorem SR.into {i : Nat} {a a0 : Addr} {d : Option Addr} {x : Ex} (s : SR g H σ sl (T.exn a0 d x.cls x.ns x.xs :: tm)) (hi : i < g.N) (hio : ∀ p ∈ g.io, p.1 ≠ i) (hx : x.cls ≠ "dict") : SR (g.sx i a d x) H (σ.set i (some (.ref a))) (sl.set i none) tm := by
  have s1 := s.pop.unslot hio (some (.ref a))
  have k := s.top
  refine ⟨s1.okS, s1.okT, s1.inv, s1.prov, s1.frame, s1.len, s1.slen, s1.at_, fun p hp => ?_, fun p hp => ?_, s1.tabs⟩
  · rcases List.mem_cons.mp hp with rfl | hp
    · exact List.getElem?_set_self (by rw [s.len]; exact hi)
    · exact s1.io p hp
  · rcases List.mem_append.mp hp with hp | hp
    · cases d with
      | none => exact (List.not_mem_nil hp).elim
      | some dd =>
        simp only [List.mem_singleton] at hp
        subst hp
        simp only [T.ok] at k
        refine ⟨by have := k.2.1; unfold exnO at this; rw [if_neg hx] at this; exact this, ?_, fun _ e => by cases e⟩
        show So (T.oc dd) (sl.set i none) + Ts.oc dd tm = 0
        have iv := s.inv dd
        simp only [Ts.oc, Ts.sh, T.oc, T.sh, b2, if_true] at iv
        by_cases hl : i < sl.length
        · have h1 := So_set (f := T.oc dd) (x := none) (List.getElem?_eq_getElem hl)
          simp only [fO] at h1
          omega
        · rw [List.set_eq_of_length_le (by omega)]
          omega
    · exact s1.px p hp
theorem SR.outof {i : Nat} {a : Addr} {d : Option Addr} {x : Ex} (s : SR (g.sx i a d x) H σ sl tm) : SR g H σ sl tm :=
  ⟨s.okS, s.okT, s.inv, s.prov, s.frame, s.len, s.slen, s.at_, fun p hp => s.io p (List.mem_cons_of_mem _ hp), fun p hp => s.px p (List.mem_append_right _ hp), s.tabs⟩
end

/-! ### raise -/
section
variable {X : Cx} {g : Gh} {W : WX} {pos pos2 p p2 : Pos} {x m : Str} {j : Nat}
theorem s_raise {C : String} (hc : X.calm = true) (tk : Takes X W) (q : PySem.W.excIn X.K (g.c.cls C) He.veBase "ValueError.__new__" = true) (kC : PySem.W.keepIn X.K (.ref (g.c.cls C)) = true) (hs : PySem.W.subIn X.K (.ref (g.c.cls C)) (.type "BaseException") = some true)
    (ht : PySem.W.typeIn X.K (.ref (g.c.cls C)) = some (.type "type")) (gC : X.mg x = some (.ref (g.c.cls C))) (hg : Gl X x) (hC : C ≠ "dict" := by decide) (hdb : (x == ("__debug__" : Str)) = false := by decide) :
    PS X (.Raise (some (.Call (.Name x p) [.Constant (.str m) j p2] [] pos)) none pos2) (tS g W (mRaise C)) :=
  (ps_raise hc tk (pmk_own PySem.F.excBase_ValueError q gC kC (raises_own hs ht) hg hdb)).imp fun De σ H ⟨sl, tm, s, h⟩ => h H σ sl 0 none (s.exn0 0 C hC) rfl
/-- __init__(self, why, f=0): self.f = f -/
def spInit (K : PySem.W.Frag) (C : Addr) (f : Str) : Sp := fun vs H Q _ => ∃ (a : Addr) (why v : V), vs = [.ref a, why, v] ∧ OexC K C ∧ PySem.W.findIn K (.ref C) f = some none ∧ H a = some (exo a C none) ∧
  ∀ dx, H dx = none → dx ≠ a → Q .non (upd (upd H dx (exd dx [(f, v)])) a (exo a C (some dx)))
structure XIni (P : Program) (w : World) (K : PySem.W.Frag) (mg : Str → Option Value) (base : Heap) (c : Cfg) (C f : String) (fI : Addr) (fd : FuncData) : Prop where
  T : OexC K (c.cls C)
  no : PySem.W.findIn K (.ref (c.cls C)) (Str.ofString f) = some none
  iC : PySem.W.findIn K (.ref (c.cls C)) "__init__" = some (some (.ref fI))
  tI : PySem.W.typeIn K (.ref fI) = some (.type "function")
  g : mg (Str.ofString C) = some (.ref (c.cls C))
  F : FnOk P w K mg base (L2.CX P w) 1 fI fd ["self", "why", Str.ofString f] (spInit K (c.cls C) (Str.ofString f))
  b1 : ∃ ds, Vals [V.int 0] ds ∧ Binds K fd ["self", "why", Str.ofString f] ds
  b2 : Binds K fd ["self", "why", Str.ofString f] []
theorem passF {X : Cx} : Passes (L2.CX X.prog X.w) X (fun _ _ _ => False) := passL
theorem raiseF_heap {H1 : Hp} {a d C : Addr} {f : Str} {v : V} (ha : H1 a = none) (hda : d ≠ a) :
    upd (del (upd (upd (upd H1 a (exo a C none)) d (exd d [(f, v)])) a (exo a C (some d))) a) d (.xd [(f, v)]) = upd H1 d (.xd [(f, v)]) := by
  funext b
  by_cases e : b = d
  · subst e; rw [upd_same, upd_same]
  · rw [upd_ne e, upd_ne e]
    by_cases e2 : b = a
    · subst e2; rw [del_same, ha]
    · rw [del_ne e2, upd_ne e2, upd_ne e, upd_ne e2]
theorem raiseF_imp {C f : String} {ms : List (Cm D)} {dvs : List V} {fI : Addr} (T : OexC X.K (g.c.cls C)) (hno : PySem.W.findIn X.K (.ref (g.c.cls C)) (Str.ofString f) = some none) (hC : C ≠ "dict")
    (hd : (dvs = [V.int 0] ∧ ms.length = 1) ∨ (dvs = [] ∧ ms.length = 2)) (De : Ends) (σ : L2.St) (H : Hp) (h : tS g W (mRaiseF C f ms) De σ H) :
    tMkO (g.c.cls C) (spInit X.K (g.c.cls C) (Str.ofString f)) dvs (tA g W ms) σ H fun cls d H' => W cls d σ H' := by
  obtain ⟨sl, tm, s, h⟩ := h
  unfold mRaiseF at h
  have ml : ∀ {ms : List (Cm D)} {ρ ρ' : DE} {ds : List D}, mArgs ms ρ = .ok ds ρ' → ds.length = ms.length := by
    intro ms
    induction ms with
    | nil => intro ρ ρ' ds e; simp only [mArgs, R.ok.injEq] at e; rw [← e.1]; rfl
    | cons m ms ih =>
      intro ρ ρ' ds e
      unfold mArgs at e
      cases e1 : m ρ with
      | ok d ρ1 =>
        rw [e1, R.bind_ok] at e
        cases e2 : mArgs ms ρ1 with
        | ok ds2 ρ2 =>
          rw [e2, R.bind_ok] at e
          simp only [R.ok.injEq] at e
          rw [← e.1, List.length_cons, List.length_cons, ih e2]
        | exc x ρ2 => rw [e2] at e; cases e
        | stuck => rw [e2] at e; cases e
      | exc x ρ1 => rw [e1] at e; cases e
      | stuck => rw [e1] at e; cases e
  refine ⟨sl, tm, s, ?_⟩
  cases e : mArgs ms (den sl) with
  | exc x ρ => rw [e] at h; exact h
  | stuck => rw [e] at h; exact h
  | ok ds ρ =>
    rw [e, R.bind_ok] at h
    have hl := ml e
    intro H1 sl1 ts s1 e1 e2
    subst e1 e2
    have fin : ∀ (u : Sc) (w : V), u.good → exP g W tm ⟨C, [f], [u]⟩ (den sl1) → ∀ a d, H1 a = none → H1 d = none → d ≠ a → W (.ref (g.c.cls C)) (some d) σ (upd (del (upd (upd (upd H1 a (exo a (g.c.cls C) none)) d (exd d [(Str.ofString f, u.v)])) a (exo a (g.c.cls C) (some d))) a) d (.xd [(Str.ofString f, u.v)])) := fun u w gu hx a d na nd ne => by
      rw [raiseF_heap na ne]
      exact hx _ σ sl1 a (some d) (s1.exn1 nd gu hC) rfl
    have fin2 : ∀ (why : V) (u : Sc), u.good → exP g W tm ⟨C, [f], [u]⟩ (den sl1) → ∀ a, H1 a = none → spInit X.K (g.c.cls C) (Str.ofString f) [.ref a, why, u.v] (upd H1 a (exo a (g.c.cls C) none))
        (fun v H2 => v = .non ∧ ∃ (d : Addr) (fs : List (Str × V)), H2 a = some (exo a (g.c.cls C) (some d)) ∧ H2 d = some (exd d fs) ∧ H1 d = none ∧ W (.ref (g.c.cls C)) (some d) σ (upd (del H2 a) d (.xd fs))) (fun _ _ _ => False) := fun why u gu hx a na => by
      refine ⟨a, why, u.v, rfl, T, hno, upd_same, fun dx nd ne => ⟨rfl, dx, [(Str.ofString f, u.v)], upd_same, ?_, ?_, ?_⟩⟩
      · rw [upd_ne ne, upd_same]
      · rw [upd_ne ne] at nd; exact nd
      · rw [upd_ne ne] at nd
        exact fin u why gu hx a dx na nd ne
    rw [Ts.d_len] at hl
    rcases hd with ⟨rfl, hm⟩ | ⟨rfl, hm⟩
    · obtain ⟨t, rfl⟩ : ∃ t, ts = [t] := by
        match ts, hl with
        | [t], _ => exact ⟨t, rfl⟩
        | [], hl => simp at hl; omega
        | _ :: _ :: _, hl => simp at hl; omega
      exact ⟨by simp, fun a na => fin2 t.v (.int 0) trivial h a na⟩
    · obtain ⟨t, u, rfl⟩ : ∃ t u, ts = [t, u] := by
        match ts, hl with
        | [t, u], _ => exact ⟨t, u, rfl⟩
        | [], hl => simp at hl; omega
        | [_], hl => simp at hl; omega
        | _ :: _ :: _ :: _, hl => simp at hl; omega
      clear T
      cases u with
      | sc v =>
        have gv : v.good := by
          have := s1.okx
          simp only [Ts.ok, T.ok] at this
          exact this.2.1
        exact ⟨by simp, fun a na => fin2 t.v v gv h a na⟩
      | _ => exact h.elim
theorem s_raise1 {C f : String} {fI : Addr} {fd : FuncData} {k : Nat} {m1 : Cm D} {e : Expr} (hc : X.calm = true) (tk : Takes X W) (I : XIni X.prog X.w X.K X.mg X.base g.c C f fI fd) (hr : Room k X.A) (hk : 2 ≤ k) (hx : x = Str.ofString C) (hg : Gl X x) (ha : PA X [e] (tA g W [m1])) (hC : C ≠ "dict" := by decide)
    (hdb : (x == ("__debug__" : Str)) = false := by decide) (he : starEach (e :: []) X.env = (false, eval e X.env) :: starEach [] X.env := by rfl) (hpl : (backTo pos (starEach [] X.env)).any (·.1) = false := by rfl) :
    PS X (.Raise (some (.Call (.Name x p) [e] [] pos)) none pos2) (tS g W (mRaiseF C f [m1])) := by
  obtain ⟨ds, hv, hb⟩ := I.b1
  exact (ps_raise hc tk (pmk_oex I.T I.iC I.tI I.F (hr.mono hk) hb hv passF hg (by rw [hx]; exact I.g) ha hdb he hpl)).imp (raiseF_imp (fI := fI) I.T I.no hC (.inl ⟨rfl, rfl⟩))
end

/-! ### try -/
structure XIs (g : Gh) (cls : Value) (d : Option Addr) (x : Ex) : Prop where
  is : cls = .ref (g.c.cls x.cls)
  dn : d = none → x.ns = []
  good : ∀ s ∈ x.xs, s.good
theorem _root_.L2.PSs.ex {α : Type} {X : Cx} {sts : List Stmt} {P : α → Prop} {t : α → TS} (h : ∀ x, P x → PSs X sts (t x)) : PSs X sts (fun De σ H => ∃ x, P x ∧ t x De σ H) := ⟨fun pins s σ H De I q => by
  obtain ⟨x, hx, q⟩ := q
  exact (h x hx).run pins s σ H De I q⟩
section
variable {X : Cx} {g : Gh} {W : WX} {pos pos' np : Pos} {x n : Str} {body suite : List Stmt} {b₀ : Stmt} {i : Nat} {Dn : String} {mb : Cm Out} {ms : Ex → Cm Out} {exm : String → String → Option Bool}
end
section
/-! the exception that a suite holds: its field, its class -/
variable {X : Cx} {g : Gh} {W : WX} {p p1 p2 pos : Pos} {n y : Str} {i : Nat} {a : Addr} {oe : Obj} {cls : Value} {d : Option Addr} {pn : List (Addr × Obj)} {x : Ex}
theorem e_xf {f : String} (hz : Zc cls d oe) (hf : ∃ vs, oe.data = .fields vs) (hx : XIs g cls d x) (T : XfC X.K (g.c.cls x.cls)) (hno : PySem.W.findIn X.K (.ref (g.c.cls x.cls)) n = some none) (hn : n = Str.ofString f)
    (hp : PE (X.suite a ((a, oe) :: pn)) (.Name y p) (tVar i)) (hb : attributeBase (.Name y p) n (X.suite a ((a, oe) :: pn)).env (eval (.Name y p) (X.suite a ((a, oe) :: pn)).env) = eval (.Name y p) (X.suite a ((a, oe) :: pn)).env := by rfl) :
    PE (X.suite a ((a, oe) :: pn)) (.Attribute (.Name y p) n pos) (tE (g.sx i a d x) W (mXf x f)) := by
  subst hn
  refine (pe_xf (X := X) (cls := cls) (d := d) (C := g.c.cls x.cls) T hno hz hf hp hb).imp fun σ H Q ⟨sl, tm, s, h⟩ => ?_
  unfold mXf at h
  cases ev : xfV x.ns x.xs f with
  | none => rw [ev] at h; exact h.elim
  | some v =>
    rw [ev] at h
    obtain ⟨en, es⟩ := xfV_eq ev
    cases d with
    | none =>
      have := hx.dn rfl
      rw [en] at this
      cases this
    | some dd =>
      have hpx := (s.px (dd, HO.xd (fieldsV x.ns (x.xs.map Sc.v))) (by simp [Gh.sx])).1
      refine ⟨.ref a, s.io (i, .ref a) (by simp [Gh.sx]), rfl, hx.is, dd, _, v.v, rfl, hpx, ?_, ?_⟩
      · rw [en, es]
        simp [fieldsV, List.lookup]
      · exact h H sl (.sc v) (s.push v (hx.good v (by rw [es]; simp))) rfl rfl
def rIsX (K : PySem.W.Frag) (C a : Addr) (d : Option Addr) : List V → Hp → VK → Prop := fun xs H Q => ∃ (c : V) (cv : Value) (b : Bool), xs = [.ref a, c] ∧ (∀ u, RelV c u → u = cv) ∧ PySem.W.kitOne K (.ref C) cv = some b ∧ (match d with
  | none => True
  | some dd => ∃ fs, H dd = some (.xd fs)) ∧ Q (.bl b) H
theorem call_isX {C : Addr} (T : CB X.K C) (hz : Zc (.ref C) d oe) (hf : ∃ vs, oe.data = .fields vs) : CallR (X.suite a ((a, oe) :: pn)) (.builtin "isinstance") (rIsX X.K C a d) := by
  intro pins s σ H xs us Q I r h
  obtain ⟨c, cv, b, rfl, hcv, e, hd, q⟩ := h
  cases r with
  | cons rx rr =>
    cases rr with
    | cons rt rr =>
      cases rr
      cases rx
      have ec := hcv _ rt
      subst ec
      obtain ⟨hget, _⟩ := I.pin (a, oe) (List.mem_append.mpr (.inl List.mem_cons_self))
      obtain ⟨vs, hv⟩ := hf
      have J : ∃ od, PySem.W.InstAt s.heap a oe C od := by
        cases d with
        | none => exact ⟨none, hget, hz.1, by unfold PySem.W.notCls; rw [hv] <;> rfl, by rw [hz.2]; trivial⟩
        | some dd =>
          obtain ⟨fs, hd⟩ := hd
          have hx : ObjOk X.prog X.w H s.heap dd (.xd fs) := I.hok dd _ hd
          obtain ⟨mA, hns, hr⟩ := hx
          obtain ⟨od, ho, hl⟩ := lookIn_ns hns
          exact ⟨some od, hget, hz.1, by unfold PySem.W.notCls; rw [hv] <;> rfl, by rw [hz.2]; exact ho⟩
      obtain ⟨od, J⟩ := J
      exact PySem.W.kia_one (PySem.W.kitx_exc T.cl T.xf.ga T.xf.gg T.xf.exC T.ca T.sp T.tk T.mr) I.kIn J e (fun z => nomatch z) fun tk => ⟨.bl b, H, I.kept (t' := tk) fun _ _ z => z, rfl, q⟩
theorem isx_imp {b : Bool} {c : V} {cv : Value} (hx : XIs g cls d x) (hcv : ∀ u, RelV c u → u = cv) (hk : PySem.W.kitOne X.K (.ref (g.c.cls x.cls)) cv = some b) {m : Cm D} (hm : m = mC (.bl b)) (σ : L2.St) (H : Hp) (Q : VK) (h : tE (g.sx i a d x) W m σ H Q) :
    tCons (tVar i) (tCons (tC c) tNil) σ H fun vs H1 => rIsX X.K (g.c.cls x.cls) a d vs H1 Q := by
  obtain ⟨sl, tm, s, h⟩ := h
  subst hm
  refine ⟨.ref a, s.io (i, .ref a) (by simp [Gh.sx]), c, cv, b, rfl, hcv, hk, ?_, h H sl (.sc (.bl b)) (s.push _ trivial) rfl rfl⟩
  cases d with
  | none => trivial
  | some dd => exact ⟨_, (s.px (dd, HO.xd (fieldsV x.ns (x.xs.map Sc.v))) (by simp [Gh.sx])).1⟩
end
end VS

/-! VS, part u: split, partition, index, pop, clear, isinstance of a caught exception. -/
namespace VS
open PySem PySem.Spec PyProof.Rows L2
/-! ### a text cut at a sign -/
/-! ### a method of a text with one argument whose answer is made -/
def mMN (f : D → D → Option D) (x y : Opd) : Cm D := fun ρ => (x.run ρ).bind fun t ρ => match x.get t ρ with
  | some (.sc (.str _)) => (y.run ρ).bind fun u ρ => match x.get t ρ, y.get u ρ with
    | some v, some w => lift (f v w) ρ
    | _, _ => .stuck
  | _ => .stuck
section
variable {X : Cx} {g : Gh} {W : WX} {pos p : Pos} {a b : Expr} {oa ob : Opd} {α : Type}
/-! ### partition at a sign -/
/-! ### where a sign stands -/
def idxC (c : Nat) (l : List Nat) : Nat := (l.takeWhile (· != c)).length
/-! ### t.index(x), t a tuple of the text -/
def mTidx (l : List (List Nat)) (m : Cm D) : Cm D := fun ρ => (m ρ).bind fun d ρ => match d with
  | .sc (.str z) => match l.findIdx? (· == z) with
    | some j => .ok (.int j) ρ
    | none => .stuck
  | _ => .stuck
/-! ### x.clear(), x.pop() of a list without parts -/
end
/-! ### isinstance of the exception that a suite holds -/
section
variable {X : Cx} {g : Gh} {W : WX} {p p1 p2 pos : Pos} {y xD : Str} {i : Nat} {a : Addr} {oe : Obj} {cls : Value} {d : Option Addr} {pn : List (Addr × Obj)} {x : Ex} {exm : String → String → Option Bool} {Dn : String}
theorem e_isX (hz : Zc cls d oe) (hf : ∃ vs, oe.data = .fields vs) (hx : XIs g cls d x) (T : CB X.K (g.c.cls x.cls)) (hk : ∀ b, exm x.cls Dn = some b → PySem.W.kitOne X.K (.ref (g.c.cls x.cls)) (.ref (g.c.cls Dn)) = some b)
    (hm : X.mg "isinstance" = none) (hgD : Gl X xD) (gD : X.mg xD = some (.ref (g.c.cls Dn))) (hp : PE (X.suite a ((a, oe) :: pn)) (.Name y p1) (tVar i)) (hg : Gl X "isinstance" := by rfl) (hdD : (xD == ("__debug__" : Str)) = false := by decide)
    (hs1 : starEach [.Name y p1, .Name xD p2] (X.suite a ((a, oe) :: pn)).env = (false, eval (.Name y p1) (X.suite a ((a, oe) :: pn)).env) :: starEach [.Name xD p2] (X.suite a ((a, oe) :: pn)).env := by rfl) (hs2 : starEach [.Name xD p2] (X.suite a ((a, oe) :: pn)).env = (false, eval (.Name xD p2) (X.suite a ((a, oe) :: pn)).env) :: starEach [] (X.suite a ((a, oe) :: pn)).env := by rfl) (hpl : (backTo pos (starEach [.Name xD p2] (X.suite a ((a, oe) :: pn)).env)).any (·.1) = false := by rfl) :
    PE (X.suite a ((a, oe) :: pn)) (.Call (.Name "isinstance" p) [.Name y p1, .Name xD p2] [] pos) (tE (g.sx i a d x) W (mIsX exm x Dn)) := by
  have hb : PE (X.suite a ((a, oe) :: pn)) (.Name xD p2) (tC (.ref (g.c.cls Dn))) := pe_glob (X := X.suite a ((a, oe) :: pn)) hgD gD rfl hdD
  have hz2 : Zc (.ref (g.c.cls x.cls)) d oe := by rw [← hx.is]; exact hz
  refine (pe_callB (call_isX (X := X) T hz2 hf) hg hm (by decide +kernel) (pa_cons hp (pa_cons hb pa_nil hs2) hs1) (hpl := hpl) (he := hs1)).imp fun σ H Q h => ?_
  cases e : exm x.cls Dn with
  | none =>
    obtain ⟨sl, tm, s, h⟩ := h
    unfold mIsX at h
    rw [e] at h
    exact h.elim
  | some b => exact isx_imp (c := .ref (g.c.cls Dn)) (cv := .ref (g.c.cls Dn)) hx (fun u h => h) (hk b e) (by unfold mIsX; rw [e]) σ H Q h
theorem exT_all {all ds : List String} {C Dn : String} {b : Bool} (h : exT all ds C Dn = some b) : C ∈ all ∧ Dn ∈ ds ∧ b = (C == Dn || Dn == "LetterError") := by
  unfold exT at h
  split at h
  · rename_i q
    simp only [Bool.and_eq_true, List.contains_iff_mem] at q
    cases h
    exact ⟨q.1, q.2, rfl⟩
  · cases h
theorem XT.exm' {K : PySem.W.Frag} {cl : String → Addr} {all ds : List String} {C Dn : String} {b : Bool} (T : XT K cl all ds) (h : exT all ds C Dn = some b) : PySem.W.exmOne K (.ref (cl C)) (.ref (cl Dn)) = some b := by
  obtain ⟨h1, h2, rfl⟩ := exT_all h
  exact T.exm C h1 Dn h2
theorem XT.kit' {K : PySem.W.Frag} {cl : String → Addr} {all ds : List String} {C Dn : String} {b : Bool} (T : XT K cl all ds) (h : exT all ds C Dn = some b) : PySem.W.kitOne K (.ref (cl C)) (.ref (cl Dn)) = some b := by
  obtain ⟨h1, h2, rfl⟩ := exT_all h
  exact T.kit C h1 Dn h2
end
end VS
namespace VS
open PySem PySem.Spec PyProof.Rows L2
/-! ### {} -/
end VS

/-! VS, part v: the end of a law with exceptions, with tuples of the text. -/
namespace VS
open PySem PySem.Spec PyProof.Rows L2
theorem iniB_ok {K : PySem.W.Frag} {C f : String} (h : iniB K C f = true) : OexC K (clsOf K C) ∧ PySem.W.findIn K (.ref (clsOf K C)) (Str.ofString f) = some none ∧ PySem.W.findIn K (.ref (clsOf K C)) "__init__" = some (some (.ref (He.ma K (clsOf K C) "__init__"))) ∧ PySem.W.typeIn K (.ref (He.ma K (clsOf K C) "__init__")) = some (.type "function") := by
  unfold iniB at h
  simp only [Bool.and_eq_true, decide_eq_true_eq] at h
  exact ⟨oexB_ok h.1, h.2.1, h.2.2.1, h.2.2.2⟩
theorem Sc.dv_v (K : PySem.W.Frag) (s : Sc) : (s.dv).v K = s.v := by cases s <;> rfl
theorem tupE_ok {K : PySem.W.Frag} {x : Str} {l : List Sc} (h : tupE K x l = true) : StcT K (He.ga K x) (l.map Sc.v) ∧ ∃ o, K.lookup (He.ga K x) = some o ∧ o.cls = .type "tuple" ∧ o.dict = none := by
  obtain ⟨h1, h2⟩ := Bool.and_eq_true_iff.mp h
  constructor
  · have := He.tupB_ok h1 (fun _ => none)
    rw [List.map_map] at this
    have e : (He.Dv.v K ∘ Sc.dv) = Sc.v := funext (Sc.dv_v K)
    rw [e] at this
    exact this
  · split at h2
    · rename_i c dt sl ho
      exact ⟨_, ho, by rw [of_decide_eq_true h2], rfl⟩
    · cases h2
theorem init_ok {P : Program} {w : World} {K : PySem.W.Frag} {mg : Str → Option Value} {base : Heap} {C : Addr} {F : Str} {qual : Str} {params : Arguments} {body : List Stmt} {scope : Scope} {f : Addr} {fd : FuncData}
    (D : FunD K "__init__" qual params body scope [V.int 0] [] f fd) (S : FnScope ["self", "why", F] ["self", "why", F] scope)
    (hb : ∀ (cdv : Value) (A : Around) (outer : List Env) (s : Shared) (H : Hp) (E : XK), PSs (cxOf (L2.CX P w) P w K mg base ["self", "why", F] qual scope f cdv A outer s H E) body (tOst K F (tVar 0) (tVar 2))) : FnOk P w K mg base (L2.CX P w) 1 f fd ["self", "why", F] (spInit K C F) :=
  FunD.ok (k := 0) D S (fun vs H Q E ⟨a, why, v, e, _⟩ => by rw [e]; rfl) fun cdv A outer s H vs Q E hr ⟨a, why, v, e, T, no, ha, q⟩ => ⟨_, hb cdv A outer s H E, by
    subst e
    exact ⟨v, rfl, .ref a, rfl, a, C, rfl, T, no, .inl ⟨ha, fun dx n ne => q dx n ne⟩⟩⟩
end VS

/-! VS, part w: enumerate, str(n), int(text). -/
namespace VS
open PySem PySem.Spec PyProof.Rows L2
set_option maxHeartbeats 1000000 in
theorem meets_enumT {v : Value} {o : Obj} {H : Heap → Prop} (B : Begins v o H) :
    Meets (Builtin.«enumerate.__new__» ⟨[.type "enumerate", v], []⟩) (fun _ R s => H s.heap ∧
      R (.ok (.ret (.ref (s.heap.push o).objs.size))) { s with heap := (s.heap.push o).push { cls := .type "enumerate", data := .fields #[.none, .bool false, .ref s.heap.objs.size, rawInt 0, .none, .none] } }) :=
  .of_wp fun prog w A R s h => by
    obtain ⟨hp, g, d, tk, os⟩ := s; obtain ⟨h1, h⟩ := h
    have hsub := sub_enumerate
    have q1 : ∀ {A' : Around} {E : Value → Shared → Prop} {Q : Value → Shared → Prop}, Q (.ref hp.objs.size) ⟨hp.push o, g, d, tk, os⟩ → wpAny (model prog w) A' (pyIter v) Q E ⟨hp, g, d, tk, os⟩ :=
      fun q => B.iter prog w _ _ ⟨hp, g, d, tk, os⟩ _ h1 q
    wp_walk using q1
    refine wpAny_stack_any fun st => wpAny_pure ?_
    split
    · rename_i c _ _ _ _ _
      cases (c == Value.type "enumerate")
      · wp_walk using q1
        exact ⟨_, rfl, h⟩
      · wp_walk using q1
        exact ⟨_, rfl, h⟩
    · wp_walk using q1
      exact ⟨_, rfl, h⟩
theorem call_enumT {prog : Program} {w : World} {A : Around} {E : Value → Shared → Prop} {s : Shared} {v : Value} {o : Obj} {H : Heap → Prop} {Q : Value → Shared → Prop} (B : Begins v o H) (h1 : H s.heap)
    (h : ∀ h', IsEnum h' (s.heap.objs.size + 1) s.heap.objs.size 0 .none → h'.get? s.heap.objs.size = some o → h'.objs.size = s.heap.objs.size + 2 →
      (∀ b o, s.heap.get? b = some o → h'.get? b = some o) → Q (.ref (s.heap.objs.size + 1)) { s with heap := h' }) :
    wpAny (model prog w) A (call (.type "enumerate") [v]) Q E s := by
  refine callType_new F.called_enumerate (by decide) (F.typeCall_enumerate_1 _) (F.newCall_enumerate_1 _) (fun obj => F.args_object_init_2 obj _) F.entry_enumerate_new
    (meets_enumT B) ⟨h1, ?_⟩
  have hz : (s.heap.push o).objs.size = s.heap.objs.size + 1 := Heap.size_push ..
  show _ ∧ _
  rw [hz]
  have he : IsEnum ((s.heap.push o).push { cls := .type "enumerate", data := .fields #[.none, .bool false, .ref s.heap.objs.size, rawInt 0, .none, .none] }) (s.heap.objs.size + 1) s.heap.objs.size 0 .none := by
    have := Heap.get?_push_size (s.heap.push o) (o := { cls := .type "enumerate", data := .fields #[.none, .bool false, .ref s.heap.objs.size, rawInt 0, .none, .none] }) rfl
    rw [hz] at this; exact this
  refine ⟨⟨_, he, rfl⟩, h _ he (Heap.get?_push_of_some _ (Heap.get?_push_size _ B.free)) (by rw [Heap.size_push, hz]) fun b o x => Heap.get?_push_of_some _ (Heap.get?_push_of_some _ x)⟩
/-! ### enumerate over data -/
section
variable {X : Cx} {g : Gh} {W : WX} {pos : Pos} {a b c e tg iter : Expr} {ma mb : Cm D}
def enumD (ds : List D) : List D := ds.mapIdx fun i d => D.tup [.sc (.int (i : Nat)), d]
theorem enumD_len (ds : List D) : (enumD ds).length = ds.length := by simp [enumD]
theorem enum_pair {H : Hp} {σ : L2.St} {sl : List (Option T)} {tm : List T} {t : T} {i : Int} {p : Addr} (s : SR g H σ sl tm) (s2 : SR g H σ sl (t :: tm)) (hp : H p = none) :
    ∃ u : T, SR g (upd H p (.tup [.int i, t.v])) σ sl (u :: tm) ∧ u.d = .tup [.sc (.int i), t.d] ∧ u.v = .ref p := by
  have s3 : SR g H σ sl (T.sc (.int i) :: t :: tm) := s2.push (.int i) trivial
  have ok : Ts.ok g.c H [T.sc (.int i), t] := by
    have := s3.okT
    simp only [Ts.ok] at this ⊢
    exact ⟨this.1, this.2.1, trivial⟩
  have s4 : SR g H σ sl ([T.sc (.int i), t] ++ tm) := s3
  exact ⟨_, s4.newT (ts := [T.sc (.int i), t]) hp (by simp) ok (fun a => ⟨Nat.le_refl _, id⟩), rfl, rfl⟩
theorem it_enum {K : PySem.W.Frag} (hK : K = g.c.K) {p : Addr} {o : Ow} {xs : List T} (hx : ∀ a, Ts.oc a xs = 0) : ItOk g (Ite K p) [T.lst p o xs] (enumD (Ts.d xs)) where
  stop := fun H σ sl tm s => by
    have q := lst_sq s.top
    exact ⟨_, by rw [hK]; exact q.1, by simp [enumD_len, Ts.d_len]⟩
  go := fun i d H σ sl tm s h => by
    have q := lst_sq s.top
    unfold enumD at h
    rw [List.getElem?_mapIdx, Ts.d_map, List.getElem?_map, Option.map_map, Option.map_eq_some_iff] at h
    obtain ⟨t, ht, rfl⟩ := h
    have m := List.mem_of_getElem? ht
    refine ⟨⟨_, t.v, by rw [hK]; exact q.1, by rw [List.getElem?_map, ht]; rfl⟩, fun x H' hy => ?_⟩
    obtain ⟨T', x', rfl, hT, rfl, hy⟩ := hy
    have e := hy _ (by rw [hK]; exact q.1)
    rw [List.getElem?_map, ht] at e
    obtain rfl : t.v = x' := Option.some.inj e
    have s2 : SR g H σ sl (t :: ([T.lst p o xs] ++ tm)) := s.dupK (tms := []) (Ts.ok_iff.mp q.2.2 t m) (fun a => by
      have h1 := Ts.oc_mem (a := a) m; have := hx a; omega) (fun a => by
      have h1 := Ts.sh_mem (a := a) m
      simp only [List.singleton_append, Ts.sh, T.sh]; omega)
    exact enum_pair s s2 hT
def mEnum (ma : Cm D) : Cm (List D) := fun ρ => (ma ρ).bind fun d ρ => match d.fz with
  | .lst _ ds => .ok (enumD ds) ρ
  | _ => .stuck
def mEnumT (ma : Cm D) : Cm (List D) := fun ρ => (ma ρ).bind fun d ρ => match d.fz with
  | .tup ds => .ok (enumD ds) ρ
  | _ => .stuck
theorem i_enum {elts : List Expr} {kk : Nat} {tpos p : Pos} (hK : X.K = g.c.K) (hg : Gl X "enumerate") (hm : X.mg "enumerate" = none) (ha : PA X [e] (tA g W [ma])) (hs : starEach [e] X.env = [(false, eval e X.env)] := by rfl) :
    PI X (.Tuple elts kk tpos) (.Call (.Name "enumerate" p) [e] [] pos) (tI g W (mEnum ma)) := (pi_enum hg hm ha hs).imp fun σ H R ⟨sl, tm, s, q⟩ => by
  refine tA1 s q fun H' sl' t s' h' => ?_
  rw [← T.fz_d] at h'
  have s2 := s'.fz1
  rw [← T.fz_v]
  cases e : t.fz with
  | lst p o xs =>
    rw [e] at h' s2
    refine ⟨p, _, rfl, by rw [hK]; exact (lst_sq s2.top).1, h' H' sl' [_] _ s2 rfl (it_enum hK fun a => ?_)⟩
    have := T.fz_oc a t
    rw [e] at this
    simp only [T.oc] at this
    omega
  | _ => rw [e] at h'; exact h'.elim
@[simp] theorem mEnum_ {ρ : DE} : mEnum ma ρ = (ma ρ).bind fun d ρ => match d.fz with
  | .lst _ ds => .ok (enumD ds) ρ
  | _ => .stuck := (rfl)
@[simp] theorem mEnumT_ {ρ : DE} : mEnumT ma ρ = (ma ρ).bind fun d ρ => match d.fz with
  | .tup ds => .ok (enumD ds) ρ
  | _ => .stuck := (rfl)

/-! ### str(n), int(text) -/
def numL (i : Int) : List Nat := (Str.ofString (toString i)).cps.toList
def strD : D → Option Sc
  | .sc (.int i) => if i.natAbs < 1000000000000000000 then some (.str (numL i)) else none
  | _ => none
theorem log_small {n : Nat} (h : n < 1000000000000000000) : n.log2 < 1920 := by
  by_cases q : n = 0
  · subst q; decide
  · have h1 : n.log2 < 60 := (Nat.log2_lt q).2 (Nat.lt_of_lt_of_le h (by decide))
    omega
theorem numL_good {i : Int} (h : i.natAbs < 1000000000000000000) : (Sc.str (numL i)).good := by
  have h1 := PySem.int_text_fits (log_small h)
  have h2 := PySem.W.KSb.asc_num i
  have h3 : (numL i).length = (Str.ofString (toString i)).length := Array.length_toList
  rw [SZ_eq] at h1
  exact ⟨by rw [h3]; exact h1, fun c hc => Nat.lt_trans (h2 c hc) (by decide)⟩
theorem call_strA : CallR X (.type "str") (fun xs H Q => ∃ i, xs = [.int i] ∧ i.natAbs.log2 < 1920 ∧ Q (.str (toString i)) H) := call_str_int
theorem hr_strA : HR1 g strD (fun xs H Q => ∃ i, xs = [.int i] ∧ i.natAbs.log2 < 1920 ∧ Q (.str (toString i)) H) := fun H u c Q k h q => by
  cases u with
  | sc s =>
    cases s with
    | int i =>
      simp only [T.d, strD] at h
      split at h
      · rename_i hi
        cases h
        refine ⟨i, rfl, log_small hi, ?_⟩
        have := q (numL_good hi)
        have e : (Sc.str (numL i)).v = V.str (toString i : String) := by
          show V.str ⟨(numL i).toArray⟩ = V.str (Str.ofString (toString i))
          unfold numL
          simp
        rwa [e] at this
      · cases h
    | _ => simp [T.d, strD] at h
  | _ => simp [T.d, strD] at h
def isDg (l : List Nat) : Bool := (!l.isEmpty) && (l.all fun c => decide (48 ≤ c) && decide (c ≤ 57)) && decide (l.length ≤ 640)
def intBD : D → Option Sc
  | .sc (.int i) => some (.int i)
  | .sc (.bl b) => some (.int (if b then 1 else 0))
  | .sc (.str l) => if isDg l then some (.int (NumText.digitsVal l : Nat)) else none
  | _ => none
theorem call_intC : CallR X (.type "int") (fun xs H Q => ((∃ i, xs = [.int i] ∧ Q (.int i) H) ∨ ∃ k, xs = [.bl k] ∧ Q (.int (if k then 1 else 0)) H) ∨ ∃ a n, xs = [.str a] ∧ PySem.intText? a = some n ∧ a.length ≤ 640 ∧ Q (.int n) H) := by
  intro pins s σ H xs us Q I r h
  rcases h with h | h
  · exact call_int1 pins s σ H xs us Q I r h
  · exact call_int_str pins s σ H xs us Q I r h
theorem hr_intC : HR1 g intBD (fun xs H Q => ((∃ i, xs = [.int i] ∧ Q (.int i) H) ∨ ∃ k, xs = [.bl k] ∧ Q (.int (if k then 1 else 0)) H) ∨ ∃ a n, xs = [.str a] ∧ PySem.intText? a = some n ∧ a.length ≤ 640 ∧ Q (.int n) H) := fun H u c Q k h q => by
  cases u with
  | sc s =>
    cases s with
    | int i => simp only [T.d, intBD] at h; cases h; exact .inl (.inl ⟨_, rfl, q trivial⟩)
    | bl b => simp only [T.d, intBD] at h; cases h; exact .inl (.inr ⟨_, rfl, q trivial⟩)
    | str l =>
      simp only [T.d, intBD] at h
      split at h
      · rename_i hd
        cases h
        simp only [isDg, Bool.and_eq_true, List.all_eq_true, decide_eq_true_eq, Bool.not_eq_true', List.isEmpty_eq_false_iff] at hd
        have e : PySem.intText? ⟨l.toArray⟩ = some ((NumText.digitsVal l : Nat) : Int) := by
          have := intText_digits (x := ⟨l.toArray⟩) (by simpa [NumText.AllDigits] using hd.1.2) (by simpa using hd.1.1) (by have := hd.2; simp [Str.length]; omega)
          simpa using this
        exact .inr ⟨_, _, rfl, e, by simpa [Str.length] using hd.2, q trivial⟩
      · cases h
    | _ => simp [T.d, intBD] at h
  | _ => simp [T.d, intBD] at h
/-! ### rows -/
@[simp] theorem intBD_int (i : Int) : intBD (.int i) = some (.int i) := (rfl)
@[simp] theorem intBD_bl (b : Bool) : intBD (.bl b) = some (.int (if b then 1 else 0)) := (rfl)
theorem strD_int (i : Int) (h : i.natAbs < 1000000000000000000) : strD (.int i) = some (.str (numL i)) := by
  show (if i.natAbs < 1000000000000000000 then some (Sc.str (numL i)) else none) = _
  rw [if_pos h]
theorem numL_nat (n : Nat) : numL (n : Int) = (Nat.toDigits 10 n).map Char.toNat := PySem.W.KIN.signs_num n

/-! ### a slice of a tuple, never the whole -/
def wholeT (n : Nat) (lo hi : Option Int) : Bool := decide (HT.sIx n 0 lo = 0) && decide (HT.sIx n n hi = n)
def sliceT (lo hi : Option Int) : D → Option D
  | .tup xs => if Ds.pur xs && !(wholeT xs.length lo hi) then some (.tup (cutL xs lo hi)) else none
  | _ => none
def mSlcT (oa : Opd) (lo hi : Option (Cm D)) : Cm D := fun ρ => (oa.run ρ).bind fun t ρ => (mPart lo ρ).bind fun l ρ => (mPart hi ρ).bind fun u ρ => match oa.get t ρ with
  | some x => lift (sliceT l u x) ρ
  | none => .stuck
@[simp] theorem mSlcT_ {oa : Opd} {lo hi : Option (Cm D)} {ρ : DE} : mSlcT oa lo hi ρ = (oa.run ρ).bind fun t ρ => (mPart lo ρ).bind fun l ρ => (mPart hi ρ).bind fun u ρ => match oa.get t ρ with
  | some x => lift (sliceT l u x) ρ
  | none => .stuck := (rfl)
end
end VS

/-! VS, part x: more rows for simp; constants that are good. -/
namespace VS
open PySem PySem.Spec PyProof.Rows L2
def Sc.goodB : Sc → Bool
  | .str l => decide (l.length ≤ 16777216) && l.all fun c => decide (c < 1114112)
  | _ => true
theorem goodB_ok (ls : List Sc) (h : ls.all Sc.goodB = true) : ∀ s ∈ ls, s.good := fun s hs => by
  have q := List.all_eq_true.1 h s hs
  cases s with
  | str l =>
    simp only [Sc.goodB, Bool.and_eq_true, decide_eq_true_eq, List.all_eq_true] at q
    exact q
  | _ => trivial
@[simp] theorem mM_ev (f : D → D → Option Sc) (a : Cm D) (i : Nat) (ρ : DE) : mM f (.e a) (.v i) ρ = (a ρ).bind fun d ρ => match d with
  | .sc (.str _) => match ρ[i]? with
    | some (some w) => (lift (f d w) ρ).bind fun s ρ => .ok (.sc s) ρ
    | _ => .stuck
  | _ => .stuck := by
  unfold mM
  cases e : a ρ with
  | ok x ρ =>
    simp only [orun_e, e, R.bind_ok, oget_e]
    cases x with
    | sc s =>
      cases s <;> try rfl
      simp only [orun_v, oget_v]
      cases e2 : ρ[i]? with
      | none => rfl
      | some o => cases o <;> simp [e2]
    | _ => rfl
  | exc _ _ => simp only [orun_e, e]; rfl
  | stuck => simp only [orun_e, e]; rfl
@[simp] theorem mM_ve (f : D → D → Option Sc) (b : Cm D) (i : Nat) (ρ : DE) : mM f (.v i) (.e b) ρ = match (ρ[i]?).join with
  | some (.sc (.str l)) => (b ρ).bind fun w ρ => match (ρ[i]?).join with
    | some d => (lift (f d w) ρ).bind fun s ρ => .ok (.sc s) ρ
    | none => .stuck
  | _ => .stuck := by
  unfold mM
  simp only [orun_v, oget_v]
  cases e : ρ[i]? with
  | none => rfl
  | some o =>
    cases o with
    | none => rfl
    | some d =>
      simp only [R.bind_ok, e, Option.join_some]
      cases d with
      | sc s =>
        cases s <;> try rfl
        cases e2 : b ρ with
        | ok w ρ2 => simp [e2]; cases (ρ2[i]?).join <;> rfl
        | exc _ _ => simp [e2]
        | stuck => simp [e2]
      | _ => rfl
@[simp] theorem mMN_ (f : D → D → Option D) (x y : Opd) (ρ : DE) : mMN f x y ρ = (x.run ρ).bind fun t ρ => match x.get t ρ with
  | some (.sc (.str _)) => (y.run ρ).bind fun u ρ => match x.get t ρ, y.get u ρ with
    | some v, some w => lift (f v w) ρ
    | _, _ => .stuck
  | _ => .stuck := rfl
@[simp] theorem mTidx_ (l : List (List Nat)) (m : Cm D) (ρ : DE) : mTidx l m ρ = (m ρ).bind fun d ρ => match d with
  | .sc (.str z) => match l.findIdx? (· == z) with
    | some j => .ok (.int j) ρ
    | none => .stuck
  | _ => .stuck := rfl
end VS

/-! VS, part y: tuples put together. -/
namespace VS
open PySem PySem.Spec PyProof.Rows L2
def catD : D → D → Option D
  | .tup xs, .tup ys => if xs.length + ys.length ≤ 16777216 then some (.tup (xs ++ ys)) else none
  | _, _ => none
@[simp] theorem catD_ (xs ys : List D) : catD (.tup xs) (.tup ys) = if xs.length + ys.length ≤ 16777216 then some (.tup (xs ++ ys)) else none := (rfl)
section
variable {X : Cx} {g : Gh} {W : WX} {pos : Pos} {a b : Expr} {ma mb : Cm D}
theorem SR.under {H : Hp} {σ : L2.St} {sl : List (Option T)} {tm : List T} {t u : T} (s : SR g H σ sl (t :: u :: tm)) : SR g H σ sl (t :: tm) :=
  s.tmp (by have := s.okT; simp only [Ts.ok] at this ⊢; exact ⟨this.1, this.2.2⟩) fun b => by simp only [Ts.oc, Ts.sh]; omega
end
end VS

/-! VS, part z: xs.index(x) of a list in a slot. -/
namespace VS
open PySem PySem.Spec PyProof.Rows L2
section
variable {X : Cx} {g : Gh} {W : WX} {pos p : Pos} {a b : Expr} {ma mb : Cm D}
def mLidx (i : Nat) (ma : Cm D) : Cm D := fun ρ => match ρ[i]? with
  | some (some (.lst _ _)) => (ma ρ).bind fun d ρ => match (ρ[i]?).join, d with
    | some (.lst _ xs), .sc z => match scs xs with
      | some l => match l.findIdx? (fun y => y.eqB z) with
        | some j => .ok (.int j) ρ
        | none => .stuck
      | none => .stuck
    | _, _ => .stuck
  | _ => .stuck
@[simp] theorem mLidx_ (i : Nat) (ma : Cm D) (ρ : DE) : mLidx i ma ρ = match ρ[i]? with
  | some (some (.lst _ _)) => (ma ρ).bind fun d ρ => match (ρ[i]?).join, d with
    | some (.lst _ xs), .sc z => match scs xs with
      | some l => match l.findIdx? (fun y => y.eqB z) with
        | some j => .ok (.int j) ρ
        | none => .stuck
      | none => .stuck
    | _, _ => .stuck
  | _ => .stuck := rfl
/-! ### xs[::-1], tuple(xs) -/
def revD : D → Option D
  | .lst _ xs => if Ds.pur xs then some (.lst .own xs.reverse) else none
  | _ => none
@[simp] theorem revD_lst (o : Ow) (xs : List D) : revD (.lst o xs) = if xs.all D.pur then some (.lst .own xs.reverse) else none := by simp [revD, Ds.pur_all]
theorem SR.copyT {H : Hp} {σ : L2.St} {sl : List (Option T)} {tm : List T} {t1 : Option T} {n : Addr} {xs : List T} (s : SR g H σ sl (xs? t1 tm)) (kx : Ts.ok g.c H xs) (hp : Ds.pur (Ts.d xs) = true)
    (hw : ∀ a, Ts.sh a xs ≤ So (T.sh a) sl + Ts.sh a (xs? t1 tm)) (hz : xs.length ≤ 16777216) (hn : H n = none) : SR g (upd H n (.tup (xs.map T.v))) σ sl (.tup n false xs :: tm) := by
  have hO : ∀ a, Ts.oc a xs = 0 := fun a => Nat.eq_zero_of_not_pos fun hpos => by
    obtain ⟨t, m, ht⟩ := Ts.pos_oc hpos
    have := T.pur_oc a t (Ds.pur_mem hp m)
    omega
  have hnew : SR g H σ sl (xs ++ tm) := by
    refine s.tmp ?_ fun a => ?_
    · rw [Ts.ok_iff]
      intro t m
      rcases List.mem_append.mp m with m | m
      · exact Ts.ok_iff.mp kx t m
      · exact Ts.ok_iff.mp s.xs.okT t m
    · have z1 := hO a
      have z3 := hw a
      rw [Ts.oc_append, Ts.sh_append]
      cases t1 with
      | none => simp only [xs?] at z3 ⊢; omega
      | some w => simp only [xs?, Ts.oc, Ts.sh] at z3 ⊢; omega
  exact hnew.newT hn hz kx fun z => by omega
def tupD : D → Option D
  | .lst _ xs => if Ds.pur xs then some (.tup xs) else none
  | _ => none
@[simp] theorem tupD_lst (o : Ow) (xs : List D) : tupD (.lst o xs) = if xs.all D.pur then some (.tup xs) else none := by simp [tupD, Ds.pur_all]
theorem e_tuple {oa : Opd} (hK : X.K = g.c.K) (hg : Gl X "tuple") (hm : X.mg "tuple" = none) (ha : PE X a (tO g W oa)) (he : starEach (a :: []) X.env = (false, eval a X.env) :: starEach [] X.env := by rfl) : PE X (.Call (.Name "tuple" p) [a] [] pos) (tE g W (mNew tupD oa)) :=
  (pe_callTy call_tuple_of hg hm (by decide +kernel) (pa_cons ha pa_nil he) (he := he)).imp fun σ H Q ⟨sl, tm, s, h⟩ => by
    refine tO.of s h fun H1 sl1 t1 v1 s1 d1 h1 => ?_
    have hm1 : ∀ u, t1 = some u → u ∈ xs? t1 tm := fun u e => by subst e; simp [xs?]
    split at h1
    · rename_i x ex
      obtain ⟨w, kw, ew, fw, hw⟩ := d1.tree s1 hm1 ex
      subst fw ew
      cases w with
      | lst p o xs =>
        simp only [T.d, tupD] at h1
        split at h1
        · rename_i hp
          have q := lst_sq kw
          refine ⟨p, _, rfl, .inl ⟨by rw [hK]; exact q.1, fun n hn => ?_⟩⟩
          exact h1 _ _ _ (s1.copyT q.2.2 hp (fun a => by have := hw a; simp only [T.sh] at this; omega) q.2.1 hn) rfl rfl
        · exact h1.elim
      | sc y => cases y <;> exact h1.elim
      | _ => exact h1.elim
    · exact h1.elim
/-! ### xs + ys of lists whoever holds them -/
def catLD : D → D → Option D
  | .lst _ xs, .lst _ ys => if xs.length + ys.length ≤ 16777216 then some (.lst .own (xs ++ ys)) else none
  | _, _ => none
@[simp] theorem catLD_ (o p : Ow) (xs ys : List D) : catLD (.lst o xs) (.lst p ys) = if xs.length + ys.length ≤ 16777216 then some (.lst .own (xs ++ ys)) else none := (rfl)
end
end VS

/-! VS, part A: a list within a slot's list is changed. -/
namespace VS
open PySem PySem.Spec PyProof.Rows L2
theorem Ts.oc_setE (a : Addr) (x : T) : ∀ (ts : List T) (n : Nat) (y : T), ts[n]? = some y → Ts.oc a (ts.set n x) + y.oc a = Ts.oc a ts + x.oc a
  | [], n, y, h => by simp at h
  | u :: ts, 0, y, h => by simp at h; subst h; simp [Ts.oc]; omega
  | u :: ts, n + 1, y, h => by have := Ts.oc_setE a x ts n y (by simpa using h); simp [Ts.oc]; omega
theorem Ts.sh_setE (a : Addr) (x : T) : ∀ (ts : List T) (n : Nat) (y : T), ts[n]? = some y → Ts.sh a (ts.set n x) + y.sh a = Ts.sh a ts + x.sh a
  | [], n, y, h => by simp at h
  | u :: ts, 0, y, h => by simp at h; subst h; simp [Ts.sh]; omega
  | u :: ts, n + 1, y, h => by have := Ts.sh_setE a x ts n y (by simpa using h); simp [Ts.sh]; omega
section
variable {g : Gh}
variable {X : Cx} {W : WX} {pos p : Pos} {a b : Expr} {ma mb : Cm D}
/-- x[m].append(y): y a name (v), or a constant (c) -/
inductive Sm where
  | v (j : Nat)
  | c (s : Sc)
def Sm.get (x : Sm) (i : Nat) (ρ : DE) : Option (D × DE) := match x with
  | .c s => some (.sc s, ρ)
  | .v j => match ρ[j]? with
    | some (some d) => if j = i then none else some (d.fz, ρ.set j (some d.fz))
    | _ => none
def mAppN (i : Nat) (mb : Cm D) (x : Sm) : Cm D := fun ρ => match ρ[i]? with
  | some (some (.lst .own _)) => (mb ρ).bind fun kx ρ => match ρ[i]?, kx with
    | some (some (.lst .own xs)), .sc (.int k) => match ixN xs.length k with
      | some n => match xs[n]?, x.get i ρ with
        | some (.lst .own zs), some (d, ρ) => if zs.length < 16777216 then .ok .non (ρ.set i (some (.lst .own (xs.set n (.lst .own (zs ++ [d])))))) else .stuck
        | _, _ => .stuck
      | none => .stuck
    | _, _ => .stuck
  | _ => .stuck
@[simp] theorem mAppN_ (i : Nat) (mb : Cm D) (x : Sm) (ρ : DE) : mAppN i mb x ρ = match ρ[i]? with
  | some (some (.lst .own _)) => (mb ρ).bind fun kx ρ => match ρ[i]?, kx with
    | some (some (.lst .own xs)), .sc (.int k) => match ixN xs.length k with
      | some n => match xs[n]?, x.get i ρ with
        | some (.lst .own zs), some (d, ρ) => if zs.length < 16777216 then .ok .non (ρ.set i (some (.lst .own (xs.set n (.lst .own (zs ++ [d])))))) else .stuck
        | _, _ => .stuck
      | none => .stuck
    | _, _ => .stuck
  | _ => .stuck := rfl
@[simp] theorem Smget_c (s : Sc) (i : Nat) (ρ : DE) : (Sm.c s).get i ρ = some (.sc s, ρ) := rfl
@[simp] theorem Smget_v (j i : Nat) (ρ : DE) : (Sm.v j).get i ρ = match ρ[j]? with
    | some (some d) => if j = i then none else some (d.fz, ρ.set j (some d.fz))
    | _ => none := rfl
/-- x[m][k2] = e, k2 a number -/
def mSetIN (i : Nat) (mb : Cm D) (k2 : Int) : D → Cm Unit := fun d ρ => match ρ[i]? with
  | some (some (.lst .own _)) => (mb ρ).bind fun kx ρ => match ρ[i]?, kx with
    | some (some (.lst .own xs)), .sc (.int k) => match ixN xs.length k with
      | some n => match xs[n]? with
        | some (.lst .own zs) => match ixN zs.length k2 with
          | some n2 => .ok () (ρ.set i (some (.lst .own (xs.set n (.lst .own (zs.set n2 d))))))
          | none => .stuck
        | _ => .stuck
      | none => .stuck
    | _, _ => .stuck
  | _ => .stuck
@[simp] theorem mSetIN_ (i : Nat) (mb : Cm D) (k2 : Int) (d : D) (ρ : DE) : mSetIN i mb k2 d ρ = match ρ[i]? with
  | some (some (.lst .own _)) => (mb ρ).bind fun kx ρ => match ρ[i]?, kx with
    | some (some (.lst .own xs)), .sc (.int k) => match ixN xs.length k with
      | some n => match xs[n]? with
        | some (.lst .own zs) => match ixN zs.length k2 with
          | some n2 => .ok () (ρ.set i (some (.lst .own (xs.set n (.lst .own (zs.set n2 d))))))
          | none => .stuck
        | _ => .stuck
      | none => .stuck
    | _, _ => .stuck
  | _ => .stuck := rfl
end
/-! ### startswith, endswith -/
def startswithM : D → D → Option Sc
  | .sc (.str a), .sc (.str b) => some (.bl (a.take b.length == b))
  | _, _ => none
def endswithM : D → D → Option Sc
  | .sc (.str a), .sc (.str b) => some (.bl (a.drop (a.length - b.length) == b))
  | _, _ => none
@[simp] theorem startswithM_ (a b : List Nat) : startswithM (.str a) (.str b) = some (.bl (a.take b.length == b)) := rfl
@[simp] theorem endswithM_ (a b : List Nat) : endswithM (.str a) (.str b) = some (.bl (a.drop (a.length - b.length) == b)) := rfl
end VS

/-! VS, part B: x[m][k] looked at where it stands; pairs that are lists. -/
namespace VS
open PySem PySem.Spec PyProof.Rows L2
section
variable {X : Cx} {g : Gh} {W : WX} {pos p : Pos} {a b : Expr} {ma mb : Cm D}
/-- x[m][k], a scalar, looked at where it stands -/
def mPeek (i : Nat) (mb : Cm D) (k2 : Int) : Cm D := fun ρ => match ρ[i]? with
  | some (some (.lst .own _)) => (mb ρ).bind fun kx ρ => match ρ[i]?, kx with
    | some (some (.lst .own xs)), .sc (.int k) => match ixN xs.length k with
      | some n => match xs[n]? with
        | some (.lst .own zs) => match atI zs k2 with
          | some (.sc s) => .ok (.sc s) ρ
          | _ => .stuck
        | _ => .stuck
      | none => .stuck
    | _, _ => .stuck
  | _ => .stuck
@[simp] theorem mPeek_ (i : Nat) (mb : Cm D) (k2 : Int) (ρ : DE) : mPeek i mb k2 ρ = match ρ[i]? with
  | some (some (.lst .own _)) => (mb ρ).bind fun kx ρ => match ρ[i]?, kx with
    | some (some (.lst .own xs)), .sc (.int k) => match ixN xs.length k with
      | some n => match xs[n]? with
        | some (.lst .own zs) => match atI zs k2 with
          | some (.sc s) => .ok (.sc s) ρ
          | _ => .stuck
        | _ => .stuck
      | none => .stuck
    | _, _ => .stuck
  | _ => .stuck := rfl
/-- x, y = a list of two -/
def mUnpL (fs : List (D → Cm Unit)) : D → Cm Unit
  | .lst _ ds => putAll fs ds
  | _ => fun _ => .stuck
@[simp] theorem mUnpL_ (fs : List (D → Cm Unit)) (o : Ow) (ds : List D) (ρ : DE) : mUnpL fs (.lst o ds) ρ = putAll fs ds ρ := (rfl)
end
end VS

/-! VS, part C: try with several clauses, the first one 'as e': the others are never asked. -/
namespace VS
open PySem PySem.Spec PyProof.Rows L2
section
variable {X : Cx} {x n : Str} {c : Value} {i : Nat} {body suite : List Stmt} {s0 : Stmt} {np pos p2 : Pos} {others : List ExceptHandler} {tb : WX → TS} {ts : Addr → Value → Option Addr → TS}
end
section
variable {X : Cx} {g : Gh} {W : WX} {pos pos' np : Pos} {x n : Str} {body suite : List Stmt} {b₀ : Stmt} {others : List ExceptHandler} {i : Nat} {Dn : String} {mb : Cm Out} {ms : Ex → Cm Out} {exm : String → String → Option Bool}
end
end VS

namespace VS
open PySem PySem.Spec PySem.Builtin.Str PyProof L2
/-! ### find of one sign, rstrip of signs -/
def findM : D → D → Option Sc
  | .sc (.str a), .sc (.str [c]) => some (.int (if c ∈ a then ((idxC c a : Nat) : Int) else -1))
  | _, _ => none
@[simp] theorem findM_ (a : List Nat) (c : Nat) : findM (.str a) (.str [c]) = some (.int (if c ∈ a then ((idxC c a : Nat) : Int) else -1)) := rfl
def rstripM : D → D → Option Sc
  | .sc (.str a), .sc (.str b) => some (.str (rdrop b.contains a))
  | _, _ => none
@[simp] theorem rstripM_ (a b : List Nat) : rstripM (.str a) (.str b) = some (.str (rdrop b.contains a)) := rfl
/-! ### zip of two lists -/
section
variable {X : Cx} {g : Gh} {W : WX} {pos : Pos} {a b c e tg iter : Expr} {ma mb : Cm D}
def zipD (ds es : List D) : List D := List.zipWith (fun x y => D.tup [x, y]) ds es
def mZip (ma mb : Cm D) : Cm (List D) := fun ρ => (ma ρ).bind fun d ρ => (mb ρ).bind fun e ρ => match d.fz, e.fz with
  | .lst _ ds, .lst _ es => .ok (zipD ds es) ρ
  | _, _ => .stuck
@[simp] theorem mZip_ {ρ : DE} : mZip ma mb ρ = (ma ρ).bind fun d ρ => (mb ρ).bind fun e ρ => match d.fz, e.fz with
  | .lst _ ds, .lst _ es => .ok (zipD ds es) ρ
  | _, _ => .stuck := rfl
/-! ### a list, or another -/
def mOrL (ma mb : Cm D) : Cm D := fun ρ => (ma ρ).bind fun d ρ => match d with
  | .lst o xs => if xs.isEmpty then mb ρ else .ok (.lst o xs) ρ
  | _ => .stuck
@[simp] theorem mOrL_ {ρ : DE} : mOrL ma mb ρ = (ma ρ).bind fun d ρ => match d with
  | .lst o xs => if xs.isEmpty then mb ρ else .ok (.lst o xs) ρ
  | _ => .stuck := rfl
end
end VS

/-! VS, part E: objects of the text's own classes: fields read and written, methods called. -/
namespace VS
open PySem PySem.Spec PyProof.Rows L2
theorem ofString_inj {a b : String} (h : Str.ofString a = Str.ofString b) : a = b := by
  rw [Str.ofString_eq_toList, Str.ofString_eq_toList] at h
  have h1 : a.toList.map Char.toNat = b.toList.map Char.toNat := by
    have := congrArg (fun s : Str => s.cps.toList) h
    simpa using this
  have h2 : a.toList = b.toList := (List.map_inj_right fun x y e => Char.toNat_inj.1 e).1 h1
  exact String.toList_inj.1 h2
/-- the place of a field -/
def fIx (f : String) : List String → Option Nat
  | [] => none
  | n :: ns => if n = f then some 0 else (fIx f ns).map (· + 1)
theorem fIx_lookup {f : String} {v : V} : ∀ {ns : List String} {vs : List V} {j : Nat}, fIx f ns = some j → vs[j]? = some v → (fieldsV ns vs).lookup (Str.ofString f) = some v
  | [], vs, j, h, _ => by cases h
  | n :: ns, [], j, h, hv => by simp at hv
  | n :: ns, u :: vs, j, h, hv => by
    unfold fIx at h
    have e : fieldsV (n :: ns) (u :: vs) = (Str.ofString n, u) :: fieldsV ns vs := rfl
    rw [e, List.lookup_cons]
    by_cases q : n = f
    · subst q
      rw [if_pos rfl] at h
      cases h
      simp at hv
      simp [hv]
    · rw [if_neg q] at h
      obtain ⟨k, hk, rfl⟩ := Option.map_eq_some_iff.1 h
      have : (Str.ofString f == Str.ofString n) = false := by
        rw [beq_eq_false_iff_ne]
        exact fun e => q (ofString_inj e).symm
      rw [this]
      exact fIx_lookup hk (by simpa using hv)
theorem fIx_put {f : String} {y : V} : ∀ {ns : List String} {vs : List V} {j : Nat}, fIx f ns = some j → ns.length = vs.length → putF (Str.ofString f) y (fieldsV ns vs) = fieldsV ns (vs.set j y)
  | [], vs, j, h, _ => by cases h
  | n :: ns, [], j, h, hl => by simp at hl
  | n :: ns, u :: vs, j, h, hl => by
    unfold fIx at h
    have e : fieldsV (n :: ns) (u :: vs) = (Str.ofString n, u) :: fieldsV ns vs := rfl
    rw [e]
    unfold putF
    by_cases q : n = f
    · subst q
      rw [if_pos rfl] at h
      cases h
      rw [if_pos rfl]
      rfl
    · rw [if_neg q] at h
      obtain ⟨k, hk, rfl⟩ := Option.map_eq_some_iff.1 h
      rw [if_neg fun e => q (ofString_inj e), fIx_put hk (by simpa using hl)]
      rfl
theorem fIx_new {f : String} {y : V} : ∀ {ns : List String} {vs : List V}, fIx f ns = none → ns.length = vs.length → putF (Str.ofString f) y (fieldsV ns vs) = fieldsV (ns ++ [f]) (vs ++ [y])
  | [], vs, h, hl => by
    cases vs with
    | nil => rfl
    | cons u vs => simp at hl
  | n :: ns, [], h, hl => by simp at hl
  | n :: ns, u :: vs, h, hl => by
    unfold fIx at h
    have e : fieldsV (n :: ns) (u :: vs) = (Str.ofString n, u) :: fieldsV ns vs := rfl
    rw [e]
    unfold putF
    by_cases q : n = f
    · rw [if_pos q] at h; cases h
    · rw [if_neg q, Option.map_eq_none_iff] at h
      rw [if_neg fun e => q (ofString_inj e), fIx_new h (by simpa using hl)]
      rfl
section
variable {g : Gh}
/-- an address that a slot's tree owns is written: the tree is another -/
theorem SR.writeS {H : Hp} {σ : L2.St} {sl : List (Option T)} {tm es : List T} {i : Nat} {t t' : T} {p : Addr} {o : HO} (s : SR g H σ sl (es ++ tm)) (h : sl[i]? = some (some t)) (hp : 0 < t.oc p) (hv : t'.v = t.v) (hk : t'.ok g.c (upd H p o))
    (ho : ∀ a, t'.oc a ≤ t.oc a + Ts.oc a es) (hs : ∀ a, 0 < t'.sh a → 0 < t.sh a + Ts.sh a es) : SR g (upd H p o) σ (sl.set i (some t')) tm := by
  have hmem := s.slot h
  have g1 := So_get (f := T.oc p) hmem
  have g1s := So_get (f := T.sh p) hmem
  have iv := s.inv p
  rw [Ts.oc_append, Ts.sh_append] at iv
  have c1 : ∀ a, So (T.oc a) (sl.set i (some t')) + t.oc a = So (T.oc a) sl + t'.oc a := fun a => by
    have := So_set (f := T.oc a) (x := some t') h
    simpa [fO] using this
  have c2 : ∀ a, So (T.sh a) (sl.set i (some t')) + t.sh a = So (T.sh a) sl + t'.sh a := fun a => by
    have := So_set (f := T.sh a) (x := some t') h
    simpa [fO] using this
  refine s.go (fun u m => ?_) ?_ (fun a => .inl ?_) (fun a => ?_) s.len (by simp [s.slen]) (fun j u hj => ?_) s.io
  · obtain ⟨j, hj⟩ := mem_get m
    rcases set_get hj with ⟨rfl, e'⟩ | ⟨ne, e'⟩
    · cases e'; exact hk
    · have e := List.mem_of_getElem? e'
      refine T.stay u (s.okS u e) fun a q => upd_ne fun ea => ?_
      subst ea
      have d0 := So_set (f := T.oc a) (x := none) h
      have d1 := So_get (f := T.oc a) (sl := sl.set i none) (t := u) (List.mem_of_getElem? (i := j) (by rw [List.getElem?_set_ne (Ne.symm ne)]; exact e'))
      have d2 := So_get (f := T.sh a) e
      simp only [fO] at d0
      omega
  · have kt := s.okT
    rw [Ts.ok_iff] at kt ⊢
    intro u m
    refine T.stay u (kt u (List.mem_append_right _ m)) fun a q => upd_ne fun ea => ?_
    subst ea
    have h1 := Ts.oc_mem (a := a) m; have h2 := Ts.sh_mem (a := a) m
    omega
  · have d1 := c1 a
    have d2 := c2 a
    have h1 := ho a
    have h2 := hs a
    have g2 := So_get (f := T.sh a) hmem
    have g3 := So_get (f := T.oc a) hmem
    rw [Ts.oc_append, Ts.sh_append]
    refine ⟨by omega, fun q => .inl ?_⟩
    omega
  · by_cases e : a = p
    · subst e
      refine .inr (.inr ?_)
      rw [Ts.oc_append]
      omega
    · exact .inl (upd_ne e)
  · rcases set_get hj with ⟨rfl, e⟩ | ⟨_, e⟩
    · cases e; rw [hv]; exact s.at_ _ _ h
    · exact s.at_ _ _ e
end

/-! ### what of the text a class must have -/
structure ClF (K : PySem.W.Frag) (C : Addr) : Prop where
  cl : Cls K C
section
variable {X : Cx} {g : Gh} {W : WX} {pos p apos : Pos} {a b e : Expr} {es : List Expr} {ma mb : Cm D} {as : List Ag} {y x : Str}
/-- an object in a slot -/
theorem obj_at {H : Hp} {σ : L2.St} {sl : List (Option T)} {tm : List T} {i : Nat} {o : Ow} {C : String} {ns : List String} {xs : List D} (s : SR g H σ sl tm) (h : (den sl)[i]? = some (some (.obj o C ns xs))) :
    ∃ q dx ts, sl[i]? = some (some (T.obj q dx o C ns ts)) ∧ Ts.d ts = xs ∧ H q = some (.ins (g.c.cls C) dx (fieldsV ns (ts.map T.v))) ∧ H dx = some (.own q) ∧ dx ≠ q ∧ ns.length = ts.length ∧ Ts.ok g.c H ts ∧ σ[i]? = some (some (.ref q)) := by
  obtain ⟨t, e1, e2, e4, e3⟩ := s.val h
  cases t with
  | obj q dx o' C' ns' ts =>
    simp only [T.d, D.obj.injEq] at e2
    obtain ⟨rfl, rfl, rfl, rfl⟩ := e2
    refine ⟨q, dx, ts, e1, rfl, ?_⟩
    cases o' <;> simp only [T.ok] at e4 <;> first | exact ⟨e4.1, e4.2.1, e4.2.2.1, e4.2.2.2.1, e4.2.2.2.2, e3⟩ | exact e4.elim
  | _ => simp [T.d] at e2
/-- self.f read; what is no scalar is held by two from now on -/
def mFld (i : Nat) (C f : String) : Cm D := fun ρ => match ρ[i]? with
  | some (some (.obj o C' ns xs)) => if C' = C then (match fIx f ns with
    | some j => match xs[j]? with
      | some d => if d.pur then .ok d ρ else .ok d.fz (ρ.set i (some (.obj o C ns (xs.set j d.fz))))
      | none => .stuck
    | none => .stuck) else .stuck
  | _ => .stuck
theorem Ts.d_at {ts : List T} {j : Nat} {d : D} (h : (Ts.d ts)[j]? = some d) : ∃ t, ts[j]? = some t ∧ t.d = d := by
  rw [Ts.d_map, List.getElem?_map, Option.map_eq_some_iff] at h
  exact h
/-- the object goes, a field of it stays: return x.f -/
def mFldM (i : Nat) (C f : String) : Cm D := fun ρ => match ρ[i]? with
  | some (some (.obj _ C' ns xs)) => if C' = C then (match fIx f ns with
    | some j => match xs[j]? with
      | some d => .ok d (ρ.set i none)
      | none => .stuck
    | none => .stuck) else .stuck
  | _ => .stuck
/-- a built-in of a field that is only looked at: len(self.f) -/
def mP1F (f : D → Option Sc) (i : Nat) (C nm : String) : Cm D := fun ρ => match ρ[i]? with
  | some (some (.obj _ C' ns xs)) => if C' = C then (match fIx nm ns with
    | some j => match xs[j]? with
      | some d => (lift (f d) ρ).bind fun s ρ => .ok (.sc s) ρ
      | none => .stuck
    | none => .stuck) else .stuck
  | _ => .stuck
end
end VS


namespace VS
open PySem PySem.Spec PyProof.Rows L2
section
variable {X : Cx} {g : Gh} {W : WX} {pos p apos : Pos} {a b e o : Expr} {es : List Expr} {ma mb : Cm D} {as : List Ag} {y x : Str}
/-- a field is written -/
theorem SR.writeF {H : Hp} {σ : L2.St} {sl : List (Option T)} {tm es : List T} {i : Nat} {q dx : Addr} {C : String} {ns ns' : List String} {ts zs : List T} (s : SR g H σ sl (es ++ tm)) (h : sl[i]? = some (some (T.obj q dx .own C ns ts)))
    (hl : ns'.length = zs.length) (hk : Ts.ok g.c H zs) (ho : ∀ a, Ts.oc a zs ≤ Ts.oc a ts + Ts.oc a es) (hs : ∀ a, 0 < Ts.sh a zs → 0 < Ts.sh a ts + Ts.sh a es) :
    SR g (upd H q (.ins (g.c.cls C) dx (fieldsV ns' (zs.map T.v)))) σ (sl.set i (some (T.obj q dx .own C ns' zs))) tm := by
  have k := s.okS _ (s.slot h)
  simp only [T.ok] at k
  have b1 : b2 (True ∧ True) = 1 := by simp [b2]
  have g1 := So_get (f := T.oc q) (s.slot h)
  have g2 := So_get (f := T.sh q) (s.slot h)
  have iv := s.inv q
  rw [Ts.oc_append, Ts.sh_append] at iv
  simp only [T.oc, T.sh] at g1 g2
  rw [b1] at g1
  have h1 := ho q
  have h2 := hs q
  have k0 : Ts.oc q zs = 0 ∧ Ts.sh q zs = 0 := by omega
  refine s.writeS h (by simp only [T.oc]; rw [b1]; omega) (by simp [T.v]) ?_ (fun a => ?_) fun a => ?_
  · simp only [T.ok]
    refine ⟨upd_same, by rw [upd_ne k.2.2.1]; exact k.2.1, k.2.2.1, hl, Ts.stay zs hk fun a c => upd_ne fun e => by subst e; omega⟩
  · have := ho a
    simp only [T.oc]
    omega
  · have := hs a
    simp only [T.sh]
    omega
/-- self.f = e -/
def mSetF (i : Nat) (C f : String) (m : Cm D) : Cm Out := fun ρ => (m ρ).bind fun d ρ => match ρ[i]? with
  | some (some (.obj .own C' ns xs)) => if C' = C ∧ ns.length < 1000 then (match fIx f ns with
    | some j => .ok .nx (ρ.set i (some (.obj .own C ns (xs.set j d))))
    | none => .ok .nx (ρ.set i (some (.obj .own C (ns ++ [f]) (xs ++ [d]))))) else .stuck
  | _ => .stuck
theorem fieldsV_len (ns : List String) (vs : List V) : (fieldsV ns vs).length ≤ ns.length := by
  unfold fieldsV
  simp
  omega
theorem s_setF {i : Nat} {C f : String} {pos' : Pos} (cl : Cls X.K (g.c.cls C)) (na : NoAttr X.K (g.c.cls C) (Str.ofString f)) (hp : PS X (.Assign [.Attribute o (Str.ofString f) pos'] e pos) (sFld X.K (tVar i) (tE g W ma) (Str.ofString f))) : PS X (.Assign [.Attribute o (Str.ofString f) pos'] e pos) (tS g W (mSetF i C f ma)) :=
  hp.imp fun De σ H ⟨sl, tm, s, h⟩ => by
    unfold mSetF at h
    refine tE.of s h fun H1 sl1 t s1 h1 => ?_
    split at h1
    · rename_i C' ns xs e0
      split at h1
      · rename_i hC
        obtain ⟨rfl, hn⟩ := hC
        obtain ⟨q, dx, ts, g1, rfl, g3, g4, g5, g6, g7, g8⟩ := obj_at s1 e0
        have kt := s1.top
        refine ⟨.ref q, g8, q, _, dx, _, rfl, g3, cl, na, Nat.lt_of_le_of_lt (fieldsV_len _ _) hn, ?_⟩
        have s1' : SR g H1 σ sl1 ([t] ++ tm) := s1
        split at h1
        · rename_i j hj
          have w := s1'.writeF (ns' := ns) (zs := ts.set j t) g1 (by simpa using g6) (by
              rw [Ts.ok_iff] at g7 ⊢
              intro u m
              rcases List.mem_or_eq_of_mem_set m with m | m
              · exact g7 u m
              · subst m; exact kt) (fun a => by have := Ts.oc_set a t ts j; simp only [Ts.oc]; omega) (fun a => by have := Ts.sh_set a t ts j; simp only [Ts.sh]; omega)
          rw [fIx_put hj (by simpa using g6)]
          rw [List.map_set] at w
          exact h1 _ _ _ w (by rw [den_set]; simp [T.d, Ts.d_set])
        · rename_i hj
          have w := s1'.writeF (ns' := ns ++ [f]) (zs := ts ++ [t]) g1 (by simpa using g6) (by
              rw [Ts.ok_iff] at g7 ⊢
              intro u m
              rcases List.mem_append.1 m with m | m
              · exact g7 u m
              · have e := List.mem_singleton.mp m; subst e; exact kt) (fun a => by simp [Ts.oc_append, Ts.oc]) (fun a => by simp [Ts.sh_append, Ts.sh])
          rw [fIx_new hj (by simpa using g6)]
          rw [List.map_append] at w
          exact h1 _ _ _ w (by rw [den_set]; simp [T.d, Ts.d_append, Ts.d])
      · exact h1.elim
    · exact h1.elim
/-- self.f += e, self.f -= e of numbers -/
def mAugF (i : Nat) (C f : String) (op : Int → Int → Int) (m : Cm D) : Cm Out := fun ρ => match ρ[i]? with
  | some (some (.obj _ C' ns xs)) => if C' = C then (match fIx f ns with
    | some j => match xs[j]? with
      | some (.sc (.int u)) => (m ρ).bind fun d ρ => match d, ρ[i]? with
        | .sc (.int v), some (some (.obj .own C2 ns2 xs2)) => if C2 = C ∧ ns2.length < 1000 then (match fIx f ns2 with
          | some j2 => .ok .nx (ρ.set i (some (.obj .own C ns2 (xs2.set j2 (.int (op u v))))))
          | none => .stuck) else .stuck
        | _, _ => .stuck
      | _ => .stuck
    | none => .stuck) else .stuck
  | _ => .stuck
end
end VS

namespace VS
open PySem PySem.Spec PyProof.Rows L2
section
variable {X : Cx} {g : Gh} {W : WX} {pos p apos : Pos} {a b e o : Expr} {es : List Expr} {ma mb : Cm D} {as : List Ag} {y x : Str}
/-- self.f.append(e), self.f.extend(e); e does not look at the object -/
def mAppF (i : Nat) (C f : String) (ma : Cm D) : Cm D := fun ρ => match ρ[i]? with
  | some (some (.obj .own C' ns xs)) => if C' = C then (match fIx f ns with
    | some j => match xs[j]? with
      | some (.lst .own ys) => (ma (ρ.set i none)).bind fun d ρ => match ρ[i]? with
        | some none => if ys.length < 16777216 then .ok .non (ρ.set i (some (.obj .own C ns (xs.set j (.lst .own (ys ++ [d])))))) else .stuck
        | _ => .stuck
      | _ => .stuck
    | none => .stuck) else .stuck
  | _ => .stuck
def mExtF (i : Nat) (C f : String) (ma : Cm D) : Cm D := fun ρ => match ρ[i]? with
  | some (some (.obj .own C' ns xs)) => if C' = C then (match fIx f ns with
    | some j => match xs[j]? with
      | some (.lst .own ys) => (ma (ρ.set i none)).bind fun d ρ => match ρ[i]?, d with
        | some none, .lst o zs => if (o = .own ∨ o = .shr) ∧ ys.length + zs.length ≤ 16777216 then .ok .non (ρ.set i (some (.obj .own C ns (xs.set j (.lst .own (ys ++ zs)))))) else .stuck
        | _, _ => .stuck
      | _ => .stuck
    | none => .stuck) else .stuck
  | _ => .stuck
/-- the field's list, the object hidden -/
theorem swap_top {H : Hp} {σ : L2.St} {sl : List (Option T)} {tm : List T} {t u : T} (s : SR g H σ sl (t :: u :: tm)) : SR g H σ sl (u :: t :: tm) := s.tmp (by
  have := s.okT
  simp only [Ts.ok] at this ⊢
  exact ⟨this.2.1, this.1, this.2.2⟩) fun a => by simp only [Ts.oc, Ts.sh]; omega
theorem none_at {sl : List (Option T)} {i : Nat} (h : (den sl)[i]? = some none) : sl[i]? = some none := by
  unfold den at h
  rw [List.getElem?_map] at h
  cases q : sl[i]? with
  | none => rw [q] at h; cases h
  | some o =>
    cases o with
    | none => rfl
    | some t => rw [q] at h; simp at h
/-! ### methods -/
variable {k : Nat} {f C : Addr} {fd : FuncData} {ps : List Str} {sp : Sp} {E : L2.St → XK} {m : Str} {ta : TE} {t : TA} {CX : CXT}
end
end VS

namespace VS
open PySem PySem.Spec PyProof.Rows L2
section
variable {X : Cx} {g : Gh} {W : WX} {pos p apos : Pos} {a b e o : Expr} {es : List Expr} {ma mb : Cm D} {as : List Ag} {y x : Str}
/-- o.m(..) of an object in a slot, which is handed in to be changed -/
def mMeth (i : Nat) (C m : String) (M : List D → RF) (as : List Ag) : Cm D := fun ρ => match ρ[i]? with
  | some (some (.obj _ C' ns _)) => if C' = C ∧ fIx m ns = none then mCall M (.s i :: as) ρ else .stuck
  | _ => .stuck
/-- C(): a new object -/
def mNewO (C : String) (M : List D → RF) : Cm D := fun ρ => match M [.obj .own C [] []] with
  | .ok (.sc .non) [d] => .ok d ρ
  | _ => .stuck
theorem SR.newO {H : Hp} {σ : L2.St} {sl : List (Option T)} {tm : List T} {q dx : Addr} {C : String} (s : SR g H σ sl tm) (hq : H q = none) (hd : H dx = none) (hn : dx ≠ q) :
    SR g (upd (upd H dx (.own q)) q (.ins (g.c.cls C) dx [])) σ sl (T.obj q dx .own C [] [] :: tm) := by
  have f1 := s.free hq
  have f2 := s.free hd
  have kept : ∀ a, 0 < So (T.oc a) sl + So (T.sh a) sl + Ts.oc a tm + Ts.sh a tm → (upd (upd H dx (.own q)) q (.ins (g.c.cls C) dx [])) a = H a := fun a h => by
    by_cases e : a = q
    · subst e; omega
    · by_cases e2 : a = dx
      · subst e2; omega
      · rw [upd_ne e, upd_ne e2]
  refine s.go (s.stayS fun a h => kept a (by omega)) ?_ (fun a => ?_) (fun a => ?_) s.len s.slen s.at_ s.io
  · simp only [Ts.ok, T.ok]
    refine ⟨⟨upd_same, by rw [upd_ne hn, upd_same], hn, rfl, trivial⟩, ?_⟩
    exact s.stayT fun a h => kept a (by omega)
  · simp only [Ts.oc, Ts.sh, T.oc, T.sh]
    by_cases e : q = a
    · subst e
      refine .inr ⟨.inl hq, .inr ?_⟩
      simp [b2, hn]
      omega
    · by_cases e2 : dx = a
      · subst e2
        refine .inr ⟨.inl hd, .inr ?_⟩
        simp [b2, e]
        omega
      · simp [b2, e, e2]
        refine .inl (by omega)
  · by_cases e : a = q
    · subst e; exact .inr (.inl hq)
    · by_cases e2 : a = dx
      · subst e2; exact .inr (.inl hd)
      · exact .inl (by rw [upd_ne e, upd_ne e2])
end
end VS

namespace VS
open PySem PySem.Spec PyProof.Rows L2
section
variable {X : Cx} {g : Gh} {W : WX} {pos p apos : Pos} {a b e o : Expr} {es : List Expr} {ma mb : Cm D} {as : List Ag} {y x : Str}
/-- self.f[e]; e does not look at the object, what stands there is no made thing -/
def mIdxF (i : Nat) (C nm : String) (mb : Cm D) : Cm D := fun ρ => match ρ[i]? with
  | some (some (.obj o C' ns xs)) => if C' = C then (match fIx nm ns with
    | some j => match xs[j]? with
      | some d => (mb (ρ.set i none)).bind fun k ρ => match ρ[i]?, k with
        | some none, .sc (.int k) => match idxD d k with
          | some z => if z.pur then .ok z (ρ.set i (some (.obj o C ns xs))) else .stuck
          | none => .stuck
        | _, _ => .stuck
      | none => .stuck
    | none => .stuck) else .stuck
  | _ => .stuck
theorem e_idxF {i : Nat} {C nm : String} (cl : Cls X.K (g.c.cls C)) (na : NoAttr X.K (g.c.cls C) (Str.ofString nm)) (hK : X.K = g.c.K) (hp : PE X a (tFld X.K (tVar i) (Str.ofString nm))) (hb : PE X b (tE g W mb)) (hs : PlainIx b := by exact fun _ _ => rfl) : PE X (.Subscript a b pos) (tE g W (mIdxF i C nm mb)) :=
  (pe_ix (hK ▸ ix_seq) hp hb hs).imp fun σ H Q ⟨sl, tm, s, h⟩ => by
    unfold mIdxF at h
    split at h
    · rename_i o C' ns xs e0
      split at h
      · rename_i hC
        subst hC
        split at h
        · rename_i j hj
          split at h
          · rename_i d hd
            obtain ⟨q, dx, ts, g1, rfl, g3, g4, g5, g6, g7, g8⟩ := obj_at s e0
            obtain ⟨t, ht, rfl⟩ := Ts.d_at hd
            have lk : (fieldsV ns (ts.map T.v)).lookup (Str.ofString nm) = some t.v := fIx_lookup hj (by rw [List.getElem?_map, ht]; rfl)
            refine ⟨.ref q, g8, q, _, dx, _, t.v, rfl, g3, cl, na, lk, ?_⟩
            have s1 := s.move g1
            have e2 : den (sl.set i none) = (den sl).set i none := den_set sl i none
            rw [← e2] at h
            refine tE.of s1 (Lands.drop h) fun H1 sl1 u s2 h1 => ?_
            split at h1
            · rename_i k en ek
              split at h1
              · rename_i z hz
                split at h1
                · rename_i hpu
                  cases u with
                  | sc w =>
                    simp only [T.d, D.int, D.sc.injEq] at ek
                    subst ek
                    have s3 := (swap_top s2).back (i := i) (by simpa [T.v] using g8) (none_at en)
                    have nl : i < sl1.length := (List.getElem?_eq_some_iff.1 (none_at en)).1
                    have gi : (sl1.set i (some (T.obj q dx o C' ns ts)))[i]? = some (some (T.obj q dx o C' ns ts)) := List.getElem?_set_self nl
                    have k3 := s3.okS _ (s3.slot gi)
                    have kt : t.ok g.c H1 := by
                      cases o <;> simp only [T.ok] at k3 <;> first | exact Ts.ok_iff.mp k3.2.2.2.2 t (List.mem_of_getElem? ht) | exact k3.elim
                    obtain ⟨x, rfl, kx, hc, _, _, qq⟩ := idx_tree kt hz
                    have s4 : SR g H1 σ (sl1.set i (some (T.obj q dx o C' ns ts))) (x :: tm) := s3.pop.dup gi kx (fun a => T.pur_oc a x hpu) fun a => by
                      have := (hc a).2
                      have := Ts.sh_mem (a := a) (List.mem_of_getElem? ht)
                      simp only [T.sh]
                      omega
                    exact qq Q (h1 H1 _ x s4 (by rw [den_set]; simp [T.d]) rfl)
                  | _ => simp [T.d] at ek
                · exact h1.elim
              · exact h1.elim
            · exact h1.elim
          · exact h.elim
        · exact h.elim
      · exact h.elim
    · exact h.elim
end
/-! ### what the head of the text is asked of a class -/
/-- a method: where it stands -/
structure AtM (K : PySem.W.Frag) (c : Cfg) (C m : String) (nm qual : Str) (st : Stmt) (ps : List Str) (f : Addr) (fd : FuncData) : Prop where
  F : FunD K nm qual (defArgs st) (defBody st) (defScope st) [] [] f fd
  m : Meth K (c.cls C) (Str.ofString m) f
  b : Binds K fd ps []
theorem clsB_ok {K : PySem.W.Frag} {C : String} {fs ms : List String} (h : clsB K C fs ms = true) : Cls K (clsOf K C) ∧ (∀ f ∈ fs, NoAttr K (clsOf K C) (Str.ofString f)) ∧ (∀ m ∈ ms, Meth K (clsOf K C) (Str.ofString m) (He.ma K (clsOf K C) (Str.ofString m))) ∧
    ("__init__" ∈ ms → Mk K (clsOf K C) (He.ma K (clsOf K C) (Str.ofString "__init__"))) := by
  unfold clsB at h
  simp only [Bool.and_eq_true, decide_eq_true_eq, List.all_eq_true] at h
  obtain ⟨h1, h2, h3, h4, h5, h6, h7, h8⟩ := h
  exact ⟨⟨h1, h2, h3, h4⟩, h7, fun m hm => ⟨(h8 m hm).1, (h8 m hm).2.1, (h8 m hm).2.2⟩, fun hm => ⟨h5, (h8 _ hm).1, (h8 _ hm).2.1, h6⟩⟩
/-! ### the words, as rows for simp -/
section
variable {ρ : DE} {i : Nat} {C f : String}
@[simp] theorem mFld_ : mFld i C f ρ = match ρ[i]? with
  | some (some (.obj o C' ns xs)) => if C' = C then (match fIx f ns with
    | some j => match xs[j]? with
      | some d => if d.pur then .ok d ρ else .ok d.fz (ρ.set i (some (.obj o C ns (xs.set j d.fz))))
      | none => .stuck
    | none => .stuck) else .stuck
  | _ => .stuck := rfl
@[simp] theorem mFldM_ : mFldM i C f ρ = match ρ[i]? with
  | some (some (.obj _ C' ns xs)) => if C' = C then (match fIx f ns with
    | some j => match xs[j]? with
      | some d => .ok d (ρ.set i none)
      | none => .stuck
    | none => .stuck) else .stuck
  | _ => .stuck := rfl
@[simp] theorem mP1F_ (F : D → Option Sc) : mP1F F i C f ρ = match ρ[i]? with
  | some (some (.obj _ C' ns xs)) => if C' = C then (match fIx f ns with
    | some j => match xs[j]? with
      | some d => (lift (F d) ρ).bind fun s ρ => .ok (.sc s) ρ
      | none => .stuck
    | none => .stuck) else .stuck
  | _ => .stuck := rfl
@[simp] theorem mIdxF_ (mb : Cm D) : mIdxF i C f mb ρ = match ρ[i]? with
  | some (some (.obj o C' ns xs)) => if C' = C then (match fIx f ns with
    | some j => match xs[j]? with
      | some d => (mb (ρ.set i none)).bind fun k ρ => match ρ[i]?, k with
        | some none, .sc (.int k) => match idxD d k with
          | some z => if z.pur then .ok z (ρ.set i (some (.obj o C ns xs))) else .stuck
          | none => .stuck
        | _, _ => .stuck
      | none => .stuck
    | none => .stuck) else .stuck
  | _ => .stuck := rfl
@[simp] theorem mSetF_ (m : Cm D) : mSetF i C f m ρ = (m ρ).bind fun d ρ => match ρ[i]? with
  | some (some (.obj .own C' ns xs)) => if C' = C ∧ ns.length < 1000 then (match fIx f ns with
    | some j => .ok .nx (ρ.set i (some (.obj .own C ns (xs.set j d))))
    | none => .ok .nx (ρ.set i (some (.obj .own C (ns ++ [f]) (xs ++ [d]))))) else .stuck
  | _ => .stuck := rfl
@[simp] theorem mAugF_ (op : Int → Int → Int) (m : Cm D) : mAugF i C f op m ρ = match ρ[i]? with
  | some (some (.obj _ C' ns xs)) => if C' = C then (match fIx f ns with
    | some j => match xs[j]? with
      | some (.sc (.int u)) => (m ρ).bind fun d ρ => match d, ρ[i]? with
        | .sc (.int v), some (some (.obj .own C2 ns2 xs2)) => if C2 = C ∧ ns2.length < 1000 then (match fIx f ns2 with
          | some j2 => .ok .nx (ρ.set i (some (.obj .own C ns2 (xs2.set j2 (.int (op u v))))))
          | none => .stuck) else .stuck
        | _, _ => .stuck
      | _ => .stuck
    | none => .stuck) else .stuck
  | _ => .stuck := rfl
@[simp] theorem mAppF_ (ma : Cm D) : mAppF i C f ma ρ = match ρ[i]? with
  | some (some (.obj .own C' ns xs)) => if C' = C then (match fIx f ns with
    | some j => match xs[j]? with
      | some (.lst .own ys) => (ma (ρ.set i none)).bind fun d ρ => match ρ[i]? with
        | some none => if ys.length < 16777216 then .ok .non (ρ.set i (some (.obj .own C ns (xs.set j (.lst .own (ys ++ [d])))))) else .stuck
        | _ => .stuck
      | _ => .stuck
    | none => .stuck) else .stuck
  | _ => .stuck := rfl
@[simp] theorem mExtF_ (ma : Cm D) : mExtF i C f ma ρ = match ρ[i]? with
  | some (some (.obj .own C' ns xs)) => if C' = C then (match fIx f ns with
    | some j => match xs[j]? with
      | some (.lst .own ys) => (ma (ρ.set i none)).bind fun d ρ => match ρ[i]?, d with
        | some none, .lst o zs => if (o = .own ∨ o = .shr) ∧ ys.length + zs.length ≤ 16777216 then .ok .non (ρ.set i (some (.obj .own C ns (xs.set j (.lst .own (ys ++ zs)))))) else .stuck
        | _, _ => .stuck
      | _ => .stuck
    | none => .stuck) else .stuck
  | _ => .stuck := rfl
@[simp] theorem mMeth_ {m : String} (M : List D → RF) (as : List Ag) : mMeth i C m M as ρ = match ρ[i]? with
  | some (some (.obj _ C' ns _)) => if C' = C ∧ fIx m ns = none then mCall M (.s i :: as) ρ else .stuck
  | _ => .stuck := rfl
@[simp] theorem mNewO_ (M : List D → RF) : mNewO C M ρ = match M [.obj .own C [] []] with
  | .ok (.sc .non) [d] => .ok d ρ
  | _ => .stuck := rfl
@[simp] theorem fIx_cons {n : String} {ns : List String} : fIx f (n :: ns) = if n = f then some 0 else (fIx f ns).map (· + 1) := rfl
@[simp] theorem fIx_nil : fIx f [] = none := rfl
end
end VS
namespace VS
open PySem PySem.Spec PyProof.Rows L2
/-! ### enumerate over a text -/
section
variable {X : Cx} {g : Gh} {W : WX} {pos : Pos} {a b c e tg iter : Expr} {ma mb : Cm D}
def mEnumS (ma : Cm D) : Cm (List D) := fun ρ => (ma ρ).bind fun d ρ => match d with
  | .sc (.str l) => .ok (enumD (l.map fun c => D.str [c])) ρ
  | _ => .stuck
@[simp] theorem mEnumS_ {ρ : DE} : mEnumS ma ρ = (ma ρ).bind fun d ρ => match d with
  | .sc (.str l) => .ok (enumD (l.map fun c => D.str [c])) ρ
  | _ => .stuck := rfl
end
end VS
namespace VS
open PySem PySem.Spec PyProof.Rows L2
/-! ### max, min of a list -/
section
variable {g : Gh}
end
end VS
namespace VS
open PySem PySem.Spec PyProof.Rows L2
/-! ### a list within a tuple is changed -/
section
variable {X : Cx} {g : Gh} {W : WX} {pos p : Pos} {a b : Expr} {mb : Cm D}
/-- x[m].append(c), x a tuple, c a constant -/
def mAppT (i : Nat) (mb : Cm D) (x : Sc) : Cm D := fun ρ => match ρ[i]? with
  | some (some (.tup _)) => (mb ρ).bind fun kx ρ => match ρ[i]?, kx with
    | some (some (.tup xs)), .sc (.int k) => match ixN xs.length k with
      | some n => match xs[n]? with
        | some (.lst .own zs) => if zs.length < 16777216 then .ok .non (ρ.set i (some (.tup (xs.set n (.lst .own (zs ++ [.sc x])))))) else .stuck
        | _ => .stuck
      | none => .stuck
    | _, _ => .stuck
  | _ => .stuck
@[simp] theorem mAppT_ (i : Nat) (mb : Cm D) (x : Sc) (ρ : DE) : mAppT i mb x ρ = match ρ[i]? with
  | some (some (.tup _)) => (mb ρ).bind fun kx ρ => match ρ[i]?, kx with
    | some (some (.tup xs)), .sc (.int k) => match ixN xs.length k with
      | some n => match xs[n]? with
        | some (.lst .own zs) => if zs.length < 16777216 then .ok .non (ρ.set i (some (.tup (xs.set n (.lst .own (zs ++ [.sc x])))))) else .stuck
        | _ => .stuck
      | none => .stuck
    | _, _ => .stuck
  | _ => .stuck := rfl
end
/-! ### text[::-1] -/
section
variable {X : Cx} {g : Gh} {W : WX} {pos : Pos} {a : Expr}
def revSD : D → Option Sc
  | .sc (.str l) => some (.str l.reverse)
  | _ => none
@[simp] theorem revSD_ (l : List Nat) : revSD (.str l) = some (.str l.reverse) := rfl
end
/-! ### text.lower(), text.upper() -/
def loC (c : Nat) : Nat := if 65 ≤ c ∧ c ≤ 90 then c + 32 else c
def upC (c : Nat) : Nat := if 97 ≤ c ∧ c ≤ 122 then c - 32 else c
theorem lo_tab : ∀ c : Nat, c < 128 → Unicode.lowerOf c = [loC c] := by decide +kernel
theorem flat_single (g : Nat → Nat) (a : Array Nat) : (a.map fun c => #[g c]).flatten = a.map g := by
  apply Array.ext'
  rw [Array.toList_flatten]
  simp only [Array.toList_map, List.map_map]
  induction a.toList with
  | nil => rfl
  | cons x l ih => simp at ih ⊢; exact ih
theorem lower_ascii (l : List Nat) (h : ∀ c ∈ l, c < 128) : Txt.lower ⟨l.toArray⟩ = ⟨(l.map loC).toArray⟩ := by
  unfold Txt.lower placed
  have e : ((l.toArray.mapIdx fun i c => (Unicode.lowerAt l.toArray i).toArray)) = l.toArray.map fun c => #[loC c] := by
    apply Array.ext
    · simp
    · intro i h1 h2
      have hi : i < l.length := by simpa using h1
      have hc := h l[i] (List.getElem_mem _)
      have e1 : l.toArray[i]? = some l[i] := by simp [hi]
      simp only [Array.getElem_mapIdx, Array.getElem_map, List.getElem_toArray]
      unfold Unicode.lowerAt
      rw [e1]
      have ne : (l[i] == 0x3A3) = false := by simp; omega
      simp only [ne, Bool.false_and, Bool.false_eq_true, if_false, lo_tab _ hc]
  rw [e, flat_single]
  simp
section
variable {g : Gh}
def lowerM : D → Option Sc
  | .sc (.str l) => if l.all (fun c => decide (c < 128)) = true ∧ l.length ≤ 5592405 then some (.str (l.map loC)) else none
  | _ => none
@[simp] theorem lowerM_ (l : List Nat) : lowerM (.str l) = if l.all (fun c => decide (c < 128)) = true ∧ l.length ≤ 5592405 then some (.str (l.map loC)) else none := rfl
def upperM : D → Option Sc
  | .sc (.str l) => if l.all (fun c => decide (c < 128)) = true ∧ l.length ≤ 5592405 then some (.str (l.map upC)) else none
  | _ => none
@[simp] theorem upperM_ (l : List Nat) : upperM (.str l) = if l.all (fun c => decide (c < 128)) = true ∧ l.length ≤ 5592405 then some (.str (l.map upC)) else none := rfl
theorem lo_lt (c : Nat) (h : c < 128) : loC c < 1114112 := by unfold loC; split <;> omega
theorem hs_lower : HM0 g lowerM (fun x xs H Q => ∃ a, x = .str a ∧ xs = [] ∧ a.length ≤ 5592405 ∧ Q (.str (Txt.lower a)) H) := fun H u d Q k h q => by
  cases u with
  | sc x =>
    cases x with
    | str l =>
      simp only [T.d, lowerM_] at h
      split at h
      · rename_i hl
        cases h
        have hc : ∀ c ∈ l, c < 128 := fun c hc => by simpa using List.all_eq_true.1 hl.1 c hc
        refine ⟨⟨_, rfl⟩, ⟨l.toArray⟩, rfl, rfl, by simpa [Str.length] using hl.2, ?_⟩
        rw [lower_ascii l hc]
        refine q ⟨by simp; omega, fun c hc2 => ?_⟩
        obtain ⟨c', hc', rfl⟩ := List.mem_map.1 hc2
        exact lo_lt _ (hc _ hc')
      · cases h
    | _ => cases h
  | _ => cases h
end
/-! ### a call without arguments; self.f.append((c, self.f1, self.f2)) -/
section
variable {X : Cx} {g : Gh} {W : WX} {pos p apos : Pos} {a e : Expr}
/-- self.f.append((c, self.f1, self.f2)) -/
def mAppFT (i : Nat) (C f : String) (c : Sc) (f1 f2 : String) : Cm D := fun ρ => match ρ[i]? with
  | some (some (.obj .own C' ns xs)) => if C' = C then (match fIx f ns, fIx f1 ns, fIx f2 ns with
    | some j, some k1, some k2 => if k1 ≠ j ∧ k2 ≠ j then (match xs[j]?, xs[k1]? with
      | some (.lst .own ys), some d1 => match (xs.set k1 d1.fz)[k2]? with
        | some d2 => if ys.length < 16777216 then .ok .non (ρ.set i (some (.obj .own C ns (((xs.set k1 d1.fz).set k2 d2.fz).set j (.lst .own (ys ++ [.tup [.sc c, d1.fz, d2.fz]])))))) else .stuck
        | none => .stuck
      | _, _ => .stuck) else .stuck
    | _, _, _ => .stuck) else .stuck
  | _ => .stuck
@[simp] theorem mAppFT_ (i : Nat) (C f : String) (c : Sc) (f1 f2 : String) (ρ : DE) : mAppFT i C f c f1 f2 ρ = match ρ[i]? with
  | some (some (.obj .own C' ns xs)) => if C' = C then (match fIx f ns, fIx f1 ns, fIx f2 ns with
    | some j, some k1, some k2 => if k1 ≠ j ∧ k2 ≠ j then (match xs[j]?, xs[k1]? with
      | some (.lst .own ys), some d1 => match (xs.set k1 d1.fz)[k2]? with
        | some d2 => if ys.length < 16777216 then .ok .non (ρ.set i (some (.obj .own C ns (((xs.set k1 d1.fz).set k2 d2.fz).set j (.lst .own (ys ++ [.tup [.sc c, d1.fz, d2.fz]])))))) else .stuck
        | none => .stuck
      | _, _ => .stuck) else .stuck
    | _, _, _ => .stuck) else .stuck
  | _ => .stuck := rfl
end
end VS

/-! VS, part F: isinstance of a caught exception and a tuple of own classes. -/
namespace VS
open PySem PySem.Spec PyProof.Rows L2
/-- what nobody holds may be laid anywhere -/
theorem SR.waste {g : Gh} {H : Hp} {σ : L2.St} {sl : List (Option T)} {tm : List T} {p : Addr} {o : HO} (s : SR g H σ sl tm) (hp : H p = none) : SR g (upd H p o) σ sl tm := by
  have fr := s.free hp
  refine s.go (s.stayS fun b q => upd_ne fun e => ?_) (s.stayT fun b q => upd_ne fun e => ?_) (fun b => .inl ⟨Nat.le_refl _, fun q => .inl q⟩) (fun b => ?_) s.len s.slen s.at_ s.io
  · subst e; omega
  · subst e; omega
  · by_cases e : b = p
    · exact .inr (.inl (by rw [e]; exact hp))
    · exact .inl (upd_ne e)
def anyX (exm : String → String → Option Bool) (c : String) : List String → Option Bool
  | [] => some false
  | d :: r => match exm c d with
    | none => none
    | some true => some true
    | some false => anyX exm c r
def mIsXs (exm : String → String → Option Bool) (x : Ex) (Ds : List String) : Cm D := match anyX exm x.cls Ds with
  | some b => mC (.bl b)
  | none => mStuckD
section
variable {X : Cx} {g : Gh} {W : WX} {p p1 p2 pos : Pos} {y : Str} {i : Nat} {a : Addr} {oe : Obj} {cls : Value} {d : Option Addr} {pn : List (Addr × Obj)} {x : Ex} {exm : String → String → Option Bool}
def rIsXT (K : PySem.W.Frag) (C a : Addr) (d : Option Addr) : List V → Hp → VK → Prop := fun xs H Q => ∃ (tp : Addr) (cs : List V) (us : List Value) (b : Bool), xs = [.ref a, .ref tp] ∧ H tp = some (.tup cs) ∧ Paired ClsV cs us ∧ PySem.W.kitAny K (.ref C) us = some b ∧ (match d with
  | none => True
  | some dd => ∃ fs, H dd = some (.xd fs)) ∧ Q (.bl b) H
theorem call_isXT {C : Addr} (T : CB X.K C) (hz : Zc (.ref C) d oe) (hf : ∃ vs, oe.data = .fields vs) : CallR (X.suite a ((a, oe) :: pn)) (.builtin "isinstance") (rIsXT X.K C a d) := by
  intro pins s σ H xs us Q I r h
  obtain ⟨tp, cs, ws, b, rfl, hT, hk, e, hd, q⟩ := h
  cases r with
  | cons rx rr =>
    cases rr with
    | cons rt rr =>
      cases rr
      cases rx
      rename_i u2
      cases (show u2 = Value.ref tp from rt)
      obtain ⟨_, its, rv, o, h1, h2, n, h3⟩ := (show ObjOk X.prog X.w H s.heap tp (.tup cs) from I.hok tp _ hT)
      have e3 := ClsV.all hk rv
      subst e3
      obtain ⟨oc, od, dt, sl⟩ := o
      simp only at h2 h3
      subst h2 h3
      obtain ⟨hget, _⟩ := I.pin (a, oe) (List.mem_append.mpr (.inl List.mem_cons_self))
      obtain ⟨vs, hv⟩ := hf
      have J : ∃ od, PySem.W.InstAt s.heap a oe C od := by
        cases d with
        | none => exact ⟨none, hget, hz.1, by unfold PySem.W.notCls; rw [hv] <;> rfl, by rw [hz.2]; trivial⟩
        | some dd =>
          obtain ⟨fs, hd⟩ := hd
          have hx : ObjOk X.prog X.w H s.heap dd (.xd fs) := I.hok dd _ hd
          obtain ⟨mA, hns, hr⟩ := hx
          obtain ⟨od, ho, hl⟩ := lookIn_ns hns
          exact ⟨some od, hget, hz.1, by unfold PySem.W.notCls; rw [hv] <;> rfl, by rw [hz.2]; exact ho⟩
      obtain ⟨od, J⟩ := J
      exact PySem.W.kia_tup (PySem.W.kitx_exc T.cl T.xf.ga T.xf.gg T.xf.exC T.ca T.sp T.tk T.mr) I.kIn J h1 e (fun z => nomatch z) fun tk => ⟨.bl b, H, I.kept (t' := tk) fun _ _ z => z, rfl, q⟩
/-- names of own classes, one behind the other -/
inductive PAC (X : Cx) (g : Gh) : List Expr → List String → TA → Prop where
  | nil : PAC X g [] [] tNil
  | cons {xD : Str} {p : Pos} {Dn : String} {es : List Expr} {ds : List String} {t : TA} (hgD : Gl X xD) (gD : X.mg xD = some (.ref (g.c.cls Dn))) (hdD : (xD == ("__debug__" : Str)) = false) (hs : starEach (.Name xD p :: es) X.env = (false, eval (.Name xD p) X.env) :: starEach es X.env) (r : PAC X g es ds t) :
      PAC X g (.Name xD p :: es) (Dn :: ds) (tCons (tC (.ref (g.c.cls Dn))) t)
theorem PAC.pa {es : List Expr} {ds : List String} {t : TA} (h : PAC X g es ds t) : PA X es t := by
  induction h with
  | nil => exact pa_nil
  | cons hgD gD hdD hs r ih => exact pa_cons (pe_glob hgD gD rfl hdD) ih hs
theorem PAC.run {es : List Expr} {ds : List String} {t : TA} (h : PAC X g es ds t) (σ : L2.St) (H : Hp) (Q : List V → Hp → Prop) (q : Q (ds.map fun D => V.ref (g.c.cls D)) H) : t σ H Q := by
  induction h generalizing Q with
  | nil => exact q
  | cons hgD gD hdD hs r ih => exact ih _ q
theorem cls_pair (l : List String) : Paired ClsV (l.map fun D => V.ref (g.c.cls D)) (l.map fun D => Value.ref (g.c.cls D)) := by
  induction l with
  | nil => exact .nil
  | cons d l ih => exact .cons (.own _) ih
theorem any_kit {K : PySem.W.Frag} {cl : String → Addr} {c : String} (hk : ∀ Dn b, exm c Dn = some b → PySem.W.kitOne K (.ref (cl c)) (.ref (cl Dn)) = some b) : ∀ (l : List String) (b : Bool), anyX exm c l = some b → PySem.W.kitAny K (.ref (cl c)) (l.map fun D => Value.ref (cl D)) = some b
  | [], b, h => by cases h; exact kitAny_nil
  | d :: r, b, h => by
    unfold anyX at h
    cases e : exm c d with
    | none => rw [e] at h; cases h
    | some v =>
      rw [e] at h
      cases v with
      | true => cases h; exact kitAny_cons (hk d true e) (fun z => nomatch z) (fun _ => rfl)
      | false => exact kitAny_cons (hk d false e) (fun _ => any_kit hk r b h) (fun z => nomatch z)
theorem e_isXT {k : Nat} {es : List Expr} {ds : List String} {t : TA} (hc : PAC (X.suite a ((a, oe) :: pn)) g es ds t) (hz : Zc cls d oe) (hf : ∃ vs, oe.data = .fields vs) (hx : XIs g cls d x) (T : CB X.K (g.c.cls x.cls)) (hk : ∀ Dn b, exm x.cls Dn = some b → PySem.W.kitOne X.K (.ref (g.c.cls x.cls)) (.ref (g.c.cls Dn)) = some b)
    (hl : ds.length ≤ 1000) (hm : X.mg "isinstance" = none) (hp : PE (X.suite a ((a, oe) :: pn)) (.Name y p1) (tVar i)) (hg : Gl X "isinstance" := by rfl)
    (hs1 : starEach [.Name y p1, .Tuple es k p2] (X.suite a ((a, oe) :: pn)).env = (false, eval (.Name y p1) (X.suite a ((a, oe) :: pn)).env) :: starEach [.Tuple es k p2] (X.suite a ((a, oe) :: pn)).env := by rfl) (hs2 : starEach [.Tuple es k p2] (X.suite a ((a, oe) :: pn)).env = (false, eval (.Tuple es k p2) (X.suite a ((a, oe) :: pn)).env) :: starEach [] (X.suite a ((a, oe) :: pn)).env := by rfl) (hpl : (backTo pos (starEach [.Tuple es k p2] (X.suite a ((a, oe) :: pn)).env)).any (·.1) = false := by rfl) :
    PE (X.suite a ((a, oe) :: pn)) (.Call (.Name "isinstance" p) [.Name y p1, .Tuple es k p2] [] pos) (tE (g.sx i a d x) W (mIsXs exm x ds)) := by
  have hz2 : Zc (.ref (g.c.cls x.cls)) d oe := by rw [← hx.is]; exact hz
  refine (pe_callB (call_isXT (X := X) T hz2 hf) hg hm (by decide +kernel) (pa_cons hp (pa_cons (pe_tup hc.pa) pa_nil hs2) hs1) (hpl := hpl) (he := hs1)).imp fun σ H Q h => ?_
  obtain ⟨sl, tm, s, h⟩ := h
  unfold mIsXs at h
  cases e : anyX exm x.cls ds with
  | none => rw [e] at h; exact h.elim
  | some b =>
    rw [e] at h
    refine ⟨.ref a, s.io (i, .ref a) (by simp [Gh.sx]), ?_⟩
    refine hc.run σ H _ ⟨by rw [SZ_eq, List.length_map]; omega, fun q hq => ?_⟩
    have s2 := s.waste (o := .tup (ds.map fun D => V.ref (g.c.cls D))) hq
    refine ⟨q, _, _, b, rfl, upd_same, cls_pair ds, any_kit hk ds b e, ?_, h _ sl (.sc (.bl b)) (s2.push _ trivial) rfl rfl⟩
    cases d with
    | none => trivial
    | some dd =>
      exact ⟨_, (s2.px (dd, HO.xd (fieldsV x.ns (x.xs.map Sc.v))) (by simp [Gh.sx])).1⟩
end
@[simp] theorem mIsXs_ (exm : String → String → Option Bool) (x : Ex) (Ds : List String) : mIsXs exm x Ds = match anyX exm x.cls Ds with
  | some b => mC (.bl b)
  | none => mStuckD := rfl
end VS

/-! VS, part G: repr of lists and tuples of data (in the law itself, where nothing is under way). -/
namespace VS
open PySem PySem.Spec PyProof.Rows L2
mutual
def D.pd : D → PyData
  | .sc s => s.pd
  | .lst _ xs => .list (Ds.pd xs)
  | .tup xs => .tuple (Ds.pd xs)
  | _ => .none
def Ds.pd : List D → List PyData
  | [] => []
  | t :: ts => t.pd :: Ds.pd ts
end
mutual
theorem T.pd_d : ∀ t : T, t.pd = t.d.pd
  | .sc s => by simp [T.pd, T.d, D.pd]
  | .lst a o xs => by simp [T.pd, T.d, D.pd, Ts.pd_d xs]
  | .tup a st xs => by simp [T.pd, T.d, D.pd, Ts.pd_d xs]
  | .obj _ _ _ _ _ _ => by simp [T.pd, T.d, D.pd]
  | .exn _ _ _ _ _ => by simp [T.pd, T.d, D.pd]
  | .dct _ _ _ _ _ => by simp [T.pd, T.d, D.pd]
theorem Ts.pd_d : ∀ ts : List T, Ts.pd ts = Ds.pd (Ts.d ts)
  | [] => by simp [Ts.pd, Ts.d, Ds.pd]
  | t :: ts => by simp [Ts.pd, Ts.d, Ds.pd, T.pd_d t, Ts.pd_d ts]
end
mutual
theorem T.nodict : ∀ t : T, t.pd.hasDict = false
  | .sc s => by cases s <;> simp [T.pd, Sc.pd, PyData.hasDict]
  | .lst a o xs => by simp [T.pd, PyData.hasDict, Ts.nodict xs]
  | .tup a st xs => by simp [T.pd, PyData.hasDict, Ts.nodict xs]
  | .obj _ _ _ _ _ _ => by simp [T.pd, PyData.hasDict]
  | .exn _ _ _ _ _ => by simp [T.pd, PyData.hasDict]
  | .dct _ _ _ _ _ => by simp [T.pd, PyData.hasDict]
theorem Ts.nodict : ∀ ts : List T, PyData.hasDictAll (Ts.pd ts) = false
  | [] => by simp [Ts.pd, PyData.hasDictAll]
  | t :: ts => by simp [Ts.pd, PyData.hasDictAll, T.nodict t, Ts.nodict ts]
end
/-! ### the signs of a repr -/
def CO (x : PySem.Str) : Prop := ∀ c ∈ x.cps.toList, c < 1114112
theorem co_char (c : Char) : c.toNat < 1114112 := by
  have h : c.val.toNat < 55296 ∨ (57343 < c.val.toNat ∧ c.val.toNat < 1114112) := c.valid
  show c.val.toNat < 1114112
  omega
theorem co_str (s : String) : CO (Str.ofString s) := by
  intro c hc
  rw [Str.ofString_eq_toList] at hc
  obtain ⟨x, _, rfl⟩ := List.mem_map.1 (show c ∈ s.toList.map Char.toNat from hc)
  exact co_char x
theorem CO.app {a b : PySem.Str} (ha : CO a) (hb : CO b) : CO (a ++ b) := by
  intro c hc
  have e : (a ++ b).cps = a.cps ++ b.cps := rfl
  rw [e, Array.toList_append] at hc
  exact (List.mem_append.1 hc).elim (ha c) (hb c)
theorem co_hex (n w : Nat) : ∀ c ∈ List.replicate w 48 ++ (Nat.toDigits 16 n).map Char.toNat, c < 1114112 := by
  intro c hc
  rcases List.mem_append.1 hc with hc | hc
  · rw [List.eq_of_mem_replicate hc]; decide
  · obtain ⟨x, _, rfl⟩ := List.mem_map.1 hc; exact co_char x
theorem co_rch (q c : Nat) (hc : c < 1114112) : ∀ d ∈ Builtin.Str.reprChar q c, d < 1114112 := by
  have hx := fun w => co_hex c w
  unfold Builtin.Str.reprChar
  dsimp only
  repeat' split
  all_goals intro d hd
  all_goals simp only [List.mem_append, List.mem_cons, List.not_mem_nil, or_false] at hd hx
  all_goals first
    | omega
    | (rcases hd with (hd | hd) | hd
       · omega
       · omega
       · exact hx _ d hd)
theorem co_fold (q : Nat) : ∀ (l : List Nat) (acc : Array Nat), (∀ c ∈ l, c < 1114112) → (∀ c ∈ acc.toList, c < 1114112) → ∀ c ∈ (l.foldl (fun out c => out ++ (Builtin.Str.reprChar q c).toArray) acc).toList, c < 1114112
  | [], acc, _, h => h
  | x :: l, acc, hl, h => by
    rw [List.foldl_cons]
    refine co_fold q l _ (fun c hc => hl c (by simp [hc])) fun c hc => ?_
    rw [Array.toList_append] at hc
    exact (List.mem_append.1 hc).elim (h c) fun z => co_rch q x (hl x (by simp)) c (by simpa using z)
theorem co_repr (x : PySem.Str) (hx : CO x) : CO (reprText x) := by
  have hq : reprQuote x < 1114112 := by unfold reprQuote; split <;> decide
  intro c hc
  unfold reprText at hc
  simp only [Array.toList_push, List.mem_append, List.mem_singleton] at hc
  rcases hc with hc | rfl
  · rw [← Array.foldl_toList] at hc
    exact co_fold _ _ _ hx (by simpa using hq) c hc
  · exact hq
theorem co_from : ∀ (ts : List PySem.Str) (k : Nat) (acc : PySem.Str), (∀ t ∈ ts, CO t) → CO acc → CO (textFrom k acc ts)
  | [], _, _, _, h => h
  | t :: ts, k, acc, ht, h => by
    unfold textFrom
    exact co_from ts (k + 1) _ (fun u hu => ht u (by simp [hu])) ((h.app (co_str _)).app (ht t (by simp)))
theorem co_list (ts : List PySem.Str) (h : ∀ t ∈ ts, CO t) : CO (listText ts) := (co_from ts 0 _ h (co_str _)).app (co_str _)
theorem co_join (sep : PySem.Str) (hs : CO sep) : ∀ ts : List PySem.Str, (∀ t ∈ ts, CO t) → CO (Str.join sep ts)
  | [], _ => fun c hc => by simp [Str.join, Str.empty] at hc
  | [x], h => h x (by simp)
  | x :: y :: r, h => by
    unfold Str.join
    exact ((h x (by simp)).app hs).app (co_join sep hs (y :: r) fun t ht => h t (by simp [ht]))
theorem co_tuple (ts : List PySem.Str) (h : ∀ t ∈ ts, CO t) : CO (tupleText ts) := by
  unfold tupleText
  exact ((co_str _).app (co_join _ (co_str _) ts h)).app (co_str _)
mutual
theorem T.cok {c : Cfg} {H : Hp} : ∀ t : T, t.ok c H → CO t.pd.shown
  | .sc s, k => by
    cases s with
    | str l =>
      simp only [T.ok] at k
      simp only [T.pd, Sc.pd, PyData.shown]
      exact co_repr _ fun c hc => k.2 c (by simpa using hc)
    | _ => simp only [T.pd, Sc.pd, PyData.shown]; (try split) <;> exact co_str _
  | .lst a o xs, k => by
    have k' : Ts.ok c H xs := by cases o <;> simp only [T.ok] at k <;> exact k.2.2
    simp only [T.pd, PyData.shown]
    exact co_list _ (Ts.cok xs k')
  | .tup a st xs, k => by
    have k' : Ts.ok c H xs := by cases st <;> simp only [T.ok] at k <;> exact k.2.2
    simp only [T.pd, PyData.shown]
    exact co_tuple _ (Ts.cok xs k')
  | .obj _ _ _ _ _ _, _ => by simp only [T.pd, PyData.shown]; exact co_str _
  | .exn _ _ _ _ _, _ => by simp only [T.pd, PyData.shown]; exact co_str _
  | .dct _ _ _ _ _, _ => by simp only [T.pd, PyData.shown]; exact co_str _
theorem Ts.cok {c : Cfg} {H : Hp} : ∀ ts : List T, Ts.ok c H ts → ∀ x ∈ PyData.shownAll (Ts.pd ts), CO x
  | [], _ => fun x hx => by simp [Ts.pd, PyData.shownAll] at hx
  | t :: ts, k => by
    simp only [Ts.ok] at k
    intro x hx
    simp only [Ts.pd, PyData.shownAll, List.mem_cons] at hx
    rcases hx with rfl | hx
    · exact T.cok t k.1
    · exact Ts.cok ts k.2 x hx
end
def D.isSeq : D → Bool
  | .lst _ _ => true
  | .tup _ => true
  | _ => false
def reprOk (x : D) : Bool := D.flatN 8 x && x.isSeq && x.pd.showable && decide (x.pd.shown.length ≤ 16777216)
/-- repr(x) -/
def reprD (x : D) : Option Sc := if reprOk x then some (.str x.pd.shown.cps.toList) else none
section
variable {X : Cx} {g : Gh}
def rRepr (K : PySem.W.Frag) : List V → Hp → VK → Prop := fun xs H Q => ∃ (a : Addr) (d : PyData), xs = [.ref a] ∧ Dp K H (.ref a) d ∧ d.showable = true ∧ d.hasDict = false ∧ d.depth ≤ 8 ∧ d.shown.length ≤ sizeLine ∧ Q (.str d.shown) H
theorem call_repr (hG : X.A.guards = some []) (hu : X.A.units + 64 < cLine) : CallR X (.builtin "repr") (rRepr X.K) := by
  intro pins s σ H xs us Q I r h
  obtain ⟨a, d, rfl, hd, hs, hn, hp, hz, q⟩ := h
  cases r with
  | cons ru rr =>
    cases rr
    cases (show _ = Value.ref a from ru)
    obtain ⟨as, rd⟩ := Dp.reads I d (.ref a) (.ref a) hd rfl
    exact repr_of_reads' (h₀ := s.heap) rd hs (fun z => by rw [hn] at z; cases z) hG (by omega) (fun _ _ e => e) (fun h' u tk k => ⟨.str d.shown, H, I.kept (t' := tk) k, ⟨u, rfl⟩, q⟩) hz
theorem hr_repr {K : PySem.W.Frag} (hK : K = g.c.K) : HR1 g reprD (rRepr K) := fun H u c Q k h q => by
  subst hK
  unfold reprD at h
  split at h
  · rename_i ok
    cases h
    unfold reprOk at ok
    simp only [Bool.and_eq_true, decide_eq_true_eq] at ok
    obtain ⟨⟨⟨h1, h2⟩, h3⟩, h4⟩ := ok
    have h5 := T.cok u k
    rw [T.pd_d] at h5
    have dp := T.dp 8 u k h1
    have ly := (T.lay 8 u k h1).2
    have nd := T.nodict u
    rw [T.pd_d] at dp ly nd
    have hv : ∃ a, u.v = .ref a := by
      cases u with
      | lst a o xs => exact ⟨a, rfl⟩
      | tup a st xs => exact ⟨a, rfl⟩
      | _ => simp [T.d, D.isSeq] at h2
    obtain ⟨a, hv⟩ := hv
    rw [hv] at dp ⊢
    refine ⟨a, _, rfl, dp, h3, nd, ly, by rw [SZ_eq]; exact h4, ?_⟩
    have := q ⟨by simpa [Str.length] using h4, h5⟩
    simpa [Sc.v] using this
  · cases h
end
/-! ### the law's def, run where the law is asked: nothing is under way there -/
/-- the promise of a def at one place only -/
def RunAt (A : Around) (P : Program) (w : World) (K : PySem.W.Frag) (mg : Str → Option Value) (base : Heap) (f : Addr) (fd : FuncData) (ps : List Str) (sp : Sp) : Prop :=
  ∀ (outer : List Env) (s : Shared) (H : Hp) (args : Args) (us : List Value) (vs : List V) (Q : VK) (E : XK), Env0 P w K mg base A outer s H → BindsTo s fd args (ps.zip us) → Vals vs us → sp vs H Q E → codeAny (model P w) A (.call (.ref f) args) (CR (L2.CX P w) outer P w H s Q E) s
section
variable {P : Program} {w : World} {K : PySem.W.Frag} {mg : Str → Option Value} {base : Heap} {A : Around}
end
section
variable {P : Program} {w : World} {K : PySem.W.Frag} {mg mb : Str → Option Value} {fa a : Addr} {fd : FuncData} {x : Str} {sp : Sp} {s₁ : Shared} {vs : List Value} {ns : List Int}
end
/-! ### a list of one's own to several targets: what it holds goes over -/
def mTupLO (fs : List (D → Cm Unit)) : D → Cm Unit := fun d ρ => match d with
  | .lst .own ds => if ds.length = fs.length then putAll fs ds ρ else .stuck
  | _ => .stuck
section
variable {X : Cx} {g : Gh} {W : WX} {pos : Pos}
end
@[simp] theorem mTupLO_ {ρ : DE} (fs : List (D → Cm Unit)) (ds : List D) : mTupLO fs (.lst .own ds) ρ = if ds.length = fs.length then putAll fs ds ρ else .stuck := (rfl)
end VS

/-! VS, part H: lambdas without parameters, handed to a def that calls them once, in a try. -/
namespace VS
open PySem PySem.Spec PyProof.Rows L2

/-- slots that hold nothing, or no made thing -/
def scO : Option D → Bool
  | none => true
  | some (.sc _) => true
  | _ => false
/-- the def that calls: mp ahead of its try, ms the suite, mr behind; o: what the call raised -/
def wordO (n : Nat) (exm : String → String → Option Bool) (i : Nat) (Dn : String) (mp : Cm Out) (ms : Ex → Cm Out) (mr : Cm Out) (o : Option Ex) : R Out := match mp (List.replicate n none) with
  | .ok .nx ρ => if ρ.all scO = true then (match o with
    | none => mr ρ
    | some x => if x.cls = "dict" then .stuck else match exm x.cls Dn with
      | some true => (match ms x (List.replicate n none) with
        | .ok .nx ρ2 => mr (ρ2.set i none)
        | .ok (.ret d) ρ2 => .ok (.ret d) (ρ2.set i none)
        | _ => .stuck)
      | _ => .stuck) else .stuck
  | _ => .stuck
def wordF (n : Nat) (exm : String → String → Option Bool) (i : Nat) (Dn : String) (mp : Cm Out) (ms : Ex → Cm Out) (mr : Cm Out) (o : Option Ex) : RF := endF [] (wordO n exm i Dn mp ms mr o)
/-- no slot is filled that was empty -/
def subO (ρ ρ1 : DE) : Bool := decide (ρ.length = ρ1.length) && (ρ.zip ρ1).all fun p => p.1.isSome || p.2.isNone
def finL (r : RF) : Cm D := fun ρ => match r with
  | .ok d [] => .ok d ρ
  | _ => .stuck
/-- f(lambda: body) -/
def mLam (F : Option Ex → RF) (body : Cm D) : Cm D := fun ρ => match body ρ with
  | .ok _ ρ1 => if subO ρ ρ1 = true then finL (F none) ρ1 else .stuck
  | .exc x ρ1 => if x.cls ≠ "dict" ∧ subO ρ ρ1 = true then finL (F (some x)) ρ1 else .stuck
  | .stuck => .stuck
def exnT (d : Option Addr) (y : Ex) : T := .exn 0 d y.cls y.ns y.xs
def aftT (d : Option Addr) : Option Ex → List T
  | none => []
  | some y => [exnT d y]
def EndW (c : Cfg) (M : Option Ex → RF) (d : Option Addr) (o : Option Ex) (H : Hp) (Q : VK) : Prop := match M o with
  | .ok v [] => ∀ H3 t, Aft c H (aftT d o) H3 [t] → t.d = v → Q t.v H3
  | _ => False
def TTw (c : Cfg) (M : Option Ex → RF) : (XK → Hp → VK → Prop) → Hp → VK → Prop := fun tl H Q => LamX.Tabs c.tb H ∧ ∀ H1 : Hp, (∀ b o, H b = some o → NT o → H1 b = some o) → LamX.Tabs c.tb H1 → ∀ (E : XK) (Q' : VK),
  (∀ cls d H2, (∃ y : Ex, cls = .ref (c.cls y.cls) ∧ y.cls ≠ "dict" ∧ (exnT d y).ok c H2 ∧ LamX.Tabs c.tb H2 ∧ EndW c M d (some y) H2 Q) → E cls d H2) → (∀ v H2, LamX.Tabs c.tb H2 ∧ EndW c M none none H2 Q → Q' v H2) → tl E H1 Q'

/-! ### states to begin with -/
abbrev gh0 (c : Cfg) (H : Hp) (A0 : List T) (n : Nat) : Gh := ⟨c, H, A0, n, [], []⟩
theorem den_rep (n : Nat) : den (List.replicate n none) = List.replicate n none := by
  unfold den; simp
theorem So_rep (f : T → Nat) (n : Nat) : So f (List.replicate n none) = 0 := by
  induction n with
  | zero => rfl
  | succ n ih => rw [List.replicate_succ]; exact ih
theorem SR.fresh {c : Cfg} {H : Hp} {n : Nat} {σ : L2.St} {d : Option Addr} {o : Option Ex} (tb : LamX.Tabs c.tb H) (hl : σ.length = n) (ok : Ts.ok c H (aftT d o)) : SR (gh0 c H (aftT d o) n) H σ (List.replicate n none) (aftT d o) := by
  have z : ∀ a, Ts.oc a (aftT d o) = 0 := fun a => by cases o <;> simp [aftT, exnT, Ts.oc, T.oc]
  refine ⟨fun t m => ?_, ok, fun a => .inl ?_, fun a _ _ => ⟨?_, fun h => ?_⟩, fun a o h _ _ => h, hl, by simp, fun i t h => ?_, fun p hp => (List.not_mem_nil hp).elim, fun p hp => (List.not_mem_nil hp).elim, tb⟩
  · have := List.eq_of_mem_replicate m
    cases this
  · rw [So_rep, z]
  · rw [So_rep, z]
  · rw [So_rep]; simpa using h
  · rw [List.getElem?_replicate] at h
    split at h <;> cases h
/-- slots without made things: over any heap -/
theorem SR.over {g : Gh} {H H' : Hp} {σ : L2.St} {sl : List (Option T)} {tm : List T} {n : Nat} (s : SR g H σ sl tm) (hs : (den sl).all scO = true) (hn : g.N = n) (tb : LamX.Tabs g.c.tb H') : SR (gh0 g.c H' [] n) H' σ sl [] := by
  have each : ∀ t, some t ∈ sl → ∃ x, t = T.sc x := fun t m => by
    have := List.all_eq_true.mp hs (some t.d) (by unfold den; exact List.mem_map.mpr ⟨some t, m, rfl⟩)
    cases t with
    | sc x => exact ⟨x, rfl⟩
    | _ => simp [T.d, scO] at this
  have z1 : ∀ (f : T → Nat), (∀ x, f (T.sc x) = 0) → So f sl = 0 := fun f hf => by
    clear s hs
    induction sl with
    | nil => rfl
    | cons y r ih =>
      have ih := ih fun t m => each t (List.mem_cons_of_mem _ m)
      cases y with
      | none => exact ih
      | some t =>
        obtain ⟨x, rfl⟩ := each t (by simp)
        simp only [So, hf, ih]
  refine ⟨fun t m => ?_, by simp [Ts.ok], fun a => .inl ?_, fun a _ _ => ⟨?_, fun _ => ?_⟩, fun a o h _ _ => h, hn ▸ s.len, hn ▸ s.slen, s.at_, fun p hp => (List.not_mem_nil hp).elim, fun p hp => (List.not_mem_nil hp).elim, tb⟩
  · obtain ⟨x, rfl⟩ := each t m
    have := s.okS _ m
    simpa [T.ok] using this
  · rw [z1 _ fun x => by simp [T.oc]]; rfl
  · rw [z1 _ fun x => by simp [T.oc]]; rfl
  · rw [z1 _ fun x => by simp [T.sh]]; rfl
theorem _root_.L2.PSs.len {X : Cx} {sts : List Stmt} {t : TS} (h : PSs X sts t) : PSs X sts (fun De σ H => σ.length = X.N.length → t De σ H) := ⟨fun pins s σ H De I q => h.run pins s σ H De I (q I.len)⟩
theorem _root_.L2.PE.ex {α : Type} {X : Cx} {e : Expr} {P : α → Prop} {t : α → TE} (h : ∀ x, P x → PE X e (t x)) : PE X e (fun σ H Q => ∃ x, P x ∧ t x σ H Q) := ⟨fun pins s σ H Q I q => by
  obtain ⟨x, hx, q⟩ := q
  exact (h x hx).run pins s σ H Q I q⟩
/-- the ghosts of a def that calls a lambda -/
def ghP (c : Cfg) (n : Nat) (g : Gh) : Prop := g.c = c ∧ g.N = n ∧ g.io = []
theorem set_rep {α : Type} (n i : Nat) (x : α) : (List.replicate n x).set i x = List.replicate n x := by
  apply List.ext_getElem?
  intro j
  rw [List.getElem?_set, List.getElem?_replicate]
  by_cases e : i = j
  · subst e; simp
  · simp [e]
/-- an end that Q takes -/
theorem end_lands {c : Cfg} {H : Hp} {N : Nat} {d : Option Addr} {o : Option Ex} {Q : VK} {r : R Out} (h : match endF [] r with
    | .ok v [] => ∀ H3 t, Aft c H (aftT d o) H3 [t] → t.d = v → Q t.v H3
    | _ => False) : Lands (gh0 c H (aftT d o) N) (fun _ _ _ _ => False) [] r (Post (gh0 c H (aftT d o) N) [] { nx := fun _ H' => Q .non H', rt := Q }) := by
  cases r with
  | stuck => exact h.elim
  | exc x ρ => exact h.elim
  | ok k ρ =>
    cases k with
    | nx => exact fun H' σ' sl' s' _ => h H' (.sc .non) (Aft.of (s'.push .non trivial)) rfl
    | ret v => exact fun H' σ' sl' t s' _ ed => h H' t (Aft.of s') ed
    | brk => exact h.elim
    | ct => exact h.elim
section
variable {X : Cx}
abbrev CxW (X : Cx) (Ng : List Str) (x : Str) (sg : Scope) (gf : Addr) (cdg : Value) (s : Shared) (H : Hp) : Cx := (cxOf C8.CX0 X.prog X.w X.K X.mg X.base Ng x sg gf cdg X.A X.stack s H C8.E0).nox
theorem word_gives {Ng : List Str} {x a q e n : Str} {sg : Scope} {gf : Addr} {cdg : Value} {bg rs : List Stmt} {c : Cfg} {N i : Nat} {exm : String → String → Option Bool} {Dn : String} {mp : Cm Out} {ms : Ex → Cm Out} {mr : Cm Out}
    {b₀ : Stmt} {suite : List Stmt} {p1 p2 p3 p4 p5 p6 : Pos} {ρ0 : DE} (hN : Ng.length = N) (hnd : Ng.Nodup) (hi : Ng[i]? = some n) (hln : sg.names.lookup n = some .local) (hpos : 0 < N) (h0 : ∀ f : Addr, (L2.start Ng [V.ref f])[0]? = some (some (V.ref f)))
    (hge : sg.names.lookup e = some .globalImplicit) (hde : (e == ("__debug__" : Str)) = false) (hme : X.mg e = some (.ref (c.cls Dn))) (hx : ∀ C b, exm C Dn = some b → PySem.W.exmOne X.K (.ref (c.cls C)) (.ref (c.cls Dn)) = some b)
    (hmp : mp (List.replicate N none) = .ok .nx ρ0) (hsc : ρ0.all scO = true)
    (dpre : ∀ (s : Shared) (H : Hp) (u : TS), PSs (CxW X Ng x sg gf cdg s H) (.Try [.Expr (.Call (.Name a p1) [] [] p2) p3] [.ExceptHandler (some (.Name e p4)) (some n) (b₀ :: suite) p5] [] [] p6 :: rs) u →
      PSs (CxW X Ng x sg gf cdg s H) bg (fun De σ H => ∃ g : Gh, (g.c = c ∧ g.N = N ∧ g.io.map (·.1) = [0]) ∧ tS g (fun _ _ _ _ => False) mp { nx := u De, rt := fun _ _ => False } σ H))
    (dsu : ∀ (s : Shared) (H : Hp) (a : Addr) (oe : Obj) (cls : Value) (d : Option Addr) (pn : List (Addr × Obj)), Zc cls d oe → (∃ vs, oe.data = .fields vs) →
      ∀ (y : Ex) (g : Gh), ghP c N g → XIs g cls d y ∧ exm y.cls Dn = some true → PSs ((CxW X Ng x sg gf cdg s H).suite a ((a, oe) :: pn)) (b₀ :: suite) (tS (g.sx i a d y) (fun _ _ _ _ => False) (ms y)))
    (dre : ∀ (s : Shared) (H : Hp) (g : Gh), ghP c N g → PSs (CxW X Ng x sg gf cdg s H) rs (tS g (fun _ _ _ _ => False) mr)) :
    LamX.GivesTo X Ng x sg gf cdg bg a q (TTw c (wordF N exm i Dn mp ms mr)) := by
  intro f c' s H Q tl act hc h
  have hM : ∀ o, wordF N exm i Dn mp ms mr o = endF [] (wordO N exm i Dn mp ms mr o) := fun _ => rfl
  have hgl : Gl (CxW X Ng x sg gf cdg s H) e := hge
  obtain ⟨tb0, h⟩ := h
  refine ⟨_, dpre s H _ (pss_cons (ps_try_as (X := CxW X Ng x sg gf cdg s H) (c := .ref (c.cls Dn)) (i := i) (n := n) (Wout := fun _ _ _ _ => False)
    (ts := fun a cls d De σ H => σ.length = Ng.length → ∃ z : Ex × Gh, (ghP c N z.2 ∧ (XIs z.2 cls d z.1 ∧ exm z.1.cls Dn = some true)) ∧ tS (z.2.sx i a d z.1) (fun _ _ _ _ => False) (ms z.1) De σ H)
    (tb := fun W D σ H => ∃ Ech : XK, (∀ cls d σ' H', Ech cls d H' → W cls d σ' H') ∧ σ[0]? = some (some (.ref f)) ∧ H c' = some (LamX.CodeO c' q) ∧ tl Ech H fun _ H' => D.nx σ H')
    rfl rfl hnd hi hln ⟨hgl, hde, .inl hme⟩ LamX.takes0 (fun W pn xe tk _ => ?_) (fun a oe cls d pn hz hf => ?_)) (PSs.ex (P := ghP c N) fun g hg => dre s H g hg)), ?_⟩
  · refine ⟨fun pins s' σ H' D I h' => ?_⟩
    obtain ⟨Ech, hW, h1, h2, h3⟩ := h'
    exact (pss_one (ps_expr (pos := p3) (act W pn xe Ech p1 p2 tk hW))).run pins s' σ H' D I ⟨h1, h2, h3⟩
  · exact (PSs.ex (P := fun z : Ex × Gh => ghP c N z.2 ∧ (XIs z.2 cls d z.1 ∧ exm z.1.cls Dn = some true)) fun z hz2 => dsu s H a oe cls d pn hz hf z.1 z.2 hz2.1 hz2.2).len
  · have hst : (L2.start Ng [V.ref f]).length = N := by
      unfold L2.start
      simp; omega
    have s0 := SR.fresh (c := c) (H := H) (n := N) (σ := L2.start Ng [V.ref f]) (d := none) (o := none) tb0 hst (by simp [aftT, Ts.ok])
    have s0 : SR ⟨c, H, [], N, [(0, .ref f)], []⟩ H (L2.start Ng [V.ref f]) (List.replicate N none) [] := ⟨s0.okS, s0.okT, s0.inv, s0.prov, s0.frame, s0.len, s0.slen, s0.at_, fun p hp => by rw [List.mem_singleton.mp hp]; exact h0 f, s0.px, s0.tabs⟩
    refine ⟨⟨c, H, [], N, [(0, .ref f)], []⟩, ⟨rfl, rfl, rfl⟩, _, [], s0, ?_⟩
    rw [den_rep, hmp]
    intro H' σ' sl' s' e1
    have k0 := s'.io (0, .ref f) List.mem_cons_self
    have kc := s'.frame c' _ hc (LamX.codeO_ne) rfl
    refine ⟨fun cls d H2 => ∃ y : Ex, cls = .ref (c.cls y.cls) ∧ y.cls ≠ "dict" ∧ (exnT d y).ok c H2 ∧ LamX.Tabs c.tb H2 ∧ EndW c (wordF N exm i Dn mp ms mr) d (some y) H2 Q, ?_, k0, kc, ?_⟩
    · rintro cls d σ2 H2 ⟨y, rfl, hd, ok, tb2, ew⟩
      unfold EndW at ew
      rw [hM] at ew
      unfold wordO at ew
      rw [hmp] at ew
      simp only [hsc, if_true, hd, if_false] at ew
      cases ex : exm y.cls Dn with
      | none => rw [ex] at ew; exact ew.elim
      | some b =>
        cases b with
        | false => rw [ex] at ew; exact ew.elim
        | true =>
          rw [ex] at ew
          refine ⟨true, hx _ _ ex, fun _ a na hl => ?_, fun z => nomatch z⟩
          rw [List.length_set, hN] at hl
          have ok1 : Ts.ok c H2 (aftT d (some y)) := by simp only [aftT, Ts.ok]; exact ⟨ok, trivial⟩
          have k := ok
          simp only [exnT, T.ok] at k
          have s2 := SR.fresh (n := N) (σ := σ2) tb2 hl ok1
          have il : i < N := by
            rw [← hN]
            by_cases z : i < Ng.length
            · exact z
            · rw [List.getElem?_eq_none (by omega)] at hi; cases hi
          have s3 := SR.into (a := a) s2 il (fun p hp => (List.not_mem_nil hp).elim) hd
          rw [set_rep] at s3
          refine ⟨(y, gh0 c H2 (aftT d (some y)) N), ⟨⟨rfl, rfl, rfl⟩, ⟨rfl, fun z => ?_, k.1⟩, ex⟩, _, [], s3, ?_⟩
          · subst z; exact k.2.1
          · rw [den_rep]
            simp only at ew
            cases em : ms y (List.replicate N none) with
            | stuck => rw [em] at ew; exact ew.elim
            | exc _ _ => rw [em] at ew; exact ew.elim
            | ok o ρ2 =>
              rw [em] at ew
              cases o with
              | brk => exact ew.elim
              | ct => exact ew.elim
              | ret v => exact fun H4 σ4 sl4 t s4 _ ed => ew H4 t (Aft.of s4.outof) ed
              | nx =>
                intro H4 σ4 sl4 s4 e4
                refine ⟨gh0 c H2 (aftT d (some y)) N, ⟨rfl, rfl, rfl⟩, _, [], s4.outof.unslot (fun p hp => (List.not_mem_nil hp).elim) none, ?_⟩
                rw [den_set, e4]
                exact end_lands ew
    · refine h H' (fun b o hb nt => s'.frame b o hb nt rfl) s'.tabs _ _ (fun cls d H2 z => z) fun v H2 ⟨tb2, ew⟩ => ?_
      unfold EndW at ew
      rw [hM] at ew
      unfold wordO at ew
      rw [hmp] at ew
      simp only [hsc, if_true] at ew
      refine ⟨gh0 c H2 [] N, ⟨rfl, rfl, rfl⟩, sl', [], SR.over s' (by rw [e1]; exact hsc) rfl tb2, ?_⟩
      rw [e1]
      exact end_lands (d := none) (o := none) ew
/-! ### the one who hands it in -/
def allIo (σ : L2.St) : List (Nat × V) := (List.range σ.length).filterMap fun i => match σ[i]? with
  | some (some v) => some (i, v)
  | _ => none
theorem allIo_in {σ : L2.St} {i : Nat} {v : V} (h : σ[i]? = some (some v)) : (i, v) ∈ allIo σ := by
  refine List.mem_filterMap.mpr ⟨i, List.mem_range.mpr ?_, by rw [h]⟩
  by_cases z : i < σ.length
  · exact z
  · rw [List.getElem?_eq_none (by omega)] at h; cases h
theorem allIo_is {σ : L2.St} : ∀ p ∈ allIo σ, σ[p.1]? = some (some p.2) := fun p hp => by
  obtain ⟨i, _, e⟩ := List.mem_filterMap.mp hp
  split at e
  · rename_i v ev
    cases e
    exact ev
  · cases e
theorem subO_get {ρ ρ1 : DE} (h : subO ρ ρ1 = true) {i : Nat} {d : D} (e : ρ1[i]? = some (some d)) : ∃ d', ρ[i]? = some (some d') := by
  unfold subO at h
  obtain ⟨h1, h2⟩ := Bool.and_eq_true_iff.mp h
  have hl : ρ.length = ρ1.length := of_decide_eq_true h1
  have hi : i < ρ1.length := by
    by_cases z : i < ρ1.length
    · exact z
    · rw [List.getElem?_eq_none (by omega)] at e; cases e
  have hi' : i < ρ.length := by omega
  have z := List.all_eq_true.mp h2 (ρ[i], ρ1[i]) (by
    rw [List.mem_iff_getElem?]
    exact ⟨i, by rw [List.getElem?_zip_eq_some]; exact ⟨List.getElem?_eq_getElem hi', List.getElem?_eq_getElem hi⟩⟩)
  rw [List.getElem?_eq_getElem hi] at e
  rw [Option.some.inj e] at z
  simp only [Option.isNone_some, Bool.or_false] at z
  obtain ⟨d', e'⟩ := Option.isSome_iff_exists.mp z
  exact ⟨d', by rw [List.getElem?_eq_getElem hi', e']⟩
theorem lam_imp {g : Gh} {W : WX} {c : Cfg} {M : Option Ex → RF} {m : Cm D} (hc : g.c = c) (σ : L2.St) (H : Hp) (Q : VK) (q : tE g W (mLam M m) σ H Q) :
    LamX.tLam c.tb (TTw c M) (fun E σ H Q => ∃ g' : Gh, (g'.c = c ∧ g'.N = g.N) ∧ tE g' (fun cls d _ H => E cls d H) m σ H Q) σ H Q := by
  subst hc
  obtain ⟨sl, tm, s, h⟩ := q
  refine ⟨s.tabs, fun H1 eN T1 => ⟨T1, fun H2 keep T2 E' Q' hE hQ => ?_⟩⟩
  have s2 : SR g H2 σ sl tm := s.extK (fun b o hb nt => keep b o (eN b o hb nt) nt) T2
  have s3 : SR { g with io := allIo σ } H2 σ sl tm := ⟨s2.okS, s2.okT, s2.inv, s2.prov, s2.frame, s2.len, s2.slen, s2.at_, allIo_is, s2.px, s2.tabs⟩
  refine ⟨{ g with io := allIo σ }, ⟨rfl, rfl⟩, sl, tm, s3, ?_⟩
  -- back to the slots as they were
  have back : ∀ {H3 : Hp} {σ' : L2.St} {sl' : List (Option T)} {tm' : List T} {ρ1 : DE}, SR { g with io := allIo σ } H3 σ' sl' tm' → den sl' = ρ1 → subO (den sl) ρ1 = true → SR g H3 σ sl' tm' := fun {H3 σ' sl' tm' ρ1} s4 e4 hs => by
    refine ⟨s4.okS, s4.okT, s4.inv, s4.prov, s4.frame, s2.len, s4.slen, fun i t hi => ?_, s2.io, s4.px, s4.tabs⟩
    have z := s4.at_ i t hi
    obtain ⟨d', hd'⟩ := subO_get hs (i := i) (d := t.d) (by rw [← e4]; unfold den; rw [List.getElem?_map, hi]; rfl)
    obtain ⟨u, hu, _, _, hv⟩ := s2.val hd'
    have w := s4.io (i, u.v) (allIo_in hv)
    rw [w] at z
    rw [hv, Option.some.inj z]
  unfold mLam at h
  cases em : m (den sl) with
  | stuck => rw [em] at h; exact h.elim
  | ok d ρ1 =>
    rw [em] at h
    simp only at h
    split at h
    · rename_i hs
      intro H' sl' t s4 e1 e2
      refine hQ _ _ ⟨s4.tabs, ?_⟩
      unfold finL at h
      split at h
      · rename_i v hM
        unfold EndW
        rw [hM]
        intro H3 t3 af et
        have s5 : SR { g with io := allIo σ } H3 σ sl' ([t3] ++ tm) := SR.call (ts := []) s4.pop af
        exact h H3 sl' t3 (back s5 e1 hs) e1 et
      · exact h.elim
    · exact h.elim
  | exc y ρ1 =>
    rw [em] at h
    simp only at h
    split at h
    · rename_i hs
      obtain ⟨hd, hs⟩ := hs
      unfold finL at h
      split at h
      · rename_i v hM
        intro H' σ' sl' a dx s4 e1
        · have k := s4.top
          have k2 : (exnT dx y).ok g.c H' := by
            simp only [exnT, T.ok] at k ⊢
            refine ⟨k.1, ?_⟩
            have k := k.2
            cases dx with
            | none => exact k
            | some dd => exact ⟨k.1, fun z => absurd z hd⟩
          have s5 : SR { g with io := allIo σ } H' σ' sl' ([exnT dx y] ++ tm) := SR.part s4 k2 fun b => by simp [exnT, T.oc, T.sh]
          refine hE _ _ _ ⟨y, rfl, hd, k2, s4.tabs, ?_⟩
          unfold EndW
          rw [hM]
          intro H3 t3 af et
          have s6 : SR { g with io := allIo σ } H3 σ' sl' ([t3] ++ tm) := SR.call s5 af
          exact h H3 sl' t3 (back s6 e1 hs) e1 et
      · exact h.elim
    · exact h.elim
theorem e_lam {g : Gh} {W : WX} {x a : Str} {st : Stmt} {gf : Addr} {fd : FuncData} {Ng : List Str} {c : Cfg} {M : Option Ex → RF} {m : Cm D} {params : Arguments} {body : Expr} {scope : Scope} {p lpos pos : Pos} {k : Nat} {cc P : Addr}
    (A : At X.K X.mg x st [a] gf fd) (hg : Gl X x) (Sg : FnScope Ng [a] (defScope st)) (hNg : Ng[0]? = some a) (hva : Vis (defScope st) a) (hc : g.c = c)
    (hG : ∀ cdg, LamX.GivesTo X Ng x (defScope st) gf cdg (defBody st) a (X.env.qual ++ "<lambda>") (TTw c M))
    (TB : LamX.TabB X.base X.mg cc P) (hcode : X.env.code = .ref cc) (hmT : (P, X.env.qual ++ "<lambda>") ∈ c.tb) (hu : ∀ p ∈ c.tb, p.1 = P → p.2 = X.env.qual ++ "<lambda>") (hr : Room (k + 2) X.A) (L : LamX.LamS X.env.scope scope) (hdef : defaultsOf params X.env = ([], []))
    (hbind : ∀ (q : Str) (cl : List (Str × Addr)) (pm cv ctv : Value), bindArgs (PySem.W.kla_fn "<lambda>" q params body scope cl pm cv ctv) ⟨[], []⟩ = pure [])
    (hbody : ∀ (A : Around) (outer : List Env) (s : Shared) (H : Hp) (E : XK) (f c' : Addr), Room k (A.deeper (LamX.lamEnv X scope s.heap.objs.size f c')) → ∀ g' : Gh, g'.c = c ∧ g'.N = g.N → PE (LamX.lamCx X A outer s H E scope f c') body (tE g' (fun cls d _ H => E cls d H) m))
    (hdb : (x == ("__debug__" : Str)) = false := by decide) (hd : (a == ("__debug__" : Str)) = false := by decide) (hcd : (a == ("__classdict__" : Str)) = false := by decide) :
    PE X (.Call (.Name x p) [.Lambda params body scope lpos] [] pos) (tE g W (mLam M m)) := by
  obtain ⟨oc, od, dV, kV, doc, pm, an, cdv, ct, osl, e, lk, hcg, _, _⟩ := A.F.ex
  have hb := A.b
  subst e
  exact (LamX.pe_lamcall (T := c.tb) (TT := TTw c M) (t := fun E σ H Q => ∃ g' : Gh, (g'.c = c ∧ g'.N = g.N) ∧ tE g' (fun cls d _ H => E cls d H) m σ H Q) hg A.g A.F.kp lk hcg hb Sg hNg hva (hG cdv) TB hcode hmT hu hr L hdef hbind
    (fun A outer s H E f c' hr => PE.ex (P := fun g' : Gh => g'.c = c ∧ g'.N = g.N) fun g' hg' => hbody A outer s H E f c' hr g' hg') hdb hd hcd).imp (lam_imp hc)
end
/-! ### the end of a law with tables -/
abbrev cfgT (K : PySem.W.Frag) (tf : List (He.Defn × Str)) : Cfg := ⟨K, fun x => He.ga K (Str.ofString x), tf.map fun p => ((He.cT K p.1).2, p.2)⟩
end VS
namespace VS
open PySem PySem.Spec PyProof.Rows L2
section
variable {X : Cx} {c : Cfg} {N : Nat} {rest : List Stmt} {u : TS}
theorem pre_nil (h : PSs X rest u) : PSs X rest (fun De σ H => ∃ g : Gh, (g.c = c ∧ g.N = N ∧ g.io.map (·.1) = [0]) ∧ tS g (fun _ _ _ _ => False) mNext { nx := u De, rt := fun _ _ => False } σ H) := h.imp fun De σ H ⟨g, _, sl, tm, s, q⟩ => q H σ sl s rfl
end
end VS

/-! VS, part I: list(range(n)), list.count. -/
namespace VS
open PySem PySem.Spec PyProof.Rows L2

/-! ### xs.count(y), flat things -/
section
variable {X : Cx}
end
section
variable {X : Cx} {g : Gh} {W : WX} {pos p p2 p3 : Pos} {a : Expr} {ma : Cm D} {oa : Opd}
/-- x.count(y) -/
def mCntL (i : Nat) (ma : Cm D) : Cm D := fun ρ => match ρ[i]? with
  | some (some (.lst _ _)) => (ma ρ).bind fun d ρ => match (ρ[i]?).join, d with
    | some (.lst _ xs), .sc z => match scs xs with
      | some l => .ok (.int (l.countP fun y => y.eqB z : Nat)) ρ
      | none => .stuck
    | _, _ => .stuck
  | _ => .stuck
@[simp] theorem mCntL_ (i : Nat) (ma : Cm D) (ρ : DE) : mCntL i ma ρ = match ρ[i]? with
  | some (some (.lst _ _)) => (ma ρ).bind fun d ρ => match (ρ[i]?).join, d with
    | some (.lst _ xs), .sc z => match scs xs with
      | some l => .ok (.int (l.countP fun y => y.eqB z : Nat)) ρ
      | none => .stuck
    | _, _ => .stuck
  | _ => .stuck := rfl
/-! ### list(range(n)) -/
def mListR (ma : Cm D) : Cm D := fun ρ => (ma ρ).bind fun d ρ => match d with
  | .sc (.int j) => if smallR j ∧ j.toNat ≤ 16777216 then .ok (.lst .own (rangeD 0 j.toNat)) ρ else .stuck
  | _ => .stuck
@[simp] theorem mListR_ (ma : Cm D) (ρ : DE) : mListR ma ρ = (ma ρ).bind fun d ρ => match d with
  | .sc (.int j) => if smallR j ∧ j.toNat ≤ 16777216 then .ok (.lst .own (rangeD 0 j.toNat)) ρ else .stuck
  | _ => .stuck := rfl
end
end VS

/-! VS, part J: an own list walked, its items taken out; x[m].clear(). -/
namespace VS
open PySem PySem.Spec PyProof.Rows L2

/-- what stays in a list where an item was taken out -/
def phD : D → D
  | .sc s => .sc s
  | _ => .exn "?" [] []
def takeL (v : Nat) (m : Cm Out) : List D → Cm Unit
  | [] => fun ρ => .ok () ρ
  | d :: ds => fun ρ => match m (ρ.set v (some d)) with
    | .ok .nx ρ' => takeL v m ds ρ'
    | _ => .stuck
/-- for v in i: the list i alone holds its items, which go over to v, one by one -/
def mForT (i v : Nat) (m : Cm Out) : Cm Out := fun ρ => match ρ[i]? with
  | some (some (.lst .own ds)) => match takeL v m ds (ρ.set i none) with
    | .ok _ ρ' => .ok .nx (ρ'.set i (some (.lst .own (ds.map phD))))
    | _ => .stuck
  | _ => .stuck
@[simp] theorem mForT_ (i v : Nat) (m : Cm Out) (ρ : DE) : mForT i v m ρ = match ρ[i]? with
  | some (some (.lst .own ds)) => match takeL v m ds (ρ.set i none) with
    | .ok _ ρ' => .ok .nx (ρ'.set i (some (.lst .own (ds.map phD))))
    | _ => .stuck
  | _ => .stuck := rfl
abbrev Gh.si (g : Gh) (i : Nat) (a : Addr) : Gh := { g with io := (i, .ref a) :: g.io }
theorem si_io {g : Gh} {i : Nat} {a : Addr} {l : List Nat} (h : g.io.map (·.1) = l) : (g.si i a).io.map (·.1) = i :: l := by simp [Gh.si, h]
section
variable {g : Gh} {W : WX} {H : Hp} {σ : L2.St} {sl : List (Option T)} {tm : List T}
theorem SR.inI {i : Nat} {a : Addr} (s : SR g H σ sl tm) (h : σ[i]? = some (some (.ref a))) : SR (g.si i a) H σ sl tm :=
  ⟨s.okS, s.okT, s.inv, s.prov, s.frame, s.len, s.slen, s.at_, fun p hp => by
    rcases List.mem_cons.mp hp with rfl | hp
    · exact h
    · exact s.io p hp, s.px, s.tabs⟩
theorem SR.outI {i : Nat} {a : Addr} (s : SR (g.si i a) H σ sl tm) : SR g H σ sl tm :=
  ⟨s.okS, s.okT, s.inv, s.prov, s.frame, s.len, s.slen, s.at_, fun p hp => s.io p (List.mem_cons_of_mem _ hp), s.px, s.tabs⟩
theorem _root_.L2.PG.ex {α : Type} {X : Cx} {tg : Expr} {t : α → TG} (h : ∀ x, PG X tg (t x)) : PG X tg (fun v σ H Q => ∃ x, t x v σ H Q) := ⟨fun pins s σ H v u Q I r q => by
  obtain ⟨x, q⟩ := q
  exact (h x).run pins s σ H v u Q I r q⟩
end
section
variable {X : Cx} {g : Gh} {W : WX} {pos : Pos} {iter tg : Expr} {body : List Stmt} {m : Cm Out} {i v : Nat}
/-! ### x[m].clear(), x a tuple -/
def mClrT (i : Nat) (mb : Cm D) : Cm D := fun ρ => match ρ[i]? with
  | some (some (.tup _)) => (mb ρ).bind fun j ρ => match ρ[i]?, j with
    | some (some (.tup xs)), .sc (.int k) => match ixN xs.length k with
      | some n => match xs[n]? with
        | some (.lst .own _) => .ok .non (ρ.set i (some (.tup (xs.set n (.lst .own [])))))
        | _ => .stuck
      | none => .stuck
    | _, _ => .stuck
  | _ => .stuck
@[simp] theorem mClrT_ (i : Nat) (mb : Cm D) (ρ : DE) : mClrT i mb ρ = match ρ[i]? with
  | some (some (.tup _)) => (mb ρ).bind fun j ρ => match ρ[i]?, j with
    | some (some (.tup xs)), .sc (.int k) => match ixN xs.length k with
      | some n => match xs[n]? with
        | some (.lst .own _) => .ok .non (ρ.set i (some (.tup (xs.set n (.lst .own [])))))
        | _ => .stuck
      | none => .stuck
    | _, _ => .stuck
  | _ => .stuck := rfl
end
end VS

/-! VS, part K: a test that gives a token out; replace behind it. -/
namespace VS
open PySem PySem.Spec PyProof.Rows L2

/-- an expression behind which a token is out -/
def PEK (X : Cx) (e : Expr) (t : TE) : Prop :=
  ∀ (pins : List (Addr × Obj)) (s : Shared) (σ : L2.St) (H : Hp) (Q : VK), Inv X pins σ H s → t σ H Q → wpAny (model X.prog X.w) X.A (eval e X.env) (fun v s' => 1 ≤ s'.toks ∧ EP X pins σ Q v s') X.xe s
def PTK (X : Cx) (e : Expr) (t : TT) : Prop :=
  ∀ (pins : List (Addr × Obj)) (s : Shared) (σ : L2.St) (H : Hp) (Q : Bool → Hp → Prop), Inv X pins σ H s → t σ H Q → wpAny (model X.prog X.w) X.A (isTrue e X.env (eval e X.env)) (fun b s' => 1 ≤ s'.toks ∧ TP X pins σ Q b s') X.xe s
def PSK (X : Cx) (st : Stmt) (t : TS) : Prop :=
  ∀ (pins : List (Addr × Obj)) (s : Shared) (σ : L2.St) (H : Hp) (D : Ends), Inv X pins σ H s → t D σ H → wpAny (model X.prog X.w) X.A (exec st X.env) (fun f s' => 1 ≤ s'.toks ∧ SP X pins D f s') X.xe s
section
variable {X : Cx} {st : Stmt} {sts rest : List Stmt} {t u : TS} {e f : Expr} {te tf : TE} {tc : TT} {pos : Pos}
theorem PEK.imp {t' : TE} (h : PEK X e te) (w : ∀ σ H Q, t' σ H Q → te σ H Q) : PEK X e t' := fun pins s σ H Q I q => h pins s σ H Q I (w σ H Q q)
theorem PTK.imp {t' : TT} (h : PTK X e tc) (w : ∀ σ H Q, t' σ H Q → tc σ H Q) : PTK X e t' := fun pins s σ H Q I q => h pins s σ H Q I (w σ H Q q)
theorem PSK.imp {t' : TS} (h : PSK X st t) (w : ∀ D σ H, t' D σ H → t D σ H) : PSK X st t' := fun pins s σ H D I q => h pins s σ H D I (w D σ H q)
theorem _root_.L2.PST.imp {t' : TS} (h : PST X st t) (w : ∀ D σ H, t' D σ H → t D σ H) : PST X st t' := fun pins s σ H D h0 I q => h pins s σ H D h0 I (w D σ H q)
theorem _root_.L2.PSsT.imp {t' : TS} (h : PSsT X sts t) (w : ∀ D σ H, t' D σ H → t D σ H) : PSsT X sts t' := fun pins s σ H D h0 I q => h pins s σ H D h0 I (w D σ H q)
theorem PSK.ps (h : PSK X st t) : PS X st t := ⟨fun pins s σ H D I q => thn (h pins s σ H D I q) fun _ _ z => z.2⟩
end

/-! ### the words -/
section
variable {X : Cx} {g : Gh} {W : WX} {pos : Pos} {a b c e : Expr} {es : List Expr} {ma mb mo : Cm D} {oa ob : Opd} {m m' : Cm Out} {mc : Cm Bool} {sa sb sts : List Stmt} {st : Stmt} {as : List (Cm D)}
/-- text + text, the left one behind a token -/
theorem _root_.L2.PAT.imp {t t' : TA} (h : PAT X es t) (w : ∀ σ H Q, t' σ H Q → t σ H Q) : PAT X es t' := fun pos pins s σ H Q h0 I q => h pos pins s σ H Q h0 I (w σ H Q q)
theorem _root_.L2.PAT.of {t : TA} (h : PA X es t) : PAT X es t := fun pos pins s σ H Q _ I q => h.run pos pins s σ H Q I q
section
variable {as : List Ag} {m : Cm D}
end

/-! ### replace by a text that is put together of two -/
end

/-! ### lstrip of signs -/
def lstripM : D → D → Option Sc
  | .sc (.str a), .sc (.str b) => some (.str (ldrop b.contains a))
  | _, _ => none
@[simp] theorem lstripM_ (a b : List Nat) : lstripM (.str a) (.str b) = some (.str (ldrop b.contains a)) := rfl
/-! ### text > text, text < text -/
def gtS : D → D → Option Sc
  | .sc (.str x), .sc (.str y) => some (.bl (decide (y < x)))
  | _, _ => none
def ltS : D → D → Option Sc
  | .sc (.str x), .sc (.str y) => some (.bl (decide (x < y)))
  | _, _ => none
@[simp] theorem gtS_ (x y : List Nat) : gtS (.str x) (.str y) = some (.bl (decide (y < x))) := rfl
@[simp] theorem ltS_ (x y : List Nat) : ltS (.str x) (.str y) = some (.bl (decide (x < y))) := rfl
end VS

/-! VS, part L: a text, or another; one of two defs called, picked by its place. -/
namespace VS
open PySem PySem.Spec PyProof.Rows L2
section
variable {X : Cx} {g : Gh} {W : WX} {pos : Pos} {a b e ie : Expr} {es rest : List Expr} {ma mb mi : Cm D} {as : List Ag}
/-- a text (or nothing), or another value -/
def mOrN (ma mb : Cm D) : Cm D := fun ρ => (ma ρ).bind fun d ρ => match d with
  | .sc (.str l) => if l.isEmpty then mb ρ else .ok (.str l) ρ
  | .sc .non => mb ρ
  | _ => .stuck
@[simp] theorem mOrN_ {ρ : DE} : mOrN ma mb ρ = (ma ρ).bind fun d ρ => match d with
  | .sc (.str l) => if l.isEmpty then mb ρ else .ok (.str l) ρ
  | .sc .non => mb ρ
  | _ => .stuck := rfl
/-! ### [f, g][i](..) -/
def mCallIx (MF MG : List D → RF) (mi : Cm D) (as : List Ag) : Cm D := fun ρ => (mi ρ).bind fun d ρ => match d with
  | .sc (.int i) => if i = 0 then mCall MF as ρ else if i = 1 then mCall MG as ρ else .stuck
  | _ => .stuck
@[simp] theorem mCallIx_ {MF MG : List D → RF} {ρ : DE} : mCallIx MF MG mi as ρ = (mi ρ).bind fun d ρ => match d with
  | .sc (.int i) => if i = 0 then mCall MF as ρ else if i = 1 then mCall MG as ρ else .stuck
  | _ => .stuck := rfl
end
end VS

/-! VS, part M: len(set(texts)), enumerate(range(a, b, c)). -/
namespace VS
open PySem PySem.Spec PyProof.Rows L2

/-! ### how many unlike things a list has -/
def dnA {α : Type} [DecidableEq α] : List α → List α → Nat
  | _, [] => 0
  | ys, x :: r => (if x ∈ ys then 0 else 1) + dnA (x :: ys) r
theorem dnA_le {α : Type} [DecidableEq α] : ∀ (l ys : List α), dnA ys l ≤ l.length
  | [], _ => Nat.le_refl _
  | x :: r, ys => by
    have := dnA_le r (x :: ys)
    simp only [dnA, List.length_cons]
    split <;> omega
theorem dnA_map {α β : Type} [DecidableEq α] [DecidableEq β] (f : α → β) (hf : ∀ a b, f a = f b → a = b) : ∀ (l ys : List α), dnA (ys.map f) (l.map f) = dnA ys l
  | [], _ => rfl
  | x :: r, ys => by
    have m : f x ∈ ys.map f ↔ x ∈ ys := ⟨fun h => by
      obtain ⟨y, hy, e⟩ := List.mem_map.1 h
      rw [← hf _ _ e]; exact hy, List.mem_map_of_mem⟩
    have ih := dnA_map f hf r (x :: ys)
    rw [List.map_cons] at ih
    simp only [dnA, List.map_cons, ih, m]
theorem dnA_all {α : Type} [DecidableEq α] : ∀ (l ys : List α), l.Nodup → (∀ x ∈ l, x ∉ ys) → dnA ys l = l.length
  | [], _, _, _ => rfl
  | x :: r, ys, h, q => by
    rw [List.nodup_cons] at h
    have ih := dnA_all r (x :: ys) h.2 fun y hy hz => by
      rcases List.mem_cons.1 hz with rfl | hz
      · exact h.1 hy
      · exact q y (by simp [hy]) hz
    rw [dnA, if_neg (q x (by simp)), ih, List.length_cons]
    omega

section
variable {prog : Program} {w : World} {A : Around} {R : Result → Shared → Prop} {I : Addr} {fp wr : List Addr} {G : Array GenState → Array GenState → Prop} {n : Nat} {P : Nat → Value → Prop} {St : Nat → Shared → Prop}
abbrev TxS (prog : Program) (w : World) (S : Addr) (l : List Str) (c : Nat) (h : Heap) : Prop := h.SetOf (PySem.strKind prog w) S (fun z => decide (z ∈ l)) c
theorem TxS.over {S : Addr} {l : List Str} {c : Nat} {h h2 : Heap} (x : TxS prog w S l c h) (k : ∀ o, h.get? S = some o → h2.get? S = some o) : TxS prog w S l c h2 := by
  obtain ⟨o, es, ep, tb, ho, r⟩ := x
  exact ⟨o, es, ep, tb, k o ho, r⟩
/-- the set at S takes what the iterator tells -/
theorem set_takes (wk : WalksS prog w A.in1 I fp wr G n P St) (S : Addr) (hS : S ∉ fp) (xs : List Str) (hx : xs.length = n) (hn : n ≤ 3000)
    (hv : ∀ i v, P i v → ∃ t, v = .str (xs.getD i Str.empty) t) :
    ∀ (rest done : List Str) (i c : Nat) (s : Shared), xs.drop i = rest → i ≤ n → n - i = rest.length → c + rest.length ≤ 3000 → St i s → TxS prog w S done c s.heap →
      (∀ s' l, Moved (S :: wr) G s s' → TxS prog w S l (c + dnA done rest) s'.heap → R (.ok (.ret .none)) s') →
      codeAny (model prog w) A (.builtin "set.update.loop" ⟨[.ref S, .ref I], []⟩) R s := by
  have nw : S ∉ wr := fun z => hS (wk.sub _ z)
  have sb : ∀ b ∈ wr, b ∈ S :: wr := fun b hb => List.mem_cons_of_mem _ hb
  intro rest
  induction rest with
  | nil =>
    intro done i c s er hi hl hc st x fin
    have : i = n := by simp only [List.length_nil] at hl; omega
    subst this
    refine codeAny_builtin PyProof.Rows.F.entry_set_update_loop ?_
    rw [Around.under_plainId PyProof.Rows.F.plain_set_update_loop _]
    show wpAny _ A.in1 (pyNext (.ref I) >>= _) _ _ s
    refine wpAny_bind (wk.done s _ _ st fun s2 mv => ?_)
    show wpAny _ A.in1 (ret Value.none) _ _ s2
    exact wpAny_pure (fin s2 done (mv.mono sb) (x.over fun o ho => mv.heap S o nw ho))
  | cons y rest ih =>
    intro done i c s er hi hl hc st x fin
    simp only [List.length_cons] at hl hc
    have lt : i < n := by omega
    have ey : xs.getD i Str.empty = y := by
      have z : xs[i]? = some y := by
        have := congrArg (fun l => l[0]?) er
        simpa using this
      rw [List.getD_eq_getElem?_getD, z]; rfl
    have er2 : xs.drop (i + 1) = rest := by
      have := congrArg (List.drop 1) er
      simpa using this
    refine codeAny_builtin PyProof.Rows.F.entry_set_update_loop ?_
    rw [Around.under_plainId PyProof.Rows.F.plain_set_update_loop _]
    show wpAny _ A.in1 (pyNext (.ref I) >>= _) _ _ s
    refine wpAny_bind (wk.item i s _ _ lt st fun v s2 pv st2 mv => ?_)
    obtain ⟨t, rfl⟩ := hv i v pv
    rw [ey]
    have x2 : TxS prog w S done c s2.heap := x.over fun o ho => mv.heap S o nw ho
    show wpAny _ A.in1 (holding [Value.str y t] (setAdd S (.str y t)) >>= _) _ _ s2
    refine wpAny_bind (wpAny_holding ?_)
    unfold setAdd
    refine wpAny_holding (wpAny_bind ((PySem.strKind prog w).pyHash (k := y) (strKind_is _ _ _ _) ?_))
    refine wpAny_setAddHashed_of (knd := PySem.strKind prog w) (s := { s2 with toks := s2.toks + 1 }) (strKind_is _ _ _ _) rfl x2 (by unfold scanBound; omega) fun h3 bt x3 => ?_
    have x4 : TxS prog w S (y :: done) (c + if y ∈ done then 0 else 1) h3 := SetOf_congr x3 (fun z => by by_cases e : z = y <;> by_cases e2 : z ∈ done <;> simp [e, e2]) (by by_cases e : y ∈ done <;> simp [e])
    refine wpAny_pure ⟨plainId_quiet PyProof.Rows.F.plain_set_update_loop _, ih (y :: done) (i + 1) (c + if y ∈ done then 0 else 1) _ er2 lt (by omega) (by split <;> omega) (wk.frame _ s2 _ _ st2 (Nat.le_succ _) fun b hb o e => ?_) x4 fun s4 l m4 x5 => ?_⟩
    · rw [bt.2 b fun z => hS (z ▸ hb)]; exact e
    · refine fin s4 l (Moved.trans wk.gtrans ((mv.mono sb).then_heap (Nat.le_succ _) fun b o hb e => ?_) m4) (by rw [dnA, ← Nat.add_assoc]; exact x5)
      rw [bt.2 b fun z => hb (z ▸ List.mem_cons_self)]; exact e
end
section
variable {prog : Program} {w : World} {A : Around} {E : Value → Shared → Prop} {s : Shared}
/-- the empty set just made, and the list's iterator behind it -/
abbrev sE (led : Bool) : Obj := { cls := .type "set", dict := none, data := .set #[] 0 (.fresh 0 0 led) }
set_option maxHeartbeats 3200000 in
theorem call_set_texts {l : Addr} {items : Array Value} {xs : List Str} {Q : Value → Shared → Prop} (hh : A.handled = none) (hl : s.heap.IsList l items) (hi : PyProof.Rows.StrsAre items.toList xs) (hn : xs.length ≤ 3000)
    (h : ∀ (h2 : Heap) (tk : Nat) (m : List Str), TxS prog w s.heap.objs.size m (dnA [] xs) h2 → (∀ b o, b < s.heap.objs.size → s.heap.get? b = some o → h2.get? b = some o) → Q (.ref s.heap.objs.size) { s with heap := h2, toks := tk }) :
    wpAny (model prog w) A (call (.type "set") [.ref l]) Q E s := by
  have made := PySem.F.called_set.made
  have sub := PySem.F.called_set.sub
  have nty := PySem.F.called_set.notType
  have can := PySem.F.called_set.canCreate
  have tyc := PySem.F.typeCall_set_1 (.ref l)
  obtain ⟨mc, mt, mro⟩ := PySem.F.called_set.mro
  refine wpAny_call (codeAny_of_tree ?_)
  show wpAny _ _ (callAny (.type "set") _) _ _ _
  refine wpAny_pure ⟨Code.quiet_builtin _ (by decide +kernel), codeAny_builtin PySem.F.entry_type_call ?_⟩
  rw [Around.under_plain (weight_type_call_type "set" [.ref l] []) rfl]
  repeat (any_goals (first | assumption | wp_step))
  refine codeAny_mono (code_set_new_1 (.ref l) (E := E) (Q₁ := fun ob s2 => ∃ led, ob = .ref s.heap.objs.size ∧ s2 = { s with heap := s.heap.push (sE led) }) fun led => ⟨led, rfl, rfl⟩) fun r s2 hr => ?_
  match r, hr with
  | .error e, hr => exact hr
  | .ok .next, hr => exact hr.elim
  | .ok .brk, hr => exact hr.elim
  | .ok .cont, hr => exact hr.elim
  | .ok (.ret ob), hr =>
    obtain ⟨led, rfl, rfl⟩ := hr
    have gS : (s.heap.push (sE led)).get? s.heap.objs.size = some (sE led) := Heap.get?_push_size _ rfl
    have tS : Shared.TypeIs { s with heap := s.heap.push (sE led) } (.ref s.heap.objs.size) "set" := ⟨_, gS, rfl⟩
    have il := PySem.F.called_set.init.lookup
    have ib := PySem.F.called_set.init.bind (.ref s.heap.objs.size)
    repeat (any_goals (first | assumption | wp_step))
    refine codeAny_mono (codeAny_call_builtin (R := wants (fun r s3 => r = .none ∧ ∃ h2 tk m, s3 = { s with heap := h2, toks := tk } ∧ TxS prog w s.heap.objs.size m (dnA [] xs) h2 ∧ ∀ b o, b < s.heap.objs.size → s.heap.get? b = some o → h2.get? b = some o) E)
      PySem.F.called_set.init.plain PySem.F.entry_set_init (check_set_init_1 tS ?_)) fun r2 s3 hr2 => ?_
    · obtain ⟨⟨oc, od, oa, os⟩, ho, e1, nl, e2⟩ := hl
      simp only at e1 e2
      subst e1 e2
      have lS : l < s.heap.objs.size := Heap.lt_size ho
      have ho2 : (s.heap.push (sE led)).get? l = some { cls := .type "list", dict := od, data := .seq items nl, slots := os } := Heap.get?_push_of_some _ ho
      have n1 := PySem.F.sub_list_set
      have n2 := PySem.F.sub_list_frozenset
      have n3 : (Value.type "list" == Value.type "dict") = false := by decide
      have il2 : (s.heap.push (sE led)).IsList l items := ⟨_, ho2, rfl, nl, rfl⟩
      unfold Builtin.«set.__init__» noKeywords Builtin.Frozenset.updateFrom
      generalize hp : pyIter = pI
      wp_walk
      subst hp
      refine wpAny_pyIter_list il2 (wpAny_bind (wpAny_runValue ?_))
      have ne : l ≠ (s.heap.push (sE led)).objs.size := by rw [Heap.size_push]; exact Nat.ne_of_lt (Nat.lt_succ_of_lt lS)
      have nf : s.heap.objs.size ∉ [(s.heap.push (sE led)).objs.size, l] := by
        rw [Heap.size_push]
        simp only [List.mem_cons, List.not_mem_nil, or_false, not_or]
        exact ⟨Nat.ne_of_lt (Nat.lt_succ_self _), Nat.ne_of_gt lS⟩
      have sz : xs.length = items.size := by rw [← StrsAre.len_eq hi, Array.length_toList]
      refine set_takes ((Walks.list (show A.in1.in1.in1.handled = none by simp [hh]) _ l ne items).toS) s.heap.objs.size nf xs sz (by omega) (fun i v hv => SS.strs_at hi i v (by rw [Array.getElem?_toList]; exact hv))
        xs [] 0 0 _ rfl (Nat.zero_le _) (by omega) (by omega) ⟨⟨_, Heap.get?_push_size _ rfl, rfl, rfl⟩, il2.push _⟩ ?_ ?_
      · exact SetOf_congr ((setObjOf_fresh (knd := PySem.strKind prog w) led).setOf (Heap.get?_push_of_some _ gS) (by unfold scanBound; omega)) (fun _ => by simp) rfl
      · rintro ⟨h2, g2, d2, tk, o2⟩ m mv x
        obtain rfl : g2 = s.gens := mv.gens
        obtain rfl : d2 = s.drawn := mv.drawn
        obtain rfl : o2 = s.os := mv.os
        rw [Nat.zero_add] at x
        show wpAny _ _ _ _ _ _
        refine wpAny_pure ?_
        show wpAny _ _ (ret Value.none) _ _ _
        refine wpAny_pure ⟨rfl, h2, tk, m, rfl, x, fun b o hb e => mv.heap b o ?_ (Heap.get?_push_of_some _ (Heap.get?_push_of_some _ e))⟩
        rw [Heap.size_push]
        simp only [List.mem_cons, List.not_mem_nil, or_false, not_or]
        exact ⟨Nat.ne_of_lt hb, Nat.ne_of_lt (Nat.lt_succ_of_lt hb)⟩
    · match r2, hr2 with
      | .error e, hr2 => exact hr2
      | .ok .next, hr2 => exact hr2.elim
      | .ok .brk, hr2 => exact hr2.elim
      | .ok .cont, hr2 => exact hr2.elim
      | .ok (.ret z), hr2 =>
        obtain ⟨rfl, h2, tk, m, rfl, x, k⟩ := hr2
        repeat (any_goals (first | assumption | wp_step))
        exact h _ _ m x k
end
end VS

/-! VS, part N: the words of part M. -/
namespace VS
open PySem PySem.Spec PyProof.Rows L2
section
variable {X : Cx}
def tDist (K : PySem.W.Frag) (ta : TE) : TE := fun σ H Q => ta σ H fun x H1 => ∃ l, ∃ xs : List Str, x = .ref l ∧ SqL K H1 l (xs.map V.str) ∧ xs.length ≤ 3000 ∧ Q (.int (dnA [] xs : Nat)) H1
theorem pe_dist {a : Expr} {ta : TE} {p p2 q pos : Pos} (hc : X.calm = true) (gl : Gl X "len") (ml : X.mg "len" = none) (gs : Gl X "set") (ms : X.mg "set" = none) (ha : PE X a ta)
    (na : starEach [a] X.env = (false, eval a X.env) :: starEach [] X.env := by rfl) : PE X (.Call (.Name "len" p) [.Call (.Name "set" p2) [a] [] q] [] pos) (tDist X.K ta) := by
  refine ⟨fun pins s σ H Q I h => Call_ (ld_blt I gl ml boot_len (PyProof.Rows.callWith_builtin1 (PyProof.Rows.args_cons (Call_ (ld_blt I gs ms boot_set ?_)) rfl) rfl rfl))⟩
  refine PyProof.Rows.callWith_type1 (PyProof.Rows.args_cons (thn (ha.run pins s σ H _ I h) fun v s2 ⟨x, H2, I2, rx, qx⟩ => PyProof.Rows.args_nil ?_) na) na rfl
  obtain ⟨l, xs, rfl, hq, lx, qx⟩ := qx
  cases rx
  obtain ⟨its, rv, pl, hz⟩ := I2.list hq
  refine call_set_texts (I2.ok.hd hc) pl.isList (by simpa using strsAre_of rv) lx fun h3 tk m x k => PyProof.Rows.args_nil ?_
  obtain ⟨o, es, ep, t, ho, hex, hd, _, _, _, hf, hn⟩ := x
  have le := dnA_le xs []
  have I3 : Inv X pins σ H2 { s2 with heap := h3, toks := tk } := I2.kept fun b o e => k b o (Heap.lt_size e) e
  exact call_len_set ho hex hd hf (by rw [hn]; omega) ⟨.int (dnA [] xs : Nat), H2, I3.tok _, ⟨_, by rw [hn]⟩, qx⟩
end
section
variable {X : Cx} {g : Gh} {W : WX} {pos : Pos} {a : Expr} {ma : Cm D}
/-- len(set(a)) of texts -/
def mDist (ma : Cm D) : Cm D := fun ρ => (ma ρ).bind fun d ρ => match d with
  | .lst _ xs => match strL xs with
    | some l => if l.length ≤ 3000 then .ok (.int (dnA [] l : Nat)) ρ else .stuck
    | none => .stuck
  | _ => .stuck
@[simp] theorem mDist_ (ma : Cm D) (ρ : DE) : mDist ma ρ = (ma ρ).bind fun d ρ => match d with
  | .lst _ xs => match strL xs with
    | some l => if l.length ≤ 3000 then .ok (.int (dnA [] l : Nat)) ρ else .stuck
    | none => .stuck
  | _ => .stuck := rfl
theorem e_dist {p p2 q : Pos} (hK : X.K = g.c.K) (hc : X.calm = true) (gl : Gl X "len") (ml : X.mg "len" = none) (gs : Gl X "set") (ms : X.mg "set" = none) (ha : PE X a (tE g W ma))
    (na : starEach [a] X.env = (false, eval a X.env) :: starEach [] X.env := by rfl) : PE X (.Call (.Name "len" p) [.Call (.Name "set" p2) [a] [] q] [] pos) (tE g W (mDist ma)) := (pe_dist hc gl ml gs ms ha na).imp fun σ H Q ⟨sl, tm, s, h⟩ => by
  refine tE.of s h fun H1 sl1 t s1 h1 => ?_
  cases t with
  | lst p o xs =>
    simp only [T.d] at h1
    split at h1
    · rename_i l hl
      split at h1
      · rename_i hz
        have kk := lst_sq s1.top
        obtain ⟨e1, e2⟩ := strL_ok kk.2.2 hl
        refine ⟨p, l.map fun z => ⟨z.toArray⟩, rfl, ?_, by simpa using hz, ?_⟩
        · rw [hK, ← e1]; exact kk.1
        · have e3 : dnA [] (l.map fun z => (⟨z.toArray⟩ : Str)) = dnA [] l := dnA_map (fun z : List Nat => (⟨z.toArray⟩ : Str)) (fun a b e => by
            have := congrArg (fun s : Str => s.cps.toList) e
            simpa using this) l []
          rw [e3]
          exact h1 H1 sl1 _ (s1.pop.push (.int (dnA [] l : Nat)) trivial) rfl rfl
      · exact h1.elim
    · exact h1.elim
  | _ => exact h1.elim
end
/-! ### enumerate(range(a, b, c)) -/
theorem Draws.rangeC {prog : Program} {w : World} {A : Around} (hh : A.handled = none) (it : Addr) (lo c : Int) (n : Nat) :
    Draws prog w A it [it] n (fun i v => ∃ t, v = .int (lo + (i : Nat) * c) t) (fun i h => IsRangeIter h it (lo + (i : Nat) * c) ((n : Int) - (i : Nat)) c) where
  live := fun i h st => ⟨_, st⟩
  frame := fun i h h2 st k => k it (by simp) _ st
  item := fun i s Q E hi st hQ => by
    unfold Builtin.SmallTypes.nextOf
    refine wpAny_bind (CpRep.range_item st (by omega) fun h2 st2 sb => wpAny_pure (hQ _ h2 (s.toks + 1) ⟨s.toks, rfl⟩ ?_ sb))
    rw [show lo + ((i + 1 : Nat) : Int) * c = lo + (i : Int) * c + c by rw [Int.natCast_add, Int.add_mul]; simp [Int.add_assoc], show (n : Int) - ((i + 1 : Nat) : Int) = (n : Int) - (i : Int) - 1 by omega]
    exact st2
  done := fun s Q E st hE => by
    unfold Builtin.SmallTypes.nextOf
    refine wpAny_bind (CpRep.range_end hh st (by omega) fun e h2 se eb => ?_)
    obtain ⟨a, o, vs, rfl, ho, hc, _⟩ := se
    exact hE h2 a eb ⟨o, ho, hc⟩
theorem begins_rangeC (r : Addr) (a b c : Int) (t u v : Tok) (sm : Builtin.Range.small a b c = true) : Begins (.ref r) { cls := .type "range_iterator", data := .fields #[rawInt a, rawInt (Builtin.Range.rangeSize a b c), rawInt c] } fun h => IsRange h r a b c t u v where
  iter := fun prog w A E s Q hr h => wpAny_pyIter_range hr sm h
  keeps := fun h h2 x k => k r _ x
  free := rfl
def IteC (lo c : Int) (n : Nat) : It :=
  ⟨fun i _ => i < n, fun i H v H2 => ∃ T, v = .ref T ∧ H T = none ∧ H2 = upd H T (.tup [.int (i : Nat), .int (lo + (i : Nat) * c)]), fun i _ => n ≤ i⟩
theorem turn_enumC {P : Program} {w : World} {K : PySem.W.Frag} {elts : List Expr} {kk : Nat} {tpos : Pos} (lo c : Int) (n : Nat) (e it : Addr) :
    Turn P w K (.Tuple elts kk tpos) (IteC lo c n) [e, it] e (fun i h => i ≤ n ∧ (∃ old, IsEnum h e it ((i : Nat) : Int) old) ∧ IsRangeIter h it (lo + (i : Nat) * c) ((n : Int) - (i : Nat)) c ∧ e ≠ it) where
  mem := by simp
  obj := fun i h st b hb => by
    obtain ⟨_, ⟨old, he⟩, hr, _⟩ := st
    simp only [List.mem_cons, List.not_mem_nil, or_false] at hb
    rcases hb with rfl | rfl
    · exact ⟨_, he, fun v q => nomatch q⟩
    · exact ⟨_, hr, fun v q => nomatch q⟩
  keep := fun i h h2 st k => ⟨st.1, let ⟨old, he⟩ := st.2.1; ⟨old, k e (by simp) _ he⟩, k it (by simp) _ st.2.2.1, st.2.2.2⟩
  item := by
    intro X hP hw hK hc i pins s σ H E I hf st hg
    subst hP hw hK
    obtain ⟨hi, ⟨old, he⟩, hr, hne⟩ := st
    have hlt : i < n := hg
    have le : e < s.heap.objs.size := Heap.lt_size he
    have li : it < s.heap.objs.size := Heap.lt_size hr
    refine wpAny_pyNext_enum_itemD (Draws.rangeC (A := X.A.in1) (I.ok.hd hc) it lo c n) he hr hlt hne (by simp [hne]) fun y h2 tk hy ho st2 hT hsz hk => ?_
    obtain ⟨u, rfl⟩ := hy
    refine ⟨_, rfl, wpAny_letOwnedTupleGo_enum (s := { s with heap := h2, toks := tk + 1 }) ho fun h3 he3 sb => ?_⟩
    have hT3 : h3.get? s.heap.objs.size = some { cls := .type "tuple", data := .seq #[.int i tk, .int (lo + (i : Nat) * c) u] } := (sb.2 _ (Nat.ne_of_gt le)).trans hT
    have new : ObjOk X.prog X.w (upd H s.heap.objs.size (.tup [.int (i : Nat), .int (lo + (i : Nat) * c)])) h3 s.heap.objs.size (.tup [.int (i : Nat), .int (lo + (i : Nat) * c)]) :=
      ⟨by show 2 ≤ sizeLine; decide, [.int i tk, .int (lo + (i : Nat) * c) u], .cons ⟨_, rfl⟩ (.cons ⟨_, rfl⟩ .nil), ⟨_, hT3, rfl, _, rfl⟩⟩
    have I1 : Inv X pins σ (upd H s.heap.objs.size (.tup [.int (i : Nat), .int (lo + (i : Nat) * c)])) { s with heap := h3, toks := tk + 1 } :=
      I.turnedNew (ch := [e, it]) (fun b ob hb q => (sb.2 b fun z => hb (by simp [z])).trans (hk b ob (fun z => hb (by simp [z])) (fun z => hb (by simp [z])) q)) hf (Nat.le_refl _) new
    refine ⟨.ref s.heap.objs.size, _, I1, rfl, ⟨_, rfl, I.hok.fresh (Nat.le_refl _), rfl⟩, ⟨hlt, ⟨.int (lo + (i : Nat) * c) u, ?_⟩, (sb.2 it (Ne.symm hne)).trans st2, hne⟩, fun b hb => ?_⟩
    · rw [show ((i + 1 : Nat) : Int) = (i : Int) + 1 by omega]; exact he3
    · have lb : b < s.heap.objs.size := by
        simp only [List.mem_cons, List.not_mem_nil, or_false] at hb
        rcases hb with rfl | rfl
        · exact le
        · exact li
      rw [upd_ne (Nat.ne_of_lt lb)]
      exact (hf b hb).1
  done := by
    intro X hP hw hK hc i pins s σ H E I hf st hg
    subst hP hw hK
    obtain ⟨hi, ⟨old, he⟩, hr, hne⟩ := st
    obtain ⟨f0, f1, f2, f3, f4, f5⟩ := hf it (by simp)
    have e2 : i = n := Nat.le_antisymm hi hg
    subst e2
    exact wpAny_pyNext_enum_endD (Draws.rangeC (A := X.A.in1) (I.ok.hd hc) it lo c i) he hr fun h2 eb => ⟨rfl, I.turned (t' := s.toks) (fun b o hb q => eb b o hb q) f0 f1 f3 f4 f5⟩
  self := fun A i s Q E st h => let ⟨_, ⟨_, he⟩, _⟩ := st; wpAny_pyIter_enum he h
def iEnumC (ta : TA) : TI := fun σ H R => ta σ H fun vs H1 => ∃ (i j c : Int) (n : Nat), vs = [.int i, .int j, .int c] ∧ RgC i j c n ∧ R (IteC i c n) H1
theorem pi_enumC {X : Cx} {a b c : Expr} {ta : TA} {p p2 pos pos2 tpos : Pos} {elts : List Expr} {kk : Nat} (he : Gl X "enumerate") (me : X.mg "enumerate" = none) (hg : Gl X "range") (hm : X.mg "range" = none) (ha : PA X [a, b, c] ta)
    (hs : starEach [a, b, c] X.env = (false, eval a X.env) :: starEach [b, c] X.env := by rfl) (hpl : (backTo pos2 (starEach [b, c] X.env)).any (·.1) = false := by rfl)
    (na : starEach [.Call (.Name "range" p2) [a, b, c] [] pos2] X.env = (false, eval (.Call (.Name "range" p2) [a, b, c] [] pos2) X.env) :: starEach [] X.env := by rfl) :
    PI X (.Tuple elts kk tpos) (.Call (.Name "enumerate" p) [.Call (.Name "range" p2) [a, b, c] [] pos2] [] pos) (iEnumC ta) := by
  refine ⟨fun pins s σ H R I h => Call_ (ld_blt I he me boot_enumerate (PyProof.Rows.callWith_type1 (PyProof.Rows.args_cons (Call_ (ld_blt I hg hm boot_range ?_)) na) na rfl))⟩
  refine PyProof.Rows.callWith_type1 (thn (ha.run pos2 pins s σ H _ I h) fun us s1 ⟨vs, H1, I1, r1, q1⟩ => ?_) hs hpl
  obtain ⟨i, j, k, n, rfl, ⟨c0, c1, c2, c3⟩, q⟩ := q1
  obtain ⟨u1, u2, u3, ⟨t, rfl⟩, ⟨t2, rfl⟩, ⟨t3, rfl⟩, rfl⟩ : ∃ u1 u2 u3, RelV (.int i) u1 ∧ RelV (.int j) u2 ∧ RelV (.int k) u3 ∧ us = [u1, u2, u3] := by
    cases r1 with
    | cons r rr =>
      cases rr with
      | cons r2 rr =>
        cases rr with
        | cons r3 rr =>
          cases rr
          exact ⟨_, _, _, r, r2, r3, rfl⟩
  · skip
    refine call_range_3 c0 (PyProof.Rows.args_nil ?_) (.inl (PyProof.noPylong_small c1))
    have kp : ∀ b o, s1.heap.get? b = some o → (s1.heap.push { cls := .type "range", data := .fields #[.int i t, .int j t2, .int k t3] }).get? b = some o := fun b o e => Heap.get?_push_of_some _ e
    have hr : IsRange (s1.heap.push { cls := .type "range", data := .fields #[.int i t, .int j t2, .int k t3] }) s1.heap.objs.size i j k t t2 t3 := Heap.get?_push_size _ rfl
    have I2 : Inv X pins σ H1 { s1 with heap := s1.heap.push { cls := .type "range", data := .fields #[.int i t, .int j t2, .int k t3] } } := I1.kept (t' := s1.toks) kp
    generalize s1.heap.push { cls := .type "range", data := .fields #[.int i t, .int j t2, .int k t3] } = h2 at *
    refine call_enumT (s := { s1 with heap := h2 }) (begins_rangeC s1.heap.objs.size i j k t t2 t3 c2) hr fun h3 he3 hit hsz hk => wpAny_pyIter_enum he3 ?_
    have I3 : Inv X pins σ H1 { s1 with heap := h3 } := I2.kept (t' := s1.toks) hk
    refine ⟨h2.objs.size + 1, [h2.objs.size + 1, h2.objs.size], _, _, H1, rfl, I3, turn_enumC i k n (h2.objs.size + 1) h2.objs.size, ⟨Nat.zero_le _, ⟨.none, he3⟩, ?_, Nat.succ_ne_self _⟩, fun b hb => ?_, q⟩
    · show IsRangeIter _ _ (i + ((0 : Nat) : Int) * k) ((n : Int) - ((0 : Nat) : Int)) k
      rw [show i + ((0 : Nat) : Int) * k = i by simp, show (n : Int) - ((0 : Nat) : Int) = Builtin.Range.rangeSize i j k by rw [c3]; simp]
      exact hit
    · have hle : h2.objs.size ≤ b := by
        simp only [List.mem_cons, List.not_mem_nil, or_false] at hb
        rcases hb with rfl | rfl
        · exact Nat.le_add_right _ _
        · exact Nat.le_refl _
      exact I2.fpOk hle (I2.hok.fresh hle)
section
variable {X : Cx} {g : Gh} {W : WX} {pos : Pos} {a b c e : Expr} {ma mb mc : Cm D}
theorem it_enumC {lo c : Int} {n : Nat} : ItOk g (IteC lo c n) [] (enumD (stepD lo c n)) where
  stop := fun H σ sl tm s => by simp [IteC, enumD_len, stepD]
  go := fun i d H σ sl tm s h => by
    unfold enumD stepD at h
    rw [List.getElem?_mapIdx, List.getElem?_map, Option.map_map, Option.map_eq_some_iff] at h
    obtain ⟨k, hk, rfl⟩ := h
    have hlt : i < n := by
      by_cases q : i < n
      · exact q
      · rw [List.getElem?_eq_none (by simp; omega)] at hk; cases hk
    rw [List.getElem?_range hlt] at hk
    cases hk
    refine ⟨hlt, fun x H2 hy => ?_⟩
    obtain ⟨T2, rfl, hT, rfl⟩ := hy
    exact enum_pair s (s.push (.int (lo + (i : Int) * c)) trivial) hT
def mEnumR (ma mb mc : Cm D) : Cm (List D) := fun ρ => (ma ρ).bind fun d ρ => (mb ρ).bind fun d2 ρ => (mc ρ).bind fun d3 ρ => match d, d2, d3 with
  | .sc (.int i), .sc (.int j), .sc (.int c) => if c ≠ 0 ∧ c.natAbs < 1073741824 ∧ Builtin.Range.small i j c = true then .ok (enumD (stepD i c (Builtin.Range.rangeSize i j c).toNat)) ρ else .stuck
  | _, _, _ => .stuck
theorem i_enumR {elts : List Expr} {kk : Nat} {tpos p p2 pos2 : Pos} (he : Gl X "enumerate") (me : X.mg "enumerate" = none) (hg : Gl X "range") (hm : X.mg "range" = none) (ha : PA X [a, b, c] (tA g W [ma, mb, mc]))
    (hs : starEach [a, b, c] X.env = (false, eval a X.env) :: starEach [b, c] X.env := by rfl) (hpl : (backTo pos2 (starEach [b, c] X.env)).any (·.1) = false := by rfl)
    (na : starEach [.Call (.Name "range" p2) [a, b, c] [] pos2] X.env = (false, eval (.Call (.Name "range" p2) [a, b, c] [] pos2) X.env) :: starEach [] X.env := by rfl) :
    PI X (.Tuple elts kk tpos) (.Call (.Name "enumerate" p) [.Call (.Name "range" p2) [a, b, c] [] pos2] [] pos) (tI g W (mEnumR ma mb mc)) := (pi_enumC he me hg hm ha hs hpl na).imp fun σ H R ⟨sl, tm, s, q⟩ => by
  refine tA3 s q fun H2 sl2 t u v s2 h2 => ?_
  cases t with
  | sc x =>
    cases x with
    | int i =>
      cases u with
      | sc y =>
        cases y with
        | int j =>
          cases v with
          | sc z =>
            cases z with
            | int k =>
              simp only [T.d] at h2
              split at h2
              · rename_i hc
                have nn := PyProof.Rows.rangeSize_toNat i j k
                refine ⟨i, j, k, _, rfl, ⟨hc.1, hc.2.1, hc.2.2, nn⟩, ?_⟩
                exact h2 H2 sl2 [] _ (s2.pop.pop.pop) rfl it_enumC
              · exact h2.elim
            | _ => exact h2.elim
          | _ => exact h2.elim
        | _ => exact h2.elim
      | _ => exact h2.elim
    | _ => exact h2.elim
  | _ => exact h2.elim
end
theorem enumR_ok {ma mb mc : Cm D} {ρ ρ1 ρ2 ρ3 : DE} {n c N : Nat} (h1 : ma ρ = .ok (.int 0) ρ1) (h2 : mb ρ1 = .ok (.int n) ρ2) (h3 : mc ρ2 = .ok (.int c) ρ3) (hc : 0 < c) (hc2 : c ≤ 1000) (hn : n ≤ 500000) (hN : (n + c - 1) / c = N) : mEnumR ma mb mc ρ = .ok (enumD (stepD 0 c N)) ρ3 := by
  have q := range3_ok h1 h2 h3 hc hc2 hn hN
  unfold mRange3 at q
  unfold mEnumR
  rw [h1, VS.R.bind_ok, h2, VS.R.bind_ok, h3, VS.R.bind_ok] at q ⊢
  simp only at q ⊢
  split at q
  · rename_i hh
    rw [if_pos hh]
    injection q with q
    rw [q]
  · cases q
end VS

/-! VS, part O: a comprehension over an own list, which is held the while. -/
namespace VS
open PySem PySem.Spec PyProof.Rows L2
section
variable {g : Gh} {W : WX}
theorem lc_held {f : D → Cm Unit} {t : Cm Bool} {e : Cm D} {vs : List Nat} (hnd : vs.Nodup) (hio : ∀ p ∈ g.io, p.1 ∉ vs) {gt : TG} {tt : TT} {te : TE}
    (hg : ∀ (v : V) (σ : L2.St) (H : Hp) (Q : L2.St → Hp → Prop), tG g W0 f v (L2.wipe σ vs) H (fun σ2 H2 => L2.wipe σ2 vs = L2.wipe σ vs → Q σ2 H2) → gt v (L2.wipe σ vs) H fun σ2 H2 => L2.wipe σ2 vs = L2.wipe σ vs ∧ Q σ2 H2)
    (ht : ∀ σ H Q, tT g W0 t σ H Q → tt σ H Q) (he : ∀ σ H Q, tE g W0 e σ H Q → te σ H Q)
    {J : It} {hd tm : List T} {ds : List D} {H1 : Hp} {σ : L2.St} {sl1 : List (Option T)} {Q : VK} (hJ : ItOk g J hd ds) (s1 : SR g H1 σ sl1 (hd ++ tm)) {ss : List (Option Sc)} (hss : saved (den sl1) vs = some ss) (hz : ds.length ≤ 16777216)
    (h : Lands g W tm ((unexc (lcL f t e vs ds (wipeD (den sl1) vs))).bind fun r ρ => R.ok (D.lst .own r) (restD ρ vs ss)) (fun d ρ' => ∀ H' sl' t, SR g H' σ sl' (t :: (hd ++ tm)) → den sl' = ρ' → t.d = d → Q t.v H'))
    (Dd : Addr) (hD : H1 Dd = none) : ∃ Wn : Nat → Nat → Hp → Prop, (∃ m, Wn 0 m (upd H1 Dd (.lst []))) ∧ ∀ i m H, Wn i m H →
      (J.stop i H ∧ Q (.ref Dd) H) ∨ (J.go i H ∧ ∃ Nx : Hp → Prop, (∀ H', Nx H' → ∃ m', m' < m ∧ Wn (i + 1) m' H') ∧ ∀ x H', J.yld i H x H' → gt x (L2.wipe σ vs) H' fun σ2 H2 => L2.wipe σ2 vs = L2.wipe σ vs ∧ tt σ2 H2 fun b H3 =>
        if b = true then te σ2 H3 fun y H4 => ∃ acc, H4 Dd = some (.lst acc) ∧ acc.length < sizeLine ∧ Nx (upd H4 Dd (.lst (acc ++ [y]))) else Nx H3) := by
  obtain ⟨hl, hsv⟩ := saved_ok s1 hss
  -- the new list, held
  have s2 : SR g (upd H1 Dd (.lst [])) σ sl1 (T.lst Dd .own [] :: (hd ++ tm)) := by
    have := s1.newL (xs := []) (tm := hd ++ tm) (ts := []) hD (by simp) (by simp [Ts.ok]) (fun a => by simp [Ts.oc, Ts.sh])
    simpa using this
  have reorder : ∀ {H σ sl} {acc : List T}, SR g H σ sl (T.lst Dd .own acc :: (hd ++ tm)) → SR g H σ sl (hd ++ (T.lst Dd .own acc :: tm)) := fun {H σ sl acc} s => s.tmp (by
    have := s.okT
    rw [Ts.ok_iff] at this ⊢
    intro u m
    exact this u (by simp at m ⊢; rcases m with m | m | m <;> simp [m])) fun a => by simp only [Ts.oc, Ts.sh, Ts.oc_append, Ts.sh_append]; omega
  have reorder' : ∀ {H σ sl} {acc : List T} {u : T}, SR g H σ sl (u :: (hd ++ (T.lst Dd .own acc :: tm))) → SR g H σ sl (u :: T.lst Dd .own acc :: (hd ++ tm)) := fun {H σ sl acc u} s => s.tmp (by
    have := s.okT
    rw [Ts.ok_iff] at this ⊢
    intro u m
    exact this u (by simp at m ⊢; rcases m with m | m | m | m <;> simp [m])) fun a => by simp only [Ts.oc, Ts.sh, Ts.oc_append, Ts.sh_append]; omega
  have reorder1 : ∀ {H σ sl} {acc : List T}, SR g H σ sl (hd ++ (T.lst Dd .own acc :: tm)) → SR g H σ sl (T.lst Dd .own acc :: (hd ++ tm)) := fun {H σ sl acc} s => s.tmp (by
    have := s.okT
    rw [Ts.ok_iff] at this ⊢
    intro u m
    exact this u (by simp at m ⊢; rcases m with m | m | m <;> simp [m])) fun a => by simp only [Ts.oc, Ts.sh, Ts.oc_append, Ts.sh_append]; omega
  -- what the rest of the walk makes
  have Rest : ∀ (i : Nat) (acc : List T) (ρ : DE), Prop := fun i acc ρ => True
  refine ⟨fun i n H => ∃ sl acc, SR g H (L2.wipe σ vs) (wipeS sl vs) (T.lst Dd .own acc :: (hd ++ tm)) ∧ n = ds.length - i ∧ i ≤ ds.length ∧ acc.length ≤ i ∧
    Lands g W tm ((unexc (lcL f t e vs (ds.drop i) (den (wipeS sl vs)))).bind fun r ρ => R.ok (D.lst .own (Ts.d acc ++ r)) (restD ρ vs ss)) (fun d ρ' => ∀ H' sl' t, SR g H' σ sl' (t :: (hd ++ tm)) → den sl' = ρ' → t.d = d → Q t.v H'),
    ⟨ds.length, sl1, [], s2.wipe hio, by omega, by omega, by simp, by simpa [den_wipe, Ts.d] using h⟩, ?_⟩
  rintro i n H ⟨sl, acc, s, rfl, hi, hacc, hl'⟩
  by_cases hlt : i < ds.length
  · obtain ⟨d, hd'⟩ : ∃ d, ds[i]? = some d := ⟨ds[i], List.getElem?_eq_getElem hlt⟩
    have hdrop : ds.drop i = d :: ds.drop (i + 1) := by
      rw [List.drop_eq_getElem_cons hlt]
      rw [List.getElem?_eq_getElem hlt] at hd'
      rw [Option.some.inj hd']
    rw [hdrop] at hl'
    obtain ⟨go, yl⟩ := hJ.go i d H _ _ (T.lst Dd .own acc :: tm) (reorder s) hd'
    refine .inr ⟨go, fun H' => ∃ sl acc, SR g H' (L2.wipe σ vs) (wipeS sl vs) (T.lst Dd .own acc :: (hd ++ tm)) ∧ acc.length ≤ i + 1 ∧
      Lands g W tm ((unexc (lcL f t e vs (ds.drop (i + 1)) (den (wipeS sl vs)))).bind fun r ρ => R.ok (D.lst .own (Ts.d acc ++ r)) (restD ρ vs ss)) (fun d ρ' => ∀ H' sl' t, SR g H' σ sl' (t :: (hd ++ tm)) → den sl' = ρ' → t.d = d → Q t.v H'),
      fun H' ⟨sl', acc', s', ha, h'⟩ => ⟨ds.length - (i + 1), by omega, sl', acc', s', rfl, by omega, ha, h'⟩, fun x H' hy => ?_⟩
    obtain ⟨tt, s2, rfl, rfl⟩ := yl x H' hy
    refine hg _ _ _ _ ⟨wipeS sl vs, hd ++ (T.lst Dd .own acc :: tm), tt, s2, rfl, ?_⟩
    simp only [lcL] at hl'
    cases q1 : f tt.d (den (wipeS sl vs)) with
    | exc x ρ => rw [q1] at hl'; exact hl'.elim
    | stuck => rw [q1] at hl'; exact hl'.elim
    | ok u ρ =>
      rw [q1] at hl'
      simp only [R.bind_ok] at hl'
      intro H3 σ3 sl3 s3 e3 hwp
      subst e3
      refine ht _ _ _ ⟨sl3, hd ++ (T.lst Dd .own acc :: tm), s3, ?_⟩
      cases q2 : t (den sl3) with
      | exc x ρ => rw [q2] at hl'; exact hl'.elim
      | stuck => rw [q2] at hl'; exact hl'.elim
      | ok b ρ =>
        rw [q2] at hl'
        simp only [R.bind_ok] at hl'
        intro H4 sl4 s4 e4
        subst e4
        cases b with
        | false =>
          rw [if_neg Bool.false_ne_true]
          simp only [Bool.false_eq_true, if_false] at hl'
          have hσ : L2.wipe σ3 vs = L2.wipe σ vs := hwp
          refine ⟨sl4, acc, (reorder1 s4).rewipe hσ hio, by omega, ?_⟩
          rw [den_wipe]
          exact hl'
        | true =>
          rw [if_pos rfl]
          simp only [if_true] at hl'
          refine he _ _ _ ⟨sl4, hd ++ (T.lst Dd .own acc :: tm), s4, ?_⟩
          cases q3 : e (den sl4) with
          | exc x ρ => rw [q3] at hl'; exact hl'.elim
          | stuck => rw [q3] at hl'; exact hl'.elim
          | ok y ρ =>
            rw [q3] at hl'
            simp only [R.bind_ok] at hl'
            intro H5 sl5 u s5 e5 ey
            subst e5 ey
            have s6 := reorder' s5
            have ko := s6.okT
            simp only [Ts.ok, T.ok] at ko
            refine ⟨acc.map T.v, ko.2.1.1, by rw [SZ_eq, List.length_map]; omega, ?_⟩
            have s7 := s6.grow (by omega)
            rw [List.map_append] at s7
            have hσ : L2.wipe σ3 vs = L2.wipe σ vs := hwp
            refine ⟨sl5, acc ++ [u], s7.rewipe hσ hio, by simp; omega, ?_⟩
            rw [den_wipe]
            cases q4 : lcL f t e vs (ds.drop (i + 1)) (wipeD (den sl5) vs) with
            | exc x ρ => rw [q4] at hl'; exact hl'.elim
            | stuck => rw [q4] at hl'; exact hl'.elim
            | ok r ρ =>
              rw [q4] at hl'
              simpa [Ts.d_append, Ts.d] using hl'
  · have e : i = ds.length := by omega
    subst e
    rw [List.drop_length] at hl'
    refine .inl ⟨hJ.stop H _ _ (T.lst Dd .own acc :: tm) (reorder s), ?_⟩
    simp only [lcL, unexc_ok, R.bind_ok, List.append_nil] at hl'
    obtain ⟨sl', e1, e2, e3, e4, e5⟩ := SR.unwipe (sl := sl) s1.len hnd (fun v h => h) hio hsv hl s
    have s3 : SR g H σ sl' (T.lst Dd .own acc :: (hd ++ tm)) := by
      refine s.go e2 s.okT (fun a => .inl ?_) (fun _ => .inl rfl) s1.len e4 e5 s1.io
      have := e3 a; omega
    exact hl' H sl' _ s3 e1 (by simp [T.d])
end

/-- [e for f in i if t], the list i its own holder, not touched the while -/
def mLcI (i : Nat) (f : D → Cm Unit) (t : Cm Bool) (e : Cm D) (vs : List Nat) : Cm D := fun ρ => match ρ[i]? with
  | some (some (.lst .own ds)) => if Ds.pur ds = true ∧ ds.length ≤ 16777216 then (match saved (ρ.set i none) vs with
    | some ss => (match lcL f t e vs ds (wipeD (ρ.set i none) vs) with
      | .ok r ρ' => .ok (.lst .own r) ((restD ρ' vs ss).set i (some (.lst .own ds)))
      | _ => .stuck)
    | none => .stuck) else .stuck
  | _ => .stuck
@[simp] theorem mLcI_ (i : Nat) (f : D → Cm Unit) (t : Cm Bool) (e : Cm D) (vs : List Nat) (ρ : DE) : mLcI i f t e vs ρ = match ρ[i]? with
  | some (some (.lst .own ds)) => if Ds.pur ds = true ∧ ds.length ≤ 16777216 then (match saved (ρ.set i none) vs with
    | some ss => (match lcL f t e vs ds (wipeD (ρ.set i none) vs) with
      | .ok r ρ' => .ok (.lst .own r) ((restD ρ' vs ss).set i (some (.lst .own ds)))
      | _ => .stuck)
    | none => .stuck) else .stuck
  | _ => .stuck := rfl
theorem _root_.L2.PTs.ex {α : Type} {X : Cx} {cs : List Expr} {t : α → TT} (h : ∀ x, PTs X cs (t x)) : PTs X cs (fun σ H Q => ∃ x, t x σ H Q) := ⟨fun pins s σ H Q I q => by
  obtain ⟨x, q⟩ := q
  exact (h x).run pins s σ H Q I q⟩
section
variable {X : Cx} {g : Gh} {W : WX} {pos : Pos} {elt tg iter : Expr} {ifs : List Expr} {scope : Scope} {own : List (Str × Nat)} {t : Cm Bool} {e : Cm D} {i : Nat}
theorem e_lcI {gt : Addr → TG} {f : D → Cm Unit} (hc : X.calm = true) (hN : X.N.Nodup) (hK : X.K = g.c.K) (hi : i < g.N) (hn : ∀ p ∈ g.io, p.1 ≠ i) (hp : PE X iter (tVar i)) (ok : BlkOk X.N X.env.scope scope own)
    (hg : ∀ (a : Addr) (s : Shared) (H : Hp) (C : Addr) (cl : List (Str × Addr)) (fp : List Addr), PG (X.blk s H scope (compEnvC scope cl C X.env) fp) tg (gt a))
    (ht : ∀ (a : Addr) (s : Shared) (H : Hp) (C : Addr) (cl : List (Str × Addr)) (fp : List Addr), PTs (X.blk s H scope (compEnvC scope cl C X.env) fp) ifs (tT (g.si i a) W0 t))
    (he : ∀ (a : Addr) (s : Shared) (H : Hp) (C : Addr) (cl : List (Str × Addr)) (fp : List Addr), PE (X.blk s H scope (compEnvC scope cl C X.env) fp) elt (tE (g.si i a) W0 e))
    (hnd : (own.map (·.2)).Nodup) (hio : ∀ a, ∀ p ∈ (g.si i a).io, p.1 ∉ own.map (·.2))
    (hgt : ∀ (a : Addr) (v : V) (σ : L2.St) (H : Hp) (Q : L2.St → Hp → Prop), tG (g.si i a) W0 f v (L2.wipe σ (own.map (·.2))) H (fun σ2 H2 => L2.wipe σ2 (own.map (·.2)) = L2.wipe σ (own.map (·.2)) → Q σ2 H2) → gt a v (L2.wipe σ (own.map (·.2))) H fun σ2 H2 => L2.wipe σ2 (own.map (·.2)) = L2.wipe σ (own.map (·.2)) ∧ Q σ2 H2)
    (hs : ∀ x, foldedSetIterable iter X.env x = pure x := by intro _; rfl) :
    PE X (.ListComp elt [⟨tg, iter, ifs, 0⟩] scope pos) (tE g W (mLcI i f t e (own.map (·.2)))) :=
  (pe_lc hc hN (pi_list hp) ok (fun s H C cl fp => PG.ex fun a => hg a s H C cl fp) (fun s H C cl fp => PTs.ex fun a => ht a s H C cl fp)
    (fun s H C cl fp => PE.ex (P := fun _ : Addr => True) fun a _ => he a s H C cl fp) hs).imp fun σ H Q ⟨sl, tm, s, h⟩ => by
    unfold mLcI at h
    split at h
    · rename_i ds e0
      split at h
      · rename_i hz
        split at h
        · rename_i ss hss
          split at h
          · rename_i r ρ' er
            obtain ⟨p, ts, g1, rfl, g3, g4, g5⟩ := own_list s e0
            have s1 : SR (g.si i p) H σ (sl.set i none) (T.lst p .own ts :: tm) := (s.move g1).inI g5
            have e1 : den (sl.set i none) = (den sl).set i none := by rw [den_set]; rfl
            rw [← e1] at hss er
            refine ⟨.ref p, g5, p, rfl, ⟨_, .of g3⟩, ?_⟩
            refine lc_held (W := W) (g := g.si i p) (hd := [T.lst p .own ts]) (gt := fun v σ H Q => ∃ a, gt a v σ H Q) (tt := fun σ H Q => ∃ a, tT (g.si i a) W0 t σ H Q) (te := fun σ H Q => ∃ a : Addr, True ∧ tE (g.si i a) W0 e σ H Q) hnd (hio p) (fun v σ H Q q => ⟨p, hgt p v σ H Q q⟩) (fun σ H Q q => ⟨p, q⟩) (fun σ H Q q => ⟨p, trivial, q⟩) (it_list (g := g.si i p) (show X.K = (g.si i p).c.K from hK) (fun a => Ts.pur_oc a ts hz.1)) s1 hss hz.2 ?_
            rw [er]
            simp only [unexc_ok, VS.R.bind_ok]
            intro H2 sl2 t2 s2 e2 ed
            have p2 := s2.io (i, .ref p) List.mem_cons_self
            have s3 : SR (g.si i p) H2 σ sl2 (T.lst p .own ts :: t2 :: tm) := s2.tmp (by
              have := s2.okT
              simp only [Ts.ok, List.cons_append, List.nil_append] at this ⊢
              exact ⟨this.2.1, this.1, this.2.2⟩) fun a => by simp only [Ts.oc, Ts.sh, List.cons_append, List.nil_append]; omega
            have s4 := s3.outI.store hi hn
            have es : σ.set i (some (T.lst p .own ts).v) = σ := by
              apply List.ext_getElem?
              intro j
              rw [List.getElem?_set]
              by_cases z : i = j
              · subst z
                have hl : i < σ.length := by rw [s2.len]; exact hi
                rw [if_pos rfl, if_pos hl]
                exact p2.symm
              · rw [if_neg z]
            rw [es] at s4
            exact h H2 _ t2 s4 (by rw [den_set, e2]; rfl) ed
          · exact h.elim
        · exact h.elim
      · exact h.elim
    · exact h.elim
end
end VS

/-! VS, part P: an exception leaves a comprehension's element (in a def). -/
namespace VS
open PySem PySem.Spec PyProof.Rows L2

/-! ### the model's comprehension, what its block lets out named with the block's own frame -/
section
variable {M : Model} {A : Around} {E : Value → Shared → Prop} {s : Shared} {env : Env}
end
/-! ### the frame notes what another frame held -/
section
variable {M : Model} {A : Around} {E : Value → Shared → Prop} {s : Shared} {env : Env} {outer : List Env} {base : Heap} {e L L2 : Addr} {Z : Obj → Prop}
end

/-! ### the block's exception is in the def's air -/
abbrev blkX (X : Cx) (s : Shared) (H : Hp) (scope : Scope) (ce : Env) (fp : List Addr) (xe : Value → Shared → Prop) : Cx := (X.blk s H scope ce fp).wish xe
section
variable {X : Cx} {E : XK}
end

/-! ### a list comprehension whose element may raise -/
section
variable {X : Cx} {E : XK}
end
end VS

/-! VS, part Q: the mirror of a comprehension whose element may raise. -/
namespace VS
open PySem PySem.Spec PyProof.Rows L2
def lcLX (g : D → Cm Unit) (t : Cm Bool) (e : Cm D) (vs : List Nat) : List D → Cm (List D)
  | [] => fun ρ => .ok [] ρ
  | d :: ds => fun ρ => (unexc (g d ρ)).bind fun _ ρ => (unexc (t ρ)).bind fun b ρ => if b then (e ρ).bind fun y ρ => (lcLX g t e vs ds (wipeD ρ vs)).bind fun r ρ => .ok (y :: r) ρ else lcLX g t e vs ds (wipeD ρ vs)
def outL (vs : List Nat) (acc : List D) (ss : List (Option Sc)) : R (List D) → R D
  | .ok r ρ => .ok (.lst .own (acc ++ r)) (restD ρ vs ss)
  | .exc x ρ => .exc x (wipeD ρ vs)
  | .stuck => .stuck
/-- [e for f in mi if t], what e raises goes on -/
def mLcX (mi : Cm (List D)) (f : D → Cm Unit) (t : Cm Bool) (e : Cm D) (vs : List Nat) : Cm D := fun ρ => (mi ρ).bind fun ds ρ => match saved ρ vs with
  | some ss => if ds.length ≤ 16777216 then outL vs [] ss (lcLX f t e vs ds (wipeD ρ vs)) else .stuck
  | none => .stuck
@[simp] theorem mLcX_ (mi : Cm (List D)) (f : D → Cm Unit) (t : Cm Bool) (e : Cm D) (vs : List Nat) (ρ : DE) : mLcX mi f t e vs ρ = (mi ρ).bind fun ds ρ => match saved ρ vs with
  | some ss => if ds.length ≤ 16777216 then outL vs [] ss (lcLX f t e vs ds (wipeD ρ vs)) else .stuck
  | none => .stuck := rfl
section
variable {g : Gh} {W : WX}
end
section
variable {X : Cx} {g : Gh} {E : XK} {pos : Pos} {elt tg iter : Expr} {ifs : List Expr} {scope : Scope} {own : List (Str × Nat)} {mi : Cm (List D)} {t : Cm Bool} {e : Cm D}
end
end VS

/-! VS, part R: lambdas kept in a list, each handed in turn to a def that calls it, in a comprehension. -/
namespace VS
open PySem PySem.Spec PyProof.Rows L2

/-- what a lambda is but for its making -/
structure LSpec where
  params : Arguments
  body : Expr
  scope : Scope
/-- the object at f is the lambda of this code, its cells those -/
def FunO (q : Str) (l : LSpec) (cl : List (Str × Addr)) (f c' : Addr) : HO := .ext fun h => ∃ pm ctv : Value, h.get? f = some (PySem.W.kla_obj "<lambda>" q l.params l.body l.scope cl pm c' ctv)
abbrev clLam (X : Cx) (scope : Scope) : List (Str × Addr) := cloFrom X.env.cells scope.names []
abbrev quLam (X : Cx) : Str := X.env.qual ++ "<lambda>"

/-! ### a lambda made, and known from then on -/
section
variable {X : Cx} {pins : List (Addr × Obj)} {σ : L2.St} {H : Hp} {s : Shared}
end

/-! ### it is called, the list's def being walked -/
section
variable {X : Cx} {pins : List (Addr × Obj)} {σ : L2.St} {H : Hp} {s : Shared}
end

/-! ### a comprehension whose element is told of the def's own state -/
section
variable {X : Cx}
end

/-! ### the mirror -/
def askL (F : Option Ex → RF) (vs : List Nat) : List (Cm D) → Cm (List D)
  | [] => fun ρ => .ok [] ρ
  | m :: ms => fun ρ => (mLam F m ρ).bind fun y ρ => (askL F vs ms (wipeD ρ vs)).bind fun r ρ => .ok (y :: r) ρ
/-- [f(a) for a in asks], the lambdas of asks known -/
def mAskL (F : Option Ex → RF) (vs : List Nat) (ms : List (Cm D)) : Cm D := fun ρ => match saved ρ vs with
  | some ss => (match askL F vs ms (wipeD ρ vs) with
    | .ok r ρ' => .ok (.lst .own r) (restD ρ' vs ss)
    | _ => .stuck)
  | none => .stuck
@[simp] theorem mAskL_ (F : Option Ex → RF) (vs : List Nat) (ms : List (Cm D)) (ρ : DE) : mAskL F vs ms ρ = match saved ρ vs with
  | some ss => (match askL F vs ms (wipeD ρ vs) with
    | .ok r ρ' => .ok (.lst .own r) (restD ρ' vs ss)
    | _ => .stuck)
  | none => .stuck := rfl
/-- a lambda's object, its code object, its code -/
abbrev Lm := Addr × Addr × LSpec
def lmPx (X : Cx) : List Lm → List (Addr × HO)
  | [] => []
  | l :: ls => (l.1, FunO (quLam X) l.2.2 (clLam X l.2.2.scope) l.1 l.2.1) :: (l.2.1, LamX.CodeO l.2.1 (quLam X)) :: lmPx X ls
/-- what stands while a list of lambdas is known -/
abbrev Gh.as (X : Cx) (g : Gh) (ia : Nat) (L : Addr) (ls : List Lm) : Gh := { g with io := (ia, .ref L) :: g.io, px := (L, HO.lst (ls.map fun l => V.ref l.1)) :: (lmPx X ls ++ g.px) }
def LamOk (X : Cx) (k : Nat) (c : Cfg) (N : Nat) (s : LSpec) (m : Cm D) : Prop :=
  LamX.LamS X.env.scope s.scope ∧ (∀ (pm cv ctv : Value), bindArgs (PySem.W.kla_fn "<lambda>" (quLam X) s.params s.body s.scope (clLam X s.scope) pm cv ctv) ⟨[], []⟩ = pure []) ∧
    ∀ (A : Around) (outer : List Env) (s0 : Shared) (H : Hp) (E : XK) (f c' : Addr), Room k (A.deeper (LamX.lamEnv X s.scope s0.heap.objs.size f c')) → ∀ g' : Gh, g'.c = c ∧ g'.N = N → PE (LamX.lamCx X A outer s0 H E s.scope f c') s.body (tE g' (fun cls d _ H => E cls d H) m)
def LamsOk (X : Cx) (k : Nat) (c : Cfg) (N : Nat) : List LSpec → List (Cm D) → Prop
  | [], [] => True
  | s :: ss, m :: ms => LamOk X k c N s m ∧ LamsOk X k c N ss ms
  | _, _ => False
theorem LamsOk.nil {X : Cx} {k : Nat} {c : Cfg} {N : Nat} : LamsOk X k c N [] [] := trivial
theorem LamsOk.cons {X : Cx} {k : Nat} {c : Cfg} {N : Nat} {s : LSpec} {m : Cm D} {ss : List LSpec} {ms : List (Cm D)} (h1 : LamOk X k c N s m) (h2 : LamsOk X k c N ss ms) : LamsOk X k c N (s :: ss) (m :: ms) := ⟨h1, h2⟩
theorem LamsOk.len {X : Cx} {k : Nat} {c : Cfg} {N : Nat} : ∀ {ss : List LSpec} {ms : List (Cm D)}, LamsOk X k c N ss ms → ss.length = ms.length
  | [], [], _ => rfl
  | _ :: _, _ :: _, h => by simp [LamsOk.len h.2]
  | [], _ :: _, h => h.elim
  | _ :: _, [], h => h.elim
theorem LamsOk.get {X : Cx} {k : Nat} {c : Cfg} {N : Nat} : ∀ {ss : List LSpec} {ms : List (Cm D)} {i : Nat} {s : LSpec} {m : Cm D}, LamsOk X k c N ss ms → ss[i]? = some s → ms[i]? = some m → LamOk X k c N s m
  | [], [], _, _, _, _, h, _ => by simp at h
  | s0 :: _, m0 :: _, 0, s, m, h, e1, e2 => by
    simp at e1 e2
    subst e1 e2
    exact h.1
  | _ :: _, _ :: _, i + 1, s, m, h, e1, e2 => LamsOk.get h.2 (by simpa using e1) (by simpa using e2)
  | [], _ :: _, _, _, _, h, _, _ => h.elim
  | _ :: _, [], _, _, _, h, _, _ => h.elim
section
variable {X : Cx}
abbrev LmI (X : Cx) (k : Nat) (c : Cfg) (N : Nat) := {z : Lm × Cm D // LamOk X k c N z.1.2.2 z.2}
end

/-! ### the list grows, lambda by lambda -/
/-- what is known beside the state -/
structure AsK (g : Gh) (H : Hp) (sl : List (Option T)) (tm : List T) (L : Addr) : Prop where
  sh : So (T.sh L) sl + Ts.sh L tm = 0
  h0 : ∀ o, g.H0 L = some o → NT o → Ts.oc L g.A0 = 0 → False
  px : ∀ p ∈ g.px, p.1 ≠ L
def mForg (i : Nat) : Cm Out := fun ρ => .ok .nx (ρ.set i none)
@[simp] theorem mForg_ (i : Nat) (ρ : DE) : mForg i ρ = .ok .nx (ρ.set i none) := rfl
section
variable {X : Cx} {g : Gh} {W : WX}
end
section
variable {X : Cx} {g : Gh} {W : WX} {ia : Nat} {m mi mr : Cm Out} {rest : List Stmt} {l : LSpec} {sp : List LSpec}
end
end VS

/-! VS, part S: C(e, .., k = v, ..): a new instance, its __init__ with arguments and keyword-only parameters. -/
namespace VS
open PySem PySem.Spec PyProof.Rows L2

/-! ### which value goes where -/
def selL {α : Type} (sel : List (Nat × Nat)) (a b c : List α) : List α := sel.filterMap fun p => (match p.1 with
  | 0 => a
  | 1 => b
  | _ => c)[p.2]?
theorem selL_map {α β : Type} (f : α → β) (sel : List (Nat × Nat)) (a b c : List α) : selL sel (a.map f) (b.map f) (c.map f) = (selL sel a b c).map f := by
  unfold selL
  rw [List.map_filterMap]
  congr 1
  funext p
  match p.1 with
  | 0 => simp
  | 1 => simp
  | n + 2 => simp
theorem selL_mem {α : Type} {sel : List (Nat × Nat)} {a b c : List α} {x : α} (h : x ∈ selL sel a b c) : x ∈ a ∨ x ∈ b ∨ x ∈ c := by
  unfold selL at h
  obtain ⟨p, _, e⟩ := List.mem_filterMap.mp h
  match q : p.1 with
  | 0 => rw [q] at e; exact .inl (List.mem_of_getElem? e)
  | 1 => rw [q] at e; exact .inr (.inl (List.mem_of_getElem? e))
  | n + 2 => rw [q] at e; exact .inr (.inr (List.mem_of_getElem? e))
theorem vals_get {vs : List V} {us : List Value} (r : Vals vs us) : ∀ i : Nat, (vs[i]? = none ∧ us[i]? = none) ∨ ∃ v u, vs[i]? = some v ∧ us[i]? = some u ∧ RelV v u := by
  induction r with
  | nil => intro i; exact .inl ⟨by simp, by simp⟩
  | @cons v u vs us h t ih =>
    intro i
    cases i with
    | zero => exact .inr ⟨v, u, rfl, rfl, h⟩
    | succ i => simpa using ih i
theorem selL_vals {sel : List (Nat × Nat)} {a b c : List V} {a' b' c' : List Value} (ha : Vals a a') (hb : Vals b b') (hc : Vals c c') : Vals (selL sel a b c) (selL sel a' b' c') := by
  induction sel with
  | nil => exact .nil
  | cons p sel ih =>
    unfold selL at ih ⊢
    have key : ∀ {x : List V} {y : List Value}, Vals x y → ∀ i : Nat, Vals ((x[i]?).toList ++ List.filterMap (fun p : Nat × Nat => (match p.1 with | 0 => a | 1 => b | _ => c)[p.2]?) sel) ((y[i]?).toList ++ List.filterMap (fun p : Nat × Nat => (match p.1 with | 0 => a' | 1 => b' | _ => c')[p.2]?) sel) := fun r i => by
      rcases vals_get r i with ⟨e1, e2⟩ | ⟨v, u, e1, e2, h⟩
      · rw [e1, e2]; exact ih
      · rw [e1, e2]; exact .cons h ih
    have cat : ∀ {α : Type} (f : Nat × Nat → Option α), List.filterMap f (p :: sel) = (f p).toList ++ List.filterMap f sel := fun f => by
      rw [List.filterMap_cons]
      cases f p <;> rfl
    rw [cat, cat]
    match p.1 with
    | 0 => exact key ha p.2
    | 1 => exact key hb p.2
    | n + 2 => exact key hc p.2

/-- the same behind the instance -/
def gS {α : Type} (sel : List (Nat × Nat)) (a b c : List α) : List α := match a with
  | [] => []
  | v :: a => v :: selL sel a b c
theorem gS_vals {sel : List (Nat × Nat)} {a b c : List V} {a' b' c' : List Value} (ha : Vals a a') (hb : Vals b b') (hc : Vals c c') : Vals (gS sel a b c) (gS sel a' b' c') := by
  cases ha with
  | nil => exact .nil
  | cons h t => exact .cons h (selL_vals t hb hc)
/-! ### C(..), what it raises wished for at the caller's slots -/
section
variable {X : Cx} {CX : CXT} {k n : Nat} {f C : Addr} {fd : FuncData} {ps ks : List Str} {sp : Sp} {E : L2.St → XK} {x : Str} {p pos : Pos} {e : Expr} {es : List Expr} {kws : List Keyword} {t tk : TA} {g : List Value → List Value → List Value} {gV : List V → List V → List V}
def tMakeKS (C : Addr) (n m : Nat) (sp : Sp) (gV : List V → List V → List V) (E : L2.St → XK) (t tk : TA) : TE := fun σ H Q => t σ H fun vs H1 => tk σ H1 fun zs H2 => vs.length = n ∧ zs.length = m ∧ ∀ x dx, H2 x = none → H2 dx = none → dx ≠ x →
  sp (gV (.ref x :: vs) zs) (upd (upd H2 dx (.own x)) x (.ins C dx [])) (fun v H3 => v = .non ∧ Q (.ref x) H3) (E σ)
theorem run_makeKS {pins : List (Addr × Obj)} {σ : L2.St} {H : Hp} {s : Shared} {Q : VK} {us ws : List Value} {vs zs : List V} (M : Mk X.K C f) (F : FnOk X.prog X.w X.K X.mg X.base CX k f fd ps sp) (hr : Room (k + 1) X.A) (hb : KBn X.K fd ps (n + 1) ks g gV) (hx : ∀ σ, PassesAt CX X σ (E σ))
    (I : Inv X pins σ H s) (r : Vals vs us) (rz : Vals zs ws) (l1 : vs.length = n) (l2 : zs.length = ks.length)
    (h : ∀ x dx, H x = none → H dx = none → dx ≠ x → sp (gV (.ref x :: vs) zs) (upd (upd H dx (.own x)) x (.ins C dx [])) (fun v H2 => v = .non ∧ Q (.ref x) H2) (E σ)) :
    wpAny (model X.prog X.w) X.A (call (.ref C) us (ks.zip ws)) (EP X pins σ Q) X.xe s := by
  have hq := h (s.heap.objs.size + 1) s.heap.objs.size (I.hok.fresh (Nat.le_succ _)) (I.hok.fresh (Nat.le_refl _)) (Nat.ne_of_lt (Nat.lt_succ_self _))
  have I2 := Inv.made (C := C) I
  have r1 : Vals (V.ref (s.heap.objs.size + 1) :: vs) (Value.ref (s.heap.objs.size + 1) :: us) := .cons rfl r
  have n1 : (Value.ref (s.heap.objs.size + 1) :: us).length = n + 1 := by
    rw [List.length_cons, ← r.length, l1]
  refine wpAny_call (make_map (f := f) I.kIn M.makes M.init (beq_iff_eq.mp M.fn) (codeAny_mono (F.run _ X.stack _ _ ⟨Value.ref (s.heap.objs.size + 1) :: us, ks.zip ws⟩ (g (Value.ref (s.heap.objs.size + 1) :: us) ws) _ _ (E σ) (hr.make C us (ks.zip ws))
    (I2.env0.make C us (ks.zip ws)) (hb.to _ (Value.ref (s.heap.objs.size + 1) :: us) ws I2.kIn n1 (rz.length.symm.trans l2)) (hb.rel r1 rz) hq) fun r s' hq' => ?_))
  cases r with
  | error e => exact hx σ pins _ _ e s' I2 hq'
  | ok fl =>
    cases fl with
    | ret u =>
      obtain ⟨v, H', I3, rv, ev, q3⟩ := I2.after hq'
      subst ev
      exact ⟨rv, ⟨V.ref (s.heap.objs.size + 1), H', I3, rfl, q3⟩⟩
    | next => exact False.elim hq'
    | brk => exact False.elim hq'
    | cont => exact False.elim hq'
theorem pe_makeKS (M : Mk X.K C f) (F : FnOk X.prog X.w X.K X.mg X.base CX k f fd ps sp) (hr : Room (k + 1) X.A) (hg : Gl X x) (hm : X.mg x = some (.ref C)) (hb : KBn X.K fd ps (n + 1) ks g gV) (hx : ∀ σ, PassesAt CX X σ (E σ)) (ha : PA X (e :: es) t) (hkw : PK X kws tk)
    (hall : (backToKw pos (keywordEach kws X.env)).all (·.1.isSome) = true := by rfl) (hks : (backToKw pos (keywordEach kws X.env)).filterMap (·.1) = ks := by rfl) (hdb : (x == ("__debug__" : Str)) = false := by decide)
    (he : starEach (e :: es) X.env = (false, eval e X.env) :: starEach es X.env := by rfl) (hpl : ((backTo pos (starEach (e :: es) X.env)).any (·.1) || (backToKw pos (keywordEach kws X.env)).any (·.1.isNone)) = false := by rfl) :
    PE X (.Call (.Name x p) (e :: es) kws pos) (tMakeKS C n ks.length sp gV E t tk) := by
  refine ⟨fun pins s σ H Q I h => ?_⟩
  refine wpAny_Call_Name_kw (ld_glob I hg hm ?_ hdb)
  refine PySem.W.callWith_KW (h₀ := X.base) I.ok.mod.kin M.kp hall (thn (ha.run pos pins s σ H _ I h) fun us s1 ⟨vs, H1, I1, r, q⟩ => ?_) hpl he
  refine thn (hkw.run pos pins s1 σ H1 _ I1 q) fun ws s2 ⟨zs, H2, I2, rz, l1, l2, q2⟩ => ⟨I2.kIn, ?_⟩
  rw [hks]
  exact run_makeKS M F hr hb hx I2 r rz l1 l2 q2
end

/-- an __init__ with keyword-only parameters: where it stands -/
structure AtK (K : PySem.W.Frag) (c : Cfg) (C qual : String) (st : Stmt) (kws : List (Str × V)) (f : Addr) (fd : FuncData) : Prop where
  F : FunD K "__init__" qual (defArgs st) (defBody st) (defScope st) [] kws f fd
/-! ### the mirror -/
/-- C(as, bs): the arguments frozen, the new instance first -/
def mNewK (C : String) (M : List D → RF) (sel : List (Nat × Nat)) (dm : List Sc) (ms ks : List (Cm D)) : Cm D := fun ρ => (mArgs ms ρ).bind fun as ρ => (mArgs ks ρ).bind fun bs ρ =>
  match M (.obj .own C [] [] :: selL sel (as.map D.fz) (dm.map D.sc) (bs.map D.fz)) with
  | .ok (.sc .non) [d] => .ok d ρ
  | .exc x [_] => .exc x ρ
  | _ => .stuck
@[simp] theorem mNewK_ (C : String) (M : List D → RF) (sel : List (Nat × Nat)) (dm : List Sc) (ms ks : List (Cm D)) (ρ : DE) : mNewK C M sel dm ms ks ρ = (mArgs ms ρ).bind fun as ρ => (mArgs ks ρ).bind fun bs ρ =>
  match M (.obj .own C [] [] :: selL sel (as.map D.fz) (dm.map D.sc) (bs.map D.fz)) with
  | .ok (.sc .non) [d] => .ok d ρ
  | .exc x [_] => .exc x ρ
  | _ => .stuck := rfl
section
variable {g : Gh} {W : WX}
/-- of the things held some are taken on, frozen -/
theorem SR.pick {H : Hp} {σ : L2.St} {sl : List (Option T)} {tm ys zs : List T} (s : SR g H σ sl (ys ++ tm)) (h : ∀ z ∈ zs, (∃ y ∈ ys, z = y.fz) ∨ ∃ c : Sc, c.good ∧ z = T.sc c) : SR g H σ sl (zs ++ tm) ∧ ∀ a, Ts.oc a zs = 0 := by
  have okY := Ts.ok_iff.mp s.okT
  have oc0 : ∀ a, Ts.oc a zs = 0 := fun a => by
    clear s okY
    induction zs with
    | nil => rfl
    | cons z zs ih =>
      have h0 : z.oc a = 0 := by
        rcases h z List.mem_cons_self with ⟨y, _, rfl⟩ | ⟨c, _, rfl⟩
        · exact T.fz_oc a y
        · rfl
      simp only [Ts.oc, h0, ih fun z hz => h z (List.mem_cons_of_mem _ hz)]
  have shp : ∀ a, 0 < Ts.sh a zs → 0 < Ts.oc a ys + Ts.sh a ys := fun a q => by
    clear s okY oc0
    induction zs with
    | nil => simp [Ts.sh] at q
    | cons z zs ih =>
      simp only [Ts.sh] at q
      by_cases e : 0 < z.sh a
      · rcases h z List.mem_cons_self with ⟨y, hy, rfl⟩ | ⟨c, _, rfl⟩
        · rw [T.fz_sh] at e
          have h1 := Ts.oc_mem (a := a) hy
          have h2 := Ts.sh_mem (a := a) hy
          omega
        · simp [T.sh] at e
      · exact ih (fun z hz => h z (List.mem_cons_of_mem _ hz)) (by omega)
  refine ⟨s.tmp ?_ fun a => ?_, oc0⟩
  · rw [Ts.ok_iff]
    intro t m
    rcases List.mem_append.mp m with m | m
    · rcases h t m with ⟨y, hy, rfl⟩ | ⟨c, hc, rfl⟩
      · exact T.fz_ok y (okY y (List.mem_append_left _ hy))
      · exact hc
    · exact okY t (List.mem_append_right _ m)
  · have iv := s.inv a
    have z0 := oc0 a
    have z1 := shp a
    rw [Ts.oc_append, Ts.sh_append] at iv
    rw [Ts.oc_append, Ts.sh_append, Ts.oc_append, Ts.sh_append]
    refine ⟨by omega, fun q => ?_⟩
    by_cases e : 0 < Ts.sh a zs
    · have := z1 e
      by_cases e2 : 0 < Ts.oc a ys
      · exact .inr (.inl ⟨by omega, by omega⟩)
      · exact .inl (by omega)
    · exact .inl (by omega)
theorem mArgs_len : ∀ {ms : List (Cm D)} {ρ ρ' : DE} {ds : List D}, mArgs ms ρ = .ok ds ρ' → ds.length = ms.length
  | [], ρ, ρ', ds, e => by simp only [mArgs, R.ok.injEq] at e; rw [← e.1]; rfl
  | m :: ms, ρ, ρ', ds, e => by
    unfold mArgs at e
    cases e1 : m ρ with
    | ok d ρ1 =>
      rw [e1, R.bind_ok] at e
      cases e2 : mArgs ms ρ1 with
      | ok ds2 ρ2 =>
        rw [e2, R.bind_ok] at e
        simp only [R.ok.injEq] at e
        rw [← e.1, List.length_cons, List.length_cons, mArgs_len e2]
      | exc x ρ2 => rw [e2] at e; cases e
      | stuck => rw [e2] at e; cases e
    | exc x ρ1 => rw [e1] at e; cases e
    | stuck => rw [e1] at e; cases e
theorem tA.ofL {α : Type} {ms : List (Cm D)} {σ : L2.St} {H : Hp} {sl : List (Option T)} {tm : List T} {Q : List V → Hp → Prop} {f : List D → Cm α} {k : α → DE → Prop} (s : SR g H σ sl tm) (h : Lands g W tm ((mArgs ms (den sl)).bind f) k)
    (q : ∀ H' sl' ts, SR g H' σ sl' (ts.reverse ++ tm) → ts.length = ms.length → Lands g W tm (f (Ts.d ts) (den sl')) k → Q (ts.map T.v) H') : tA g W ms σ H Q := by
  refine ⟨sl, tm, s, ?_⟩
  cases e : mArgs ms (den sl) with
  | ok d ρ =>
    rw [e] at h
    intro H' sl' ts s' e1 e2
    subst e1 e2
    have := mArgs_len e
    rw [Ts.d_len] at this
    exact q H' sl' ts s' this h
  | exc x ρ => rw [e] at h; exact h
  | stuck => rw [e] at h; exact h
theorem newK_imp {c : Cfg} {M : List D → RF} {C : String} {np n m : Nat} {sel : List (Nat × Nat)} {dm : List Sc} {ms ks : List (Cm D)} (hc : g.c = c) (hn : ms.length = n) (hm : ks.length = m) (hg : ∀ s ∈ dm, s.good) (hnp : ∀ {α : Type} (a b c : List α), a.length = n → b.length = dm.length → c.length = m → (selL sel a b c).length + 1 = np)
    (σ : L2.St) (H : Hp) (Q : VK) (q : tE g W (mNewK C M sel dm ms ks) σ H Q) :
    tMakeKS (g.c.cls C) n m (spM c np [0] M) (fun vs zs => gS sel vs (dm.map Sc.v) zs) (WE W) (tA g W ms) (tA g W ks) σ H Q := by
  subst hc
  obtain ⟨sl, tm, s, h⟩ := q
  unfold mNewK at h
  refine tA.ofL s h fun H1 sl1 ts s1 l1 h1 => ?_
  refine ⟨sl1, ts.reverse ++ tm, s1, ?_⟩
  cases e0 : mArgs ks (den sl1) with
  | stuck => rw [e0] at h1; exact h1.elim
  | exc y ρ => rw [e0] at h1; exact Lands.dropsL h1
  | ok d0 ρ0 =>
  rw [e0, R.bind_ok] at h1
  intro H2 sl2 zs s2 ee1 ee2
  subst ee1 ee2
  have l2 := mArgs_len e0
  rw [Ts.d_len] at l2
  have h2 := h1
  refine ⟨by rw [List.length_map]; omega, by rw [List.length_map]; omega, fun x dx hx hdx hne => ?_⟩
  -- the arguments, frozen
  have e1 : selL sel ((Ts.d ts).map D.fz) (dm.map D.sc) ((Ts.d zs).map D.fz) = (selL sel (ts.map T.fz) (dm.map T.sc) (zs.map T.fz)).map T.d := by
    rw [← selL_map]
    congr 1
    · rw [Ts.d_map, List.map_map, List.map_map]; exact List.map_congr_left fun t _ => (T.fz_d t).symm
    · rw [List.map_map]; rfl
    · rw [Ts.d_map, List.map_map, List.map_map]; exact List.map_congr_left fun t _ => (T.fz_d t).symm
  have e2 : (selL sel (ts.map T.fz) (dm.map T.sc) (zs.map T.fz)).map T.v = selL sel (ts.map T.v) (dm.map Sc.v) (zs.map T.v) := by
    rw [← selL_map]
    congr 1
    · rw [List.map_map]; exact List.map_congr_left fun t _ => T.fz_v t
    · rw [List.map_map]; rfl
    · rw [List.map_map]; exact List.map_congr_left fun t _ => T.fz_v t
  have el : (selL sel (ts.map T.fz) (dm.map T.sc) (zs.map T.fz)).length + 1 = np := hnp _ _ _ (by rw [List.length_map]; omega) (by rw [List.length_map]) (by rw [List.length_map]; omega)
  have mem : ∀ z ∈ selL sel (ts.map T.fz) (dm.map T.sc) (zs.map T.fz), (∃ y ∈ zs.reverse ++ ts.reverse, z = y.fz) ∨ ∃ c : Sc, c.good ∧ z = T.sc c := fun z hz => by
    rcases selL_mem hz with hz | hz | hz
    · obtain ⟨y, hy, rfl⟩ := List.mem_map.mp hz; exact .inl ⟨y, by simp [hy], rfl⟩
    · obtain ⟨y, hy, rfl⟩ := List.mem_map.mp hz; exact .inr ⟨y, hg y hy, rfl⟩
    · obtain ⟨y, hy, rfl⟩ := List.mem_map.mp hz; exact .inl ⟨y, by simp [hy], rfl⟩
  rw [e1] at h2
  generalize selL sel (ts.map T.fz) (dm.map T.sc) (zs.map T.fz) = us at *
  have s2 : SR g H2 σ sl2 ((zs.reverse ++ ts.reverse) ++ tm) := by simpa using s2
  obtain ⟨s3, oc0⟩ := s2.pick mem
  have s4 := s3.newO (C := C) hx hdx hne
  have k4 := s4.okT
  refine ⟨T.obj x dx .own C [] [] :: us, by show _ :: selL sel (ts.map T.v) (dm.map Sc.v) (zs.map T.v) = _; rw [← e2]; rfl, ?_, s4.tabs, fun a => ?_, by simp [el], ?_⟩
  · rw [Ts.ok_iff] at k4 ⊢
    exact fun t m => k4 t (by simp only [List.mem_cons, List.mem_append] at m ⊢; rcases m with m | m; exact .inl m; exact .inr (.inl m))
  · have := s4.inv a
    simp only [Ts.oc, Ts.sh, Ts.oc_append, Ts.sh_append] at this ⊢
    omega
  · have ed : Ts.d (T.obj x dx .own C [] [] :: us) = D.obj .own C [] [] :: us.map T.d := by simp [Ts.d, T.d, Ts.d_map]
    rw [ed]
    have call : ∀ {H' : Hp} {ws : List T}, Aft g.c (upd (upd H2 dx (.own x)) x (.ins (g.c.cls C) dx [])) (T.obj x dx .own C [] [] :: us) H' ws → SR g H' σ sl2 (ws ++ tm) := fun ha => SR.call (ts := T.obj x dx .own C [] [] :: us) (by simpa using s4) ha
    cases em : M (D.obj .own C [] [] :: us.map T.d) with
    | stuck => rw [em] at h2; exact h2.elim
    | exc y ds =>
      rw [em] at h2
      intro H' a dx' vs ha _ _
      have s5 := call ha
      cases ds with
      | nil => exact h2.elim
      | cons d ds =>
        cases ds with
        | cons _ _ => exact h2.elim
        | nil => exact h2 H' σ sl2 a dx' (SR.popL1 (ts := vs) (by simpa using s5)) rfl
    | ok d ds =>
      rw [em] at h2
      intro H' t vs ha et eu hi
      have s5 := call ha
      split at h2
      · rename_i em2
        simp only [RF.ok.injEq] at em2
        obtain ⟨rfl, rfl⟩ := em2
        cases vs with
        | nil => simp [Ts.d] at eu
        | cons u vs =>
          cases vs with
          | cons _ _ => simp [Ts.d] at eu
          | nil =>
            simp only [Ts.d, List.cons.injEq, and_true] at eu
            have uv : u.v = .ref x := by
              simp [ioV, T.v, gS] at hi
              exact hi.symm
            refine ⟨?_, ?_⟩
            · cases t with
              | sc z => simp only [T.d, D.sc.injEq] at et; subst et; rfl
              | _ => simp [T.d] at et
            · have := h2 H' sl2 u s5.pop rfl eu
              rwa [uv] at this
      · rename_i em2; cases em2
      · exact h2.elim
end
section
variable {X : Cx} {g : Gh} {W : WX} {pos p : Pos} {x : Str} {e : Expr} {es : List Expr} {kws : List Keyword}
theorem e_newK {f : Addr} {fd : FuncData} {ps ks : List Str} {c : Cfg} {M : List D → RF} {k n np : Nat} {C : String} {sel : List (Nat × Nat)} {dm : List Sc} {ms kms : List (Cm D)} (Mk_ : Mk X.K (g.c.cls C) f) (F : FnOk X.prog X.w X.K X.mg X.base (L2.CX X.prog X.w) k f fd ps (spM c np [0] M)) (hr : Room (k + 1) X.A)
    (hb : ∃ mv : List Value, KBn X.K fd ps (n + 1) ks (fun us ws => gS sel us mv ws) (fun vs zs => gS sel vs (dm.map Sc.v) zs)) (tk : Takes X W) (hg : Gl X x) (hm : X.mg x = some (.ref (g.c.cls C))) (ha : PA X (e :: es) (tA g W ms)) (hkw : PK X kws (tA g W kms)) (hc : g.c = c)
    (hn : ms.length = n) (hk : kms.length = ks.length) (hgd : ∀ s ∈ dm, s.good) (hnp : ∀ {α : Type} (a b c : List α), a.length = n → b.length = dm.length → c.length = ks.length → (selL sel a b c).length + 1 = np)
    (hall : (backToKw pos (keywordEach kws X.env)).all (·.1.isSome) = true := by rfl) (hks : (backToKw pos (keywordEach kws X.env)).filterMap (·.1) = ks := by rfl) (hdb : (x == ("__debug__" : Str)) = false := by decide)
    (he : starEach (e :: es) X.env = (false, eval e X.env) :: starEach es X.env := by rfl) (hpl : ((backTo pos (starEach (e :: es) X.env)).any (·.1) || (backToKw pos (keywordEach kws X.env)).any (·.1.isNone)) = false := by rfl) :
    PE X (.Call (.Name x p) (e :: es) kws pos) (tE g W (mNewK C M sel dm ms kms)) := by
  obtain ⟨mv, hb⟩ := hb
  exact (pe_makeKS (E := WE W) Mk_ F hr hg hm hb (fun σ => passAt tk σ) ha hkw hall hks hdb he hpl).imp (newK_imp hc hn hk hgd hnp)
theorem k_nil : PK X [] (tA g W []) := ⟨fun pos pins s σ H Q I h => pk_nil.run pos pins s σ H Q I (by obtain ⟨sl, tm, s, h⟩ := h; exact h H sl [] s rfl rfl)⟩
theorem k_cons {nm : Option Str} {kpos : Pos} {ma : Cm D} {ms : List (Cm D)} (ha : PE X e (tE g W ma)) (hr : PK X kws (tA g W ms)) : PK X (⟨nm, e, kpos⟩ :: kws) (tA g W (ma :: ms)) := ⟨fun pos pins s σ H Q I h => (pk_cons ha hr).run pos pins s σ H Q I (by
  obtain ⟨sl, tm, s, h⟩ := h
  refine tE.of s h fun H1 sl1 t1 s1 h1 => ?_
  refine tA.of s1 (Lands.drop h1) fun H2 sl2 ts s2 h2 => ?_
  exact h2 H2 sl2 (t1 :: ts) (by simpa using s2) rfl (by simp [Ts.d]))⟩
end
/-- the binding of a class's __init__ whose defaults are all keyword-only -/
theorem kbS {K : PySem.W.Frag} {x qual : Str} {params : Arguments} {body : List Stmt} {scope : Scope} {kws : List (Str × V)} {f : Addr} {fd : FuncData} {ps : List Str} (F : FunD K x qual params body scope [] kws f fd) (n : Nat) (ks : List Str) (ms : List (Str × V)) (sel : List (Nat × Nat)) (dm : List Sc) (hk : kws ≠ []) (hms : ∀ q ∈ ms, q ∈ kws) (hdm : ms.map (·.2) = dm.map Sc.v)
    (h : ∀ (D : Addr) (doc pm : Value) (an : Option Addr) (cdv ct : Value) (us mv ws : List Value), us.length = n → mv.length = ms.length → ws.length = ks.length →
      KwChain D ((ms.map (·.1)).zip mv) (bindArgs (PySem.W.fnOf x qual params body scope .none (.ref D) doc pm an cdv ct) ⟨us, ks.zip ws⟩) (ps.zip (gS sel us mv ws))) :
    ∃ mv : List Value, KBn K fd ps n ks (fun us ws => gS sel us mv ws) (fun vs zs => gS sel vs (dm.map Sc.v) zs) := by
  rw [← hdm]
  exact FunD.kbinds0 F n ks ms (fun {α} a b c => gS sel a b c) hk hms (fun r1 r2 r3 => gS_vals r1 r2 r3) h

/-! ### a method without arguments of an object of one of some classes, which is not changed -/
def mMethD (m : String) (tab : List (String × (List D → RF))) (mo : Cm D) : Cm D := fun ρ => (mo ρ).bind fun d ρ => match d with
  | .obj o C ns xs => (match tab.lookup C with
    | some M => if fIx m ns = none then (match M [(D.obj o C ns xs).fz] with
      | .ok r [] => .ok r ρ
      | .exc x [] => .exc x ρ
      | _ => .stuck) else .stuck
    | none => .stuck)
  | _ => .stuck
@[simp] theorem mMethD_ (m : String) (tab : List (String × (List D → RF))) (mo : Cm D) (ρ : DE) : mMethD m tab mo ρ = (mo ρ).bind fun d ρ => match d with
  | .obj o C ns xs => (match tab.lookup C with
    | some M => if fIx m ns = none then (match M [(D.obj o C ns xs).fz] with
      | .ok r [] => .ok r ρ
      | .exc x [] => .exc x ρ
      | _ => .stuck) else .stuck
    | none => .stuck)
  | _ => .stuck := rfl
/-- what is known of a class's method -/
def MD (P : Program) (w : World) (K : PySem.W.Frag) (mg : Str → Option Value) (base : Heap) (c : Cfg) (k : Nat) (m C : String) (M : List D → RF) : Prop :=
  ∃ (f : Addr) (fd : FuncData) (ps : List Str) (j : Nat), j ≤ k ∧ Cls K (c.cls C) ∧ Meth K (c.cls C) (Str.ofString m) f ∧ FnOk P w K mg base (L2.CX P w) j f fd ps (spM c 1 [] M) ∧ Binds K fd ps []
theorem MD.mk' {P : Program} {w : World} {K : PySem.W.Frag} {mg : Str → Option Value} {base : Heap} {c : Cfg} {k j : Nat} {m C : String} {M : List D → RF} {f : Addr} {fd : FuncData} {ps : List Str} (cl : Cls K (c.cls C)) (hm : Meth K (c.cls C) (Str.ofString m) f) (F : FnOk P w K mg base (L2.CX P w) j f fd ps (spM c 1 [] M)) (b : Binds K fd ps []) (h : j ≤ k) : MD P w K mg base c k m C M := ⟨f, fd, ps, j, h, cl, hm, F, b⟩
def MDs (P : Program) (w : World) (K : PySem.W.Frag) (mg : Str → Option Value) (base : Heap) (c : Cfg) (k : Nat) (m : String) : List (String × (List D → RF)) → Prop
  | [] => True
  | p :: r => MD P w K mg base c k m p.1 p.2 ∧ MDs P w K mg base c k m r
theorem MDs.nil {P : Program} {w : World} {K : PySem.W.Frag} {mg : Str → Option Value} {base : Heap} {c : Cfg} {k : Nat} {m : String} : MDs P w K mg base c k m [] := trivial
theorem MDs.cons {P : Program} {w : World} {K : PySem.W.Frag} {mg : Str → Option Value} {base : Heap} {c : Cfg} {k : Nat} {m C : String} {M : List D → RF} {r : List (String × (List D → RF))} (h1 : MD P w K mg base c k m C M) (h2 : MDs P w K mg base c k m r) : MDs P w K mg base c k m ((C, M) :: r) := ⟨h1, h2⟩
theorem MDs.get {P : Program} {w : World} {K : PySem.W.Frag} {mg : Str → Option Value} {base : Heap} {c : Cfg} {k : Nat} {m C : String} {M : List D → RF} : ∀ {tab : List (String × (List D → RF))}, MDs P w K mg base c k m tab → tab.lookup C = some M → MD P w K mg base c k m C M
  | [], _, h => by simp at h
  | (C', M') :: r, h, e => by
    rw [List.lookup_cons] at e
    cases q : C == C' with
    | true =>
      rw [q] at e
      simp only [Option.some.injEq] at e
      rw [eq_of_beq q, ← e]
      exact h.1
    | false => rw [q] at e; exact MDs.get h.2 e
section
variable {X : Cx} {g : Gh} {W : WX} {pos apos : Pos} {o : Expr}
end

/-! ### isinstance of an own class -/
def tys : List String := ["NoneType", "bool", "int", "str", "list", "tuple", "dict"]
structure ICl (K : PySem.W.Frag) (cls : String → Addr) (C : String) (tab : List (String × Bool)) : Prop where
  ty : ∀ b ∈ tys, PySem.W.kitOne K (.type b) (.ref (cls C)) = some false
  ob : ∀ p ∈ tab, PySem.W.kitOne K (.ref (cls p.1)) (.ref (cls C)) = some p.2 ∧ PySem.W.findIn K (.ref (cls p.1)) "__class__" = some (some (.builtin "object.__class__")) ∧ PySem.W.mroIn K (cls p.1) (.type "object") = some true
  hn : PySem.W.specialIn K (.builtin "object.__class__") "__get__" = some (some (.builtin "getset_descriptor.__get__"))
  tk : PySem.W.takesIn K (.builtin "object.__class__") = some true
  to : ∀ p ∈ tab, ∀ b ∈ tys, PySem.W.kitOne K (.ref (cls p.1)) (.type b) = some false
section
variable {X : Cx} {g : Gh} {W : WX} {pos p p2 : Pos} {a : Expr} {oa : Opd} {tn : Str}
end

/-! ### f"c{i}" -/
def mFSI (c : List Nat) (m : Cm D) : Cm D := fun ρ => (m ρ).bind fun d ρ => match d with
  | .sc (.int i) => if i.natAbs < 1000000000000000000 ∧ c.length + (numL i).length ≤ 16777216 then .ok (.str (c ++ numL i)) ρ else .stuck
  | _ => .stuck
@[simp] theorem mFSI_ (c : List Nat) (m : Cm D) (ρ : DE) : mFSI c m ρ = (m ρ).bind fun d ρ => match d with
  | .sc (.int i) => if i.natAbs < 1000000000000000000 ∧ c.length + (numL i).length ≤ 16777216 then .ok (.str (c ++ numL i)) ρ else .stuck
  | _ => .stuck := rfl
section
variable {X : Cx} {g : Gh} {W : WX} {pos p1 p2 : Pos} {a : Expr} {m : Cm D} {j : Nat}
end
end VS

/-! VS, part T: lists of unlike lengths compared; x += ys of lists. -/
namespace VS
open PySem PySem.Spec PyProof.Rows L2

/-- two lists of unlike lengths differ, whatever they hold -/
def neLD : D → D → Option Sc
  | .lst o xs, .lst p ys => if xs.length = ys.length then neD (.lst o xs) (.lst p ys) else some (.bl true)
  | _, _ => none
def eqLD : D → D → Option Sc
  | .lst o xs, .lst p ys => if xs.length = ys.length then eqD (.lst o xs) (.lst p ys) else some (.bl false)
  | _, _ => none
section
variable {X : Cx}
end
section
variable {X : Cx} {g : Gh} {W : WX}
@[simp] theorem neLD_ (o p : Ow) (xs ys : List D) : neLD (.lst o xs) (.lst p ys) = if xs.length = ys.length then neD (.lst o xs) (.lst p ys) else some (.bl true) := rfl
@[simp] theorem eqLD_ (o p : Ow) (xs ys : List D) : eqLD (.lst o xs) (.lst p ys) = if xs.length = ys.length then eqD (.lst o xs) (.lst p ys) else some (.bl false) := rfl
end

/-! ### x += ys, an own list -/
def mAugL (i : Nat) (ma : Cm D) : Cm Out := fun ρ => match ρ[i]? with
  | some (some (.lst _ _)) => (ma ρ).bind fun d ρ => match ρ[i]?, d with
    | some (some (.lst .own xs)), .lst o ys => if (o = .own ∨ o = .shr) ∧ xs.length + ys.length ≤ 16777216 then .ok .nx (ρ.set i (some (.lst .own (xs ++ ys)))) else .stuck
    | _, _ => .stuck
  | _ => .stuck
@[simp] theorem mAugL_ (i : Nat) (ma : Cm D) (ρ : DE) : mAugL i ma ρ = match ρ[i]? with
  | some (some (.lst _ _)) => (ma ρ).bind fun d ρ => match ρ[i]?, d with
    | some (some (.lst .own xs)), .lst o ys => if (o = .own ∨ o = .shr) ∧ xs.length + ys.length ≤ 16777216 then .ok .nx (ρ.set i (some (.lst .own (xs ++ ys)))) else .stuck
    | _, _ => .stuck
  | _ => .stuck := rfl
section
variable {X : Cx} {g : Gh} {W : WX} {e : Expr} {pos : Pos} {ma : Cm D}
end
end VS

/-! VS, part U: clear() of any own list. -/
namespace VS
open PySem PySem.Spec PyProof.Rows L2

def mClrA (i : Nat) : Cm D := fun ρ => match ρ[i]? with
  | some (some (.lst .own _)) => .ok .non (ρ.set i (some (.lst .own [])))
  | _ => .stuck
@[simp] theorem mClrA_ (i : Nat) (ρ : DE) : mClrA i ρ = match ρ[i]? with
  | some (some (.lst .own _)) => .ok .non (ρ.set i (some (.lst .own [])))
  | _ => .stuck := rfl
section
variable {X : Cx} {g : Gh} {W : WX} {p pos : Pos}
end
end VS

/-! VS, part V: == and != of instances with an __eq__ of their own. -/
namespace VSne
open PySem PySem.Spec PyProof.Rows PySem.SeqAt Builtin
section
variable {prog : Program} {w : World} {A : Around} {E : Value → Shared → Prop} {s : Shared} {K : PySem.W.Frag} {p cC fe : Addr} {ob : Obj} {odd : Option Obj} {rt tr : Value}
end
end VSne
namespace VS
open PySem PySem.Spec PyProof.Rows L2
abbrev E0 : XK := fun _ _ _ => False
section
variable {X : Cx}
end
end VS
namespace VS
open PySem PySem.Spec PyProof.Rows L2
/-- what is known of a class with an __eq__ of its own -/
structure EqC (K : PySem.W.Frag) (cls : String → Addr) (C : String) (cs : List String) (f : Addr) : Prop where
  eq : PySem.W.findIn K (.ref (cls C)) "__eq__" = some (some (.ref f))
  fn : PySem.W.isFn K (.ref f) = true
  ne : PySem.W.findIn K (.ref (cls C)) "__ne__" = some (some (.builtin "object.__ne__"))
  ob : PySem.W.mroIn K (cls C) (.type "object") = some true
  nf : ∀ q ∈ cs, PySem.W.notFirst K (cls C) (.ref (cls q)) = true
  nt : ∀ b ∈ tys, PySem.W.notFirst K (cls C) (.type b) = true
/-- the same, but for the method itself -/
structure EqX (K : PySem.W.Frag) (cls : String → Addr) (C : String) (cs : List String) : Prop where
  ne : PySem.W.findIn K (.ref (cls C)) "__ne__" = some (some (.builtin "object.__ne__"))
  ob : PySem.W.mroIn K (cls C) (.type "object") = some true
  nf : ∀ q ∈ cs, PySem.W.notFirst K (cls C) (.ref (cls q)) = true
  nt : ∀ b ∈ tys, PySem.W.notFirst K (cls C) (.type b) = true
theorem EqC.of {K : PySem.W.Frag} {cls : String → Addr} {C : String} {cs : List String} {f : Addr} (m : Meth K (cls C) (Str.ofString "__eq__") f) (x : EqX K cls C cs) : EqC K cls C cs f := ⟨m.1, m.2, x.ne, x.ob, x.nf, x.nt⟩
/-- a class's ==, by its mirror -/
def ED (P : Program) (w : World) (K : PySem.W.Frag) (mg : Str → Option Value) (base : Heap) (c : Cfg) (k : Nat) (cs : List String) (C : String) (M : List D → RF) : Prop :=
  ∃ (f : Addr) (fd : FuncData) (ps : List Str) (j : Nat), j ≤ k ∧ EqC K c.cls C cs f ∧ FnOk P w K mg base (L2.CX P w) j f fd ps (spM c 2 [] M) ∧ Binds K fd ps []
theorem ED.mk' {P : Program} {w : World} {K : PySem.W.Frag} {mg : Str → Option Value} {base : Heap} {c : Cfg} {k j : Nat} {cs : List String} {C : String} {M : List D → RF} {f : Addr} {fd : FuncData} {ps : List Str} (e : EqC K c.cls C cs f) (F : FnOk P w K mg base (L2.CX P w) j f fd ps (spM c 2 [] M)) (b : Binds K fd ps []) (h : j ≤ k) : ED P w K mg base c k cs C M := ⟨f, fd, ps, j, h, e, F, b⟩
def EDs (P : Program) (w : World) (K : PySem.W.Frag) (mg : Str → Option Value) (base : Heap) (c : Cfg) (k : Nat) (cs : List String) : List (String × (List D → RF)) → Prop
  | [] => True
  | p :: r => ED P w K mg base c k cs p.1 p.2 ∧ EDs P w K mg base c k cs r
section
variable {P : Program} {w : World} {K : PySem.W.Frag} {mg : Str → Option Value} {base : Heap} {c : Cfg} {k : Nat} {cs : List String}
theorem EDs.nil : EDs P w K mg base c k cs [] := trivial
theorem EDs.cons {C : String} {M : List D → RF} {r : List (String × (List D → RF))} (h1 : ED P w K mg base c k cs C M) (h2 : EDs P w K mg base c k cs r) : EDs P w K mg base c k cs ((C, M) :: r) := ⟨h1, h2⟩
theorem EDs.get {C : String} {M : List D → RF} : ∀ {tab : List (String × (List D → RF))}, EDs P w K mg base c k cs tab → tab.lookup C = some M → ED P w K mg base c k cs C M
  | [], _, h => by simp at h
  | (C', M') :: r, h, e => by
    rw [List.lookup_cons] at e
    cases q : C == C' with
    | true =>
      rw [q] at e
      simp only [Option.some.injEq] at e
      rw [eq_of_beq q, ← e]
      exact h.1
    | false => rw [q] at e; exact EDs.get h.2 e
end
section
variable {X : Cx} {c : Cfg} {k : Nat} {cs : List String} {tab : List (String × (List D → RF))}
end
/-- x == y, x != y of an object and anything -/
def eqY (cs : List String) : D → Bool
  | .obj _ C _ _ => decide (C ∈ cs)
  | d => (dTy d).isSome
def mCmpO (neg : Bool) (cs : List String) (tab : List (String × (List D → RF))) (ma mb : Cm D) : Cm D := fun ρ => (ma ρ).bind fun x ρ => (mb ρ).bind fun y ρ => match x with
  | .obj o C ns xs => (match tab.lookup C with
    | some M => if eqY cs y = true then (match M [(D.obj o C ns xs).fz, y.fz] with
      | .ok (.sc (.bl b)) [] => .ok (.bl (neg ^^ b)) ρ
      | _ => .stuck) else .stuck
    | none => .stuck)
  | _ => .stuck
@[simp] theorem mCmpO_ (neg : Bool) (cs : List String) (tab : List (String × (List D → RF))) (ma mb : Cm D) (ρ : DE) : mCmpO neg cs tab ma mb ρ = (ma ρ).bind fun x ρ => (mb ρ).bind fun y ρ => match x with
  | .obj o C ns xs => (match tab.lookup C with
    | some M => if eqY cs y = true then (match M [(D.obj o C ns xs).fz, y.fz] with
      | .ok (.sc (.bl b)) [] => .ok (.bl (neg ^^ b)) ρ
      | _ => .stuck) else .stuck
    | none => .stuck)
  | _ => .stuck := rfl
section
variable {X : Cx} {g : Gh} {W : WX} {pos : Pos} {a b : Expr} {ma mb : Cm D}
end
/-! ### == of deep data -/
section
variable {g : Gh}
end
end VS

/-! VS, part W: dicts (keys numbers and texts; {None: v}): made, asked, walked, written by setdefault. -/
namespace VS
open PySem PySem.Spec PyProof.Rows L2

/-! ### keys -/
/-! ### what a dict holds -/
section
variable {X : Cx} {pins : List (Addr × Obj)} {σ : L2.St} {H : Hp} {s : Shared} {a : Addr} {y v : V} {u r : Value} {o : Option V} {A : Around} {E : Value → Shared → Prop}
end
section
variable {X : Cx} {o i e value : Expr} {pos pos' tpos : Pos} {td ty tv : TE}
/-! ### d[None] = v of an empty dict; d[i] = v -/
/-! ### sorted(d), len(d) -/
end
end VS

/-! VS, part X: words over dicts. -/
namespace VS
open PySem PySem.Spec PyProof.Rows L2

/-! ### tables -/
def lookK {α : Type} : List Sc → List α → Sc → Option α
  | k :: ks, x :: xs, s => if k = s then some x else lookK ks xs s
  | _, _, _ => none
/-- what stands at a key: stuck (none), nothing, something -/
def getK {α : Type} (ks : List Sc) (xs : List α) (s : Sc) : Option (Option α) :=
  if ks.all keyS = true then (if s = .non then some none else if keyS s = true then some (lookK ks xs s) else none) else if ks = [.non] ∧ s = .non then (match xs with
    | [x] => some (some x)
    | _ => none) else none
theorem keyOf_inj {a b : Sc} (ha : keyS a = true) (hb : keyS b = true) (e : keyOf a = keyOf b) : a = b := by
  cases a <;> cases b <;> simp_all [keyS, keyOf]
theorem keyOf_v {s : Sc} (h : keyS s = true) : kV (keyOf s) = s.v := by
  cases s <;> simp_all [keyS, keyOf, kV, Sc.v]
theorem lookK_val {s : Sc} (hs : keyS s = true) : ∀ (ks : List Sc) (vs : List V), ks.all keyS = true → valV (kvO ks vs) (keyOf s) = lookK ks vs s
  | [], _, _ => by simp [kvO, lookK, valV]
  | _ :: _, [], _ => by simp [kvO, lookK, valV]
  | k :: ks, v :: vs, h => by
    simp only [List.all_cons, Bool.and_eq_true] at h
    have ih := lookK_val hs ks vs h.2
    simp only [kvO, List.map_cons, List.zip_cons_cons, lookK]
    by_cases e : k = s
    · subst e; rw [if_pos rfl]; exact valV_pos (p := (keyOf k, v)) rfl
    · rw [if_neg e, valV_neg (p := (keyOf k, v)) (fun z => e (keyOf_inj h.1 hs z))]
      exact ih
/-! ### what is only looked at -/
def pkV (i : Nat) : DE → Option D := fun ρ => match ρ[i]? with
  | some (some d) => some d
  | _ => none
def pkC (s : Sc) : DE → Option D := fun _ => some (.sc s)
def pkF (i : Nat) (C f : String) : DE → Option D := fun ρ => match ρ[i]? with
  | some (some (.obj _ C' ns xs)) => if C' = C then (match fIx f ns with
    | some j => xs[j]?
    | none => none) else none
  | _ => none
def pkG (pa pk : DE → Option D) : DE → Option D := fun ρ => match pa ρ, pk ρ with
  | some (.dct _ ks xs), some (.sc s) => (match getK ks xs s with
    | some (some d) => some d
    | _ => none)
  | _, _ => none
section
variable {X : Cx} {g : Gh} {W : WX} {pos p apos : Pos} {a b e o : Expr} {ma mb : Cm D} {x : Str} {ta tb tk : TE} {pa pb pk : DE → Option D} {i : Nat}
/-! ### x in d -/
def mInB (neg : Bool) (ma : Cm D) (pb : DE → Option D) : Cm D := fun ρ => (ma ρ).bind fun x ρ => match x, pb ρ with
  | .sc s, some (.dct _ ks xs) => (match getK ks xs s with
    | some r => .ok (.bl (neg ^^ r.isSome)) ρ
    | none => .stuck)
  | _, _ => .stuck
/-! ### d[k], a scalar or what two may hold -/
def mGetB (pb : DE → Option D) : Cm D := fun ρ => match pb ρ with
  | some (.sc s) => .ok (.sc s) ρ
  | _ => .stuck
/-- what may be held by two -/
def mPkV (pb : DE → Option D) : Cm D := fun ρ => match pb ρ with
  | some d => if d.pur = true then .ok d ρ else .stuck
  | _ => .stuck
/-! ### len(d), sorted(d) -/
def mLenB (pb : DE → Option D) : Cm D := fun ρ => match pb ρ with
  | some (.dct _ ks _) => if ks.all keyS = true then .ok (.int ks.length) ρ else .stuck
  | _ => .stuck
def intsK : List Sc → Option (List Int)
  | [] => some []
  | .int i :: ks => (intsK ks).map (i :: ·)
  | _ => none
def insI (n : Int) : List Int → List Int
  | [] => [n]
  | m :: r => if n ≤ m then n :: m :: r else m :: insI n r
def sortI : List Int → List Int
  | [] => []
  | n :: r => insI n (sortI r)
def mSortB (pb : DE → Option D) : Cm D := fun ρ => match pb ρ with
  | some (.dct _ ks _) => (match intsK ks with
    | some ns => if ns.length ≤ 16777216 then .ok (.lst .own ((sortI ns).map D.int)) ρ else .stuck
    | none => .stuck)
  | _ => .stuck
end
end VS

/-! VS, part Y: dicts made, walked, written by setdefault; an attribute as a target. -/
namespace VS
open PySem PySem.Spec PyProof.Rows L2
mutual
theorem D.fz_pur : ∀ d : D, d.fz.pur = true
  | .sc _ => by simp [D.fz, D.pur]
  | .lst o xs => by cases o <;> simp only [D.fz, D.pur, Ds.fz_pur2 xs, reduceCtorEq, if_true, if_false] <;> rfl
  | .tup xs => by simp only [D.fz, D.pur, Ds.fz_pur2 xs]
  | .obj o _ _ xs => by cases o <;> simp only [D.fz, D.pur, Ds.fz_pur2 xs, reduceCtorEq, if_true, if_false] <;> rfl
  | .exn _ _ _ => by simp [D.fz, D.pur]
  | .dct o _ xs => by cases o <;> simp only [D.fz, D.pur, Ds.fz_pur2 xs, reduceCtorEq, if_true, if_false] <;> rfl
theorem Ds.fz_pur2 : ∀ ds : List D, Ds.pur (Ds.fz ds) = true
  | [] => by simp [Ds.fz, Ds.pur]
  | d :: ds => by simp only [Ds.fz, Ds.pur, D.fz_pur d, Ds.fz_pur2 ds, Bool.and_self]
end
section
variable {g : Gh}
/-- an address that a slot's tree owns is written: the tree is another, what it owned may be held by several -/
theorem SR.writeX {H : Hp} {σ : L2.St} {sl : List (Option T)} {tm es : List T} {i : Nat} {t t' : T} {p : Addr} {o : HO} (s : SR g H σ sl (es ++ tm)) (h : sl[i]? = some (some t)) (hp : 0 < t.oc p) (hv : t'.v = t.v) (hk : t'.ok g.c (upd H p o))
    (ho : ∀ a, t'.oc a ≤ t.oc a + Ts.oc a es) (hs : ∀ a, 0 < t'.sh a → 0 < t.sh a + Ts.sh a es ∨ (0 < t.oc a ∧ t'.oc a = 0)) : SR g (upd H p o) σ (sl.set i (some t')) tm := by
  have hmem := s.slot h
  have g1 := So_get (f := T.oc p) hmem
  have g1s := So_get (f := T.sh p) hmem
  have iv := s.inv p
  rw [Ts.oc_append, Ts.sh_append] at iv
  have c1 : ∀ a, So (T.oc a) (sl.set i (some t')) + t.oc a = So (T.oc a) sl + t'.oc a := fun a => by
    have := So_set (f := T.oc a) (x := some t') h
    simpa [fO] using this
  have c2 : ∀ a, So (T.sh a) (sl.set i (some t')) + t.sh a = So (T.sh a) sl + t'.sh a := fun a => by
    have := So_set (f := T.sh a) (x := some t') h
    simpa [fO] using this
  refine s.go (fun u m => ?_) ?_ (fun a => .inl ?_) (fun a => ?_) s.len (by simp [s.slen]) (fun j u hj => ?_) s.io
  · obtain ⟨j, hj⟩ := mem_get m
    rcases set_get hj with ⟨rfl, e'⟩ | ⟨ne, e'⟩
    · cases e'; exact hk
    · have e := List.mem_of_getElem? e'
      refine T.stay u (s.okS u e) fun a q => upd_ne fun ea => ?_
      subst ea
      have d0 := So_set (f := T.oc a) (x := none) h
      have d1 := So_get (f := T.oc a) (sl := sl.set i none) (t := u) (List.mem_of_getElem? (i := j) (by rw [List.getElem?_set_ne (Ne.symm ne)]; exact e'))
      have d2 := So_get (f := T.sh a) e
      simp only [fO] at d0
      omega
  · have kt := s.okT
    rw [Ts.ok_iff] at kt ⊢
    intro u m
    refine T.stay u (kt u (List.mem_append_right _ m)) fun a q => upd_ne fun ea => ?_
    subst ea
    have h1 := Ts.oc_mem (a := a) m; have h2 := Ts.sh_mem (a := a) m
    omega
  · have d1 := c1 a
    have d2 := c2 a
    have h1 := ho a
    have h2 := hs a
    have g2 := So_get (f := T.sh a) hmem
    have g3 := So_get (f := T.oc a) hmem
    have iva := s.inv a
    rw [Ts.oc_append, Ts.sh_append] at iva
    rw [Ts.oc_append, Ts.sh_append]
    refine ⟨by omega, fun q => ?_⟩
    by_cases e : 0 < t'.sh a
    · rcases h2 e with h2 | h2
      · left; omega
      · right; omega
    · left; omega
  · by_cases e : a = p
    · subst e
      refine .inr (.inr ?_)
      rw [Ts.oc_append]
      omega
    · exact .inl (upd_ne e)
  · rcases set_get hj with ⟨rfl, e⟩ | ⟨_, e⟩
    · cases e; rw [hv]; exact s.at_ _ _ h
    · exact s.at_ _ _ e
theorem set_v {ts : List T} {j : Nat} {t t' : T} (h : ts[j]? = some t) (e : t'.v = t.v) : (ts.set j t').map T.v = ts.map T.v := by
  rw [List.map_set, e]
  have e : (ts.map T.v)[j]? = some t.v := by rw [List.getElem?_map, h]; rfl
  obtain ⟨hl, e2⟩ := List.getElem?_eq_some_iff.1 e
  rw [← e2, List.set_getElem_self]
/-- a list of trees, one of which owns r alone: r is written, this tree is another -/
theorem Ts.okW {c : Cfg} {H : Hp} {r : Addr} {o : HO} {xs : List T} {p : Nat} {t1 t2 : T} (k : Ts.ok c H xs) (h : xs[p]? = some t1) (h1 : 0 < t1.oc r) (h2 : Ts.oc r xs ≤ 1) (h3 : Ts.sh r xs = 0) (k2 : t2.ok c (upd H r o)) : Ts.ok c (upd H r o) (xs.set p t2) := by
  rw [Ts.ok_iff]
  intro t m
  obtain ⟨n, hn⟩ := mem_get m
  rcases set_get hn with ⟨rfl, e'⟩ | ⟨ne, e'⟩
  · subst e'; exact k2
  · refine T.stay t (Ts.ok_iff.mp k t (List.mem_of_getElem? e')) fun a c => upd_ne fun ea => ?_
    subst ea
    have d0 := Ts.oc_setE a (T.sc .non) xs p _ h
    have d1 := Ts.oc_mem (a := a) (ts := xs.set p (T.sc .non)) (t := t) (List.mem_of_getElem? (i := n) (by rw [List.getElem?_set_ne (Ne.symm ne)]; exact e'))
    have d2 := Ts.sh_mem (a := a) (List.mem_of_getElem? e')
    simp only [T.oc] at d0
    omega
/-- what a field holds is written -/
theorem SR.putF {H : Hp} {σ : L2.St} {sl : List (Option T)} {tm es : List T} {i j : Nat} {q dx r : Addr} {C : String} {ns : List String} {ts : List T} {t1 t2 : T} {o : HO} (s : SR g H σ sl (es ++ tm)) (h : sl[i]? = some (some (T.obj q dx .own C ns ts))) (hj : ts[j]? = some t1) (hr : 0 < t1.oc r) (hv : t2.v = t1.v)
    (hk : t2.ok g.c (upd H r o)) (ho : ∀ a, t2.oc a ≤ t1.oc a + Ts.oc a es) (hs : ∀ a, 0 < t2.sh a → 0 < t1.sh a + Ts.sh a es ∨ (0 < t1.oc a ∧ t2.oc a = 0)) :
    SR g (upd H r o) σ (sl.set i (some (T.obj q dx .own C ns (ts.set j t2)))) tm := by
  have k := s.okS _ (s.slot h)
  simp only [T.ok] at k
  have g1 := So_get (f := T.oc r) (s.slot h)
  have g2 := So_get (f := T.sh r) (s.slot h)
  have iv := s.inv r
  rw [Ts.oc_append, Ts.sh_append] at iv
  simp only [T.oc, T.sh] at g1 g2
  have xo := Ts.oc_mem (a := r) (List.mem_of_getElem? hj)
  have hq : q ≠ r := fun e => by
    subst e
    have : b2 (True ∧ q = q) = 1 := by simp [b2]
    omega
  have hd : dx ≠ r := fun e => by
    subst e
    have : b2 (True ∧ dx = dx) = 1 := by simp [b2]
    omega
  refine s.writeX h (by simp only [T.oc]; omega) (by simp [T.v]) ?_ (fun a => ?_) fun a => ?_
  · simp only [T.ok]
    exact ⟨by rw [upd_ne hq, k.1, set_v hj hv], by rw [upd_ne hd]; exact k.2.1, k.2.2.1, by simpa using k.2.2.2.1, Ts.okW k.2.2.2.2 hj hr (by omega) (by omega) hk⟩
  · have h1 := ho a
    have h2 := Ts.oc_setE a t2 ts j _ hj
    simp only [T.oc]
    omega
  · intro q1
    have h1 := hs a
    have h2 := Ts.sh_setE a t2 ts j _ hj
    have h3 := Ts.oc_setE a t2 ts j _ hj
    have h4 := Ts.sh_mem (a := a) (List.mem_of_getElem? hj)
    have h5 := Ts.oc_mem (a := a) (List.mem_of_getElem? hj)
    have g3 := So_get (f := T.oc a) (s.slot h)
    have iva := s.inv a
    rw [Ts.oc_append] at iva
    simp only [T.oc, T.sh] at q1 g3 ⊢
    by_cases e : 0 < t2.sh a
    · rcases h1 e with h1 | h1
      · left; omega
      · right; omega
    · left; omega
end
/-! ### {} -/
def mDctN : Cm D := fun ρ => .ok (.dct .own [] []) ρ
/-! ### for k in self.f -/
def mKeysF (i : Nat) (C f : String) : Cm (List D) := fun ρ => match ρ[i]? with
  | some (some (.obj ow C' ns xs)) => if C' = C then (match fIx f ns with
    | some j => match xs[j]? with
      | some (.dct .own ks vs) => if ow = .own ∧ ks.all keyS = true then .ok (ks.map D.sc) (ρ.set i (some (.obj ow C ns (xs.set j (.dct .frz ks (Ds.fz vs)))))) else .stuck
      | some (.dct .frz ks vs) => if ks.all keyS = true ∧ Ds.pur vs = true then .ok (ks.map D.sc) ρ else .stuck
      | _ => .stuck
    | none => .stuck) else .stuck
  | _ => .stuck
section
variable {X : Cx} {g : Gh} {W : WX} {pos p apos : Pos} {a b e o : Expr} {ma mb : Cm D} {x : Str} {i : Nat}
end
end VS

/-! VS, part Z: self.f.setdefault(k, {})[m] = t; self.f = .. among other targets. -/
namespace VS
open PySem PySem.Spec PyProof.Rows L2
def ixK (s : Sc) : List Sc → Option Nat
  | [] => none
  | k :: ks => if k = s then some 0 else (ixK s ks).map (· + 1)
theorem ixK_none {α : Type} {s : Sc} : ∀ {ks : List Sc} {xs : List α}, ixK s ks = none → lookK ks xs s = none
  | [], _, _ => by simp [lookK]
  | _ :: _, [], _ => by simp [lookK]
  | k :: ks, x :: xs, h => by
    simp only [ixK] at h
    split at h
    · cases h
    · rename_i e
      simp only [Option.map_eq_none_iff] at h
      simp only [lookK, if_neg e]
      exact ixK_none h
theorem kvO_snoc {ks : List Sc} {vs : List V} {k : Sc} {v : V} (h : ks.length = vs.length) : kvO (ks ++ [k]) (vs ++ [v]) = kvO ks vs ++ [(keyOf k, v)] := by
  unfold kvO
  rw [List.map_append, List.zip_append (by simp [h])]
  rfl
theorem putK_none {kvs : List (Key × V)} {k : Key} {v : V} (h : valV kvs k = none) : putK kvs k v = kvs ++ [(k, v)] := by
  unfold putK
  rw [valV_any, h]
  rfl
section
variable {g : Gh}
theorem SR.newG {H : Hp} {σ : L2.St} {sl : List (Option T)} {tm : List T} {p : Addr} {Y : HO} {t : T} (s : SR g H σ sl tm) (hp : H p = none) (ht : t.ok g.c (upd H p Y)) (ho : ∀ a, t.oc a = b2 (p = a)) (hs : ∀ a, t.sh a = 0) : SR g (upd H p Y) σ sl (t :: tm) := by
  have fr := s.free hp
  refine s.go (s.stayS fun b q => upd_ne fun e => ?_) ?_ (fun b => ?_) (fun b => ?_) s.len s.slen s.at_ s.io
  · subst e; omega
  · simp only [Ts.ok]
    refine ⟨ht, s.stayT fun b q => upd_ne fun e => ?_⟩
    · subst e; omega
  · have h1 := ho b
    have h2 := hs b
    by_cases e : p = b
    · subst e
      have : b2 (p = p) = 1 := by simp [b2]
      refine .inr ⟨.inl hp, .inr ?_⟩
      simp only [Ts.oc, Ts.sh]
      omega
    · refine .inl ?_
      have : b2 (p = b) = 0 := by simp [b2, e]
      simp only [Ts.oc, Ts.sh]
      omega
  · by_cases e : b = p
    · exact .inr (.inl (by rw [e]; exact hp))
    · exact .inl (upd_ne e)
end
def setDD (ks : List Sc) (vs : List D) (kn m t : Sc) : Option D := match ixK kn ks with
  | none => if keyS m = true ∨ m = .non then some (.dct .own (ks ++ [kn]) (vs ++ [.dct .own [m] [.sc t]])) else none
  | some p => (match vs[p]? with
    | some (.dct .own ks2 ys) => if ks2.all keyS = true ∧ keyS m = true ∧ ixK m ks2 = none ∧ ks2.length < 16777216 then some (.dct .own ks (vs.set p (.dct .own (ks2 ++ [m]) (ys ++ [.sc t])))) else none
    | _ => none)
/-- self.f.setdefault(k, {})[m] = t -/
def mSetD (i : Nat) (C f : String) (jn jm jt : Nat) : Cm Out := fun ρ => match ρ[i]?, ρ[jn]?, ρ[jm]?, ρ[jt]? with
  | some (some (.obj .own C' ns xs)), some (some (.sc kn)), some (some (.sc m)), some (some (.sc t)) => if C' = C ∧ keyS kn = true then (match fIx f ns with
    | some j => match xs[j]? with
      | some (.dct .own ks vs) => if ks.all keyS = true ∧ ks.length < 16777216 then (match setDD ks vs kn m t with
        | some d => .ok .nx (ρ.set i (some (.obj .own C ns (xs.set j d))))
        | none => .stuck) else .stuck
      | _ => .stuck
    | none => .stuck) else .stuck
  | _, _, _, _ => .stuck
section
variable {X : Cx} {g : Gh} {W : WX} {i jn jm jt : Nat} {C f : String} {st : Stmt}
end
end VS

/-! VS, part 1: an attribute among the targets of a pair. -/
namespace VS
open PySem PySem.Spec PyProof.Rows L2
section
variable {X : Cx} {o : Expr} {ta : TE} {f : Str} {pos' : Pos}
end
def mPutF (i : Nat) (C f : String) : D → Cm Unit := fun d ρ => match ρ[i]? with
  | some (some (.obj .own C' ns xs)) => if C' = C ∧ ns.length < 1000 then (match fIx f ns with
    | some j => .ok () (ρ.set i (some (.obj .own C ns (xs.set j d))))
    | none => .ok () (ρ.set i (some (.obj .own C (ns ++ [f]) (xs ++ [d]))))) else .stuck
  | _ => .stuck
section
variable {X : Cx} {g : Gh} {W : WX} {o : Expr} {pos' : Pos}
end
end VS

namespace VS
open PySem L2
/-! ### for simp -/
section
variable (ρ : DE)
@[simp] theorem mDctN_ : mDctN ρ = .ok (.dct .own [] []) ρ := rfl
@[simp] theorem pkV_ (i : Nat) : pkV i ρ = match ρ[i]? with
  | some (some d) => some d
  | _ => none := rfl
@[simp] theorem pkC_ (s : Sc) : pkC s ρ = some (.sc s) := rfl
@[simp] theorem pkF_ (i : Nat) (C f : String) : pkF i C f ρ = match ρ[i]? with
  | some (some (.obj _ C' ns xs)) => if C' = C then (match fIx f ns with
    | some j => xs[j]?
    | none => none) else none
  | _ => none := rfl
@[simp] theorem pkG_ (pa pk : DE → Option D) : pkG pa pk ρ = match pa ρ, pk ρ with
  | some (.dct _ ks xs), some (.sc s) => (match getK ks xs s with
    | some (some d) => some d
    | _ => none)
  | _, _ => none := rfl
@[simp] theorem mInB_ (neg : Bool) (ma : Cm D) (pb : DE → Option D) : mInB neg ma pb ρ = (ma ρ).bind fun x ρ => match x, pb ρ with
  | .sc s, some (.dct _ ks xs) => (match getK ks xs s with
    | some r => .ok (.bl (neg ^^ r.isSome)) ρ
    | none => .stuck)
  | _, _ => .stuck := rfl
@[simp] theorem mGetB_ (pb : DE → Option D) : mGetB pb ρ = match pb ρ with
  | some (.sc s) => .ok (.sc s) ρ
  | _ => .stuck := rfl
@[simp] theorem mPkV_ (pb : DE → Option D) : mPkV pb ρ = match pb ρ with
  | some d => if d.pur = true then .ok d ρ else .stuck
  | _ => .stuck := rfl
@[simp] theorem mLenB_ (pb : DE → Option D) : mLenB pb ρ = match pb ρ with
  | some (.dct _ ks _) => if ks.all keyS = true then .ok (.int ks.length) ρ else .stuck
  | _ => .stuck := rfl
@[simp] theorem mSortB_ (pb : DE → Option D) : mSortB pb ρ = match pb ρ with
  | some (.dct _ ks _) => (match intsK ks with
    | some ns => if ns.length ≤ 16777216 then .ok (.lst .own ((sortI ns).map D.int)) ρ else .stuck
    | none => .stuck)
  | _ => .stuck := rfl
@[simp] theorem mKeysF_ (i : Nat) (C f : String) : mKeysF i C f ρ = match ρ[i]? with
  | some (some (.obj ow C' ns xs)) => if C' = C then (match fIx f ns with
    | some j => match xs[j]? with
      | some (.dct .own ks vs) => if ow = .own ∧ ks.all keyS = true then .ok (ks.map D.sc) (ρ.set i (some (.obj ow C ns (xs.set j (.dct .frz ks (Ds.fz vs)))))) else .stuck
      | some (.dct .frz ks vs) => if ks.all keyS = true ∧ Ds.pur vs = true then .ok (ks.map D.sc) ρ else .stuck
      | _ => .stuck
    | none => .stuck) else .stuck
  | _ => .stuck := rfl
@[simp] theorem mSetD_ (i : Nat) (C f : String) (jn jm jt : Nat) : mSetD i C f jn jm jt ρ = match ρ[i]?, ρ[jn]?, ρ[jm]?, ρ[jt]? with
  | some (some (.obj .own C' ns xs)), some (some (.sc kn)), some (some (.sc m)), some (some (.sc t)) => if C' = C ∧ keyS kn = true then (match fIx f ns with
    | some j => match xs[j]? with
      | some (.dct .own ks vs) => if ks.all keyS = true ∧ ks.length < 16777216 then (match setDD ks vs kn m t with
        | some d => .ok .nx (ρ.set i (some (.obj .own C ns (xs.set j d))))
        | none => .stuck) else .stuck
      | _ => .stuck
    | none => .stuck) else .stuck
  | _, _, _, _ => .stuck := rfl
@[simp] theorem mPutF_ (i : Nat) (C f : String) (d : D) : mPutF i C f d ρ = match ρ[i]? with
  | some (some (.obj .own C' ns xs)) => if C' = C ∧ ns.length < 1000 then (match fIx f ns with
    | some j => .ok () (ρ.set i (some (.obj .own C ns (xs.set j d))))
    | none => .ok () (ρ.set i (some (.obj .own C (ns ++ [f]) (xs ++ [d]))))) else .stuck
  | _ => .stuck := rfl
end
end VS

/-! VS, part 2: dict(pairs)[k]. -/
namespace VS
open PySem PySem.Spec PyProof.Rows L2
def prsK : List D → Option (List Sc × List Sc)
  | [] => some ([], [])
  | .tup [.sc k, .sc v] :: r => if keyS k = true then (prsK r).map fun p => (k :: p.1, v :: p.2) else none
  | _ => none
def mDictAt (ma mb : Cm D) : Cm D := fun ρ => (ma ρ).bind fun d ρ => match d with
  | .lst o xs => (match prsK xs with
    | some (ks, vs) => if ks.Nodup then ((mb ρ).bind fun k ρ => match k with
      | .sc s => if keyS s = true then (match lookK ks vs s with
        | some r => .ok (.sc r) ρ
        | none => .stuck) else .stuck
      | _ => .stuck) else .stuck
    | none => .stuck)
  | _ => .stuck
theorem prsK_T {K : PySem.W.Frag} {c : Cfg} {H : Hp} (hK : K = c.K) : ∀ {ts : List T} {ks vs : List Sc}, prsK (Ts.d ts) = some (ks, vs) → Ts.ok c H ts →
    ∃ ps : List Addr, ts.map T.v = ps.map V.ref ∧ Paired (fun p (kv : Key × V) => SqT K H p [kV kv.1, kv.2]) ps (kvO ks (vs.map Sc.v)) ∧ ks.length = vs.length ∧ ks.length = ts.length ∧ ks.all keyS = true ∧ (∀ s ∈ ks, s.good) ∧ ∀ s ∈ vs, s.good
  | [], ks, vs, h, _ => by
    simp only [Ts.d, prsK, Option.some.injEq, Prod.mk.injEq] at h
    obtain ⟨rfl, rfl⟩ := h
    exact ⟨[], rfl, .nil, rfl, rfl, rfl, fun s hs => (List.not_mem_nil hs).elim, fun s hs => (List.not_mem_nil hs).elim⟩
  | t :: ts, ks, vs, h, k => by
    simp only [Ts.ok] at k
    cases t with
    | tup b st xs =>
      match xs with
      | [T.sc a, T.sc v] =>
        simp only [Ts.d, T.d, prsK] at h
        split at h
        · rename_i ha
          simp only [Option.map_eq_some_iff] at h
          obtain ⟨⟨ks', vs'⟩, h', e⟩ := h
          simp only [Prod.mk.injEq] at e
          obtain ⟨rfl, rfl⟩ := e
          obtain ⟨ps, e1, e2, e3, e4, e5, e6, e7⟩ := prsK_T hK h' k.2
          have q := tup_sq k.1
          have ga : a.good ∧ v.good := by
            have := k.1
            cases st <;> simp only [T.ok, Ts.ok] at this <;> exact ⟨this.2.2.1, this.2.2.2.1⟩
          refine ⟨b :: ps, by rw [List.map_cons, e1]; rfl, ?_, by simp [e3], by simp [e4], by simp [ha, e5], ?_, ?_⟩
          · refine .cons ?_ e2
            rw [hK, keyOf_v ha]
            exact q.1
          · intro s hs
            rcases List.mem_cons.mp hs with rfl | hs
            · exact ga.1
            · exact e6 s hs
          · intro s hs
            rcases List.mem_cons.mp hs with rfl | hs
            · exact ga.2
            · exact e7 s hs
        · cases h
      | [] => simp [Ts.d, T.d, prsK] at h
      | [x] => simp [Ts.d, T.d, prsK] at h
      | x :: y :: z :: r => simp [Ts.d, T.d, prsK] at h
      | [T.lst _ _ _, y] => simp [Ts.d, T.d, prsK] at h
      | [T.tup _ _ _, y] => simp [Ts.d, T.d, prsK] at h
      | [T.obj _ _ _ _ _ _, y] => simp [Ts.d, T.d, prsK] at h
      | [T.exn _ _ _ _ _, y] => simp [Ts.d, T.d, prsK] at h
      | [T.dct _ _ _ _ _, y] => simp [Ts.d, T.d, prsK] at h
      | [T.sc _, T.lst _ _ _] => simp [Ts.d, T.d, prsK] at h
      | [T.sc _, T.tup _ _ _] => simp [Ts.d, T.d, prsK] at h
      | [T.sc _, T.obj _ _ _ _ _ _] => simp [Ts.d, T.d, prsK] at h
      | [T.sc _, T.exn _ _ _ _ _] => simp [Ts.d, T.d, prsK] at h
      | [T.sc _, T.dct _ _ _ _ _] => simp [Ts.d, T.d, prsK] at h
    | _ => simp [Ts.d, T.d, prsK] at h
theorem valV_no {k : Sc} (hk : keyS k = true) {ks : List Sc} {vs : List V} (ha : ks.all keyS = true) (h : k ∉ ks) : valV (kvO ks vs) (keyOf k) = none := by
  rw [lookK_val hk ks vs ha]
  exact ixK_none (by
    clear ha
    induction ks with
    | nil => rfl
    | cons a r ih =>
      simp only [List.mem_cons, not_or] at h
      simp only [ixK, if_neg (Ne.symm h.1), ih h.2, Option.map_none])
theorem merge_nodup : ∀ (ks : List Sc) (vs : List V) (as : List Sc) (us : List V), as.length = us.length → ks.length = vs.length → ks.all keyS = true → as.all keyS = true → (as ++ ks).Nodup → mergeK (kvO as us) (kvO ks vs) = kvO (as ++ ks) (us ++ vs)
  | [], [], as, us, _, _, _, _, _ => by simp [kvO, mergeK]
  | k :: ks, v :: vs, as, us, h1, h2, h3, h4, h5 => by
    simp only [List.all_cons, Bool.and_eq_true] at h3
    have hn : k ∉ as := fun m => by
      rw [List.nodup_append] at h5
      exact h5.2.2 k m k List.mem_cons_self rfl
    have e : mergeK (kvO as us) (kvO (k :: ks) (v :: vs)) = mergeK (putK (kvO as us) (keyOf k) v) (kvO ks vs) := rfl
    rw [e, putK_none (valV_no h3.1 h4 hn), ← kvO_snoc h1, merge_nodup ks vs (as ++ [k]) (us ++ [v]) (by simp [h1]) (by simpa using h2) h3.2 (by simp [h4, h3.1]) (by simpa using h5)]
    simp
  | [], _ :: _, _, _, _, h, _, _, _ => by simp at h
  | _ :: _, [], _, _, _, h, _, _, _ => by simp at h
section
variable {X : Cx} {g : Gh} {W : WX} {pos p p2 : Pos} {a b : Expr} {ma mb : Cm D} {x : Str}
@[simp] theorem mDictAt_ (ρ : DE) : mDictAt ma mb ρ = (ma ρ).bind fun d ρ => match d with
  | .lst o xs => (match prsK xs with
    | some (ks, vs) => if ks.Nodup then ((mb ρ).bind fun k ρ => match k with
      | .sc s => if keyS s = true then (match lookK ks vs s with
        | some r => .ok (.sc r) ρ
        | none => .stuck) else .stuck
      | _ => .stuck) else .stuck
    | none => .stuck)
  | _ => .stuck := rfl
end
end VS

/-! VS, part 3: raise .. from None within an except suite. -/
namespace VS
open PySem PySem.Spec PyProof.Rows L2
/-- without exceptions -/
def qR {α : Type} : R α → R α
  | .exc _ _ => .stuck
  | r => r
def mQ {α : Type} (m : Cm α) : Cm α := fun ρ => qR (m ρ)
theorem qR_lands {α : Type} {g : Gh} {W W' : WX} {tm : List T} {r : R α} {k : α → DE → Prop} (h : Lands g W tm (qR r) k) : Lands g W' tm r k := by
  cases r with
  | ok a ρ => exact h
  | exc x ρ => exact h.elim
  | stuck => exact h.elim
section
variable {X : Cx} {g : Gh} {W : WX} {e : Expr} {ss : List Stmt} {st : Stmt}
theorem t_quiet {m : Cm Bool} (h : PT X e (tT g (fun _ _ _ _ => False) m)) : PT X e (tT g W (mQ m)) := h.imp fun σ H Q ⟨sl, tm, s, q⟩ => ⟨sl, tm, s, qR_lands q⟩
theorem s_quiet {m : Cm Out} (h : PS X st (tS g (fun _ _ _ _ => False) m)) : PS X st (tS g W (mQ m)) := h.imp fun De σ H ⟨sl, tm, s, q⟩ => ⟨sl, tm, s, qR_lands q⟩
end

/-! ### defs whose exceptions have no context -/
theorem fn_okN {P : Program} {w : World} {K : PySem.W.Frag} {mg : Str → Option Value} {base : Heap} {c : Cfg} {x qual : Str} {params : Arguments} {sbody : List Stmt} {scope : Scope} {dvs : List V} {kws : List (Str × V)} {f : Addr} {fd : FuncData} {N ps : List Str} {k np : Nat} {io : List Nat} {m : Cm Out}
    (F : FunD K x qual params sbody scope dvs kws f fd) (S : FnScope N ps scope) (hps : ps.length = np) (hN : np ≤ N.length) (hio : ∀ i ∈ io, i < np) (hnd : io.Nodup)
    (body : ∀ (g : Gh) (cdv : Value) (A : Around) (outer : List Env) (s : Shared) (H : Hp) (E : XK), Room k (A.deeper (envOfC qual scope s.heap.objs.size f cdv)) → g.c = c → g.N = N.length → g.io.map (·.1) = io →
      PSs (cxOf (L2N.CX P w) P w K mg base N qual scope f cdv A outer s H E) sbody (tS g (fun cls d _ H => E cls d H) m)) :
    FnOk P w K mg base (L2N.CX P w) (k + 1) f fd ps (spM c np io (runF N.length io m)) := by
  obtain ⟨oc, od, dV, kV, doc, pm, an, cdv, ct, osl, rfl, lk, hcd, _, _⟩ := F.ex
  refine fn_of lk hcd S (spM_len hps) fun A outer s H vs Q E hr h => ?_
  exact body_ok (fun g => body g cdv A outer s H E hr) S hps hN hio hnd h

section
variable {X : Cx} {g : Gh} {W : WX} {pos pos2 p p2 : Pos} {x m : Str} {j : Nat} {e : Expr} {es : List Expr} {ta : TA}
/-- X('m'), its record whole -/
theorem pmk5_own {C : Addr} {bmB : List Value} {B newId initId : String} (F : ExcBaseFacts B newId initId bmB) (q : PySem.W.excIn X.K C bmB newId = true) (gC : X.mg x = some (.ref C)) (kC : PySem.W.keepIn X.K (.ref C) = true) (r : Raises X (.ref C)) (hg : Gl X x)
    (hdb : (x == ("__debug__" : Str)) = false := by decide) : L2H.PMk5 X (.Call (.Name x p) [.Constant (.str m) j p2] [] pos) (fun _ H Q => Q (.ref C) none H) := by
  intro pins s σ H Q I h
  refine wpAny_Call_Name_kw (ld_glob I hg gC ?_ hdb)
  have ha : PA X [.Constant (.str m) j p2] (tCons (tC (.str m)) tNil) := pa_cons pe_str pa_nil
  refine PySem.W.callWith_K (h₀ := X.base) I.ok.mod.kin kC (thn (ha.run pos pins s σ H (fun vs H1 => vs = [V.str m] ∧ H = H1) I ⟨rfl, rfl⟩) fun us s1 hh => ?_)
  obtain ⟨vs, H1, I1, r1, ev, eH⟩ := hh
  subst ev
  rw [← eH] at I1
  refine ⟨I1.kIn, ?_⟩
  cases r1 with
  | cons ru rn =>
    rename_i u us'
    cases rn
    show wpAny _ _ (call (.ref C) [u]) _ _ _
    obtain ⟨bm, N, nm, qn, bs, hdct, sn, sub, ab, col, dd, k0, k1, k2, k3, k5, mN, hC, hN, hni, T⟩ := exc_obj I1.kIn q
    refine wpAny_call_exc_subT F T hC hN hni (fun h' e hm => ?_) (by show 1 ≤ sizeLine; rw [sizeLine_eq]; omega)
    exact L2H.mk_of5 I1 hm r h (I1.hok.gone hm.new)
/-- C(why, ..) of an own __init__, where nothing is handled -/
theorem pmk_oexN {CX : CXT} {C fI : Addr} {k : Nat} {fd : FuncData} {ps : List Str} {sp : Sp} {ds : List Value} {dvs : List V} (T : OexC X.K C) (iC : PySem.W.findIn X.K (.ref C) "__init__" = some (some (.ref fI))) (tI : PySem.W.typeIn X.K (.ref fI) = some (.type "function"))
    (F1 : FnOk X.prog X.w X.K X.mg X.base CX k fI fd ps sp) (hr : Room (k + 1) X.A) (hb : Binds X.K fd ps ds) (hd : Vals dvs ds) (hx : Passes CX X (fun _ _ _ => False)) (hg : Gl X x) (hm : X.mg x = some (.ref C)) (ha : PA X (e :: es) ta)
    (hdb : (x == ("__debug__" : Str)) = false := by decide) (he : starEach (e :: es) X.env = (false, eval e X.env) :: starEach es X.env := by rfl) (hpl : (backTo pos (starEach es X.env)).any (·.1) = false := by rfl) :
    L2N.PMk X (.Call (.Name x p) (e :: es) [] pos) (tMkO C sp dvs ta) := by
  intro pins s σ H Q I h
  obtain ⟨nm, q, N, bs, bm, sn, sub, ab, col, dd, k0, k1, k2, k3, k5, hC, hbm⟩ := T.cls
  refine wpAny_Call_Name_kw (ld_glob I hg hm ?_ hdb)
  refine PySem.W.callWith_K (h₀ := X.base) I.ok.mod.kin T.kC (thn (ha.run pos pins s σ H _ I h) fun us s1 ⟨vs, H1, I1, r1, hz, q1⟩ => ⟨I1.kIn, ?_⟩) he hpl
  show wpAny _ _ (call (.ref C) us) _ _ _
  obtain ⟨hp, g, dr, tk, os⟩ := s1
  have hsz : hp.objs.size ≤ hp.objs.size + 1 := Nat.le_succ _
  have hn : H1 (hp.objs.size + 1) = none := I1.hok.fresh hsz
  have hq := q1 (hp.objs.size + 1) hn
  have kk : ∀ b o, hp.get? b = some o → ((hp.push (PySem.W.kdv_tup us)).push (PySem.HandSPX.excO C hp.objs.size)).get? b = some o := fun b o e => Heap.get?_push_of_some _ (Heap.get?_push_of_some _ e)
  have hget : ((hp.push (PySem.W.kdv_tup us)).push (PySem.HandSPX.excO C hp.objs.size)).get? (hp.objs.size + 1) = some (PySem.HandSPX.excO C hp.objs.size) := by heap_get
  have I2 : Inv X pins σ (upd H1 (hp.objs.size + 1) (exo (hp.objs.size + 1) C none)) ⟨(hp.push (PySem.W.kdv_tup us)).push (PySem.HandSPX.excO C hp.objs.size), g, dr, tk, os⟩ :=
    I1.laid (t' := tk) (a := hp.objs.size + 1) (o := exo (hp.objs.size + 1) C none) (h' := (hp.push (PySem.W.kdv_tup us)).push (PySem.HandSPX.excO C hp.objs.size)) kk hsz (exo_ok hget)
  have r2 : Vals (V.ref (hp.objs.size + 1) :: (vs ++ dvs)) (Value.ref (hp.objs.size + 1) :: (us ++ ds)) := .cons rfl (r1.append hd)
  have hl : (Value.ref (hp.objs.size + 1) :: us ++ ds).length = ps.length := by
    have e := r2.length
    rw [F1.len _ _ _ _ hq] at e
    exact e.symm
  have hus : us.length ≤ sizeLine := by
    rw [← Paired.length r1, sizeLine_eq]
    omega
  refine wpAny_call (PySem.HandSPX.call_own F.excBase_ValueError (fun Y => PySem.HandSPX.refsVE_contains Y bm hbm) (I1.kIn _ _ hC) (PySem.W.looks_findIn I1.kIn iC) (fun self => PySem.W.bind_fn I1.kIn self tI) hus
    (codeAny_mono (F1.run _ X.stack _ _ ⟨Value.ref (hp.objs.size + 1) :: us, []⟩ (Value.ref (hp.objs.size + 1) :: (us ++ ds)) _ _ (fun _ _ _ => False) (hr.make C us []) (I2.env0.make C us []) (hb _ (Value.ref (hp.objs.size + 1) :: us) I2.kIn hl) r2 hq) fun r s' hq' => ?_))
  cases r with
  | error er => exact hx pins σ _ _ er s' I2 hq'
  | ok fl =>
    cases fl with
    | ret u =>
      obtain ⟨v, H2, os2, bare2, un2, hok2, rv, ev, d, fs, ea, ed, hd1, q2⟩ := hq'
      subst ev
      obtain ⟨h2, g2, d2, t2, os'⟩ := s'
      obtain ⟨t0, G, J, kG, ge, hoe, na⟩ := mk_end0 (d2 := d2) (t2 := t2) I1 hsz kk un2 hok2 os2 bare2 ea ed hd1
      refine ⟨rv, hp.objs.size + 1, _, _, ⟨G, g2, d2, t2, os'⟩, _, .ref C, some d, rfl, J, kG, ge, hoe, ⟨rfl, rfl, fun vs hv => ?_⟩, rfl, rfl, na, rfl, bare2, raises_own T.exC T.tyC, q2⟩
      cases hv
      rfl
    | next => exact False.elim hq'
    | brk => exact False.elim hq'
    | cont => exact False.elim hq'
theorem s_raise1N {C f : String} {fI : Addr} {fd : FuncData} {k : Nat} {m1 : Cm D} (hc : X.calm = true) (tk : L2N.Takes X W) (I : XIni X.prog X.w X.K X.mg X.base g.c C f fI fd) (hr : Room k X.A) (hk : 2 ≤ k) (hx : x = Str.ofString C) (hg : Gl X x) (ha : PA X [e] (tA g W [m1])) (hC : C ≠ "dict" := by decide)
    (hdb : (x == ("__debug__" : Str)) = false := by decide) (he : starEach (e :: []) X.env = (false, eval e X.env) :: starEach [] X.env := by rfl) (hpl : (backTo pos (starEach [] X.env)).any (·.1) = false := by rfl) :
    PS X (.Raise (some (.Call (.Name x p) [e] [] pos)) none pos2) (tS g W (mRaiseF C f [m1])) := by
  obtain ⟨ds, hv, hb⟩ := I.b1
  exact (L2N.ps_raise hc tk (pmk_oexN I.T I.iC I.tI I.F (hr.mono hk) hb hv passF hg (by rw [hx]; exact I.g) ha hdb he hpl)).imp (raiseF_imp (fI := fI) I.T I.no hC (.inl ⟨rfl, rfl⟩))
theorem e_callN {f : Addr} {fd : FuncData} {ps : List Str} {c : Cfg} {M : List D → RF} {k np : Nat} {io : List Nat} {as : List Ag} (F : FnOk X.prog X.w X.K X.mg X.base (L2N.CX X.prog X.w) k f fd ps (spM c np io M)) (hr : Room k X.A) (hg : Gl X x) (hm : X.mg x = some (.ref f)) (hk : PySem.W.keepIn X.K (.ref f) = true) (hb : Binds X.K fd ps []) (tk : L2N.Takes X W)
    (ha : PA X (e :: es) (tAs g W as)) (hc : g.c = c) (hio : agIo 0 as = io) (hl : as.length = np) (hnd : (agSlots as).Nodup) (hdb : (x == ("__debug__" : Str)) = false := by decide) (he : starEach (e :: es) X.env = (false, eval e X.env) :: starEach es X.env := by rfl) (hpl : (backTo pos (starEach es X.env)).any (·.1) = false := by rfl) :
    PE X (.Call (.Name x p) (e :: es) [] pos) (tE g W (mCall M as)) := (pe_callS (E := WE W) F hr hg hm hk hb (fun σ => L2N.passAt tk σ) ha hdb he hpl).imp (call_imp hc hio hl hnd)
/-- raise C('m') from None, in a suite -/
theorem s_raiseHN {C : String} {cpos : Pos} {i : Nat} (hc : L2H.HotC X) (tk : Takes X W) (q : PySem.W.excIn X.K (g.c.cls C) He.veBase "ValueError.__new__" = true) (kC : PySem.W.keepIn X.K (.ref (g.c.cls C)) = true) (hs : PySem.W.subIn X.K (.ref (g.c.cls C)) (.type "BaseException") = some true)
    (ht : PySem.W.typeIn X.K (.ref (g.c.cls C)) = some (.type "type")) (gC : X.mg x = some (.ref (g.c.cls C))) (hg : Gl X x) (hC : C ≠ "dict" := by decide) (hdb : (x == ("__debug__" : Str)) = false := by decide) :
    PS X (.Raise (some (.Call (.Name x p) [.Constant (.str m) j p2] [] pos)) (some (.Constant .none i cpos)) pos2) (tS g W (mRaise C)) :=
  (L2H.ps_raiseHN hc tk (pmk5_own PySem.F.excBase_ValueError q gC kC (raises_own hs ht) hg hdb)).imp fun De σ H ⟨sl, tm, s, h⟩ => h H σ sl 0 none (s.exn0 0 C hC) rfl
end

/-! ### a suite that raises -/
/-- try: mb / except D: ms, which may raise; what mb lets out has no context -/
def mTryX (exm : String → String → Option Bool) (Dn : String) (mb ms : Cm Out) : Cm Out := fun ρ => match mb ρ with
  | .ok o ρ => .ok o ρ
  | .stuck => .stuck
  | .exc x ρ => match exm x.cls Dn with
    | none => .stuck
    | some false => .exc x ρ
    | some true => ms ρ
section
variable {X : Cx} {g : Gh} {W : WX} {pos pos' np : Pos} {x : Str} {body suite : List Stmt} {b₀ : Stmt} {Dn : String} {mb ms : Cm Out} {exm : String → String → Option Bool}
theorem s_tryX {K : Value → Shared → Prop} {E₁ : Value → Shared → Prop} (hs : X.stack = X.env :: X.outer) (hf : X.env.frame = some X.env.locals) (hgl : Gl X x) (hdb : (x == ("__debug__" : Str)) = false) (gD : X.mg x = some (.ref (g.c.cls Dn)))
    (hx : ∀ C b, exm C Dn = some b → PySem.W.exmOne X.K (.ref (g.c.cls C)) (.ref (g.c.cls Dn)) = some b)
    (hxe : X.xe = fun e s' => wpAny (model X.prog X.w) X.A (leaving X.env e) (fun _ s'' => K e s'') E₁ s') (tk : Takes X W)
    (hb : ∀ (W' : WX) (pn : List (Addr × Obj)) (xe : Value → Shared → Prop), L2N.Takes (X.tr pn xe) W' → PassesOwn (model X.prog X.w) X.A X.env xe → PSs (X.tr pn xe) body (tS g W' mb))
    (hsu : ∀ (a : Addr) (oe : Obj) (pn : List (Addr × Obj)), Takes (L2H.suiteX X a ((a, oe) :: pn)) W → L2H.HotC (L2H.suiteX X a ((a, oe) :: pn)) → PSs (L2H.suiteX X a ((a, oe) :: pn)) (b₀ :: suite) (tS g W ms)) :
    PS X (.Try body [.ExceptHandler (some (.Name x np)) none (b₀ :: suite) pos'] [] [] pos) (tS g W (mTryX exm Dn mb ms)) := by
  refine (L2H.ps_try_onlyX (c := .ref (g.c.cls Dn)) (ts := fun a cls d => tS g W ms) (tb := fun W' => tS g W' mb) (Wout := W) hs hf ⟨hgl, hdb, .inl gD⟩ (fun hd => by rw [hxe]; exact PassesOwnAt.leaving) tk
    (fun W' pn xe t1 t2 po => hb W' pn xe t1 po) (fun a oe cls d pn z1 z2 tkS hot => hsu a oe pn tkS hot)).imp fun De σ H ⟨sl, tm, s, h⟩ => ⟨sl, tm, s, ?_⟩
  unfold mTryX at h
  cases e : mb (den sl) with
  | ok o ρ => rw [e] at h; exact h
  | stuck => rw [e] at h; exact h
  | exc y ρ =>
    rw [e] at h
    simp only [] at h
    intro H1 σ1 sl1 a0 dx s1 e1
    subst e1
    cases eb : exm y.cls Dn with
    | none => rw [eb] at h; exact h.elim
    | some b =>
      rw [eb] at h
      refine ⟨b, hx _ _ eb, fun hb1 a na => ?_, fun hb1 => ?_⟩
      · subst hb1
        simp only [] at h
        exact ⟨sl1, tm, s1.pop, h⟩
      · subst hb1
        exact h H1 σ1 sl1 a0 dx s1 rfl
end
/-! ### isinstance(x, list) of what may be an instance of an own class, or a dict -/
section
variable {X : Cx} {g : Gh} {W : WX} {pos p p2 : Pos} {a : Expr} {oa : Opd} {tn : Str}
end
section
variable {ρ : DE} {α : Type} {m : Cm α} {mb ms : Cm Out} {exm : String → String → Option Bool} {Dn : String}
@[simp] theorem mQ_ : mQ m ρ = qR (m ρ) := rfl
@[simp] theorem qR_ok (a : α) : qR (R.ok a ρ) = R.ok a ρ := rfl
@[simp] theorem qR_exc (x : Ex) : qR (R.exc x ρ : R α) = R.stuck := rfl
@[simp] theorem qR_stuck : qR (R.stuck : R α) = R.stuck := rfl
@[simp] theorem mTryX_ : mTryX exm Dn mb ms ρ = match mb ρ with
  | .ok o ρ => .ok o ρ
  | .stuck => .stuck
  | .exc x ρ => match exm x.cls Dn with
    | none => .stuck
    | some false => .exc x ρ
    | some true => ms ρ := rfl
end
end VS

/-! VS, part 4: dict(pairs) as a thing. -/
namespace VS
open PySem PySem.Spec PyProof.Rows L2
def mDictP (ma : Cm D) : Cm D := fun ρ => (ma ρ).bind fun d ρ => match d with
  | .lst o xs => (match prsK xs with
    | some (ks, vs) => if ks.Nodup then .ok (.dct .own ks (vs.map D.sc)) ρ else .stuck
    | none => .stuck)
  | _ => .stuck
section
variable {X : Cx} {g : Gh} {W : WX} {pos p p2 : Pos} {a b : Expr} {ma mb : Cm D} {x : Str} {oa : Opd} {tn : Str}
theorem e_dictP (hc : X.calm = true) (hK : X.K = g.c.K) (hg : Gl X x) (hm : X.mg x = none) (hv : bootBuiltins x = some (.type "dict")) (ha : PE X a (tE g W ma)) (hn : x ≠ "__name__" := by decide) (hdb : (x == ("__debug__" : Str)) = false := by decide)
    (he : starEach (a :: []) X.env = (false, eval a X.env) :: starEach [] X.env := by rfl) : PE X (.Call (.Name x p) [a] [] p2) (tE g W (mDictP ma)) :=
  (pe_callTy (call_dictP hc) hg hm hv (pa_cons ha pa_nil he) hn hdb he rfl).imp fun σ H Q ⟨sl, tm, s, h⟩ => by
    unfold mDictP at h
    unfold tCB tCons tNil
    refine tE.of s h fun H1 sl1 t s1 h1 => ?_
    split at h1
    · rename_i o xs et
      split at h1
      · rename_i ks vs hp
        split at h1
        · rename_i hnd
          cases t with
          | lst ad o' ts =>
            simp only [T.d, D.lst.injEq] at et
            obtain ⟨rfl, rfl⟩ := et
            have kt := s1.top
            have sq := lst_sq kt
            obtain ⟨ps, e1, e2, e3, e4, e5, e6, e7⟩ := prsK_T (K := X.K) hK hp sq.2.2
            refine ⟨ad, ps, kvO ks (vs.map Sc.v), rfl, by rw [hK, ← e1]; exact sq.1, e2, fun q hq => ?_⟩
            have em := merge_nodup ks (vs.map Sc.v) [] [] rfl (by simp [e3]) e5 rfl (by simpa using hnd)
            have em2 : mergeK [] (kvO ks (vs.map Sc.v)) = kvO ks (vs.map Sc.v) := by simpa [kvO] using em
            rw [em2]
            have e8 : (vs.map T.sc).map T.v = vs.map Sc.v := by rw [List.map_map]; rfl
            have cnt : ∀ z, Ts.oc z (vs.map T.sc) = 0 ∧ Ts.sh z (vs.map T.sc) = 0 := fun z => by
              clear hp e1 e2 e3 e7 em em2 e8 h1
              induction vs with
              | nil => simp [Ts.oc, Ts.sh]
              | cons v vs ih => simp only [List.map_cons, Ts.oc, Ts.sh, T.oc, T.sh]; omega
            have s2 := s1.newG (p := q) (Y := .dK (kvO ks (vs.map Sc.v))) (t := T.dct q none .own ks (vs.map T.sc)) hq (by
              simp only [T.ok]
              refine ⟨.inl ⟨e5, by rw [upd_same, e8]⟩, by simp [e3], by rw [List.length_map, ← e3, e4]; exact sq.2.1, e6, Ts.ok_iff.mpr fun u mu => ?_⟩
              obtain ⟨v, hv, rfl⟩ := List.mem_map.mp mu
              exact e7 v hv) (fun z => by simp [T.oc, (cnt z).1]) (fun z => by simp [T.sh, (cnt z).2, b2])
            have ed : (vs.map T.sc).map T.d = vs.map D.sc := by rw [List.map_map]; rfl
            refine h1 _ sl1 (T.dct q none .own ks (vs.map T.sc)) (SR.popL1 (ts := [T.lst ad o' ts]) (by simpa using s2)) rfl ?_
            simp only [T.d, Ts.d_map, ed]
          | _ => simp [T.d] at et
        · exact h1.elim
      · exact h1.elim
    · exact h1.elim
/-- isinstance(x, y) of what may be a dict; y is not dict -/
def isTyK (y : Ty) : D → Option Sc
  | .dct _ ks _ => if ks.all keyS = true then some (.bl false) else none
  | d => isTy y d
theorem e_isiK {y : Ty} (ht : tn = Str.ofString y.name) (hK : X.K = g.c.K) (hg : Gl X "isinstance") (hm : X.mg "isinstance" = none) (hg2 : Gl X tn) (hm2 : X.mg tn = none) (ha : PE X a (tO g W oa)) (hn2 : tn ≠ "__name__") (hd2 : (tn == ("__debug__" : Str)) = false)
    (hs1 : starEach (a :: [.Name tn p2]) X.env = (false, eval a X.env) :: starEach [.Name tn p2] X.env := by rfl) (hs2 : starEach [.Name tn p2] X.env = (false, eval (.Name tn p2) X.env) :: starEach [] X.env := by rfl) (hpl : (backTo pos (starEach [.Name tn p2] X.env)).any (·.1) = false := by rfl) :
    PE X (.Call (.Name "isinstance" p) [a, .Name tn p2] [] pos) (tE g W (mP1 (isTyK y) oa)) := by
  have hb : PE X (.Name tn p2) (tC (.ty y.name)) := pe_bltn hg2 hm2 (by rw [ht]; exact boot_ty y) rfl hn2 hd2
  refine (pe_callB call_isi hg hm (by decide +kernel) (pa_cons ha (pa_cons hb pa_nil hs2) hs1) (hpl := hpl) (he := hs1)).imp ?_
  refine p1_imp fun H u c Q k h q => ?_
  have rest : isTy y u.d = some c → rIsi X.K [u.v, .ty y.name] H Q := fun h => by
    obtain ⟨t, e1, rfl, hmem⟩ := isTy_tab y u.d c h
    refine ⟨u.v, .ty y.name, .type t, .type y.name, isTab t y.name, rfl, .ty _, ?_, ?_, q trivial⟩
    · rw [hK]; exact tyX_of k e1
    · rw [hK]
      exact kit_ty (kitB_tab t hmem y.name (by cases y <;> decide))
  cases u with
  | dct p lk o ks xs =>
    simp only [T.d, isTyK] at h
    split at h
    · rename_i hk
      simp only [Option.some.injEq] at h
      subst h
      have ty : TyX X.K H (V.ref p) (.type "dict") := by
        cases lk with
        | none =>
          cases o <;> simp only [T.ok] at k
          · rcases k.1 with ⟨_, e⟩ | ⟨e, _⟩
            · exact .base (.dK e)
            · subst e; simp [keyS] at hk
          · rcases k.1 with ⟨_, e⟩ | ⟨e, _⟩
            · rcases e with e | ⟨od, e⟩
              · exact .base (.dK e)
              · exact .fDict e
            · subst e; simp [keyS] at hk
        | some od =>
          cases o <;> simp only [T.ok] at k
          exact .fDict k.1.2
      refine ⟨.ref p, .ty y.name, .type "dict", .type y.name, false, rfl, .ty _, ty, ?_, q trivial⟩
      rw [hK]
      have := kit_ty (K := g.c.K) (kitB_tab "dict" (by decide) y.name (by cases y <;> decide))
      rw [show isTab "dict" y.name = false by cases y <;> decide] at this
      exact this
    · cases h
  | sc s => exact rest h
  | lst p o ts => exact rest h
  | tup p o ts => exact rest h
  | obj _ _ _ _ _ _ => exact rest h
  | exn p d C' ns xs => exact rest h
end
section
variable {ρ : DE} {ma : Cm D}
@[simp] theorem mDictP_ : mDictP ma ρ = (ma ρ).bind fun d ρ => match d with
  | .lst o xs => (match prsK xs with
    | some (ks, vs) => if ks.Nodup then .ok (.dct .own ks (vs.map D.sc)) ρ else .stuck
    | none => .stuck)
  | _ => .stuck := rfl
end
end VS

/-! VS, part 5: a law with lambdas that asks repr, too: its def at its own place, with tables of code objects. -/
namespace VS
open PySem PySem.Spec PyProof.Rows L2
section
variable {P : Program} {w : World} {K : PySem.W.Frag} {mg : Str → Option Value} {base : Heap} {A : Around}
theorem run_atL {c : Cfg} {x qual : Str} {params : Arguments} {sbody : List Stmt} {scope : Scope} {dvs : List V} {kws : List (Str × V)} {q : He.Defn} {fd : FuncData} {N ps : List Str} {k np : Nat} {io : List Nat} {m : Cm Out}
    (F : FunD K x qual params sbody scope dvs kws (He.fAd K q) fd) (S : FnScope N ps scope) (hps : ps.length = np) (hN : np ≤ N.length) (hio : ∀ i ∈ io, i < np) (hnd : io.Nodup) (hr : Room (k + 1) A)
    (body : ∀ (g : Gh) (cdv : Value) (outer : List Env) (s : Shared) (H : Hp) (E : XK), Room k (A.deeper (envOfC qual scope s.heap.objs.size (He.fAd K q) cdv)) → g.c = c → g.N = N.length → g.io.map (·.1) = io → cdv = .ref (He.codeOf K q) →
      PSs (cxOf (L2.CX P w) P w K mg base N qual scope (He.fAd K q) cdv A outer s H E) sbody (tS g (fun cls d _ H => E cls d H) m)) :
    RunAt A P w K mg base (He.fAd K q) fd ps (spM c np io (runF N.length io m)) := by
  intro outer s H args us vs Q E e0 hb r hsp
  obtain ⟨oc, od, dV, kV, doc, pm, an, cdv, ct, osl, rfl, lk, hcd, _, _⟩ := F.ex
  have e : cdv = .ref (He.codeOf K q) := by
    obtain ⟨cc, e⟩ := He.codeIn_ref hcd
    subst e
    rw [He.codeOf_eq lk rfl]
  have vl : vs.length = ps.length := spM_len hps _ _ _ _ hsp
  have hin : K.In s.heap := e0.mod.kin.keeps fun b o e => (e0.bs b o e).1
  have nol : s.heap.NoLimit := e0.mod.nolimit.keeps fun b o e => (e0.bs b o e).1
  refine codeAny_call_function hr.depth (hin _ _ lk) rfl S.co S.gen rfl (PySem.W.codeRec_of hin hcd) (hb _ _ _ _ (wpAny_newFunctionEnv_cells S.kind (fun y hy => ?_) fun env he s1 st => ?_))
  · obtain ⟨n, v⟩ := y
    rcases S.par n (List.of_mem_zip hy).1 with q | q
    · exact .inl q
    · exact .inr ⟨q, PySem.W.cellsFrom_some _ _ _ (.inl q)⟩
  · subst he
    refine ⟨nol.keeps st.toInCall.keep, codeAny_func ?_⟩
    obtain ⟨t, ht, hq⟩ := body_ok (fun g h1 h2 h3 => body g cdv outer s H E (hr.deeper _) h1 h2 h3 e) S hps hN hio hnd hsp
    refine wpAny_mono (ht.run [] s1 (L2.start N vs) H _ (inv_start S hr.hd e0 vl r st) hq) (fun fl s' hs => ?_) fun e s' hs => hs
    cases fl with
    | ret u =>
      obtain ⟨v, σ', H', J, rv, q⟩ := hs
      exact ⟨v, H', J.os, J.bare, J.base, J.hok, rv, q⟩
    | next =>
      obtain ⟨σ', H', J, q⟩ := hs
      exact ⟨V.non, H', J.os, J.bare, J.base, J.hok, rfl, q⟩
    | brk => obtain ⟨_, _, _, q⟩ := hs; exact False.elim q
    | cont => obtain ⟨_, _, _, q⟩ := hs; exact False.elim q
end
theorem law_callTA {P : Program} {w : World} {K : PySem.W.Frag} {mg mb : Str → Option Value} {fa a : Addr} {cs : List (Addr × Addr)} {fd : FuncData} {x : Str} {sp : Sp} {s₁ : Shared} {vs : List Value} {ns : List Int}
    (KX : K.In s₁.heap) (hns : s₁.heap.Ns mainGlobals mg) (hb : s₁.heap.Ns builtinsNs mb) (hbb : ∀ x : Str, x ≠ "__name__" → mb x = bootBuiltins x) (hlim : s₁.heap.NoLimit) (hg : s₁.gens = #[])
    (hT : ∀ p ∈ cs, s₁.heap.get? p.2 = some { cls := .none, data := .fields #[] }) (nT : ∀ p ∈ cs, K.lookup p.2 = none) (C : ∀ p ∈ cs, PySem.W.CodeHd s₁.heap p.1 p.2)
    (hbm : ∃ (bm : Addr) (ob : Obj), mg "__builtins__" = some (.ref bm) ∧ bm ≠ builtinsNs ∧ s₁.heap.get? bm = some ob ∧ ob.cls = .type "module" ∧ ob.dict = some builtinsNs ∧ ob.data = .plain)
    (ha : s₁.heap.get? a = some { cls := .type "list", data := .seq vs.toArray }) (hi : IntsAre vs ns) (hl : ns.length ≤ sizeLine)
    (F : ∀ base : Heap, K.In base → base.Ns mainGlobals mg → (∀ p ∈ cs, LamX.TabB base mg p.1 p.2) → RunAt callerA P w K mg base fa fd [x] sp) (hbind : ∀ (s : Shared) (u : Value), BindsTo s fd ⟨[u], []⟩ [(x, u)])
    (hsp : ∀ H : Hp, (∀ p ∈ cs, H p.2 = some (.tbl #[])) → SqL K H a (ns.map V.int) → sp [.ref a] H (fun v _ => v = .bl true) fun _ _ _ => False)
    (hCX : ∀ H e s', L2.CX P w [] H s₁ (fun _ _ _ => False) e s' → False) :
    codeAny (model P w) callerA (.call (.ref fa) ⟨[.ref a], []⟩) (fun r s' => r = .ok (.ret (.bool true)) ∧ OldK s₁.heap s'.heap ∧ s'.os = s₁.os ∧ AllBare s'.gens) s₁ := by
  have rv := vals_ints hi
  have lenV := hi.length
  have isT : ∀ b : Addr, b ∈ cs.map (·.2) → s₁.heap.get? b = some { cls := .none, data := .fields #[] } := fun b hb => by
    obtain ⟨p, hp, e⟩ := List.mem_map.mp hb
    rw [← e]
    exact hT p hp
  have aT : a ∉ cs.map (·.2) := fun z => by
    have q := isT a z
    rw [ha] at q
    have z' : Data.seq vs.toArray _ = Data.fields #[] := congrArg Obj.data (Option.some.inj q)
    cases z'
  have memT : ∀ p ∈ cs, p.2 ∈ cs.map (·.2) := fun p hp => List.mem_map.mpr ⟨p, hp, rfl⟩
  -- from an abstract heap in which nothing but the script and the tables may be tracked
  have core : ∀ H : Hp, (∀ p ∈ cs, H p.2 = some (.tbl #[])) → (∀ b, H b = none ∨ b ∈ cs.map (·.2) ∨ ∃ o xs, H b = some (.frz o (.lst xs))) → SqL K H a (ns.map V.int) → HOk P w H s₁.heap → (∀ b, H b ≠ none → b = a ∨ b ∈ cs.map (·.2)) → (H a ≠ none → K.lookup a = none) →
      codeAny (model P w) callerA (.call (.ref fa) ⟨[.ref a], []⟩) (fun r s' => r = .ok (.ret (.bool true)) ∧ OldK s₁.heap s'.heap ∧ s'.os = s₁.os ∧ AllBare s'.gens) s₁ := by
    intro H hH hO hS hok hA hK
    have base_of : ∀ {b : Addr} {o : Obj}, s₁.heap.get? b = some o → H b = none → (hidT s₁.heap H).get? b = some o := fun e n => hidT_get e n
    have noD : ∀ {b : Addr} {o : Obj}, s₁.heap.get? b = some o → (∀ vs n, o.data ≠ .seq vs n) → o.data ≠ .fields #[] → H b = none := fun {b o} e h1 h2 => by
      cases q : H b with
      | none => rfl
      | some u =>
        rcases hA b (by rw [q]; simp) with e' | e'
        · rw [e', ha] at e
          cases e
          exact (h1 _ _ rfl).elim
        · rw [isT b e'] at e
          cases e
          exact (h2 rfl).elim
    have noA : ∀ {b : Addr} {o : Obj} {es : Array DictEntry} {ep : Nat}, s₁.heap.get? b = some o → o.data = .dict es ep → H b = none := fun {b o es ep} e d => by
      refine noD e (fun vs n z => ?_) fun z => ?_
      · rw [d] at z
        cases z
      · rw [d] at z
        cases z
    have nsK : ∀ {b : Addr} {m : Str → Option Value}, s₁.heap.Ns b m → (hidT s₁.heap H).Ns b m := fun {b m} ⟨o, es, ep, e, d, r⟩ => ⟨o, es, ep, base_of e (noA e d), d, r⟩
    have hKb : K.In (hidT s₁.heap H) := fun b o e => base_of (KX b o e) (by
      cases q : H b with
      | none => rfl
      | some u =>
        rcases hA b (by rw [q]; simp) with e' | e'
        · rw [e'] at e q
          rw [hK (by rw [q]; simp)] at e
          cases e
        · obtain ⟨p, hp, ep⟩ := List.mem_map.mp e'
          rw [← ep, nT p hp] at e
          cases e)
    have hM : L2.Mod K mg (hidT s₁.heap H) := ⟨hKb, nsK hns, ⟨mb, nsK hb, hbb⟩, let ⟨mc, h1, h2⟩ := hlim; ⟨mc, nsK h1, h2⟩⟩
    have TB : ∀ p ∈ cs, LamX.TabB (hidT s₁.heap H) mg p.1 p.2 := fun p hp => by
      have hTp := hT p hp
      refine ⟨?_, ?_, fun z => ?_⟩
      · obtain ⟨o, us, file, tf, flags, tg, inF, text, tt, e1, r1, r2, r3, r4, r5, r6, r7, r8, hne⟩ := C p hp
        refine ⟨o, us, file, tf, flags, tg, inF, text, tt, base_of e1 (noD e1 (fun vs n z => ?_) fun z => ?_), r1, r2, r3, r4, r5, r6, r7, r8, hne⟩
        · rw [r2] at z
          cases z
        · rw [r2] at z
          cases z
          simp at r3
      · obtain ⟨bm, ob, b1, b2, b3, b4, b5, b6⟩ := hbm
        have nG : bm ≠ mainGlobals := fun q => by
          obtain ⟨o, es, ep, e, hd, _⟩ := hns
          rw [q, e] at b3
          cases b3
          rw [hd] at b6
          cases b6
        have nP : bm ≠ p.2 := fun q => by
          rw [q, hTp] at b3
          cases b3
          cases b6
        refine ⟨bm, ob, b1, b2, nG, nP, base_of b3 (noD b3 (fun vs n z => ?_) fun z => ?_), b4, b5, b6⟩
        · rw [b6] at z
          cases z
        · rw [b6] at z
          cases z
      · obtain ⟨o, es, ep, e, hd, _⟩ := hns
        rw [z, hTp] at e
        cases e
        cases hd
    have e0 : Env0 P w K mg (hidT s₁.heap H) callerA [] s₁ H := ⟨rfl, hM, fun b o e => of_hidT e, Nat.le_of_eq (hidT_size _ _), trivial, fun b hb => absurd (show b ∈ ([] : List Addr) from hb) (by simp), hok, .of_eq hg⟩
    refine codeAny_mono (F _ hKb (nsK hns) TB [] s₁ H ⟨[.ref a], []⟩ [.ref a] [.ref a] _ _ e0 (hbind s₁ (.ref a)) (.cons rfl .nil) (hsp H hH hS)) fun r s' h => ?_
    cases r with
    | error e => exact (hCX H e s' h).elim
    | ok fl =>
      cases fl with
      | next => exact False.elim h
      | brk => exact False.elim h
      | cont => exact False.elim h
      | ret u =>
        obtain ⟨v, H', os, bare, un, hok', r', q⟩ := h
        have q' : v = .bl true := q
        subst q'
        obtain rfl : u = Value.bool true := r'
        have key : ∀ b o, b ∉ cs.map (·.2) → s₁.heap.get? b = some o → s'.heap.get? b = some o := fun b o nb e => by
          cases q : H b with
          | none => exact un.keep b o e q (by intro z; exact absurd (show b ∈ ([] : List Addr) from z) (by simp)) (by simp)
          | some u =>
            rcases hO b with z | z | ⟨ob, xs, z⟩
            · rw [q] at z; cases z
            · exact absurd z nb
            · have z2 := un.frzs b ob _ z
              obtain ⟨e1, _⟩ := hok b _ z
              obtain ⟨e2, _⟩ := hok' b _ z2
              rw [e] at e1; cases e1
              exact e2
        have grown : ∀ p ∈ cs, ∃ more : Array Value, s'.heap.get? p.2 = some { cls := .none, data := .fields more } := fun p hp => by
          obtain ⟨more, z⟩ := un.tbls p.2 #[] (hH p hp)
          exact ⟨_, hok' p.2 _ z⟩
        refine ⟨rfl, ⟨fun b o e => ?_, fun b o e => ?_⟩, os, bare⟩
        · by_cases hb : b ∈ cs.map (·.2)
          · obtain ⟨p, hp, ep⟩ := List.mem_map.mp hb
            obtain ⟨more, hm⟩ := grown p hp
            rw [← ep] at e ⊢
            rw [hT p hp] at e
            cases e
            exact .inr (.inl ⟨((C p hp).tab (hT p hp)).isCodeTable, rfl, #[], more, rfl, by rw [Array.empty_append]; exact hm⟩)
          · exact .inl (key b o hb e)
        · by_cases hb : b ∈ cs.map (·.2)
          · obtain ⟨p, hp, ep⟩ := List.mem_map.mp hb
            obtain ⟨more, hm⟩ := grown p hp
            rw [← ep]
            exact ⟨_, hm⟩
          · exact ⟨o, key b o hb e⟩
  cases hk : K.lookup a with
  | some o =>
    have e := KX a o hk
    rw [ha] at e
    cases e
    refine core (fun b => if b ∈ cs.map (·.2) then some (.tbl #[]) else none) (fun p hp => if_pos (memT p hp)) (fun b => ?_) (.inr ⟨_, vs.toArray, _, hk, rfl, rfl, rfl, by rw [List.size_toArray, lenV]; exact hl, by simpa using rv⟩) (fun b u z => ?_) (fun b z => ?_) fun z => absurd (show (if a ∈ cs.map (·.2) then some (HO.tbl #[]) else none) = none from if_neg aT) z
    · by_cases hb : b ∈ cs.map (·.2)
      · exact .inr (.inl hb)
      · exact .inl (if_neg hb)
    · by_cases hb : b ∈ cs.map (·.2)
      · have z' := (if_pos hb).symm.trans z
        cases z'
        exact isT b hb
      · have z' := (if_neg hb).symm.trans z
        cases z'
    · by_cases hb : b ∈ cs.map (·.2)
      · exact .inr hb
      · exact absurd (if_neg hb) z
  | none =>
    refine core (fun b => if b = a then some (.frz { cls := .type "list", data := .seq vs.toArray } (.lst (ns.map V.int))) else if b ∈ cs.map (·.2) then some (.tbl #[]) else none) (fun p hp => (if_neg (show ¬ p.2 = a from fun z => aT (by rw [← z]; exact memT p hp))).trans (if_pos (memT p hp))) (fun b => ?_)
      (.inl (.inr ⟨{ cls := .type "list", data := .seq vs.toArray }, if_pos rfl⟩)) (fun b u z => ?_) (fun b z => ?_) fun _ => hk
    · by_cases hb : b = a
      · exact .inr (.inr ⟨_, _, if_pos hb⟩)
      · by_cases hb2 : b ∈ cs.map (·.2)
        · exact .inr (.inl hb2)
        · exact .inl ((if_neg hb).trans (if_neg hb2))
    · by_cases hb : b = a
      · have z' := (if_pos hb).symm.trans z
        cases z'
        rw [hb]
        exact ⟨ha, by rw [List.length_map]; exact hl, vs, _, rv, ha⟩
      · have z1 := (if_neg hb).symm.trans z
        by_cases hb2 : b ∈ cs.map (·.2)
        · have z' := (if_pos hb2).symm.trans z1
          cases z'
          exact isT b hb2
        · have z' := (if_neg hb2).symm.trans z1
          cases z'
    · by_cases hb : b = a
      · exact .inl hb
      · by_cases hb2 : b ∈ cs.map (·.2)
        · exact .inr hb2
        · exact absurd ((if_neg hb).trans (if_neg hb2)) z
theorem walk_ofTA {l : PySem.W.OpenLaw} {n : Nat} {q : Program} {loose : List Str} {XP : (Str → Option Value) → Heap → Prop} {YP : World → Heap → Prop} {d : DefRec} {x : Str}
    (hn : l.most = some n) (hn2 : n ≤ sizeLine) (hdf : d.params.defaults = [])
    (F : ∀ (w : World) (mg : Str → Option Value) (fa : Addr) (h : Heap), YP w h → h.Ns mainGlobals mg → mg d.name = some (.ref fa) →
      ∃ (K : PySem.W.Frag) (fd : FuncData) (c : Cfg) (M : List D → RF) (cs : List (Addr × Addr)), K.In h ∧ (c.K = K ∧ ∀ p ∈ c.tb, p.1 ∈ cs.map Prod.snd) ∧ (∀ p ∈ cs, h.get? p.2 = some { cls := .none, data := .fields #[] }) ∧ (∀ p ∈ cs, K.lookup p.2 = none) ∧ (∀ p ∈ cs, PySem.W.codeHdIn K p.1 p.2 = true) ∧ (∀ (s : Shared) (u : Value), BindsTo s fd ⟨[u], []⟩ [(x, u)]) ∧
        (∀ (o : Ow) (ns : List Int), o = .frz ∨ o = .stc ∨ o = .shr → ns.length ≤ n → M [.lst o (ns.map D.int)] = .ok (.bl true) []) ∧
        ∀ base : Heap, K.In base → base.Ns mainGlobals mg → (∀ p ∈ cs, LamX.TabB base mg p.1 p.2) → RunAt callerA l.prog w K mg base fa fd [x] (spM c 1 [] M)) :
    PySem.W.WalkO q loose XP YP l.row.toRowW d [] (fun f vs => PySem.call f vs) := by
  refine Att.attach_call hn hdf fun w s₀ s₁ mg mb fa o pm cd doc a vs ns G Y ho hd hcd hmg hobj hints hlen hg => ?_
  obtain ⟨K, fd, c, M, cs, KX, ⟨hcK, hct⟩, hT, nT, C, hb, hM, hF⟩ := F w mg fa _ Y G.T.g hmg
  refine law_callTA (cs := cs) KX G.T.g G.T.b G.T.builtins G.T.nolimit hg hT nT (fun p hp => PySem.W.codeHd_of_K KX (C p hp)) G.T.bmain hobj hints (Nat.le_trans hlen hn2) hF hb (fun H hH hS => ?_) fun H e s' h => ?_
  · have gi : ∀ m : List Int, Ts.ok c H (m.map fun i => T.sc (.int i)) := fun m => by
      rw [Ts.ok_iff]; intro t ht
      obtain ⟨i, _, rfl⟩ := List.mem_map.mp ht
      exact trivial
    have dm : ∀ m : List Int, Ts.d (m.map fun i => T.sc (.int i)) = m.map D.int := fun m => by
      rw [Ts.d_map, List.map_map]; rfl
    have vm : ∀ m : List Int, (m.map fun i => T.sc (.int i)).map T.v = m.map V.int := fun m => by
      rw [List.map_map]; rfl
    have om : ∀ (a : Addr) (m : List Int), Ts.oc a (m.map fun i => T.sc (.int i)) = 0 ∧ Ts.sh a (m.map fun i => T.sc (.int i)) = 0 := fun a m => by
      induction m with
      | nil => simp [Ts.oc, Ts.sh]
      | cons i m ih => simp [Ts.oc, Ts.sh, T.oc, T.sh, ih]
    have hz : (ns.map fun i => T.sc (.int i)).length ≤ 16777216 := by
      rw [List.length_map]; have := Nat.le_trans hlen hn2; rw [SZ_eq] at this; exact this
    have tbs : LamX.Tabs c.tb H := fun p hp => by
      obtain ⟨p2, h2, e2⟩ := List.mem_map.mp (hct p hp)
      have := hH p2 h2
      rw [e2] at this
      exact LamX.TabS.nil this
    have key : ∀ o : Ow, o = .frz ∨ o = .stc ∨ o = .shr → (T.lst a o (ns.map fun i => T.sc (.int i))).ok c H → spM c 1 [] M [.ref a] H (fun v _ => v = .bl true) fun _ _ _ => False := fun o ho k => by
      refine ⟨[T.lst a o (ns.map fun i => T.sc (.int i))], rfl, by simp [Ts.ok, k], tbs, fun b => .inl ?_, rfl, ?_⟩
      · have := om b ns
        rcases ho with rfl | rfl | rfl <;> simp [Ts.oc, T.oc, b2, this]
      · rw [show Ts.d [T.lst a o (ns.map fun i => T.sc (.int i))] = [D.lst o (ns.map D.int)] by simp [Ts.d, T.d, dm], hM o ns ho hlen]
        intro H' t us _ ht _ _
        cases t with
        | sc s => simp [T.d] at ht; subst ht; rfl
        | _ => simp [T.d] at ht
    rcases hS with (h | ⟨o, h⟩) | h
    · exact key .shr (.inr (.inr rfl)) (by simp only [T.ok]; exact ⟨by rw [vm]; exact h, hz, gi ns⟩)
    · exact key .frz (.inl rfl) (by simp only [T.ok]; exact ⟨⟨o, by rw [vm]; exact h⟩, hz, gi ns⟩)
    · exact key .stc (.inr (.inl rfl)) (by simp only [T.ok]; exact ⟨by rw [vm, hcK]; exact .inr h, hz, gi ns⟩)
  · obtain ⟨_, _, _, _, _, _, _, _, _, _, _, _, z⟩ := h
    exact z
end VS

/-! VS, part 6: three and more names in a comprehension. -/
namespace VS
open PySem PySem.Spec PyProof.Rows L2
section
variable {g : Gh} {K : PySem.W.Frag} {H : Hp}
end
end VS

/-! VS, part 7: text.index(sign, from). -/
namespace VS
open PySem PySem.Spec PyProof.Rows L2
/-- text.index(sign, from), where it is found -/
def mIdxFr (ma : Cm D) (c : Nat) (mi : Cm D) : Cm D := fun ρ => (ma ρ).bind fun d ρ => match d with
  | .sc (.str l) => (mi ρ).bind fun j ρ => match j with
    | .sc (.int i) => if 0 ≤ i ∧ c ∈ l.drop i.toNat then .ok (.int ((i.toNat + idxC c (l.drop i.toNat) : Nat) : Int)) ρ else .stuck
    | _ => .stuck
  | _ => .stuck
section
variable {X : Cx} {g : Gh} {W : WX} {pos apos : Pos} {a b e : Expr} {ma mi : Cm D} {c : Nat}
end
section
variable {ρ : DE} {ma mi : Cm D} {c : Nat}
@[simp] theorem mIdxFr_ : mIdxFr ma c mi ρ = (ma ρ).bind fun d ρ => match d with
  | .sc (.str l) => (mi ρ).bind fun j ρ => match j with
    | .sc (.int i) => if 0 ≤ i ∧ c ∈ l.drop i.toNat then .ok (.int ((i.toNat + idxC c (l.drop i.toNat) : Nat) : Int)) ρ else .stuck
    | _ => .stuck
  | _ => .stuck := rfl
end
end VS

/-! VS, part 8: x[m].append((a, b, ..)) of names. -/
namespace VS
open PySem PySem.Spec PyProof.Rows L2
/-- names read, none of them i -/
def rdN (i : Nat) : List Nat → DE → Option (List D × DE)
  | [], ρ => some ([], ρ)
  | j :: r, ρ => match ρ[j]? with
    | some (some d) => if j = i then none else (rdN i r (ρ.set j (some d.fz))).map fun q => (d.fz :: q.1, q.2)
    | _ => none
def mAppNT (i : Nat) (mb : Cm D) (js : List Nat) : Cm D := fun ρ => match ρ[i]? with
  | some (some (.lst .own _)) => (mb ρ).bind fun kx ρ => match ρ[i]?, kx with
    | some (some (.lst .own xs)), .sc (.int k) => match ixN xs.length k with
      | some n => match xs[n]?, rdN i js ρ with
        | some (.lst .own zs), some (ds, ρ) => if zs.length < 16777216 ∧ ds.length ≤ 16777216 then .ok .non (ρ.set i (some (.lst .own (xs.set n (.lst .own (zs ++ [.tup ds])))))) else .stuck
        | _, _ => .stuck
      | none => .stuck
    | _, _ => .stuck
  | _ => .stuck
section
variable {g : Gh} {H : Hp} {σ : L2.St} {tm : List T}
end
section
variable {X : Cx} {g : Gh} {W : WX} {pos p : Pos} {a b : Expr} {mb : Cm D}
end
section
@[simp] theorem mAppNT_ (i : Nat) (mb : Cm D) (js : List Nat) (ρ : DE) : mAppNT i mb js ρ = match ρ[i]? with
  | some (some (.lst .own _)) => (mb ρ).bind fun kx ρ => match ρ[i]?, kx with
    | some (some (.lst .own xs)), .sc (.int k) => match ixN xs.length k with
      | some n => match xs[n]?, rdN i js ρ with
        | some (.lst .own zs), some (ds, ρ) => if zs.length < 16777216 ∧ ds.length ≤ 16777216 then .ok .non (ρ.set i (some (.lst .own (xs.set n (.lst .own (zs ++ [.tup ds])))))) else .stuck
        | _, _ => .stuck
      | none => .stuck
    | _, _ => .stuck
  | _ => .stuck := rfl
end
end VS

/-! VS, part 9: sorted of tuples of numbers and texts. -/
namespace L2
open PySem PySem.Spec PySem.W PyProof.Rows
section
variable {X : Cx}
end
end L2

namespace VS
open PySem PySem.Spec PySem.W PyProof.Rows L2
section
variable {X : Cx} {g : Gh} {W : WX} {pos p : Pos} {a : Expr} {oa : Opd}
end
end VS

/-! VS, part 0 (behind 9): a token out by a written list of tuples; replace inside a written list; is not True. -/
namespace VS
open PySem PySem.Spec PyProof.Rows L2
/-- an argument list behind which a token is out -/
def PAK (X : Cx) (es : List Expr) (t : TA) : Prop :=
  ∀ (pos : Pos) (pins : List (Addr × Obj)) (s : Shared) (σ : L2.St) (H : Hp) (Q : List V → Hp → Prop), Inv X pins σ H s → t σ H Q → wpAny (model X.prog X.w) X.A (spliced (backTo pos (starEach es X.env))) (fun vs s' => 1 ≤ s'.toks ∧ AP X pins σ Q vs s') X.xe s
section
variable {X : Cx} {e : Expr} {es : List Expr} {te : TE} {t : TA} {pos : Pos}
theorem PAK.imp {t' : TA} (h : PAK X es t) (w : ∀ σ H Q, t' σ H Q → t σ H Q) : PAK X es t' := fun pos pins s σ H Q I q => h pos pins s σ H Q I (w σ H Q q)
end
section
variable {X : Cx} {g : Gh} {W : WX} {pos : Pos} {a b e : Expr} {es : List Expr} {ma mb : Cm D} {ms : List (Cm D)}
/-- x is not True, x a truth value -/
def isntTru : D → D → Option Sc
  | .sc (.bl a), .sc (.bl b) => some (.bl (!decide (a = b)))
  | _, _ => none
@[simp] theorem isntTru_ (a b : Bool) : isntTru (.bl a) (.bl b) = some (.bl (!decide (a = b))) := (rfl)
end
/-! ### a field against an empty list: it is only looked at -/
section
variable {X : Cx} {g : Gh} {W : WX} {pos p : Pos} {a : Expr} {i : Nat} {C nm : String}
end
end VS

/-! VS, part aa: expressions that leave the slots as they are; x.f.append(e) where e looks at x. -/
namespace VS
open PySem PySem.Spec PyProof.Rows L2
/-- the slots stay as they are, what is told is laid beside -/
def tK (g : Gh) (m : DE → Option D) : TE := fun σ H Q => ∃ sl tm, SR g H σ sl tm ∧ match m (den sl) with
  | some d => ∀ H' t, SR g H' σ sl (t :: tm) → t.d = d → Q t.v H'
  | none => False
def mKp (k : DE → Option D) : Cm D := fun ρ => match k ρ with
  | some d => .ok d ρ
  | none => .stuck
def kV (i : Nat) : DE → Option D := fun ρ => match ρ[i]? with
  | some (some d) => if d.pur then some d else none
  | _ => none
def kC (s : Sc) : DE → Option D := fun _ => some (.sc s)
def kF (i : Nat) (C f : String) : DE → Option D := fun ρ => match ρ[i]? with
  | some (some (.obj _ C' ns xs)) => if C' = C then (match fIx f ns with
    | some j => match xs[j]? with
      | some d => if d.pur then some d else none
      | none => none
    | none => none) else none
  | _ => none
def kIx (a b : DE → Option D) : DE → Option D := fun ρ => match a ρ, b ρ with
  | some d, some (.sc (.int k)) => idxD d k
  | _, _ => none
def kIxF (i : Nat) (C f : String) (b : DE → Option D) : DE → Option D := fun ρ => match ρ[i]? with
  | some (some (.obj _ C' ns xs)) => if C' = C then (match fIx f ns with
    | some j => match xs[j]? with
      | some d => match b ρ with
        | some (.sc (.int k)) => match idxD d k with
          | some z => if z.pur then some z else none
          | none => none
        | _ => none
      | none => none
    | none => none) else none
  | _ => none
def kAdd (a b : DE → Option D) : DE → Option D := fun ρ => match a ρ, b ρ with
  | some (.sc (.int x)), some (.sc (.int y)) => some (.int (x + y))
  | _, _ => none
def kCat (a b : DE → Option D) : DE → Option D := fun ρ => match a ρ, b ρ with
  | some x, some y => catD x y
  | _, _ => none
def kTup (ms : List (DE → Option D)) : DE → Option D := fun ρ => match ms.mapM (fun m => m ρ) with
  | some ds => if ds.length ≤ 16777216 then some (.tup ds) else none
  | none => none
/-- o.m() of an object in a slot that stays as it is; a scalar is told -/
def kMeth (i : Nat) (m C : String) (M : List D → RF) : DE → Option D := fun ρ => match ρ[i]? with
  | some (some (.obj o C' ns xs)) => if C' = C ∧ fIx m ns = none then (match M [(D.obj o C' ns xs).fz] with
    | .ok (.sc s) [] => some (.sc s)
    | _ => none) else none
  | _ => none
/-- x.f.append(e) -/
def mAppFK (i : Nat) (C f : String) (k : DE → Option D) : Cm D := fun ρ => match ρ[i]? with
  | some (some (.obj .own C' ns xs)) => if C' = C then (match fIx f ns with
    | some j => match xs[j]? with
      | some (.lst .own ys) => match k ρ with
        | some d => if ys.length < 16777216 then .ok .non (ρ.set i (some (.obj .own C ns (xs.set j (.lst .own (ys ++ [d])))))) else .stuck
        | none => .stuck
      | _ => .stuck
    | none => .stuck) else .stuck
  | _ => .stuck
/-- x.f.append(self.m(..)) -/
def mAppFM (i : Nat) (C f : String) (z : Nat) (C0 m : String) (M : List D → RF) (np : Nat) (ks : List (DE → Option D)) : Cm D := fun ρ => match ρ[i]?, ρ[z]? with
  | some (some (.obj .own C' ns xs)), some (some (.obj o0 C1 ns0 xs0)) => if C' = C ∧ C1 = C0 ∧ fIx m ns0 = none then (match fIx f ns with
    | some j => match xs[j]? with
      | some (.lst .own ys) => match ks.mapM (fun k => k ρ) with
        | some ds => if ds.length + 1 = np ∧ ys.length < 16777216 then (match M (.obj o0 C1 ns0 xs0 :: ds) with
          | .ok d [d0] => .ok .non ((ρ.set z (some d0)).set i (some (.obj .own C ns (xs.set j (.lst .own (ys ++ [d]))))))
          | _ => .stuck) else .stuck
        | none => .stuck
      | _ => .stuck
    | none => .stuck) else .stuck
  | _, _ => .stuck
section
variable {X : Cx} {g : Gh} {W : WX} {pos p apos : Pos} {a b e o : Expr} {es : List Expr} {k ka kb : DE → Option D} {ks : List (DE → Option D)} {y x : Str}
theorem tK.go {σ : L2.St} {H : Hp} {sl : List (Option T)} {tm : List T} {Q : VK} {d : D} (s : SR g H σ sl tm) (e : k (den sl) = some d) (q : ∀ H' t, SR g H' σ sl (t :: tm) → t.d = d → Q t.v H') : tK g k σ H Q := ⟨sl, tm, s, by rw [e]; exact q⟩
theorem tK.back {σ : L2.St} {sl : List (Option T)} {tm : List T} {Q : VK} (H : Hp) (q : match k (den sl) with
  | some d => ∀ H' t, SR g H' σ sl (t :: tm) → t.d = d → Q t.v H'
  | none => False) : ∃ d, k (den sl) = some d ∧ ∀ H' t, SR g H' σ sl (t :: tm) → t.d = d → Q t.v H' := by
  cases e : k (den sl) with
  | none => rw [e] at q; exact q.elim
  | some d => rw [e] at q; exact ⟨d, rfl, q⟩
end
section
variable {ρ : DE} {i : Nat} {C f : String} {k ka kb : DE → Option D} {ks : List (DE → Option D)}
@[simp] theorem mKp_ : mKp k ρ = match k ρ with
  | some d => .ok d ρ
  | none => .stuck := rfl
@[simp] theorem kV_ : kV i ρ = match ρ[i]? with
  | some (some d) => if d.pur then some d else none
  | _ => none := rfl
@[simp] theorem kC_ (s : Sc) : kC s ρ = some (.sc s) := rfl
@[simp] theorem kF_ : kF i C f ρ = match ρ[i]? with
  | some (some (.obj _ C' ns xs)) => if C' = C then (match fIx f ns with
    | some j => match xs[j]? with
      | some d => if d.pur then some d else none
      | none => none
    | none => none) else none
  | _ => none := rfl
@[simp] theorem kIx_ : kIx ka kb ρ = match ka ρ, kb ρ with
  | some d, some (.sc (.int k)) => idxD d k
  | _, _ => none := rfl
@[simp] theorem kIxF_ : kIxF i C f kb ρ = match ρ[i]? with
  | some (some (.obj _ C' ns xs)) => if C' = C then (match fIx f ns with
    | some j => match xs[j]? with
      | some d => match kb ρ with
        | some (.sc (.int k)) => match idxD d k with
          | some z => if z.pur then some z else none
          | none => none
        | _ => none
      | none => none
    | none => none) else none
  | _ => none := rfl
@[simp] theorem kAdd_ : kAdd ka kb ρ = match ka ρ, kb ρ with
  | some (.sc (.int x)), some (.sc (.int y)) => some (.int (x + y))
  | _, _ => none := rfl
@[simp] theorem kCat_ : kCat ka kb ρ = match ka ρ, kb ρ with
  | some x, some y => catD x y
  | _, _ => none := rfl
@[simp] theorem kTup_ : kTup ks ρ = match ks.mapM (fun m => m ρ) with
  | some ds => if ds.length ≤ 16777216 then some (.tup ds) else none
  | none => none := rfl
@[simp] theorem kMeth_ (m : String) (M : List D → RF) : kMeth i m C M ρ = match ρ[i]? with
  | some (some (.obj o C' ns xs)) => if C' = C ∧ fIx m ns = none then (match M [(D.obj o C' ns xs).fz] with
    | .ok (.sc s) [] => some (.sc s)
    | _ => none) else none
  | _ => none := rfl
@[simp] theorem mAppFK_ : mAppFK i C f k ρ = match ρ[i]? with
  | some (some (.obj .own C' ns xs)) => if C' = C then (match fIx f ns with
    | some j => match xs[j]? with
      | some (.lst .own ys) => match k ρ with
        | some d => if ys.length < 16777216 then .ok .non (ρ.set i (some (.obj .own C ns (xs.set j (.lst .own (ys ++ [d])))))) else .stuck
        | none => .stuck
      | _ => .stuck
    | none => .stuck) else .stuck
  | _ => .stuck := rfl
@[simp] theorem mAppFM_ {z np : Nat} {C0 m : String} {M : List D → RF} : mAppFM i C f z C0 m M np ks ρ = match ρ[i]?, ρ[z]? with
  | some (some (.obj .own C' ns xs)), some (some (.obj o0 C1 ns0 xs0)) => if C' = C ∧ C1 = C0 ∧ fIx m ns0 = none then (match fIx f ns with
    | some j => match xs[j]? with
      | some (.lst .own ys) => match ks.mapM (fun k => k ρ) with
        | some ds => if ds.length + 1 = np ∧ ys.length < 16777216 then (match M (.obj o0 C1 ns0 xs0 :: ds) with
          | .ok d [d0] => .ok .non ((ρ.set z (some d0)).set i (some (.obj .own C ns (xs.set j (.lst .own (ys ++ [d]))))))
          | _ => .stuck) else .stuck
        | none => .stuck
      | _ => .stuck
    | none => .stuck) else .stuck
  | _, _ => .stuck := rfl
end
end VS

/-! VS, part ab: defs that call themselves, told by how deep they may go. -/
namespace VS
open PySem PySem.Spec PyProof.Rows L2
end VS

/-! VS, part ac: text.index of several signs. -/
namespace VS
open PySem PySem.Spec PyProof.Rows L2
/-- where b stands first in a -/
def idxT (b a : List Nat) : Option Nat := (List.range (a.length + 1)).find? fun i => (a.drop i).take b.length == b
def sindexT : D → D → Option Sc
  | .sc (.str a), .sc (.str b) => (idxT b a).map fun i => .int (i : Nat)
  | _, _ => none
@[simp] theorem sindexT_ (a b : List Nat) : sindexT (.str a) (.str b) = (idxT b a).map fun i => .int (i : Nat) := rfl
end VS

/-! VS, part ad: pop() of an own list whose last item shares nothing that is owned. -/
namespace VS
open PySem PySem.Spec PyProof.Rows L2
def mPopP (i : Nat) : Cm D := fun ρ => match ρ[i]? with
  | some (some (.lst .own xs)) => match xs.getLast? with
    | some d => if d.pur then .ok d (ρ.set i (some (.lst .own xs.dropLast))) else .stuck
    | _ => .stuck
  | _ => .stuck
@[simp] theorem mPopP_ (i : Nat) (ρ : DE) : mPopP i ρ = match ρ[i]? with
  | some (some (.lst .own xs)) => match xs.getLast? with
    | some d => if d.pur then .ok d (ρ.set i (some (.lst .own xs.dropLast))) else .stuck
    | _ => .stuck
  | _ => .stuck := rfl
section
variable {X : Cx} {g : Gh} {W : WX} {p pos : Pos}
end
end VS

namespace K34
open VS
abbrev exm_ : String → String → Option Bool := exT allX dsX
def m__wall : Cm Out := (mWhile (mTest (mC (.bl true)))
  mNext)
def F__wall : List D → RF := runF 1 [] m__wall
def m_is_whole : Cm Out := (mRet (mAndV (mP1 (isTy .int) (.v 0)) (mUn notD (mP1 (isTy .bool) (.v 0)))))
def F_is_whole : List D → RF := runF 1 [] m_is_whole
def m_is_between : Cm Out := (mRet (mAndV (mCall F_is_whole [.p 0]) (mChain leD leD (mMove 1) (mVar 0) (mMove 2))))
def F_is_between : List D → RF := runF 3 [] m_is_between
def m_is_line : Cm Out := (mRet (mAndV (mP1 (isTy .str) (.v 0)) (mP2 (inD true) (.e (mC (.str [10]))) (.v 0))))
def F_is_line : List D → RF := runF 1 [] m_is_line
def m_is_of : Cm Out := (mRet (mP1 allD (.e (mLc (mItemsS (mVar 0)) (mPut 2) mYes (mP2 (inD false) (.v 2) (.v 1)) [2]))))
def F_is_of : List D → RF := runF 3 [] m_is_of
def m_is_word : Cm Out := (mRet (mAndV (mP1 (isTy .str) (.v 0)) (mP2 (inD false) (.v 0) (.v 1))))
def F_is_word : List D → RF := runF 2 [] m_is_word
def m_is_name : Cm Out := (mSeq (mIf (mOr (mNot (mTest (mP1 (isTy .str) (.v 0)))) (mNot (mTest (mChain leD leD (mC (.int 1)) (mP1 lenD (.v 0)) (mC (.int 30))))))
  (mRet (mC (.bl false)))
  mNext)
  (mRet (mAndV (mP2 (inD false) (.e (mIdx (.v 0) (mC (.int 0)))) (.e (mC (.str k_LETTERS)))) (mCall F_is_of [.p 0, .e (mC (.str k_NAME_SIGNS))]))))
def F_is_name : List D → RF := runF 1 [] m_is_name
def m_is_value : Cm Out := (mRet (mAndV (mCall F_is_line [.p 0]) (mP2 eqD (.v 0) (.e (mM stripM (.v 0) (.e (mC (.str [32]))))))))
def F_is_value : List D → RF := runF 1 [] m_is_value
def m_is_head : Cm Out := (mRet (mAndV (mP1 (isTy .tuple) (.v 0)) (mAndV (mP2 eqD (.e (mP1 lenD (.v 0))) (.e (mC (.int 2)))) (mAndV (mCall F_is_name [.e (mIdx (.v 0) (mC (.int 0)))]) (mCall F_is_value [.e (mIdx (.v 0) (mC (.int 1)))])))))
def F_is_head : List D → RF := runF 1 [] m_is_head
def m_is_octets : Cm Out := (mRet (mAndV (mP1 (isTy .list) (.v 0)) (mP1 allD (.e (mLc (mItemsL (mVar 0)) (mPut 1) mYes (mCall F_is_between [.p 1, .e (mC (.int 0)), .e (mC (.int 255))]) [1])))))
def F_is_octets : List D → RF := runF 2 [] m_is_octets
def m_is_atom : Cm Out := (mRet (mAndV (mP2 neD (.v 0) (.e (mC (.str [])))) (mCall F_is_of [.p 0, .e (mC (.str k_ATOM_SIGNS))])))
def F_is_atom : List D → RF := runF 1 [] m_is_atom
def m_quoted_in : Cm Out := (mSeq (mIf (mTest (mCall F_is_atom [.p 0]))
  (mRet (mMove 0))
  mNext)
  (mRet (mBin addD (mBin addD (mC (.str [34])) (mRepl [34] [92, 34] (mRepl [92] [92, 92] (mMove 0)))) (mC (.str [34])))))
def F_quoted_in : List D → RF := runF 1 [] m_quoted_in
def m_is_title : Cm Out := (mSeq (mIf (mOr (mNot (mTest (mP1 (isTy .str) (.v 0)))) (mNot (mTest (mChain leD leD (mC (.int 1)) (mP1 lenD (.v 0)) (mC (.int 20))))))
  (mRet (mC (.bl false)))
  mNext)
  (mRet (mAndV (mP2 (inD false) (.e (mIdx (.v 0) (mC (.int 0)))) (.e (mC (.str k_SMALL)))) (mCall F_is_of [.p 0, .e (mMove 1)]))))
def F_is_title : List D → RF := runF 2 [] m_is_title
def m_is_pair : Cm Out := (mRet (mAndV (mP1 (isTy .tuple) (.v 0)) (mAndV (mP2 eqD (.e (mP1 lenD (.v 0))) (.e (mC (.int 2)))) (mAndV (mCall F_is_title [.e (mIdx (.v 0) (mC (.int 0))), .e (mC (.str k_KEY_SIGNS))]) (mCall F_is_line [.e (mIdx (.v 0) (mC (.int 1)))])))))
def F_is_pair : List D → RF := runF 1 [] m_is_pair
def m_is_kind : Cm Out := (mSeq (mIf (mOr (mNot (mTest (mP1 (isTy .tuple) (.v 0)))) (mOr (mTest (mP2 neD (.e (mP1 lenD (.v 0))) (.e (mC (.int 3))))) (mNot (mTest (mP1 (isTyK .list) (.e (mIdx (.v 0) (mC (.int 2)))))))))
  (mRet (mC (.bl false)))
  mNext)
  (mSeq (mIf (mOr (mNot (mTest (mCall F_is_title [.e (mIdx (.v 0) (mC (.int 0))), .e (mBin addD (mC (.str k_KEY_SIGNS)) (mC (.str [43])))]))) (mNot (mTest (mCall F_is_title [.e (mIdx (.v 0) (mC (.int 1))), .e (mBin addD (mC (.str k_KEY_SIGNS)) (mC (.str [43])))]))))
  (mRet (mC (.bl false)))
  mNext)
  (mSeq (mIf (mNot (mTest (mP1 allD (.e (mLc (mItemsL (mIdx (.v 0) (mC (.int 2)))) (mPut 1) mYes (mCall F_is_pair [.p 1]) [1])))))
  (mRet (mC (.bl false)))
  mNext)
  (mRet (mP2 eqD (.e (mDist (mLc (mItemsL (mIdx (.v 0) (mC (.int 2)))) (mPut 1) mYes (mIdx (.v 1) (mC (.int 0))) [1]))) (.e (mP1 lenD (.e (mIdx (.v 0) (mC (.int 2)))))))))))
def F_is_kind : List D → RF := runF 2 [] m_is_kind
def m_show_pair : Cm Out := (mSeq (mIf (mTest (mP2 leD (.e (mP1 lenD (.v 1))) (.e (mC (.int 40)))))
  (mRet (mBin addD (mBin addD (mBin addD (mC (.str [59, 32])) (mMove 0)) (mC (.str [61]))) (mCall F_quoted_in [.e (mMove 1)])))
  mNext)
  (mSeq (mSet 2 (mC (.str [])))
  (mSeq (mFor (mEnumR (mC (.int 0)) (mP1 lenD (.v 1)) (mC (.int 40))) (mTupT [(mPut 3), (mPut 4)])
  (mAug augA 2 (mBin addD (mBin addD (mBin addD (mBin addD (mBin addD (mC (.str [59, 32])) (mVar 0)) (mC (.str [42]))) (mP1 strD (.v 3))) (mC (.str [61]))) (mCall F_quoted_in [.e (mSlc (.v 1) (some (mVar 4)) (some (mBin addD (mVar 4) (mC (.int 40)))))]))))
  (mRet (mMove 2)))))
def F_show_pair : List D → RF := runF 5 [] m_show_pair
def m_show_kind : Cm Out := (mSeq (mIf (mNot (mTest (mCall F_is_kind [.p 0])))
  (mRaiseF "NoKind" "at" [(mC (.str [110, 111, 32, 107, 105, 110, 100]))])
  mNext)
  (mSeq (mAsg (mVar 0) (mTupT [(mPut 1), (mPut 2), (mPut 3)]))
  (mRet (mBin addD (mBin addD (mBin addD (mMove 1) (mC (.str [47]))) (mMove 2)) (mM joinD (.e (mC (.str []))) (.e (mLc (mItemsL (mVar 3)) (mUnp [mPut 4, mPut 5]) mYes (mCall F_show_pair [.p 4, .p 5]) [4, 5])))))))
def F_show_kind : List D → RF := runF 6 [] m_show_kind
def m_show_kind__n : Cm Out := (mSeq (mIf (mQ (mNot (mTest (mCall F_is_kind [.p 0]))))
  (mRaiseF "NoKind" "at" [(mC (.str [110, 111, 32, 107, 105, 110, 100]))])
  mNext)
  (mSeq (mQ (mAsg (mVar 0) (mTupT [(mPut 1), (mPut 2), (mPut 3)])))
  (mQ (mRet (mBin addD (mBin addD (mBin addD (mMove 1) (mC (.str [47]))) (mMove 2)) (mM joinD (.e (mC (.str []))) (.e (mLc (mItemsL (mVar 3)) (mUnp [mPut 4, mPut 5]) mYes (mCall F_show_pair [.p 4, .p 5]) [4, 5]))))))))
def F_show_kind__n : List D → RF := runF 6 [] m_show_kind__n
def m_sign_of : Cm Out := (mRet (mIdx (.e (mC (.str k_SIGNS))) (mBin subD (mBin subD (mVar 0) (mC (.int 32))) (mP1 intBD (.e (mP2 gtD (.v 0) (.e (mC (.int 37)))))))))
def F_sign_of : List D → RF := runF 1 [] m_sign_of
def m_is_sign : Cm Out := (mRet (mAndV (mChain leD leD (mC (.int 32)) (mVar 0) (mC (.int 126))) (mP2 neD (.v 0) (.e (mC (.int 37))))))
def F_is_sign : List D → RF := runF 1 [] m_is_sign
def m_six_bits : Cm Out := (mSeq (mSet 1 (mC (.str [])))
  (mSeq (mFor (mRange3 (mC (.int 0)) (mP1 lenD (.v 0)) (mC (.int 3))) (mPut 2)
  (mSeq (mSet 3 (mSlc (.v 0) (some (mVar 2)) (some (mBin addD (mVar 2) (mC (.int 3))))))
  (mSeq (mAsg (mBin addD (mVar 3) (mBin mulD (mLst [(mC (.int 0))]) (mBin subD (mC (.int 3)) (mP1 lenD (.v 3))))) (mTupL [(mPut 4), (mPut 5), (mPut 6)]))
  (mSeq (mSet 7 (mBin addD (mBin addD (mBin mulD (mC (.int 65536)) (mVar 4)) (mBin mulD (mC (.int 256)) (mVar 5))) (mVar 6)))
  (mSeq (mSet 8 (mLst [(mBin fdivD (mVar 7) (mC (.int 262144))), (mBin modD (mBin fdivD (mVar 7) (mC (.int 4096))) (mC (.int 64))), (mBin modD (mBin fdivD (mVar 7) (mC (.int 64))) (mC (.int 64))), (mBin modD (mVar 7) (mC (.int 64)))]))
  (mAug augA 1 (mBin addD (mM joinD (.e (mC (.str []))) (.e (mLc (mItemsL (mSlc (.v 8) none (some (mBin addD (mP1 lenD (.v 3)) (mC (.int 1)))))) (mPut 9) mYes (mIdx (.e (mC (.str k_SIX))) (mVar 9)) [9]))) (mBin mulD (mC (.str [61])) (mBin subD (mC (.int 3)) (mP1 lenD (.v 3)))))))))))
  (mRet (mMove 1))))
def F_six_bits : List D → RF := runF 10 [] m_six_bits
def m_by_sixes : Cm Out := (mSeq (mSet 1 (mCall F_six_bits [.p 0]))
  (mSeq (mSet 2 (mLc (mRange3 (mC (.int 0)) (mP1 lenD (.v 1)) (mC (.int 72))) (mPut 3) mYes (mSlc (.v 1) (some (mVar 3)) (some (mBin addD (mVar 3) (mC (.int 72))))) [3]))
  (mRet (mM joinD (.e (mC (.str []))) (.e (mLc (mItemsL (mVar 2)) (mPut 4) mYes (mBin addD (mVar 4) (mC (.str [10]))) [4]))))))
def F_by_sixes : List D → RF := runF 5 [] m_by_sixes
def m_two_figures : Cm Out := (mRet (mBin addD (mBin addD (mC (.str [61])) (mIdx (.e (mC (.str k_SIXTEEN))) (mBin fdivD (mVar 0) (mC (.int 16))))) (mIdx (.e (mC (.str k_SIXTEEN))) (mBin modD (mVar 0) (mC (.int 16))))))
def F_two_figures : List D → RF := runF 1 [] m_two_figures
def m_mark_unit : Cm Out := (mSeq (mSet 2 (mIdx (.v 0) (mVar 1)))
  (mSeq (mIf (mAnd (mTest (mP2 eqD (.v 2) (.e (mC (.int 32))))) (mAnd (mTest (mP2 ltD (.e (mBin addD (mVar 1) (mC (.int 1)))) (.e (mP1 lenD (.v 0))))) (mTest (mP2 neD (.e (mIdx (.v 0) (mBin addD (mVar 1) (mC (.int 1))))) (.e (mC (.int 10)))))))
  (mRet (mC (.str [32])))
  mNext)
  (mSeq (mIf (mAnd (mTest (mP2 neD (.v 2) (.e (mC (.int 32))))) (mAnd (mTest (mP2 neD (.v 2) (.e (mC (.int 61))))) (mTest (mCall F_is_sign [.p 2]))))
  (mRet (mCall F_sign_of [.e (mMove 2)]))
  mNext)
  (mRet (mCall F_two_figures [.e (mMove 2)])))))
def F_mark_unit : List D → RF := runF 3 [] m_mark_unit
def m_by_marks : Cm Out := (mSeq (mSet 1 (mLst []))
  (mSeq (mSet 2 (mC (.str [])))
  (mSeq (mFor (mEnum (mVar 0)) (mTupT [(mPut 3), (mPut 4)])
  (mIf (mTest (mP2 eqD (.v 4) (.e (mC (.int 10)))))
  (mSeq (mDrop (mApp 1 (mVar 2)))
  (mSet 2 (mC (.str []))))
  (mSeq (mSet 5 (mCall F_mark_unit [.p 0, .p 3]))
  (mSeq (mIf (mTest (mP2 geD (.e (mBin addD (mP1 lenD (.v 2)) (mP1 lenD (.v 5)))) (.e (mC (.int 72)))))
  (mSeq (mDrop (mApp 1 (mBin addD (mVar 2) (mC (.str [61])))))
  (mSet 2 (mC (.str []))))
  mNext)
  (mAug augA 2 (mVar 5))))))
  (mSeq (mIf (mTest (mP2 neD (.v 2) (.e (mC (.str [])))))
  (mDrop (mApp 1 (mBin addD (mVar 2) (mC (.str [61])))))
  mNext)
  (mRet (mM joinD (.e (mC (.str []))) (.e (mLc (mItemsL (mVar 1)) (mPut 6) mYes (mBin addD (mVar 6) (mC (.str [10]))) [6]))))))))
def F_by_marks : List D → RF := runF 7 [] m_by_marks
def m_can_be_plain : Cm Out := (mSeq (mSet 1 (mC (.int 0)))
  (mSeq (mFor (mItemsL (mVar 0)) (mPut 2)
  (mSeq (mSet 1 (mIfE (mTest (mP2 eqD (.v 2) (.e (mC (.int 10))))) (mC (.int 0)) (mBin addD (mVar 1) (mC (.int 1)))))
  (mIf (mOr (mAnd (mTest (mP2 neD (.v 2) (.e (mC (.int 10))))) (mNot (mTest (mCall F_is_sign [.p 2])))) (mTest (mP2 gtD (.v 1) (.e (mC (.int 72))))))
  (mRet (mC (.bl false)))
  mNext)))
  (mRet (mP2 eqD (.v 1) (.e (mC (.int 0)))))))
def F_can_be_plain : List D → RF := runF 3 [] m_can_be_plain
def m_by_plain : Cm Out := (mRet (mM joinD (.e (mC (.str []))) (.e (mLc (mItemsL (mVar 0)) (mPut 1) mYes (mIfE (mTest (mP2 eqD (.v 1) (.e (mC (.int 10))))) (mC (.str [10])) (mCall F_sign_of [.p 1])) [1]))))
def F_by_plain : List D → RF := runF 2 [] m_by_plain
def m_needed_octets : Cm Out := (mIf (mNot (mTest (mCall F_is_octets [.p 0])))
  (mRaise "NoOctets")
  mNext)
def F_needed_octets : List D → RF := runF 1 [] m_needed_octets
def m_needed_code : Cm Out := (mIf (mNot (mTest (mCall F_is_word [.p 0, .e (mK k_CODES)])))
  (mRaiseF "NoCode" "at" [(mC (.str [110, 111, 32, 115, 117, 99, 104, 32, 99, 111, 100, 101]))])
  mNext)
def F_needed_code : List D → RF := runF 1 [] m_needed_code
def m_written_by : Cm Out := (mSeq (mDrop (mCall F_needed_octets [.p 0]))
  (mSeq (mDrop (mCall F_needed_code [.p 1]))
  (mSeq (mIf (mTest (mP2 eqD (.v 1) (.e (mC (.str [115, 105, 120, 101, 115])))))
  (mRet (mCall F_by_sixes [.e (mMove 0)]))
  mNext)
  (mSeq (mIf (mTest (mP2 eqD (.v 1) (.e (mC (.str [109, 97, 114, 107, 115])))))
  (mRet (mCall F_by_marks [.e (mMove 0)]))
  mNext)
  (mSeq (mIf (mNot (mTest (mCall F_can_be_plain [.p 0])))
  (mRaiseF "NoCode" "at" [(mC (.str [98, 121, 32, 112, 108, 97, 105, 110, 32, 116, 104, 101, 121, 32, 99, 97, 110, 32, 110, 111, 116, 32, 98, 101, 32, 119, 114, 105, 116, 116, 101, 110]))])
  mNext)
  (mRet (mCall F_by_plain [.e (mMove 0)])))))))
def F_written_by : List D → RF := runF 2 [] m_written_by
def m_written_by__n : Cm Out := (mSeq (mQ (mDrop (mCall F_needed_octets [.p 0])))
  (mSeq (mQ (mDrop (mCall F_needed_code [.p 1])))
  (mSeq (mQ (mIf (mTest (mP2 eqD (.v 1) (.e (mC (.str [115, 105, 120, 101, 115])))))
  (mRet (mCall F_by_sixes [.e (mMove 0)]))
  mNext))
  (mSeq (mQ (mIf (mTest (mP2 eqD (.v 1) (.e (mC (.str [109, 97, 114, 107, 115])))))
  (mRet (mCall F_by_marks [.e (mMove 0)]))
  mNext))
  (mSeq (mIf (mQ (mNot (mTest (mCall F_can_be_plain [.p 0]))))
  (mRaiseF "NoCode" "at" [(mC (.str [98, 121, 32, 112, 108, 97, 105, 110, 32, 116, 104, 101, 121, 32, 99, 97, 110, 32, 110, 111, 116, 32, 98, 101, 32, 119, 114, 105, 116, 116, 101, 110]))])
  mNext)
  (mQ (mRet (mCall F_by_plain [.e (mMove 0)]))))))))
def F_written_by__n : List D → RF := runF 2 [] m_written_by__n
def m_best : Cm Out := (mSeq (mDrop (mCall F_needed_octets [.p 0]))
  (mSeq (mIf (mTest (mCall F_can_be_plain [.p 0]))
  (mRet (mC (.str [112, 108, 97, 105, 110])))
  mNext)
  (mSeq (mIf (mTest (mP2 leD (.e (mP1 lenD (.e (mCall F_by_marks [.p 0])))) (.e (mP1 lenD (.e (mCall F_by_sixes [.p 0]))))))
  (mRet (mC (.str [109, 97, 114, 107, 115])))
  mNext)
  (mRet (mC (.str [115, 105, 120, 101, 115]))))))
def F_best : List D → RF := runF 1 [] m_best
def m_fold_places : Cm Out := (mRet (mLc (mRange2 (mVar 1) (mP1 lenD (.v 0))) (mPut 2) (mAnd (mTest (mP2 eqD (.e (mIdx (.v 0) (mVar 2))) (.e (mC (.str [32]))))) (mTest (mP2 neD (.e (mIdx (.v 0) (mBin subD (mVar 2) (mC (.int 1))))) (.e (mC (.str [32])))))) (mVar 2) [2]))
def F_fold_places : List D → RF := runF 3 [] m_fold_places
def m_folded_lines : Cm Out := (mSeq (mSet 2 (mLst []))
  (mSeq (mSet 3 (mCall F_fold_places [.p 0, .p 1]))
  (mSeq (mWhile (mAnd (mTest (mP2 gtD (.e (mP1 lenD (.v 0))) (.e (mC (.int 72))))) (mTest (mP2 neD (.v 3) (.e (mLst [])))))
  (mSeq (mSet 4 (mLc (mItemsL (mVar 3)) (mPut 5) (mTest (mP2 leD (.v 5) (.e (mC (.int 72))))) (mVar 5) [5]))
  (mSeq (mSet 5 (mBin maxDefD (mVar 4) (mIdx (.v 3) (mC (.int 0)))))
  (mSeq (mDrop (mApp 2 (mSlc (.v 0) none (some (mVar 5)))))
  (mSeq (mSet 0 (mSlc (.v 0) (some (mVar 5)) none))
  (mSet 3 (mCall F_fold_places [.p 0, .e (mC (.int 1))])))))))
  (mRet (mBin addD (mMove 2) (mLst [(mMove 0)]))))))
def F_folded_lines : List D → RF := runF 6 [] m_folded_lines
def m_head_text : Cm Out := (mSeq (mIf (mTest (mP2 eqD (.v 1) (.e (mC (.str [])))))
  (mRet (mBin addD (mMove 0) (mC (.str [58, 10]))))
  mNext)
  (mSeq (mSet 2 (mBin addD (mBin addD (mVar 0) (mC (.str [58, 32]))) (mVar 1)))
  (mRet (mBin addD (mM joinD (.e (mC (.str [10]))) (.e (mCall F_folded_lines [.e (mMove 2), .e (mBin addD (mP1 lenD (.v 0)) (mC (.int 2)))]))) (mC (.str [10]))))))
def F_head_text : List D → RF := runF 3 [] m_head_text
def m_needed : Cm Out := (mIf (mNot (mTest (mVar 0)))
  (mRaise "NoPart")
  mNext)
def F_needed : List D → RF := runF 1 [] m_needed
def m_checked_heads : Cm Out := (mSeq (mIf (mTest (mP2 isNon (.v 0) (.e (mC .non))))
  (mRet (mLst []))
  mNext)
  (mSeq (mDrop (mCall F_needed [.e (mAndV (mP1 (isTy .list) (.v 0)) (mP1 allD (.e (mLc (mItemsL (mVar 0)) (mPut 1) mYes (mCall F_is_head [.p 1]) [1]))))]))
  (mSeq (mDrop (mCall F_needed [.e (mP1 allD (.e (mLc (mItemsL (mVar 0)) (mUnp [mPut 2, mPut 3]) mYes (mP2 (inD true) (.e (mP1 lowerM (.v 2))) (.e (mK k_OWN))) [2, 3])))]))
  (mRet (mNew listD (.v 0))))))
def F_checked_heads : List D → RF := runF 4 [] m_checked_heads
def m_checked_kind : Cm Out := (mSeq (mTryX exm_ "NoKind"
  (mDrop (mCall F_show_kind__n [.p 0]))
  (mRaise "NoPart"))
  (mSeq (mAsg (mVar 0) (mTupT [(mPut 1), (mPut 2), (mPut 3)]))
  (mRet (mTup [(mMove 1), (mMove 2), (mNew listD (.v 3))]))))
def F_checked_kind : List D → RF := runF 4 [] m_checked_kind
def m_checked_code : Cm Out := (mSeq (mIf (mTest (mP2 isNon (.v 1) (.e (mC .non))))
  (mRet (mCall F_best [.e (mMove 0)]))
  mNext)
  (mSeq (mDrop (mCall F_needed [.e (mCall F_is_word [.p 1, .e (mK k_CODES)])]))
  (mSeq (mTryX exm_ "NoCode"
  (mDrop (mCall F_written_by__n [.p 0, .p 1]))
  (mRaise "NoPart"))
  (mRet (mMove 1)))))
def F_checked_code : List D → RF := runF 2 [] m_checked_code
def m__law_cell_at : Cm Out := (mSeq (mIf (mTest (mP2 ltD (.v 1) (.e (mP1 lenD (.v 0)))))
  (mRet (mIdx (.v 0) (mMove 1)))
  mNext)
  (mRet (mC (.int 0))))
def F__law_cell_at : List D → RF := runF 2 [] m__law_cell_at
def m__law_mixed : Cm Out := (mSeq (mSet 2 (mBin addD (mBin modD (mVar 0) (mC (.int 2147483629))) (mBin mulD (mBin fdivD (mVar 0) (mC (.int 2147483629))) (mC (.int 30011)))))
  (mSeq (mSet 2 (mBin modD (mBin mulD (mBin addD (mBin addD (mVar 2) (mBin mulD (mC (.int 69621)) (mVar 1))) (mC (.int 1))) (mC (.int 48271))) (mC (.int 2147483629))))
  (mSeq (mSet 2 (mBin modD (mBin mulD (mVar 2) (mBin addD (mBin addD (mBin fdivD (mVar 2) (mC (.int 907))) (mC (.int 16831))) (mVar 1))) (mC (.int 2147483587))))
  (mRet (mBin modD (mBin mulD (mVar 2) (mBin addD (mBin fdivD (mVar 2) (mC (.int 1201))) (mC (.int 30011)))) (mC (.int 2147483563)))))))
def F__law_mixed : List D → RF := runF 3 [] m__law_mixed
def m__law_source : Cm Out := (mSeq (mIf (mTest (mP2 ltD (.v 1) (.e (mP1 lenD (.v 0)))))
  (mRet (mLst [(mIdx (.v 0) (mVar 1)), (mIdx (.v 0) (mVar 1)), (mC (.int 0))]))
  mNext)
  (mSeq (mSet 2 (mCall F__law_mixed [.e (mCall F__law_cell_at [.p 0, .e (mC (.int 0))]), .e (mBin addD (mC (.int 1000)) (mVar 1))]))
  (mRet (mLst [(mVar 2), (mVar 2), (mC (.int 0))]))))
def F__law_source : List D → RF := runF 3 [] m__law_source
def m__law_next : Cm Out := (mSeq (mIf (mTest (mP2 geD (.e (mIdx (.v 0) (mC (.int 0)))) (.e (mBin powD (mC (.int 10)) (mC (.int 18))))))
  (mSeq (mSet 2 (mBin modD (mIdx (.v 0) (mC (.int 0))) (mVar 1)))
  (mSeq (mAsg (mBin fdivD (mIdx (.v 0) (mC (.int 0))) (mVar 1)) (mSetI 0 (mC (.int 0))))
  (mRet (mMove 2))))
  mNext)
  (mSeq (mAsg (mBin addD (mIdx (.v 0) (mC (.int 2))) (mC (.int 1))) (mSetI 0 (mC (.int 2))))
  (mRet (mBin modD (mCall F__law_mixed [.e (mIdx (.v 0) (mC (.int 1))), .e (mIdx (.v 0) (mC (.int 2)))]) (mMove 1)))))
def F__law_next : List D → RF := runF 3 [0] m__law_next
def m__law_signs : Cm Out := (mRet (mM joinD (.e (mC (.str []))) (.e (mLc (mRange1 (mVar 2)) (mPut 3) mYes (mIdx (.v 1) (mCall F__law_next [.s 0, .e (mP1 lenD (.v 1))])) [3]))))
def F__law_signs : List D → RF := runF 4 [0] m__law_signs
def m__law_title : Cm Out := (mSeq (mSet 3 (mIdx (.e (mLst [(mC (.int 0)), (mC (.int 2)), (mC (.int 7)), (mC (.int 18)), (mC (.int 19))])) (mCall F__law_next [.s 0, .e (mC (.int 5))])))
  (mRet (mBin addD (mCall F__law_signs [.s 0, .e (mMove 1), .e (mC (.int 1))]) (mCall F__law_signs [.s 0, .e (mBin addD (mC (.str [97, 98, 121, 122, 48, 53, 57, 45])) (mMove 2)), .e (mMove 3)]))))
def F__law_title : List D → RF := runF 4 [0] m__law_title
def m__law_kind : Cm Out := (mSeq (mSet 2 (mLst []))
  (mSeq (mFor (mRange1 (mCall F__law_next [.s 0, .e (mBin addD (mVar 1) (mC (.int 1)))])) (mPut 3)
  (mSeq (mSet 4 (mCall F__law_title [.s 0, .e (mIdx (.e (mC (.str [97, 98, 99, 100, 101, 102, 103, 104]))) (mVar 3)), .e (mC (.str []))]))
  (mSeq (mSet 5 (mIdx (.e (mLst [(mC (.str [97, 98, 90, 57, 46, 47, 61, 63, 39, 95])), (mC (.str [97, 98, 32, 34, 92, 59, 61, 42, 40, 41])), (mC (.str [97, 66, 57, 32]))])) (mCall F__law_next [.s 0, .e (mC (.int 3))])))
  (mSeq (mSet 6 (mIdx (.e (mLst [(mC (.int 0)), (mC (.int 1)), (mC (.int 5)), (mC (.int 39)), (mC (.int 40)), (mC (.int 41)), (mC (.int 79)), (mC (.int 80)), (mC (.int 81)), (mCall F__law_next [.s 0, .e (mC (.int 140))])])) (mCall F__law_next [.s 0, .e (mC (.int 10))])))
  (mSeq (mIf (mAnd (mTest (mP2 eqD (.e (mCall F__law_next [.s 0, .e (mC (.int 24))])) (.e (mC (.int 0))))) (mTest (mP2 ltD (.e (mP1 sumD (.e (mLcI 2 (mUnp [mPut 7, mPut 8]) mYes (mP1 lenD (.v 8)) [7, 8])))) (.e (mC (.int 300))))))
  (mSet 6 (mBin addD (mC (.int 400)) (mCall F__law_next [.s 0, .e (mC (.int 130))])))
  mNext)
  (mDrop (mApp 2 (mTup [(mVar 4), (mCall F__law_signs [.s 0, .p 5, .p 6])]))))))))
  (mRet (mTup [(mCall F__law_title [.s 0, .e (mC (.str [97, 98, 100, 116])), .e (mC (.str [43]))]), (mCall F__law_title [.s 0, .e (mC (.str [97, 98, 120, 121])), .e (mC (.str [43]))]), (mMove 2)]))))
def F__law_kind : List D → RF := runF 9 [0] m__law_kind
def m__law_no_title : Cm Out := (mSeq (mSet 2 (mLst [(mC (.str [])), (mBin mulD (mC (.str [97])) (mC (.int 21))), (mC (.str [65])), (mC (.str [97, 66])), (mC (.str [49, 97])), (mC (.str [45, 97])), (mC (.str [97, 95])), (mC (.str [97, 32, 98])), (mC (.str [97, 46, 98])), (mC (.str [97, 61, 98])), (mC (.str [97, 42, 48])), (mC (.str [43, 97])), (mC (.str [97, 10])), (mC .non), (mC (.int 5)), (mLst [(mC (.str [97]))]), (mTup [(mC (.str [97]))])]))
  (mRet (mIdx (.e (mBin addD (mMove 2) (mVar 1))) (mCall F__law_next [.s 0, .e (mBin addD (mC (.int 17)) (mP1 lenD (.v 1)))]))))
def F__law_no_title : List D → RF := runF 3 [0] m__law_no_title
def m__law_bad : Cm Out := (mSeq (mAsg (mVar 1) (mTupT [(mPut 2), (mPut 3), (mPut 4)]))
  (mSeq (mSet 5 (mCall F__law_next [.s 0, .e (mBin addD (mP1 lenD (.v 4)) (mC (.int 1)))]))
  (mSeq (mSet 6 (mCall F__law_next [.s 0, .e (mC (.int 8))]))
  (mSeq (mIf (mTest (mP2 eqD (.v 6) (.e (mC (.int 0)))))
  (mRet (mTup [(mCall F__law_no_title [.s 0, .e (mLst [])]), (mMove 3), (mMove 4)]))
  mNext)
  (mSeq (mIf (mTest (mP2 eqD (.v 6) (.e (mC (.int 1)))))
  (mRet (mTup [(mMove 2), (mCall F__law_no_title [.s 0, .e (mLst [])]), (mMove 4)]))
  mNext)
  (mSeq (mIf (mTest (mP2 eqD (.v 6) (.e (mC (.int 2)))))
  (mRet (mTup [(mMove 2), (mMove 3), (mBin addD (mBin addD (mSlc (.v 4) none (some (mVar 5))) (mLst [(mTup [(mCall F__law_no_title [.s 0, .e (mLst [(mC (.str [97, 43]))])]), (mC (.str [98]))])])) (mSlc (.v 4) (some (mVar 5)) none))]))
  mNext)
  (mSeq (mIf (mTest (mP2 eqD (.v 6) (.e (mC (.int 3)))))
  (mSeq (mSet 7 (mIdx (.e (mLst [(mC .non), (mC (.str [97, 10])), (mC (.int 5)), (mLst [(mC (.str [97]))]), (mTup [(mC (.str [97]))]), (mC (.bl true))])) (mCall F__law_next [.s 0, .e (mC (.int 6))])))
  (mRet (mTup [(mMove 2), (mMove 3), (mBin addD (mBin addD (mSlc (.v 4) none (some (mVar 5))) (mLst [(mTup [(mC (.str [122, 122])), (mMove 7)])])) (mSlc (.v 4) (some (mVar 5)) none))])))
  mNext)
  (mSeq (mIf (mTest (mP2 eqD (.v 6) (.e (mC (.int 4)))))
  (mRet (mTup [(mMove 2), (mMove 3), (mBin addD (mBin addD (mBin addD (mSlc (.v 4) none (some (mVar 5))) (mLst [(mTup [(mC (.str [122, 122])), (mC (.str [97]))])])) (mSlc (.v 4) (some (mVar 5)) none)) (mLst [(mTup [(mC (.str [122, 122])), (mC (.str [98]))])]))]))
  mNext)
  (mSeq (mIf (mTest (mP2 eqD (.v 6) (.e (mC (.int 5)))))
  (mSeq (mSet 8 (mIdx (.e (mLst [(mLst [(mC (.str [122, 122])), (mC (.str [97]))]), (mTup [(mC (.str [122, 122]))]), (mTup [(mC (.str [122, 122])), (mC (.str [97])), (mC (.str [98]))]), (mC .non), (mC (.str [122, 122])), (mTup [])])) (mCall F__law_next [.s 0, .e (mC (.int 6))])))
  (mRet (mTup [(mMove 2), (mMove 3), (mBin addD (mBin addD (mSlc (.v 4) none (some (mVar 5))) (mLst [(mMove 8)])) (mSlc (.v 4) (some (mVar 5)) none))])))
  mNext)
  (mSeq (mSet 9 (mLst [(mLst [(mVar 2), (mVar 3), (mVar 4)]), (mTup [(mVar 2), (mVar 3)]), (mTup [(mVar 2), (mVar 3), (mVar 4), (mVar 4)]), (mTup [(mVar 2), (mVar 3), (mNew tupD (.v 4))]), (mC .non), (mC (.str [97, 47, 98]))]))
  (mRet (mIdx (.e (mBin addD (mMove 9) (mLst [(mTup [(mVar 2), (mVar 3), (mC .non)]), (mTup [(mVar 2), (mVar 3), (mDictP (mMove 4))]), (mTup []), (mVar 2)]))) (mCall F__law_next [.s 0, .e (mC (.int 10))])))))))))))))
def F__law_bad : List D → RF := runF 10 [0] m__law_bad
def W__law_word : Option Ex → RF := wordF 2 exm_ 1 "LetterError"
  mNext
  (fun x1 => (mSeq (mIf (mAnd (mTest (mIsX exm_ x1 "NoKind")) (mNot (mTest (mIsXs exm_ x1 ["NoWords", "NoAddress", "NoHead", "NoPart"]))))
  (mRet (mTup [(mC (.str [107, 105, 110, 100])), (mXf x1 "at")]))
  mNext)
  (mRet (mIdx (.e (mLst [(mC (.str [111, 116, 104, 101, 114])), (mC (.str [112, 97, 114, 116]))])) (mP1 intBD (.e (mAndV (mIsX exm_ x1 "NoPart") (mUn notD (mIsX exm_ x1 "NoKind")))))))))
  (mRet (mC (.str [116, 111, 108, 100])))
def m_Leaf____init__ : Cm Out := (mSeq (mDrop (mCall F_needed [.e (mCall F_is_octets [.p 1])]))
  (mSeq (mIf (mTest (mP2 isNon (.v 2) (.e (mC .non))))
  (mSet 2 (mTup [(mC (.str [116, 101, 120, 116])), (mC (.str [112, 108, 97, 105, 110])), (mLst [])]))
  mNext)
  (mSeq (mSetF 0 "Leaf" "held_kind" (mCall F_checked_kind [.p 2]))
  (mSeq (mDrop (mCall F_needed [.e (mP2 (inD true) (.e (mIdxF 0 "Leaf" "held_kind" (mC (.int 0)))) (.e (mK k_GREATER)))]))
  (mSeq (mSetF 0 "Leaf" "held_octets" (mNew listD (.v 1)))
  (mSeq (mSetF 0 "Leaf" "held_code" (mCall F_checked_code [.p 1, .p 3]))
  (mSetF 0 "Leaf" "held_heads" (mCall F_checked_heads [.p 4]))))))))
def F_Leaf____init__ : List D → RF := runF 5 [0] m_Leaf____init__
def m_law : Cm Out := (mSeq (mFor (mRange1 (mBin maxD (mC (.int 1)) (mBin minD (mC (.int 10)) (mP1 lenD (.v 0))))) (mPut 1)
  (mSeq (mSet 2 (mCall F__law_source [.p 0, .p 1]))
  (mSeq (mSet 3 (mCall F__law_kind [.s 2, .e (mC (.int 4))]))
  (mSeq (mSet 4 (mP1 reprD (.v 3)))
  (mSeq (mSet 5 (mCall F__law_bad [.s 2, .p 3]))
  (mSeq (mIf (mTest (mP2 neD (.e (mLam W__law_word (mCall F_show_kind [.p 3]))) (.e (mC (.str [116, 111, 108, 100])))))
  (mRet (mC (.bl false)))
  mNext)
  (mSeq (mIf (mTest (mP2 neD (.e (mLam W__law_word (mNewK "Leaf" F_Leaf____init__ [(0, 0), (2, 0), (1, 0), (1, 1)] [.non, .non] [(mLst [])] [(mVar 3)]))) (.e (mC (.str [116, 111, 108, 100])))))
  (mRet (mC (.bl false)))
  mNext)
  (mSeq (mIf (mTest (mP2 neD (.e (mLam W__law_word (mCall F_show_kind [.p 5]))) (.e (mTup [(mC (.str [107, 105, 110, 100])), (mC (.int 0))]))))
  (mRet (mC (.bl false)))
  mNext)
  (mSeq (mIf (mAnd (mTest (mP2 isntNon (.v 5) (.e (mC .non)))) (mTest (mP2 neD (.e (mLam W__law_word (mNewK "Leaf" F_Leaf____init__ [(0, 0), (2, 0), (1, 0), (1, 1)] [.non, .non] [(mLst [])] [(mVar 5)]))) (.e (mC (.str [112, 97, 114, 116]))))))
  (mRet (mC (.bl false)))
  mNext)
  (mSeq (mSet 6 (mIdx (.e (mLst [(mC (.str [109, 97, 110, 121])), (mC (.str [99, 111, 118, 101, 114]))])) (mCall F__law_next [.s 2, .e (mC (.int 2))])))
  (mSeq (mIf (mOr (mTest (mP2 neD (.e (mLam W__law_word (mCall F_show_kind [.e (mTup [(mVar 6), (mC (.str [97])), (mLst [])])]))) (.e (mC (.str [116, 111, 108, 100]))))) (mTest (mP2 neD (.e (mP1 reprD (.v 3))) (.v 4))))
  (mRet (mC (.bl false)))
  mNext)
  (mIf (mTest (mP2 neD (.e (mLam W__law_word (mNewK "Leaf" F_Leaf____init__ [(0, 0), (2, 0), (1, 0), (1, 1)] [.non, .non] [(mLst [])] [(mTup [(mVar 6), (mC (.str [97])), (mLst [])])]))) (.e (mC (.str [112, 97, 114, 116])))))
  (mRet (mC (.bl false)))
  mNext))))))))))))
  (mRet (mC (.bl true))))
def F_law : List D → RF := runF 7 [] m_law
end K34




namespace K34
open PySem PySem.Spec PyProof.Rows L2 VS
theorem g_ATOM_SIGNS : (Sc.str k_ATOM_SIGNS).good := ⟨by decide +kernel, by decide +kernel⟩
theorem l_CODES : (k_CODES).length ≤ 16777216 ∧ ∀ s ∈ k_CODES, s.good := ⟨by decide +kernel, goodB_ok _ (by decide +kernel)⟩
theorem l_GREATER : (k_GREATER).length ≤ 16777216 ∧ ∀ s ∈ k_GREATER, s.good := ⟨by decide +kernel, goodB_ok _ (by decide +kernel)⟩
theorem g_KEY_SIGNS : (Sc.str k_KEY_SIGNS).good := ⟨by decide +kernel, by decide +kernel⟩
theorem g_LETTERS : (Sc.str k_LETTERS).good := ⟨by decide +kernel, by decide +kernel⟩
theorem g_NAME_SIGNS : (Sc.str k_NAME_SIGNS).good := ⟨by decide +kernel, by decide +kernel⟩
theorem l_OWN : (k_OWN).length ≤ 16777216 ∧ ∀ s ∈ k_OWN, s.good := ⟨by decide +kernel, goodB_ok _ (by decide +kernel)⟩
theorem g_SIGNS : (Sc.str k_SIGNS).good := ⟨by decide +kernel, by decide +kernel⟩
theorem g_SIX : (Sc.str k_SIX).good := ⟨by decide +kernel, by decide +kernel⟩
theorem g_SIXTEEN : (Sc.str k_SIXTEEN).good := ⟨by decide +kernel, by decide +kernel⟩
theorem g_SMALL : (Sc.str k_SMALL).good := ⟨by decide +kernel, by decide +kernel⟩
structure Tx (K : PySem.W.Frag) (mg : Str → Option Value) (c : Cfg) : Prop where
  hK : c.K = K
  f_all : mg "all" = none
  f_bool : mg "bool" = none
  f_dict : mg "dict" = none
  f_enumerate : mg "enumerate" = none
  f_int : mg "int" = none
  f_isinstance : mg "isinstance" = none
  f_len : mg "len" = none
  f_list : mg "list" = none
  f_max : mg "max" = none
  f_min : mg "min" = none
  f_range : mg "range" = none
  f_repr : mg "repr" = none
  f_set : mg "set" = none
  f_str : mg "str" = none
  f_sum : mg "sum" = none
  f_tuple : mg "tuple" = none
  c_ATOM_SIGNS : ∃ t, mg "ATOM_SIGNS" = some (.str ⟨k_ATOM_SIGNS.toArray⟩ t)
  c_CODES : ∃ a, mg "CODES" = some (.ref a) ∧ StcT K a (k_CODES.map Sc.v)
  c_GREATER : ∃ a, mg "GREATER" = some (.ref a) ∧ StcT K a (k_GREATER.map Sc.v)
  c_KEY_SIGNS : ∃ t, mg "KEY_SIGNS" = some (.str ⟨k_KEY_SIGNS.toArray⟩ t)
  c_LETTERS : ∃ t, mg "LETTERS" = some (.str ⟨k_LETTERS.toArray⟩ t)
  c_MOST_OF_LINE : ∃ t, mg "MOST_OF_LINE" = some (.int 72 t)
  c_MOST_OF_NAME : ∃ t, mg "MOST_OF_NAME" = some (.int 30 t)
  c_MOST_OF_TITLE : ∃ t, mg "MOST_OF_TITLE" = some (.int 20 t)
  c_NAME_SIGNS : ∃ t, mg "NAME_SIGNS" = some (.str ⟨k_NAME_SIGNS.toArray⟩ t)
  c_OWN : ∃ a, mg "OWN" = some (.ref a) ∧ StcT K a (k_OWN.map Sc.v)
  c_PIECE : ∃ t, mg "PIECE" = some (.int 40 t)
  c_SIGNS : ∃ t, mg "SIGNS" = some (.str ⟨k_SIGNS.toArray⟩ t)
  c_SIX : ∃ t, mg "SIX" = some (.str ⟨k_SIX.toArray⟩ t)
  c_SIXTEEN : ∃ t, mg "SIXTEEN" = some (.str ⟨k_SIXTEEN.toArray⟩ t)
  c_SMALL : ∃ t, mg "SMALL" = some (.str ⟨k_SMALL.toArray⟩ t)
  c_WIDTH : ∃ t, mg "WIDTH" = some (.int 72 t)
  cl_Leaf : Cls K (c.cls "Leaf")
  na_Leaf : ∀ f ∈ ["held_kind", "held_octets", "held_code", "held_heads"], NoAttr K (c.cls "Leaf") (Str.ofString f)
  gC_Leaf : mg "Leaf" = some (.ref (c.cls "Leaf"))
  xt : XT K c.cls allX dsX
  g_LetterError : mg "LetterError" = some (.ref (c.cls "LetterError"))
  g_NoAddress : mg "NoAddress" = some (.ref (c.cls "NoAddress"))
  g_NoCode : mg "NoCode" = some (.ref (c.cls "NoCode"))
  g_NoHead : mg "NoHead" = some (.ref (c.cls "NoHead"))
  g_NoKind : mg "NoKind" = some (.ref (c.cls "NoKind"))
  g_NoOctets : mg "NoOctets" = some (.ref (c.cls "NoOctets"))
  g_NoPart : mg "NoPart" = some (.ref (c.cls "NoPart"))
  g_NoWords : mg "NoWords" = some (.ref (c.cls "NoWords"))
  x_NoOctets : PySem.W.excIn K (c.cls "NoOctets") He.veBase "ValueError.__new__" = true ∧ PySem.W.keepIn K (.ref (c.cls "NoOctets")) = true ∧ PySem.W.subIn K (.ref (c.cls "NoOctets")) (.type "BaseException") = some true ∧ PySem.W.typeIn K (.ref (c.cls "NoOctets")) = some (.type "type")
  x_NoPart : PySem.W.excIn K (c.cls "NoPart") He.veBase "ValueError.__new__" = true ∧ PySem.W.keepIn K (.ref (c.cls "NoPart")) = true ∧ PySem.W.subIn K (.ref (c.cls "NoPart")) (.type "BaseException") = some true ∧ PySem.W.typeIn K (.ref (c.cls "NoPart")) = some (.type "type")
section
variable {P : Program} {w : World} {K : PySem.W.Frag} {mg : Str → Option Value} {base : Heap} {c : Cfg}
def kw_Leaf____init__ : List (Str × V) := [(("kind" : Str), V.non), (("code" : Str), V.non), (("heads" : Str), V.non)]
theorem ok__wall (T : Tx K mg c) {fa : Addr} {fd : FuncData} (A : At K mg "_wall" s__wall ["k"] fa fd) :
    FnOk P w K mg base (L2.CX P w) 1 fa fd ["k"] (spM c 1 [] F__wall) := by
  refine fn_okD (N := N__wall) (m := m__wall) A.F sc__wall rfl (by decide) (by decide) (by decide) fun g cdv Ar outer s H E hr hc0 hN hio => ?_
  have hc : g.c = c := hc0
  subst hc0
  have hK : K = g.c.K := T.hK.symm
  exact (ss_one (s_while (passes_of rfl) (t_val e_bl)
  (ss_one s_pass)))
theorem ok_is_whole (T : Tx K mg c) {fa : Addr} {fd : FuncData} (A : At K mg "is_whole" s_is_whole ["thing"] fa fd) :
    FnOk P w K mg base (L2.CX P w) 1 fa fd ["thing"] (spM c 1 [] F_is_whole) := by
  refine fn_okD (N := N_is_whole) (m := m_is_whole) A.F sc_is_whole rfl (by decide) (by decide) (by decide) fun g cdv Ar outer s H E hr hc0 hN hio => ?_
  have hc : g.c = c := hc0
  subst hc0
  have hK : K = g.c.K := T.hK.symm
  exact (ss_one (s_ret (e_and (e_isi (y := .int) (by decide +kernel) hK (by rfl) T.f_isinstance (by rfl) T.f_int (o_var (pv 0)) (by decide) (by decide)) (pe_one (e_not (e_isi (y := .bool) (by decide +kernel) hK (by rfl) T.f_isinstance (by rfl) T.f_bool (o_var (pv 0)) (by decide) (by decide)))))))
theorem ok_is_between (T : Tx K mg c) {fa : Addr} {fd : FuncData} (A : At K mg "is_between" s_is_between ["thing", "least", "most"] fa fd)
    {a_is_whole : Addr} {fd_is_whole : FuncData} (A_is_whole : At K mg "is_whole" s_is_whole ["thing"] a_is_whole fd_is_whole) (G_is_whole : FnOk P w K mg base (L2.CX P w) 1 a_is_whole fd_is_whole ["thing"] (spM c 1 [] F_is_whole)) :
    FnOk P w K mg base (L2.CX P w) 2 fa fd ["thing", "least", "most"] (spM c 3 [] F_is_between) := by
  refine fn_okD (N := N_is_between) (m := m_is_between) A.F sc_is_between rfl (by decide) (by decide) (by decide) fun g cdv Ar outer s H E hr hc0 hN hio => ?_
  have hc : g.c = c := hc0
  subst hc0
  have hK : K = g.c.K := T.hK.symm
  exact (ss_one (s_ret (e_and (e_call G_is_whole (hr.mono (by decide)) (by rfl) A_is_whole.g A_is_whole.F.kp A_is_whole.b (takes_of rfl rfl rfl rfl) (as_p (pv 0) as_nil) hc rfl rfl (by decide)) (pe_one (e_chain op_le op_le hr_int hr_int (e_move (pv 1)) (e_var (pv 0)) (e_move (pv 2)))))))
theorem ok_is_line (T : Tx K mg c) {fa : Addr} {fd : FuncData} (A : At K mg "is_line" s_is_line ["thing"] fa fd) :
    FnOk P w K mg base (L2.CX P w) 1 fa fd ["thing"] (spM c 1 [] F_is_line) := by
  refine fn_okD (N := N_is_line) (m := m_is_line) A.F sc_is_line rfl (by decide) (by decide) (by decide) fun g cdv Ar outer s H E hr hc0 hN hio => ?_
  have hc : g.c = c := hc0
  subst hc0
  have hK : K = g.c.K := T.hK.symm
  exact (ss_one (s_ret (e_and (e_isi (y := .str) (by decide +kernel) hK (by rfl) T.f_isinstance (by rfl) T.f_str (o_var (pv 0)) (by decide) (by decide)) (pe_one (e_cmp (OpR.or op_notin_str op_notIn_seq) (hq_notin hK) (o_e (e_str (by decide +kernel) ⟨by decide, by decide⟩)) (o_var (pv 0)) (by rfl))))))
theorem ok_is_of (T : Tx K mg c) {fa : Addr} {fd : FuncData} (A : At K mg "is_of" s_is_of ["text", "signs"] fa fd) :
    FnOk P w K mg base (L2.CX P w) 1 fa fd ["text", "signs"] (spM c 2 [] F_is_of) := by
  refine fn_okD (N := N_is_of) (m := m_is_of) A.F sc_is_of rfl (by decide) (by decide) (by decide) fun g cdv Ar outer s H E hr hc0 hN hio => ?_
  have hc : g.c = c := hc0
  subst hc0
  have hK : K = g.c.K := T.hK.symm
  exact (ss_one (s_ret (e_b1 (cr_all rfl) (hr_all hK) (by rfl) T.f_all (by decide +kernel) (o_e (e_lc (own := [("sign", 2)]) rfl sc_is_of.nd (i_str (e_var (pv 0))) (blkOk_by (own := [("sign", 2)]) (N := N_is_of) (sc := defScope s_is_of) (by decide +kernel)) (fun _ _ _ _ _ => pg_name (i := 2) sc_is_of.nd rfl (by first | exact .inl rfl | exact .inr rfl)) (fun _ _ _ _ _ => ts_nil) (fun _ _ _ _ _ => (e_cmp (OpR.or op_in_str op_in_seq) (hq_in hK) (o_var (pv 2)) (o_var (pv 1)) (by rfl))) (by decide) (comp_io hio (by decide)) (hg_name (by rw [hN]; decide) (not_io hio (by decide))))))))
theorem ok_is_word (T : Tx K mg c) {fa : Addr} {fd : FuncData} (A : At K mg "is_word" s_is_word ["thing", "words"] fa fd) :
    FnOk P w K mg base (L2.CX P w) 1 fa fd ["thing", "words"] (spM c 2 [] F_is_word) := by
  refine fn_okD (N := N_is_word) (m := m_is_word) A.F sc_is_word rfl (by decide) (by decide) (by decide) fun g cdv Ar outer s H E hr hc0 hN hio => ?_
  have hc : g.c = c := hc0
  subst hc0
  have hK : K = g.c.K := T.hK.symm
  exact (ss_one (s_ret (e_and (e_isi (y := .str) (by decide +kernel) hK (by rfl) T.f_isinstance (by rfl) T.f_str (o_var (pv 0)) (by decide) (by decide)) (pe_one (e_cmp (OpR.or op_in_str op_in_seq) (hq_in hK) (o_var (pv 0)) (o_var (pv 1)) (by rfl))))))
theorem ok_is_name (T : Tx K mg c) {fa : Addr} {fd : FuncData} (A : At K mg "is_name" s_is_name ["thing"] fa fd)
    {a_is_of : Addr} {fd_is_of : FuncData} (A_is_of : At K mg "is_of" s_is_of ["text", "signs"] a_is_of fd_is_of) (G_is_of : FnOk P w K mg base (L2.CX P w) 1 a_is_of fd_is_of ["text", "signs"] (spM c 2 [] F_is_of)) :
    FnOk P w K mg base (L2.CX P w) 2 fa fd ["thing"] (spM c 1 [] F_is_name) := by
  refine fn_okD (N := N_is_name) (m := m_is_name) A.F sc_is_name rfl (by decide) (by decide) (by decide) fun g cdv Ar outer s H E hr hc0 hN hio => ?_
  have hc : g.c = c := hc0
  subst hc0
  have hK : K = g.c.K := T.hK.symm
  exact (ss_cons (s_if (PW.pt (w_or (t_not (t_val (e_isi (y := .str) (by decide +kernel) hK (by rfl) T.f_isinstance (by rfl) T.f_str (o_var (pv 0)) (by decide) (by decide)))) (pw_or1 (t_not (t_chain op_le op_le hr_int hr_int e_int (e_b1 call_len (hr_len hK) (by rfl) T.f_len (by decide +kernel) (o_var (pv 0))) (e_gI2 rfl T.c_MOST_OF_NAME))))))
  (ss_one (s_ret e_bl))
  ss_nil)
  (ss_one (s_ret (e_and (e_cmp (OpR.or op_in_str op_in_seq) (hq_in hK) (o_e (e_idx (o_var (pv 0)) e_int hK)) (o_e (e_gS2 rfl g_LETTERS T.c_LETTERS)) (by rfl)) (pe_one (e_call G_is_of (hr.mono (by decide)) (by rfl) A_is_of.g A_is_of.F.kp A_is_of.b (takes_of rfl rfl rfl rfl) (as_p (pv 0) (as_e (e_gS2 rfl g_NAME_SIGNS T.c_NAME_SIGNS) as_nil)) hc rfl rfl (by decide)))))))
theorem ok_is_value (T : Tx K mg c) {fa : Addr} {fd : FuncData} (A : At K mg "is_value" s_is_value ["thing"] fa fd)
    {a_is_line : Addr} {fd_is_line : FuncData} (A_is_line : At K mg "is_line" s_is_line ["thing"] a_is_line fd_is_line) (G_is_line : FnOk P w K mg base (L2.CX P w) 1 a_is_line fd_is_line ["thing"] (spM c 1 [] F_is_line)) :
    FnOk P w K mg base (L2.CX P w) 2 fa fd ["thing"] (spM c 1 [] F_is_value) := by
  refine fn_okD (N := N_is_value) (m := m_is_value) A.F sc_is_value rfl (by decide) (by decide) (by decide) fun g cdv Ar outer s H E hr hc0 hN hio => ?_
  have hc : g.c = c := hc0
  subst hc0
  have hK : K = g.c.K := T.hK.symm
  exact (ss_one (s_ret (e_and (e_call G_is_line (hr.mono (by decide)) (by rfl) A_is_line.g A_is_line.F.kp A_is_line.b (takes_of rfl rfl rfl rfl) (as_p (pv 0) as_nil) hc rfl rfl (by decide)) (pe_one (e_cmp (op_eqD hr.units) (hq_eq hK) (o_var (pv 0)) (o_e (e_m PySem.F.slot_str_strip PySem.F.type_str_strip mt_stripChars hs_strip (o_var (pv 0)) (o_e (e_str (by decide +kernel) ⟨by decide, by decide⟩)))) (nomark _))))))
theorem ok_is_head (T : Tx K mg c) {fa : Addr} {fd : FuncData} (A : At K mg "is_head" s_is_head ["thing"] fa fd)
    {a_is_name : Addr} {fd_is_name : FuncData} (A_is_name : At K mg "is_name" s_is_name ["thing"] a_is_name fd_is_name) (G_is_name : FnOk P w K mg base (L2.CX P w) 2 a_is_name fd_is_name ["thing"] (spM c 1 [] F_is_name))
    {a_is_value : Addr} {fd_is_value : FuncData} (A_is_value : At K mg "is_value" s_is_value ["thing"] a_is_value fd_is_value) (G_is_value : FnOk P w K mg base (L2.CX P w) 2 a_is_value fd_is_value ["thing"] (spM c 1 [] F_is_value)) :
    FnOk P w K mg base (L2.CX P w) 3 fa fd ["thing"] (spM c 1 [] F_is_head) := by
  refine fn_okD (N := N_is_head) (m := m_is_head) A.F sc_is_head rfl (by decide) (by decide) (by decide) fun g cdv Ar outer s H E hr hc0 hN hio => ?_
  have hc : g.c = c := hc0
  subst hc0
  have hK : K = g.c.K := T.hK.symm
  exact (ss_one (s_ret (e_and (e_isi (y := .tuple) (by decide +kernel) hK (by rfl) T.f_isinstance (by rfl) T.f_tuple (o_var (pv 0)) (by decide) (by decide)) (e_and (e_cmp (op_eqD hr.units) (hq_eq hK) (o_e (e_b1 call_len (hr_len hK) (by rfl) T.f_len (by decide +kernel) (o_var (pv 0)))) (o_e e_int) (nomark _)) (e_and (e_call G_is_name (hr.mono (by decide)) (by rfl) A_is_name.g A_is_name.F.kp A_is_name.b (takes_of rfl rfl rfl rfl) (as_e (e_idx (o_var (pv 0)) e_int hK) as_nil) hc rfl rfl (by decide)) (pe_one (e_call G_is_value (hr.mono (by decide)) (by rfl) A_is_value.g A_is_value.F.kp A_is_value.b (takes_of rfl rfl rfl rfl) (as_e (e_idx (o_var (pv 0)) e_int hK) as_nil) hc rfl rfl (by decide))))))))
theorem ok_is_octets (T : Tx K mg c) {fa : Addr} {fd : FuncData} (A : At K mg "is_octets" s_is_octets ["thing"] fa fd)
    {a_is_between : Addr} {fd_is_between : FuncData} (A_is_between : At K mg "is_between" s_is_between ["thing", "least", "most"] a_is_between fd_is_between) (G_is_between : FnOk P w K mg base (L2.CX P w) 2 a_is_between fd_is_between ["thing", "least", "most"] (spM c 3 [] F_is_between)) :
    FnOk P w K mg base (L2.CX P w) 3 fa fd ["thing"] (spM c 1 [] F_is_octets) := by
  refine fn_okD (N := N_is_octets) (m := m_is_octets) A.F sc_is_octets rfl (by decide) (by decide) (by decide) fun g cdv Ar outer s H E hr hc0 hN hio => ?_
  have hc : g.c = c := hc0
  subst hc0
  have hK : K = g.c.K := T.hK.symm
  exact (ss_one (s_ret (e_and (e_isi (y := .list) (by decide +kernel) hK (by rfl) T.f_isinstance (by rfl) T.f_list (o_var (pv 0)) (by decide) (by decide)) (pe_one (e_b1 (cr_all rfl) (hr_all hK) (by rfl) T.f_all (by decide +kernel) (o_e (e_lc (own := [("one", 1)]) rfl sc_is_octets.nd (i_list hK (e_var (pv 0))) (blkOk_by (own := [("one", 1)]) (N := N_is_octets) (sc := defScope s_is_octets) (by decide +kernel)) (fun _ _ _ _ _ => pg_name (i := 1) sc_is_octets.nd rfl (by first | exact .inl rfl | exact .inr rfl)) (fun _ _ _ _ _ => ts_nil) (fun _ _ _ _ _ => (e_call G_is_between (hr.mono (by decide)) (by rfl) A_is_between.g A_is_between.F.kp A_is_between.b takes0 (as_p (pv 1) (as_e e_int (as_e e_int as_nil))) hc rfl rfl (by decide))) (by decide) (comp_io hio (by decide)) (hg_name (by rw [hN]; decide) (not_io hio (by decide))))))))))
theorem ok_is_atom (T : Tx K mg c) {fa : Addr} {fd : FuncData} (A : At K mg "is_atom" s_is_atom ["text"] fa fd)
    {a_is_of : Addr} {fd_is_of : FuncData} (A_is_of : At K mg "is_of" s_is_of ["text", "signs"] a_is_of fd_is_of) (G_is_of : FnOk P w K mg base (L2.CX P w) 1 a_is_of fd_is_of ["text", "signs"] (spM c 2 [] F_is_of)) :
    FnOk P w K mg base (L2.CX P w) 2 fa fd ["text"] (spM c 1 [] F_is_atom) := by
  refine fn_okD (N := N_is_atom) (m := m_is_atom) A.F sc_is_atom rfl (by decide) (by decide) (by decide) fun g cdv Ar outer s H E hr hc0 hN hio => ?_
  have hc : g.c = c := hc0
  subst hc0
  have hK : K = g.c.K := T.hK.symm
  exact (ss_one (s_ret (e_and (e_cmp (op_neD hr.units) (hq_ne hK) (o_var (pv 0)) (o_e (e_str (by decide +kernel) ⟨by decide, by decide⟩)) (nomark _)) (pe_one (e_call G_is_of (hr.mono (by decide)) (by rfl) A_is_of.g A_is_of.F.kp A_is_of.b (takes_of rfl rfl rfl rfl) (as_p (pv 0) (as_e (e_gS2 rfl g_ATOM_SIGNS T.c_ATOM_SIGNS) as_nil)) hc rfl rfl (by decide))))))
theorem ok_quoted_in (T : Tx K mg c) {fa : Addr} {fd : FuncData} (A : At K mg "quoted_in" s_quoted_in ["text"] fa fd)
    {a_is_atom : Addr} {fd_is_atom : FuncData} (A_is_atom : At K mg "is_atom" s_is_atom ["text"] a_is_atom fd_is_atom) (G_is_atom : FnOk P w K mg base (L2.CX P w) 2 a_is_atom fd_is_atom ["text"] (spM c 1 [] F_is_atom)) :
    FnOk P w K mg base (L2.CX P w) 3 fa fd ["text"] (spM c 1 [] F_quoted_in) := by
  refine fn_okD (N := N_quoted_in) (m := m_quoted_in) A.F sc_quoted_in rfl (by decide) (by decide) (by decide) fun g cdv Ar outer s H E hr hc0 hN hio => ?_
  have hc : g.c = c := hc0
  subst hc0
  have hK : K = g.c.K := T.hK.symm
  exact (ss_cons (s_if (t_val (e_call G_is_atom (hr.mono (by decide)) (by rfl) A_is_atom.g A_is_atom.F.kp A_is_atom.b (takes_of rfl rfl rfl rfl) (as_p (pv 0) as_nil) hc rfl rfl (by decide)))
  (ss_one (s_ret (e_move (pv 0))))
  ss_nil)
  (ss_one (s_ret (e_add (e_addT (by rfl) ⟨by decide +kernel, by decide +kernel⟩ (e_repl2 (y := [34]) (z := [92, 34]) (by rfl) (by rfl) (by decide) (e_repl1 (y := [92]) (z := [92, 92]) (by rfl) (by rfl) (by decide) (e_move (pv 0))))) (e_str (by decide +kernel) ⟨by decide, by decide⟩)))))
theorem ok_is_title (T : Tx K mg c) {fa : Addr} {fd : FuncData} (A : At K mg "is_title" s_is_title ["thing", "signs"] fa fd)
    {a_is_of : Addr} {fd_is_of : FuncData} (A_is_of : At K mg "is_of" s_is_of ["text", "signs"] a_is_of fd_is_of) (G_is_of : FnOk P w K mg base (L2.CX P w) 1 a_is_of fd_is_of ["text", "signs"] (spM c 2 [] F_is_of)) :
    FnOk P w K mg base (L2.CX P w) 2 fa fd ["thing", "signs"] (spM c 2 [] F_is_title) := by
  refine fn_okD (N := N_is_title) (m := m_is_title) A.F sc_is_title rfl (by decide) (by decide) (by decide) fun g cdv Ar outer s H E hr hc0 hN hio => ?_
  have hc : g.c = c := hc0
  subst hc0
  have hK : K = g.c.K := T.hK.symm
  exact (ss_cons (s_if (PW.pt (w_or (t_not (t_val (e_isi (y := .str) (by decide +kernel) hK (by rfl) T.f_isinstance (by rfl) T.f_str (o_var (pv 0)) (by decide) (by decide)))) (pw_or1 (t_not (t_chain op_le op_le hr_int hr_int e_int (e_b1 call_len (hr_len hK) (by rfl) T.f_len (by decide +kernel) (o_var (pv 0))) (e_gI2 rfl T.c_MOST_OF_TITLE))))))
  (ss_one (s_ret e_bl))
  ss_nil)
  (ss_one (s_ret (e_and (e_cmp (OpR.or op_in_str op_in_seq) (hq_in hK) (o_e (e_idx (o_var (pv 0)) e_int hK)) (o_e (e_gS2 rfl g_SMALL T.c_SMALL)) (by rfl)) (pe_one (e_call G_is_of (hr.mono (by decide)) (by rfl) A_is_of.g A_is_of.F.kp A_is_of.b (takes_of rfl rfl rfl rfl) (as_p (pv 0) (as_e (e_move (pv 1)) as_nil)) hc rfl rfl (by decide)))))))
theorem ok_is_pair (T : Tx K mg c) {fa : Addr} {fd : FuncData} (A : At K mg "is_pair" s_is_pair ["thing"] fa fd)
    {a_is_title : Addr} {fd_is_title : FuncData} (A_is_title : At K mg "is_title" s_is_title ["thing", "signs"] a_is_title fd_is_title) (G_is_title : FnOk P w K mg base (L2.CX P w) 2 a_is_title fd_is_title ["thing", "signs"] (spM c 2 [] F_is_title))
    {a_is_line : Addr} {fd_is_line : FuncData} (A_is_line : At K mg "is_line" s_is_line ["thing"] a_is_line fd_is_line) (G_is_line : FnOk P w K mg base (L2.CX P w) 1 a_is_line fd_is_line ["thing"] (spM c 1 [] F_is_line)) :
    FnOk P w K mg base (L2.CX P w) 3 fa fd ["thing"] (spM c 1 [] F_is_pair) := by
  refine fn_okD (N := N_is_pair) (m := m_is_pair) A.F sc_is_pair rfl (by decide) (by decide) (by decide) fun g cdv Ar outer s H E hr hc0 hN hio => ?_
  have hc : g.c = c := hc0
  subst hc0
  have hK : K = g.c.K := T.hK.symm
  exact (ss_one (s_ret (e_and (e_isi (y := .tuple) (by decide +kernel) hK (by rfl) T.f_isinstance (by rfl) T.f_tuple (o_var (pv 0)) (by decide) (by decide)) (e_and (e_cmp (op_eqD hr.units) (hq_eq hK) (o_e (e_b1 call_len (hr_len hK) (by rfl) T.f_len (by decide +kernel) (o_var (pv 0)))) (o_e e_int) (nomark _)) (e_and (e_call G_is_title (hr.mono (by decide)) (by rfl) A_is_title.g A_is_title.F.kp A_is_title.b (takes_of rfl rfl rfl rfl) (as_e (e_idx (o_var (pv 0)) e_int hK) (as_e (e_gS2 rfl g_KEY_SIGNS T.c_KEY_SIGNS) as_nil)) hc rfl rfl (by decide)) (pe_one (e_call G_is_line (hr.mono (by decide)) (by rfl) A_is_line.g A_is_line.F.kp A_is_line.b (takes_of rfl rfl rfl rfl) (as_e (e_idx (o_var (pv 0)) e_int hK) as_nil) hc rfl rfl (by decide))))))))
theorem ok_is_kind (T : Tx K mg c) {fa : Addr} {fd : FuncData} (A : At K mg "is_kind" s_is_kind ["thing"] fa fd)
    {a_is_title : Addr} {fd_is_title : FuncData} (A_is_title : At K mg "is_title" s_is_title ["thing", "signs"] a_is_title fd_is_title) (G_is_title : FnOk P w K mg base (L2.CX P w) 2 a_is_title fd_is_title ["thing", "signs"] (spM c 2 [] F_is_title))
    {a_is_pair : Addr} {fd_is_pair : FuncData} (A_is_pair : At K mg "is_pair" s_is_pair ["thing"] a_is_pair fd_is_pair) (G_is_pair : FnOk P w K mg base (L2.CX P w) 3 a_is_pair fd_is_pair ["thing"] (spM c 1 [] F_is_pair)) :
    FnOk P w K mg base (L2.CX P w) 4 fa fd ["thing"] (spM c 1 [] F_is_kind) := by
  refine fn_okD (N := N_is_kind) (m := m_is_kind) A.F sc_is_kind rfl (by decide) (by decide) (by decide) fun g cdv Ar outer s H E hr hc0 hN hio => ?_
  have hc : g.c = c := hc0
  subst hc0
  have hK : K = g.c.K := T.hK.symm
  exact (ss_cons (s_if (PW.pt (w_or (t_not (t_val (e_isi (y := .tuple) (by decide +kernel) hK (by rfl) T.f_isinstance (by rfl) T.f_tuple (o_var (pv 0)) (by decide) (by decide)))) (w_or (t_cmp (op_neD hr.units) (hq_ne hK) (o_e (e_b1 call_len (hr_len hK) (by rfl) T.f_len (by decide +kernel) (o_var (pv 0)))) (o_e e_int) (nomark _)) (pw_or1 (t_not (t_val (e_isiK (y := .list) (by decide +kernel) hK (by rfl) T.f_isinstance (by rfl) T.f_list (o_e (e_idx (o_var (pv 0)) e_int hK)) (by decide) (by decide))))))))
  (ss_one (s_ret e_bl))
  ss_nil)
  (ss_cons (s_if (PW.pt (w_or (t_not (t_val (e_call G_is_title (hr.mono (by decide)) (by rfl) A_is_title.g A_is_title.F.kp A_is_title.b (takes_of rfl rfl rfl rfl) (as_e (e_idx (o_var (pv 0)) e_int hK) (as_e (e_add (e_gS2 rfl g_KEY_SIGNS T.c_KEY_SIGNS) (e_str (by decide +kernel) ⟨by decide, by decide⟩)) as_nil)) hc rfl rfl (by decide)))) (pw_or1 (t_not (t_val (e_call G_is_title (hr.mono (by decide)) (by rfl) A_is_title.g A_is_title.F.kp A_is_title.b (takes_of rfl rfl rfl rfl) (as_e (e_idx (o_var (pv 0)) e_int hK) (as_e (e_add (e_gS2 rfl g_KEY_SIGNS T.c_KEY_SIGNS) (e_str (by decide +kernel) ⟨by decide, by decide⟩)) as_nil)) hc rfl rfl (by decide)))))))
  (ss_one (s_ret e_bl))
  ss_nil)
  (ss_cons (s_if (t_not (t_val (e_b1 (cr_all rfl) (hr_all hK) (by rfl) T.f_all (by decide +kernel) (o_e (e_lc (own := [("pair", 1)]) rfl sc_is_kind.nd (i_list hK (e_idx (o_var (pv 0)) e_int hK)) (blkOk_by (own := [("pair", 1)]) (N := N_is_kind) (sc := defScope s_is_kind) (by decide +kernel)) (fun _ _ _ _ _ => pg_name (i := 1) sc_is_kind.nd rfl (by first | exact .inl rfl | exact .inr rfl)) (fun _ _ _ _ _ => ts_nil) (fun _ _ _ _ _ => (e_call G_is_pair (hr.mono (by decide)) (by rfl) A_is_pair.g A_is_pair.F.kp A_is_pair.b takes0 (as_p (pv 1) as_nil) hc rfl rfl (by decide))) (by decide) (comp_io hio (by decide)) (hg_name (by rw [hN]; decide) (not_io hio (by decide))))))))
  (ss_one (s_ret e_bl))
  ss_nil)
  (ss_one (s_ret (e_cmp (op_eqD hr.units) (hq_eq hK) (o_e (e_dist hK rfl (by rfl) T.f_len (by rfl) T.f_set (e_lc (own := [("pair", 1)]) rfl sc_is_kind.nd (i_list hK (e_idx (o_var (pv 0)) e_int hK)) (blkOk_by (own := [("pair", 1)]) (N := N_is_kind) (sc := defScope s_is_kind) (by decide +kernel)) (fun _ _ _ _ _ => pg_name (i := 1) sc_is_kind.nd rfl (by first | exact .inl rfl | exact .inr rfl)) (fun _ _ _ _ _ => ts_nil) (fun _ _ _ _ _ => (e_idx (o_var (pv 1)) e_int hK)) (by decide) (comp_io hio (by decide)) (hg_name (by rw [hN]; decide) (not_io hio (by decide)))))) (o_e (e_b1 call_len (hr_len hK) (by rfl) T.f_len (by decide +kernel) (o_e (e_idx (o_var (pv 0)) e_int hK)))) (nomark _)))))))
theorem ok_show_pair (T : Tx K mg c) {fa : Addr} {fd : FuncData} (A : At K mg "show_pair" s_show_pair ["name", "value"] fa fd)
    {a_quoted_in : Addr} {fd_quoted_in : FuncData} (A_quoted_in : At K mg "quoted_in" s_quoted_in ["text"] a_quoted_in fd_quoted_in) (G_quoted_in : FnOk P w K mg base (L2.CX P w) 3 a_quoted_in fd_quoted_in ["text"] (spM c 1 [] F_quoted_in)) :
    FnOk P w K mg base (L2.CX P w) 4 fa fd ["name", "value"] (spM c 2 [] F_show_pair) := by
  refine fn_okD (N := N_show_pair) (m := m_show_pair) A.F sc_show_pair rfl (by decide) (by decide) (by decide) fun g cdv Ar outer s H E hr hc0 hN hio => ?_
  have hc : g.c = c := hc0
  subst hc0
  have hK : K = g.c.K := T.hK.symm
  exact (ss_cons (s_if (t_cmp op_le hr_int (o_e (e_b1 call_len (hr_len hK) (by rfl) T.f_len (by decide +kernel) (o_var (pv 1)))) (o_e (e_gI2 rfl T.c_PIECE)) (nomark _))
  (ss_one (s_ret (e_add (e_add (e_add (e_str (by decide +kernel) ⟨by decide, by decide⟩) (e_move (pv 0))) (e_str (by decide +kernel) ⟨by decide, by decide⟩)) (e_call G_quoted_in (hr.mono (by decide)) (by rfl) A_quoted_in.g A_quoted_in.F.kp A_quoted_in.b (takes_of rfl rfl rfl rfl) (as_e (e_move (pv 1)) as_nil) hc rfl rfl (by decide)))))
  ss_nil)
  (ss_cons (s_set (ps_set (i := 2) sc_show_pair.nd rfl (by first | exact .inl rfl | exact .inr rfl) (e_str (by decide +kernel) ⟨by decide, by decide⟩)) (by rw [hN]; decide) (not_io hio (by decide)))
  (ss_cons (s_for (passes_of rfl) rfl (i_enumR (by rfl) T.f_enumerate (by rfl) T.f_range (a_cons e_int (a_cons (e_b1 call_len (hr_len hK) (by rfl) T.f_len (by decide +kernel) (o_var (pv 1))) (a_cons (e_gI2 rfl T.c_PIECE) a_nil)))) (g_tupT rfl (gs_cons (g_name (pg_name (i := 3) sc_show_pair.nd rfl (by first | exact .inl rfl | exact .inr rfl)) (by rw [hN]; decide) (not_io hio (by decide))) (gs_cons (g_name (pg_name (i := 4) sc_show_pair.nd rfl (by first | exact .inl rfl | exact .inr rfl)) (by rw [hN]; decide) (not_io hio (by decide))) gs_nil)) hK)
  (ss_one (s_augA (ps_aug (i := 2) sc_show_pair.nd rfl (by first | exact .inl rfl | exact .inr rfl) (e_add (e_add (e_add (e_add (e_add (e_str (by decide +kernel) ⟨by decide, by decide⟩) (e_var (pv 0))) (e_str (by decide +kernel) ⟨by decide, by decide⟩)) (e_t1 call_strA hr_strA (by rfl) T.f_str (by decide +kernel) (o_var (pv 3)))) (e_str (by decide +kernel) ⟨by decide, by decide⟩)) (e_call G_quoted_in (hr.mono (by decide)) (by rfl) A_quoted_in.g A_quoted_in.F.kp A_quoted_in.b (takes_of rfl rfl rfl rfl) (as_e (e_slc (o_var (pv 1)) (p_some (e_var (pv 4))) (p_some (e_add (e_var (pv 4)) (e_gI2 rfl T.c_PIECE))) hK.symm.symm) as_nil) hc rfl rfl (by decide))) ip_addA) (by rw [hN]; decide) (not_io hio (by decide)))))
  (ss_one (s_ret (e_move (pv 2)))))))
theorem ok_show_kind (T : Tx K mg c) {fa : Addr} {fd : FuncData} (A : At K mg "show_kind" s_show_kind ["kind"] fa fd)
    {fI_NoKind : Addr} {fdI_NoKind : FuncData} (I_NoKind : XIni P w K mg base c "NoKind" "at" fI_NoKind fdI_NoKind)
    {a_is_kind : Addr} {fd_is_kind : FuncData} (A_is_kind : At K mg "is_kind" s_is_kind ["thing"] a_is_kind fd_is_kind) (G_is_kind : FnOk P w K mg base (L2.CX P w) 4 a_is_kind fd_is_kind ["thing"] (spM c 1 [] F_is_kind))
    {a_show_pair : Addr} {fd_show_pair : FuncData} (A_show_pair : At K mg "show_pair" s_show_pair ["name", "value"] a_show_pair fd_show_pair) (G_show_pair : FnOk P w K mg base (L2.CX P w) 4 a_show_pair fd_show_pair ["name", "value"] (spM c 2 [] F_show_pair)) :
    FnOk P w K mg base (L2.CX P w) 5 fa fd ["kind"] (spM c 1 [] F_show_kind) := by
  refine fn_okD (N := N_show_kind) (m := m_show_kind) A.F sc_show_kind rfl (by decide) (by decide) (by decide) fun g cdv Ar outer s H E hr hc0 hN hio => ?_
  have hc : g.c = c := hc0
  subst hc0
  have hK : K = g.c.K := T.hK.symm
  exact (ss_cons (s_if (t_not (t_val (e_call G_is_kind (hr.mono (by decide)) (by rfl) A_is_kind.g A_is_kind.F.kp A_is_kind.b (takes_of rfl rfl rfl rfl) (as_p (pv 0) as_nil) hc rfl rfl (by decide))))
  (ss_one (s_raise1 rfl (takes_of rfl rfl rfl rfl) I_NoKind hr (by decide) (by rfl) (by rfl) (a_cons (e_str (by decide +kernel) ⟨by decide, by decide⟩) a_nil)))
  ss_nil)
  (ss_cons (s_asg (e_var (pv 0)) (g_tupT rfl (gs_cons (g_name (pg_name (i := 1) sc_show_kind.nd rfl (by first | exact .inl rfl | exact .inr rfl)) (by rw [hN]; decide) (not_io hio (by decide))) (gs_cons (g_name (pg_name (i := 2) sc_show_kind.nd rfl (by first | exact .inl rfl | exact .inr rfl)) (by rw [hN]; decide) (not_io hio (by decide))) (gs_cons (g_name (pg_name (i := 3) sc_show_kind.nd rfl (by first | exact .inl rfl | exact .inr rfl)) (by rw [hN]; decide) (not_io hio (by decide))) gs_nil))) hK))
  (ss_one (s_ret (e_add (e_add (e_add (e_move (pv 1)) (e_str (by decide +kernel) ⟨by decide, by decide⟩)) (e_move (pv 2))) (e_m PySem.F.slot_str_join PySem.F.type_str_join mt_join (hs_join hK) (o_e (e_str (by decide +kernel) ⟨by decide, by decide⟩)) (o_e (e_lc (own := [("name", 4), ("value", 5)]) rfl sc_show_kind.nd (i_list hK (e_var (pv 3))) (blkOk_by (own := [("name", 4), ("value", 5)]) (N := N_show_kind) (sc := defScope s_show_kind) (by decide +kernel)) (fun _ _ _ _ _ => pg_tup rfl (pgs_cons (pg_name (i := 4) sc_show_kind.nd rfl (by first | exact .inl rfl | exact .inr rfl)) (pgs_cons (pg_name (i := 5) sc_show_kind.nd rfl (by first | exact .inl rfl | exact .inr rfl)) pgs_nil))) (fun _ _ _ _ _ => ts_nil) (fun _ _ _ _ _ => (e_call G_show_pair (hr.mono (by decide)) (by rfl) A_show_pair.g A_show_pair.F.kp A_show_pair.b takes0 (as_p (pv 4) (as_p (pv 5) as_nil)) hc rfl rfl (by decide))) (by decide) (comp_io hio (by decide)) (hg_pair (by decide) (by rw [hN]; decide) (not_io hio (by decide)) (by rw [hN]; decide) (not_io hio (by decide)) hK)))))))))
theorem ok_show_kind__n (T : Tx K mg c) {fa : Addr} {fd : FuncData} (A : At K mg "show_kind" s_show_kind__n ["kind"] fa fd)
    {fI_NoKind : Addr} {fdI_NoKind : FuncData} (I_NoKind : XIni P w K mg base c "NoKind" "at" fI_NoKind fdI_NoKind)
    {a_is_kind : Addr} {fd_is_kind : FuncData} (A_is_kind : At K mg "is_kind" s_is_kind ["thing"] a_is_kind fd_is_kind) (G_is_kind : FnOk P w K mg base (L2.CX P w) 4 a_is_kind fd_is_kind ["thing"] (spM c 1 [] F_is_kind))
    {a_show_pair : Addr} {fd_show_pair : FuncData} (A_show_pair : At K mg "show_pair" s_show_pair ["name", "value"] a_show_pair fd_show_pair) (G_show_pair : FnOk P w K mg base (L2.CX P w) 4 a_show_pair fd_show_pair ["name", "value"] (spM c 2 [] F_show_pair)) :
    FnOk P w K mg base (L2N.CX P w) 5 fa fd ["kind"] (spM c 1 [] F_show_kind__n) := by
  refine fn_okN (N := N_show_kind__n) (m := m_show_kind__n) A.F sc_show_kind__n rfl (by decide) (by decide) (by decide) fun g cdv Ar outer s H E hr hc0 hN hio => ?_
  have hc : g.c = c := hc0
  subst hc0
  have hK : K = g.c.K := T.hK.symm
  exact (ss_cons (s_if (t_quiet (t_not (t_val (e_call G_is_kind (hr.mono (by decide)) (by rfl) A_is_kind.g A_is_kind.F.kp A_is_kind.b takes0 (as_p (pv 0) as_nil) hc rfl rfl (by decide)))))
  (ss_one (s_raise1N rfl (L2N.takes_of rfl rfl rfl rfl) I_NoKind hr (by decide) (by rfl) (by rfl) (a_cons (e_str (by decide +kernel) ⟨by decide, by decide⟩) a_nil)))
  ss_nil)
  (ss_cons (s_quiet (s_asg (e_var (pv 0)) (g_tupT rfl (gs_cons (g_name (pg_name (i := 1) sc_show_kind__n.nd rfl (by first | exact .inl rfl | exact .inr rfl)) (by rw [hN]; decide) (not_io hio (by decide))) (gs_cons (g_name (pg_name (i := 2) sc_show_kind__n.nd rfl (by first | exact .inl rfl | exact .inr rfl)) (by rw [hN]; decide) (not_io hio (by decide))) (gs_cons (g_name (pg_name (i := 3) sc_show_kind__n.nd rfl (by first | exact .inl rfl | exact .inr rfl)) (by rw [hN]; decide) (not_io hio (by decide))) gs_nil))) hK)))
  (ss_one (s_quiet (s_ret (e_add (e_add (e_add (e_move (pv 1)) (e_str (by decide +kernel) ⟨by decide, by decide⟩)) (e_move (pv 2))) (e_m PySem.F.slot_str_join PySem.F.type_str_join mt_join (hs_join hK) (o_e (e_str (by decide +kernel) ⟨by decide, by decide⟩)) (o_e (e_lc (own := [("name", 4), ("value", 5)]) rfl sc_show_kind__n.nd (i_list hK (e_var (pv 3))) (blkOk_by (own := [("name", 4), ("value", 5)]) (N := N_show_kind__n) (sc := defScope s_show_kind__n) (by decide +kernel)) (fun _ _ _ _ _ => pg_tup rfl (pgs_cons (pg_name (i := 4) sc_show_kind__n.nd rfl (by first | exact .inl rfl | exact .inr rfl)) (pgs_cons (pg_name (i := 5) sc_show_kind__n.nd rfl (by first | exact .inl rfl | exact .inr rfl)) pgs_nil))) (fun _ _ _ _ _ => ts_nil) (fun _ _ _ _ _ => (e_call G_show_pair (hr.mono (by decide)) (by rfl) A_show_pair.g A_show_pair.F.kp A_show_pair.b takes0 (as_p (pv 4) (as_p (pv 5) as_nil)) hc rfl rfl (by decide))) (by decide) (comp_io hio (by decide)) (hg_pair (by decide) (by rw [hN]; decide) (not_io hio (by decide)) (by rw [hN]; decide) (not_io hio (by decide)) hK))))))))))
theorem ok_sign_of (T : Tx K mg c) {fa : Addr} {fd : FuncData} (A : At K mg "sign_of" s_sign_of ["number"] fa fd) :
    FnOk P w K mg base (L2.CX P w) 1 fa fd ["number"] (spM c 1 [] F_sign_of) := by
  refine fn_okD (N := N_sign_of) (m := m_sign_of) A.F sc_sign_of rfl (by decide) (by decide) (by decide) fun g cdv Ar outer s H E hr hc0 hN hio => ?_
  have hc : g.c = c := hc0
  subst hc0
  have hK : K = g.c.K := T.hK.symm
  exact (ss_one (s_ret (e_idx (o_e (e_gS2 rfl g_SIGNS T.c_SIGNS)) (e_sub (e_sub (e_var (pv 0)) e_int) (e_t1 call_intC hr_intC (by rfl) T.f_int (by decide +kernel) (o_e (e_cmp op_gt hr_int (o_var (pv 0)) (o_e e_int) (nomark _))))) hK)))
theorem ok_is_sign (T : Tx K mg c) {fa : Addr} {fd : FuncData} (A : At K mg "is_sign" s_is_sign ["number"] fa fd) :
    FnOk P w K mg base (L2.CX P w) 1 fa fd ["number"] (spM c 1 [] F_is_sign) := by
  refine fn_okD (N := N_is_sign) (m := m_is_sign) A.F sc_is_sign rfl (by decide) (by decide) (by decide) fun g cdv Ar outer s H E hr hc0 hN hio => ?_
  have hc : g.c = c := hc0
  subst hc0
  have hK : K = g.c.K := T.hK.symm
  exact (ss_one (s_ret (e_and (e_chain op_le op_le hr_int hr_int e_int (e_var (pv 0)) e_int) (pe_one (e_cmp (op_neD hr.units) (hq_ne hK) (o_var (pv 0)) (o_e e_int) (nomark _))))))
theorem ok_six_bits (T : Tx K mg c) {fa : Addr} {fd : FuncData} (A : At K mg "six_bits" s_six_bits ["octets"] fa fd) :
    FnOk P w K mg base (L2.CX P w) 1 fa fd ["octets"] (spM c 1 [] F_six_bits) := by
  refine fn_okD (N := N_six_bits) (m := m_six_bits) A.F sc_six_bits rfl (by decide) (by decide) (by decide) fun g cdv Ar outer s H E hr hc0 hN hio => ?_
  have hc : g.c = c := hc0
  subst hc0
  have hK : K = g.c.K := T.hK.symm
  exact (ss_cons (s_set (ps_set (i := 1) sc_six_bits.nd rfl (by first | exact .inl rfl | exact .inr rfl) (e_str (by decide +kernel) ⟨by decide, by decide⟩)) (by rw [hN]; decide) (not_io hio (by decide)))
  (ss_cons (s_for (passes_of rfl) rfl (i_range3 (by rfl) T.f_range (a_cons e_int (a_cons (e_b1 call_len (hr_len hK) (by rfl) T.f_len (by decide +kernel) (o_var (pv 0))) (a_cons e_int a_nil)))) (g_name (pg_name (i := 2) sc_six_bits.nd rfl (by first | exact .inl rfl | exact .inr rfl)) (by rw [hN]; decide) (not_io hio (by decide)))
  (ss_cons (s_set (ps_set (i := 3) sc_six_bits.nd rfl (by first | exact .inl rfl | exact .inr rfl) (e_slc (o_var (pv 0)) (p_some (e_var (pv 2))) (p_some (e_add (e_var (pv 2)) e_int)) hK.symm.symm)) (by rw [hN]; decide) (not_io hio (by decide)))
  (ss_cons (s_asg (e_add (e_var (pv 3)) (e_mul (e_lst (a_cons e_int a_nil)) (e_sub e_int (e_b1 call_len (hr_len hK) (by rfl) T.f_len (by decide +kernel) (o_var (pv 3)))))) (g_tupL rfl (gs_cons (g_name (pg_name (i := 4) sc_six_bits.nd rfl (by first | exact .inl rfl | exact .inr rfl)) (by rw [hN]; decide) (not_io hio (by decide))) (gs_cons (g_name (pg_name (i := 5) sc_six_bits.nd rfl (by first | exact .inl rfl | exact .inr rfl)) (by rw [hN]; decide) (not_io hio (by decide))) (gs_cons (g_name (pg_name (i := 6) sc_six_bits.nd rfl (by first | exact .inl rfl | exact .inr rfl)) (by rw [hN]; decide) (not_io hio (by decide))) gs_nil))) hK))
  (ss_cons (s_set (ps_set (i := 7) sc_six_bits.nd rfl (by first | exact .inl rfl | exact .inr rfl) (e_add (e_add (e_mul e_int (e_var (pv 4))) (e_mul e_int (e_var (pv 5)))) (e_var (pv 6)))) (by rw [hN]; decide) (not_io hio (by decide)))
  (ss_cons (s_set (ps_set (i := 8) sc_six_bits.nd rfl (by first | exact .inl rfl | exact .inr rfl) (e_lst (a_cons (e_fdiv (e_var (pv 7)) e_int) (a_cons (e_mod (e_fdiv (e_var (pv 7)) e_int) e_int) (a_cons (e_mod (e_fdiv (e_var (pv 7)) e_int) e_int) (a_cons (e_mod (e_var (pv 7)) e_int) a_nil)))))) (by rw [hN]; decide) (not_io hio (by decide)))
  (ss_one (s_augA (ps_aug (i := 1) sc_six_bits.nd rfl (by first | exact .inl rfl | exact .inr rfl) (e_add (e_m PySem.F.slot_str_join PySem.F.type_str_join mt_join (hs_join hK) (o_e (e_str (by decide +kernel) ⟨by decide, by decide⟩)) (o_e (e_lc (own := [("part", 9)]) rfl sc_six_bits.nd (i_list hK (e_slc (o_var (pv 8)) p_none (p_some (e_add (e_b1 call_len (hr_len hK) (by rfl) T.f_len (by decide +kernel) (o_var (pv 3))) e_int)) hK.symm.symm)) (blkOk_by (own := [("part", 9)]) (N := N_six_bits) (sc := defScope s_six_bits) (by decide +kernel)) (fun _ _ _ _ _ => pg_name (i := 9) sc_six_bits.nd rfl (by first | exact .inl rfl | exact .inr rfl)) (fun _ _ _ _ _ => ts_nil) (fun _ _ _ _ _ => (e_idx (o_e (e_gS2 rfl g_SIX T.c_SIX)) (e_var (pv 9)) hK)) (by decide) (comp_io hio (by decide)) (hg_name (by rw [hN]; decide) (not_io hio (by decide)))))) (e_mul (e_str (by decide +kernel) ⟨by decide, by decide⟩) (e_sub e_int (e_b1 call_len (hr_len hK) (by rfl) T.f_len (by decide +kernel) (o_var (pv 3)))))) ip_addA) (by rw [hN]; decide) (not_io hio (by decide)))))))))
  (ss_one (s_ret (e_move (pv 1))))))
theorem ok_by_sixes (T : Tx K mg c) {fa : Addr} {fd : FuncData} (A : At K mg "by_sixes" s_by_sixes ["octets"] fa fd)
    {a_six_bits : Addr} {fd_six_bits : FuncData} (A_six_bits : At K mg "six_bits" s_six_bits ["octets"] a_six_bits fd_six_bits) (G_six_bits : FnOk P w K mg base (L2.CX P w) 1 a_six_bits fd_six_bits ["octets"] (spM c 1 [] F_six_bits)) :
    FnOk P w K mg base (L2.CX P w) 2 fa fd ["octets"] (spM c 1 [] F_by_sixes) := by
  refine fn_okD (N := N_by_sixes) (m := m_by_sixes) A.F sc_by_sixes rfl (by decide) (by decide) (by decide) fun g cdv Ar outer s H E hr hc0 hN hio => ?_
  have hc : g.c = c := hc0
  subst hc0
  have hK : K = g.c.K := T.hK.symm
  exact (ss_cons (s_set (ps_set (i := 1) sc_by_sixes.nd rfl (by first | exact .inl rfl | exact .inr rfl) (e_call G_six_bits (hr.mono (by decide)) (by rfl) A_six_bits.g A_six_bits.F.kp A_six_bits.b (takes_of rfl rfl rfl rfl) (as_p (pv 0) as_nil) hc rfl rfl (by decide))) (by rw [hN]; decide) (not_io hio (by decide)))
  (ss_cons (s_setLc (by rw [hN]; decide) (not_io hio (by decide)) (own := [("at", 3)]) rfl sc_by_sixes.nd rfl rfl (sw_true rfl rfl rfl (by decide +kernel)) (i_range3 (by rfl) T.f_range (a_cons e_int (a_cons (e_b1 call_len (hr_len hK) (by rfl) T.f_len (by decide +kernel) (o_var (pv 1))) (a_cons (e_gI2 rfl T.c_MOST_OF_LINE) a_nil)))) (blkOk_by (own := [("at", 3)]) (N := N_by_sixes) (sc := defScope s_by_sixes) (by decide +kernel)) (fun _ _ _ _ _ => pg_name (i := 3) sc_by_sixes.nd rfl (by first | exact .inl rfl | exact .inr rfl)) (fun _ _ _ _ _ => ts_nil) (fun _ _ _ _ _ => (e_slc (o_var (pv 1)) (p_some (e_var (pv 3))) (p_some (e_add (e_var (pv 3)) (e_gI2 rfl T.c_MOST_OF_LINE))) hK.symm.symm)) (by decide) (comp_io hio (by decide)) (hg_name (by rw [hN]; decide) (not_io hio (by decide))))
  (ss_one (s_ret (e_m PySem.F.slot_str_join PySem.F.type_str_join mt_join (hs_join hK) (o_e (e_str (by decide +kernel) ⟨by decide, by decide⟩)) (o_e (e_lc (own := [("row", 4)]) rfl sc_by_sixes.nd (i_list hK (e_var (pv 2))) (blkOk_by (own := [("row", 4)]) (N := N_by_sixes) (sc := defScope s_by_sixes) (by decide +kernel)) (fun _ _ _ _ _ => pg_name (i := 4) sc_by_sixes.nd rfl (by first | exact .inl rfl | exact .inr rfl)) (fun _ _ _ _ _ => ts_nil) (fun _ _ _ _ _ => (e_add (e_var (pv 4)) (e_str (by decide +kernel) ⟨by decide, by decide⟩))) (by decide) (comp_io hio (by decide)) (hg_name (by rw [hN]; decide) (not_io hio (by decide))))))))))
theorem ok_two_figures (T : Tx K mg c) {fa : Addr} {fd : FuncData} (A : At K mg "two_figures" s_two_figures ["octet"] fa fd) :
    FnOk P w K mg base (L2.CX P w) 1 fa fd ["octet"] (spM c 1 [] F_two_figures) := by
  refine fn_okD (N := N_two_figures) (m := m_two_figures) A.F sc_two_figures rfl (by decide) (by decide) (by decide) fun g cdv Ar outer s H E hr hc0 hN hio => ?_
  have hc : g.c = c := hc0
  subst hc0
  have hK : K = g.c.K := T.hK.symm
  exact (ss_one (s_ret (e_add (e_add (e_str (by decide +kernel) ⟨by decide, by decide⟩) (e_idx (o_e (e_gS2 rfl g_SIXTEEN T.c_SIXTEEN)) (e_fdiv (e_var (pv 0)) e_int) hK)) (e_idx (o_e (e_gS2 rfl g_SIXTEEN T.c_SIXTEEN)) (e_mod (e_var (pv 0)) e_int) hK))))
theorem ok_mark_unit (T : Tx K mg c) {fa : Addr} {fd : FuncData} (A : At K mg "mark_unit" s_mark_unit ["octets", "at"] fa fd)
    {a_two_figures : Addr} {fd_two_figures : FuncData} (A_two_figures : At K mg "two_figures" s_two_figures ["octet"] a_two_figures fd_two_figures) (G_two_figures : FnOk P w K mg base (L2.CX P w) 1 a_two_figures fd_two_figures ["octet"] (spM c 1 [] F_two_figures))
    {a_is_sign : Addr} {fd_is_sign : FuncData} (A_is_sign : At K mg "is_sign" s_is_sign ["number"] a_is_sign fd_is_sign) (G_is_sign : FnOk P w K mg base (L2.CX P w) 1 a_is_sign fd_is_sign ["number"] (spM c 1 [] F_is_sign))
    {a_sign_of : Addr} {fd_sign_of : FuncData} (A_sign_of : At K mg "sign_of" s_sign_of ["number"] a_sign_of fd_sign_of) (G_sign_of : FnOk P w K mg base (L2.CX P w) 1 a_sign_of fd_sign_of ["number"] (spM c 1 [] F_sign_of)) :
    FnOk P w K mg base (L2.CX P w) 2 fa fd ["octets", "at"] (spM c 2 [] F_mark_unit) := by
  refine fn_okD (N := N_mark_unit) (m := m_mark_unit) A.F sc_mark_unit rfl (by decide) (by decide) (by decide) fun g cdv Ar outer s H E hr hc0 hN hio => ?_
  have hc : g.c = c := hc0
  subst hc0
  have hK : K = g.c.K := T.hK.symm
  exact (ss_cons (s_set (ps_set (i := 2) sc_mark_unit.nd rfl (by first | exact .inl rfl | exact .inr rfl) (e_idx (o_var (pv 0)) (e_var (pv 1)) hK)) (by rw [hN]; decide) (not_io hio (by decide)))
  (ss_cons (s_if (PW.pt (w_and (t_cmp (op_eqD hr.units) (hq_eq hK) (o_var (pv 2)) (o_e e_int) (nomark _)) (w_and (t_cmp op_lt hr_int (o_e (e_add (e_var (pv 1)) e_int)) (o_e (e_b1 call_len (hr_len hK) (by rfl) T.f_len (by decide +kernel) (o_var (pv 0)))) (nomark _)) (pw_and1 (t_cmp (op_neD hr.units) (hq_ne hK) (o_e (e_idx (o_var (pv 0)) (e_add (e_var (pv 1)) e_int) hK)) (o_e e_int) (nomark _))))))
  (ss_one (s_ret (e_str (by decide +kernel) ⟨by decide, by decide⟩)))
  ss_nil)
  (ss_cons (s_if (PW.pt (w_and (t_cmp (op_neD hr.units) (hq_ne hK) (o_var (pv 2)) (o_e e_int) (nomark _)) (w_and (t_cmp (op_neD hr.units) (hq_ne hK) (o_var (pv 2)) (o_e e_int) (nomark _)) (pw_and1 (t_val (e_call G_is_sign (hr.mono (by decide)) (by rfl) A_is_sign.g A_is_sign.F.kp A_is_sign.b (takes_of rfl rfl rfl rfl) (as_p (pv 2) as_nil) hc rfl rfl (by decide)))))))
  (ss_one (s_ret (e_call G_sign_of (hr.mono (by decide)) (by rfl) A_sign_of.g A_sign_of.F.kp A_sign_of.b (takes_of rfl rfl rfl rfl) (as_e (e_move (pv 2)) as_nil) hc rfl rfl (by decide))))
  ss_nil)
  (ss_one (s_ret (e_call G_two_figures (hr.mono (by decide)) (by rfl) A_two_figures.g A_two_figures.F.kp A_two_figures.b (takes_of rfl rfl rfl rfl) (as_e (e_move (pv 2)) as_nil) hc rfl rfl (by decide)))))))
theorem ok_by_marks (T : Tx K mg c) {fa : Addr} {fd : FuncData} (A : At K mg "by_marks" s_by_marks ["octets"] fa fd)
    {a_mark_unit : Addr} {fd_mark_unit : FuncData} (A_mark_unit : At K mg "mark_unit" s_mark_unit ["octets", "at"] a_mark_unit fd_mark_unit) (G_mark_unit : FnOk P w K mg base (L2.CX P w) 2 a_mark_unit fd_mark_unit ["octets", "at"] (spM c 2 [] F_mark_unit)) :
    FnOk P w K mg base (L2.CX P w) 3 fa fd ["octets"] (spM c 1 [] F_by_marks) := by
  refine fn_okD (N := N_by_marks) (m := m_by_marks) A.F sc_by_marks rfl (by decide) (by decide) (by decide) fun g cdv Ar outer s H E hr hc0 hN hio => ?_
  have hc : g.c = c := hc0
  subst hc0
  have hK : K = g.c.K := T.hK.symm
  exact (ss_cons (s_set (ps_set (i := 1) sc_by_marks.nd rfl (by first | exact .inl rfl | exact .inr rfl) (e_lst a_nil)) (by rw [hN]; decide) (not_io hio (by decide)))
  (ss_cons (s_set (ps_set (i := 2) sc_by_marks.nd rfl (by first | exact .inl rfl | exact .inr rfl) (e_str (by decide +kernel) ⟨by decide, by decide⟩)) (by rw [hN]; decide) (not_io hio (by decide)))
  (ss_cons (s_for (passes_of rfl) rfl (i_enum hK (by rfl) T.f_enumerate (a_cons (e_var (pv 0)) a_nil)) (g_tupT rfl (gs_cons (g_name (pg_name (i := 3) sc_by_marks.nd rfl (by first | exact .inl rfl | exact .inr rfl)) (by rw [hN]; decide) (not_io hio (by decide))) (gs_cons (g_name (pg_name (i := 4) sc_by_marks.nd rfl (by first | exact .inl rfl | exact .inr rfl)) (by rw [hN]; decide) (not_io hio (by decide))) gs_nil)) hK)
  (ss_one (s_if (t_cmp (op_eqD hr.units) (hq_eq hK) (o_var (pv 4)) (o_e e_int) (nomark _))
  (ss_cons (s_expr (e_app hK (pe_bm PySem.F.plainAttrs_list PySem.F.slot_list_append PySem.F.type_list_append mt_append (pv 1) (a_cons (e_var (pv 2)) a_nil))))
  (ss_one (s_set (ps_set (i := 2) sc_by_marks.nd rfl (by first | exact .inl rfl | exact .inr rfl) (e_str (by decide +kernel) ⟨by decide, by decide⟩)) (by rw [hN]; decide) (not_io hio (by decide)))))
  (ss_cons (s_set (ps_set (i := 5) sc_by_marks.nd rfl (by first | exact .inl rfl | exact .inr rfl) (e_call G_mark_unit (hr.mono (by decide)) (by rfl) A_mark_unit.g A_mark_unit.F.kp A_mark_unit.b (takes_of rfl rfl rfl rfl) (as_p (pv 0) (as_p (pv 3) as_nil)) hc rfl rfl (by decide))) (by rw [hN]; decide) (not_io hio (by decide)))
  (ss_cons (s_if (t_cmp op_ge hr_int (o_e (e_add (e_b1 call_len (hr_len hK) (by rfl) T.f_len (by decide +kernel) (o_var (pv 2))) (e_b1 call_len (hr_len hK) (by rfl) T.f_len (by decide +kernel) (o_var (pv 5))))) (o_e (e_gI2 rfl T.c_MOST_OF_LINE)) (nomark _))
  (ss_cons (s_expr (e_app hK (pe_bm PySem.F.plainAttrs_list PySem.F.slot_list_append PySem.F.type_list_append mt_append (pv 1) (a_cons (e_add (e_var (pv 2)) (e_str (by decide +kernel) ⟨by decide, by decide⟩)) a_nil))))
  (ss_one (s_set (ps_set (i := 2) sc_by_marks.nd rfl (by first | exact .inl rfl | exact .inr rfl) (e_str (by decide +kernel) ⟨by decide, by decide⟩)) (by rw [hN]; decide) (not_io hio (by decide)))))
  ss_nil)
  (ss_one (s_augA (ps_aug (i := 2) sc_by_marks.nd rfl (by first | exact .inl rfl | exact .inr rfl) (e_var (pv 5)) ip_addA) (by rw [hN]; decide) (not_io hio (by decide)))))))))
  (ss_cons (s_if (t_cmp (op_neD hr.units) (hq_ne hK) (o_var (pv 2)) (o_e (e_str (by decide +kernel) ⟨by decide, by decide⟩)) (nomark _))
  (ss_one (s_expr (e_app hK (pe_bm PySem.F.plainAttrs_list PySem.F.slot_list_append PySem.F.type_list_append mt_append (pv 1) (a_cons (e_add (e_var (pv 2)) (e_str (by decide +kernel) ⟨by decide, by decide⟩)) a_nil)))))
  ss_nil)
  (ss_one (s_ret (e_m PySem.F.slot_str_join PySem.F.type_str_join mt_join (hs_join hK) (o_e (e_str (by decide +kernel) ⟨by decide, by decide⟩)) (o_e (e_lc (own := [("one", 6)]) rfl sc_by_marks.nd (i_list hK (e_var (pv 1))) (blkOk_by (own := [("one", 6)]) (N := N_by_marks) (sc := defScope s_by_marks) (by decide +kernel)) (fun _ _ _ _ _ => pg_name (i := 6) sc_by_marks.nd rfl (by first | exact .inl rfl | exact .inr rfl)) (fun _ _ _ _ _ => ts_nil) (fun _ _ _ _ _ => (e_add (e_var (pv 6)) (e_str (by decide +kernel) ⟨by decide, by decide⟩))) (by decide) (comp_io hio (by decide)) (hg_name (by rw [hN]; decide) (not_io hio (by decide))))))))))))
theorem ok_can_be_plain (T : Tx K mg c) {fa : Addr} {fd : FuncData} (A : At K mg "can_be_plain" s_can_be_plain ["octets"] fa fd)
    {a_is_sign : Addr} {fd_is_sign : FuncData} (A_is_sign : At K mg "is_sign" s_is_sign ["number"] a_is_sign fd_is_sign) (G_is_sign : FnOk P w K mg base (L2.CX P w) 1 a_is_sign fd_is_sign ["number"] (spM c 1 [] F_is_sign)) :
    FnOk P w K mg base (L2.CX P w) 2 fa fd ["octets"] (spM c 1 [] F_can_be_plain) := by
  refine fn_okD (N := N_can_be_plain) (m := m_can_be_plain) A.F sc_can_be_plain rfl (by decide) (by decide) (by decide) fun g cdv Ar outer s H E hr hc0 hN hio => ?_
  have hc : g.c = c := hc0
  subst hc0
  have hK : K = g.c.K := T.hK.symm
  exact (ss_cons (s_set (ps_set (i := 1) sc_can_be_plain.nd rfl (by first | exact .inl rfl | exact .inr rfl) e_int) (by rw [hN]; decide) (not_io hio (by decide)))
  (ss_cons (s_for (passes_of rfl) rfl (i_list hK (e_var (pv 0))) (g_name (pg_name (i := 2) sc_can_be_plain.nd rfl (by first | exact .inl rfl | exact .inr rfl)) (by rw [hN]; decide) (not_io hio (by decide)))
  (ss_cons (s_set (ps_set (i := 1) sc_can_be_plain.nd rfl (by first | exact .inl rfl | exact .inr rfl) (e_if (t_cmp (op_eqD hr.units) (hq_eq hK) (o_var (pv 2)) (o_e e_int) (nomark _)) e_int (e_add (e_var (pv 1)) e_int))) (by rw [hN]; decide) (not_io hio (by decide)))
  (ss_one (s_if (PW.pt (w_or (PW.pt (w_and (t_cmp (op_neD hr.units) (hq_ne hK) (o_var (pv 2)) (o_e e_int) (nomark _)) (pw_and1 (t_not (t_val (e_call G_is_sign (hr.mono (by decide)) (by rfl) A_is_sign.g A_is_sign.F.kp A_is_sign.b (takes_of rfl rfl rfl rfl) (as_p (pv 2) as_nil) hc rfl rfl (by decide))))))) (pw_or1 (t_cmp op_gt hr_int (o_var (pv 1)) (o_e (e_gI2 rfl T.c_MOST_OF_LINE)) (nomark _)))))
  (ss_one (s_ret e_bl))
  ss_nil))))
  (ss_one (s_ret (e_cmp (op_eqD hr.units) (hq_eq hK) (o_var (pv 1)) (o_e e_int) (nomark _))))))
theorem ok_by_plain (T : Tx K mg c) {fa : Addr} {fd : FuncData} (A : At K mg "by_plain" s_by_plain ["octets"] fa fd)
    {a_sign_of : Addr} {fd_sign_of : FuncData} (A_sign_of : At K mg "sign_of" s_sign_of ["number"] a_sign_of fd_sign_of) (G_sign_of : FnOk P w K mg base (L2.CX P w) 1 a_sign_of fd_sign_of ["number"] (spM c 1 [] F_sign_of)) :
    FnOk P w K mg base (L2.CX P w) 2 fa fd ["octets"] (spM c 1 [] F_by_plain) := by
  refine fn_okD (N := N_by_plain) (m := m_by_plain) A.F sc_by_plain rfl (by decide) (by decide) (by decide) fun g cdv Ar outer s H E hr hc0 hN hio => ?_
  have hc : g.c = c := hc0
  subst hc0
  have hK : K = g.c.K := T.hK.symm
  exact (ss_one (s_ret (e_m PySem.F.slot_str_join PySem.F.type_str_join mt_join (hs_join hK) (o_e (e_str (by decide +kernel) ⟨by decide, by decide⟩)) (o_e (e_lc (own := [("octet", 1)]) rfl sc_by_plain.nd (i_list hK (e_var (pv 0))) (blkOk_by (own := [("octet", 1)]) (N := N_by_plain) (sc := defScope s_by_plain) (by decide +kernel)) (fun _ _ _ _ _ => pg_name (i := 1) sc_by_plain.nd rfl (by first | exact .inl rfl | exact .inr rfl)) (fun _ _ _ _ _ => ts_nil) (fun _ _ _ _ _ => (e_if (t_cmp (op_eqD hr.units) (hq_eq hK) (o_var (pv 1)) (o_e e_int) (nomark _)) (e_str (by decide +kernel) ⟨by decide, by decide⟩) (e_call G_sign_of (hr.mono (by decide)) (by rfl) A_sign_of.g A_sign_of.F.kp A_sign_of.b takes0 (as_p (pv 1) as_nil) hc rfl rfl (by decide)))) (by decide) (comp_io hio (by decide)) (hg_name (by rw [hN]; decide) (not_io hio (by decide))))))))
theorem ok_needed_octets (T : Tx K mg c) {fa : Addr} {fd : FuncData} (A : At K mg "needed_octets" s_needed_octets ["thing"] fa fd)
    {a_is_octets : Addr} {fd_is_octets : FuncData} (A_is_octets : At K mg "is_octets" s_is_octets ["thing"] a_is_octets fd_is_octets) (G_is_octets : FnOk P w K mg base (L2.CX P w) 3 a_is_octets fd_is_octets ["thing"] (spM c 1 [] F_is_octets)) :
    FnOk P w K mg base (L2.CX P w) 4 fa fd ["thing"] (spM c 1 [] F_needed_octets) := by
  refine fn_okD (N := N_needed_octets) (m := m_needed_octets) A.F sc_needed_octets rfl (by decide) (by decide) (by decide) fun g cdv Ar outer s H E hr hc0 hN hio => ?_
  have hc : g.c = c := hc0
  subst hc0
  have hK : K = g.c.K := T.hK.symm
  exact (ss_one (s_if (t_not (t_val (e_call G_is_octets (hr.mono (by decide)) (by rfl) A_is_octets.g A_is_octets.F.kp A_is_octets.b (takes_of rfl rfl rfl rfl) (as_p (pv 0) as_nil) hc rfl rfl (by decide))))
  (ss_one (s_raise (C := "NoOctets") rfl (takes_of rfl rfl rfl rfl) T.x_NoOctets.1 T.x_NoOctets.2.1 T.x_NoOctets.2.2.1 T.x_NoOctets.2.2.2 T.g_NoOctets (by rfl)))
  ss_nil))
theorem ok_needed_code (T : Tx K mg c) {fa : Addr} {fd : FuncData} (A : At K mg "needed_code" s_needed_code ["thing"] fa fd)
    {fI_NoCode : Addr} {fdI_NoCode : FuncData} (I_NoCode : XIni P w K mg base c "NoCode" "at" fI_NoCode fdI_NoCode)
    {a_is_word : Addr} {fd_is_word : FuncData} (A_is_word : At K mg "is_word" s_is_word ["thing", "words"] a_is_word fd_is_word) (G_is_word : FnOk P w K mg base (L2.CX P w) 1 a_is_word fd_is_word ["thing", "words"] (spM c 2 [] F_is_word)) :
    FnOk P w K mg base (L2.CX P w) 3 fa fd ["thing"] (spM c 1 [] F_needed_code) := by
  refine fn_okD (N := N_needed_code) (m := m_needed_code) A.F sc_needed_code rfl (by decide) (by decide) (by decide) fun g cdv Ar outer s H E hr hc0 hN hio => ?_
  have hc : g.c = c := hc0
  subst hc0
  have hK : K = g.c.K := T.hK.symm
  exact (ss_one (s_if (t_not (t_val (e_call G_is_word (hr.mono (by decide)) (by rfl) A_is_word.g A_is_word.F.kp A_is_word.b (takes_of rfl rfl rfl rfl) (as_p (pv 0) (as_e (e_gT hK l_CODES rfl T.c_CODES) as_nil)) hc rfl rfl (by decide))))
  (ss_one (s_raise1 rfl (takes_of rfl rfl rfl rfl) I_NoCode hr (by decide) (by rfl) (by rfl) (a_cons (e_str (by decide +kernel) ⟨by decide, by decide⟩) a_nil)))
  ss_nil))
theorem ok_written_by (T : Tx K mg c) {fa : Addr} {fd : FuncData} (A : At K mg "written_by" s_written_by ["octets", "code"] fa fd)
    {fI_NoCode : Addr} {fdI_NoCode : FuncData} (I_NoCode : XIni P w K mg base c "NoCode" "at" fI_NoCode fdI_NoCode)
    {a_needed_octets : Addr} {fd_needed_octets : FuncData} (A_needed_octets : At K mg "needed_octets" s_needed_octets ["thing"] a_needed_octets fd_needed_octets) (G_needed_octets : FnOk P w K mg base (L2.CX P w) 4 a_needed_octets fd_needed_octets ["thing"] (spM c 1 [] F_needed_octets))
    {a_needed_code : Addr} {fd_needed_code : FuncData} (A_needed_code : At K mg "needed_code" s_needed_code ["thing"] a_needed_code fd_needed_code) (G_needed_code : FnOk P w K mg base (L2.CX P w) 3 a_needed_code fd_needed_code ["thing"] (spM c 1 [] F_needed_code))
    {a_by_plain : Addr} {fd_by_plain : FuncData} (A_by_plain : At K mg "by_plain" s_by_plain ["octets"] a_by_plain fd_by_plain) (G_by_plain : FnOk P w K mg base (L2.CX P w) 2 a_by_plain fd_by_plain ["octets"] (spM c 1 [] F_by_plain))
    {a_by_sixes : Addr} {fd_by_sixes : FuncData} (A_by_sixes : At K mg "by_sixes" s_by_sixes ["octets"] a_by_sixes fd_by_sixes) (G_by_sixes : FnOk P w K mg base (L2.CX P w) 2 a_by_sixes fd_by_sixes ["octets"] (spM c 1 [] F_by_sixes))
    {a_by_marks : Addr} {fd_by_marks : FuncData} (A_by_marks : At K mg "by_marks" s_by_marks ["octets"] a_by_marks fd_by_marks) (G_by_marks : FnOk P w K mg base (L2.CX P w) 3 a_by_marks fd_by_marks ["octets"] (spM c 1 [] F_by_marks))
    {a_can_be_plain : Addr} {fd_can_be_plain : FuncData} (A_can_be_plain : At K mg "can_be_plain" s_can_be_plain ["octets"] a_can_be_plain fd_can_be_plain) (G_can_be_plain : FnOk P w K mg base (L2.CX P w) 2 a_can_be_plain fd_can_be_plain ["octets"] (spM c 1 [] F_can_be_plain)) :
    FnOk P w K mg base (L2.CX P w) 5 fa fd ["octets", "code"] (spM c 2 [] F_written_by) := by
  refine fn_okD (N := N_written_by) (m := m_written_by) A.F sc_written_by rfl (by decide) (by decide) (by decide) fun g cdv Ar outer s H E hr hc0 hN hio => ?_
  have hc : g.c = c := hc0
  subst hc0
  have hK : K = g.c.K := T.hK.symm
  exact (ss_cons (s_expr (e_call G_needed_octets (hr.mono (by decide)) (by rfl) A_needed_octets.g A_needed_octets.F.kp A_needed_octets.b (takes_of rfl rfl rfl rfl) (as_p (pv 0) as_nil) hc rfl rfl (by decide)))
  (ss_cons (s_expr (e_call G_needed_code (hr.mono (by decide)) (by rfl) A_needed_code.g A_needed_code.F.kp A_needed_code.b (takes_of rfl rfl rfl rfl) (as_p (pv 1) as_nil) hc rfl rfl (by decide)))
  (ss_cons (s_if (t_cmp (op_eqD hr.units) (hq_eq hK) (o_var (pv 1)) (o_e (e_str (by decide +kernel) ⟨by decide, by decide⟩)) (nomark _))
  (ss_one (s_ret (e_call G_by_sixes (hr.mono (by decide)) (by rfl) A_by_sixes.g A_by_sixes.F.kp A_by_sixes.b (takes_of rfl rfl rfl rfl) (as_e (e_move (pv 0)) as_nil) hc rfl rfl (by decide))))
  ss_nil)
  (ss_cons (s_if (t_cmp (op_eqD hr.units) (hq_eq hK) (o_var (pv 1)) (o_e (e_str (by decide +kernel) ⟨by decide, by decide⟩)) (nomark _))
  (ss_one (s_ret (e_call G_by_marks (hr.mono (by decide)) (by rfl) A_by_marks.g A_by_marks.F.kp A_by_marks.b (takes_of rfl rfl rfl rfl) (as_e (e_move (pv 0)) as_nil) hc rfl rfl (by decide))))
  ss_nil)
  (ss_cons (s_if (t_not (t_val (e_call G_can_be_plain (hr.mono (by decide)) (by rfl) A_can_be_plain.g A_can_be_plain.F.kp A_can_be_plain.b (takes_of rfl rfl rfl rfl) (as_p (pv 0) as_nil) hc rfl rfl (by decide))))
  (ss_one (s_raise1 rfl (takes_of rfl rfl rfl rfl) I_NoCode hr (by decide) (by rfl) (by rfl) (a_cons (e_str (by decide +kernel) ⟨by decide, by decide⟩) a_nil)))
  ss_nil)
  (ss_one (s_ret (e_call G_by_plain (hr.mono (by decide)) (by rfl) A_by_plain.g A_by_plain.F.kp A_by_plain.b (takes_of rfl rfl rfl rfl) (as_e (e_move (pv 0)) as_nil) hc rfl rfl (by decide)))))))))
theorem ok_written_by__n (T : Tx K mg c) {fa : Addr} {fd : FuncData} (A : At K mg "written_by" s_written_by__n ["octets", "code"] fa fd)
    {fI_NoCode : Addr} {fdI_NoCode : FuncData} (I_NoCode : XIni P w K mg base c "NoCode" "at" fI_NoCode fdI_NoCode)
    {a_needed_octets : Addr} {fd_needed_octets : FuncData} (A_needed_octets : At K mg "needed_octets" s_needed_octets ["thing"] a_needed_octets fd_needed_octets) (G_needed_octets : FnOk P w K mg base (L2.CX P w) 4 a_needed_octets fd_needed_octets ["thing"] (spM c 1 [] F_needed_octets))
    {a_needed_code : Addr} {fd_needed_code : FuncData} (A_needed_code : At K mg "needed_code" s_needed_code ["thing"] a_needed_code fd_needed_code) (G_needed_code : FnOk P w K mg base (L2.CX P w) 3 a_needed_code fd_needed_code ["thing"] (spM c 1 [] F_needed_code))
    {a_by_plain : Addr} {fd_by_plain : FuncData} (A_by_plain : At K mg "by_plain" s_by_plain ["octets"] a_by_plain fd_by_plain) (G_by_plain : FnOk P w K mg base (L2.CX P w) 2 a_by_plain fd_by_plain ["octets"] (spM c 1 [] F_by_plain))
    {a_by_sixes : Addr} {fd_by_sixes : FuncData} (A_by_sixes : At K mg "by_sixes" s_by_sixes ["octets"] a_by_sixes fd_by_sixes) (G_by_sixes : FnOk P w K mg base (L2.CX P w) 2 a_by_sixes fd_by_sixes ["octets"] (spM c 1 [] F_by_sixes))
    {a_by_marks : Addr} {fd_by_marks : FuncData} (A_by_marks : At K mg "by_marks" s_by_marks ["octets"] a_by_marks fd_by_marks) (G_by_marks : FnOk P w K mg base (L2.CX P w) 3 a_by_marks fd_by_marks ["octets"] (spM c 1 [] F_by_marks))
    {a_can_be_plain : Addr} {fd_can_be_plain : FuncData} (A_can_be_plain : At K mg "can_be_plain" s_can_be_plain ["octets"] a_can_be_plain fd_can_be_plain) (G_can_be_plain : FnOk P w K mg base (L2.CX P w) 2 a_can_be_plain fd_can_be_plain ["octets"] (spM c 1 [] F_can_be_plain)) :
    FnOk P w K mg base (L2N.CX P w) 5 fa fd ["octets", "code"] (spM c 2 [] F_written_by__n) := by
  refine fn_okN (N := N_written_by__n) (m := m_written_by__n) A.F sc_written_by__n rfl (by decide) (by decide) (by decide) fun g cdv Ar outer s H E hr hc0 hN hio => ?_
  have hc : g.c = c := hc0
  subst hc0
  have hK : K = g.c.K := T.hK.symm
  exact (ss_cons (s_quiet (s_expr (e_call G_needed_octets (hr.mono (by decide)) (by rfl) A_needed_octets.g A_needed_octets.F.kp A_needed_octets.b takes0 (as_p (pv 0) as_nil) hc rfl rfl (by decide))))
  (ss_cons (s_quiet (s_expr (e_call G_needed_code (hr.mono (by decide)) (by rfl) A_needed_code.g A_needed_code.F.kp A_needed_code.b takes0 (as_p (pv 1) as_nil) hc rfl rfl (by decide))))
  (ss_cons (s_quiet (s_if (t_cmp (op_eqD hr.units) (hq_eq hK) (o_var (pv 1)) (o_e (e_str (by decide +kernel) ⟨by decide, by decide⟩)) (nomark _))
  (ss_one (s_ret (e_call G_by_sixes (hr.mono (by decide)) (by rfl) A_by_sixes.g A_by_sixes.F.kp A_by_sixes.b takes0 (as_e (e_move (pv 0)) as_nil) hc rfl rfl (by decide))))
  ss_nil))
  (ss_cons (s_quiet (s_if (t_cmp (op_eqD hr.units) (hq_eq hK) (o_var (pv 1)) (o_e (e_str (by decide +kernel) ⟨by decide, by decide⟩)) (nomark _))
  (ss_one (s_ret (e_call G_by_marks (hr.mono (by decide)) (by rfl) A_by_marks.g A_by_marks.F.kp A_by_marks.b takes0 (as_e (e_move (pv 0)) as_nil) hc rfl rfl (by decide))))
  ss_nil))
  (ss_cons (s_if (t_quiet (t_not (t_val (e_call G_can_be_plain (hr.mono (by decide)) (by rfl) A_can_be_plain.g A_can_be_plain.F.kp A_can_be_plain.b takes0 (as_p (pv 0) as_nil) hc rfl rfl (by decide)))))
  (ss_one (s_raise1N rfl (L2N.takes_of rfl rfl rfl rfl) I_NoCode hr (by decide) (by rfl) (by rfl) (a_cons (e_str (by decide +kernel) ⟨by decide, by decide⟩) a_nil)))
  ss_nil)
  (ss_one (s_quiet (s_ret (e_call G_by_plain (hr.mono (by decide)) (by rfl) A_by_plain.g A_by_plain.F.kp A_by_plain.b takes0 (as_e (e_move (pv 0)) as_nil) hc rfl rfl (by decide))))))))))
theorem ok_best (T : Tx K mg c) {fa : Addr} {fd : FuncData} (A : At K mg "best" s_best ["octets"] fa fd)
    {a_needed_octets : Addr} {fd_needed_octets : FuncData} (A_needed_octets : At K mg "needed_octets" s_needed_octets ["thing"] a_needed_octets fd_needed_octets) (G_needed_octets : FnOk P w K mg base (L2.CX P w) 4 a_needed_octets fd_needed_octets ["thing"] (spM c 1 [] F_needed_octets))
    {a_can_be_plain : Addr} {fd_can_be_plain : FuncData} (A_can_be_plain : At K mg "can_be_plain" s_can_be_plain ["octets"] a_can_be_plain fd_can_be_plain) (G_can_be_plain : FnOk P w K mg base (L2.CX P w) 2 a_can_be_plain fd_can_be_plain ["octets"] (spM c 1 [] F_can_be_plain))
    {a_by_marks : Addr} {fd_by_marks : FuncData} (A_by_marks : At K mg "by_marks" s_by_marks ["octets"] a_by_marks fd_by_marks) (G_by_marks : FnOk P w K mg base (L2.CX P w) 3 a_by_marks fd_by_marks ["octets"] (spM c 1 [] F_by_marks))
    {a_by_sixes : Addr} {fd_by_sixes : FuncData} (A_by_sixes : At K mg "by_sixes" s_by_sixes ["octets"] a_by_sixes fd_by_sixes) (G_by_sixes : FnOk P w K mg base (L2.CX P w) 2 a_by_sixes fd_by_sixes ["octets"] (spM c 1 [] F_by_sixes)) :
    FnOk P w K mg base (L2.CX P w) 5 fa fd ["octets"] (spM c 1 [] F_best) := by
  refine fn_okD (N := N_best) (m := m_best) A.F sc_best rfl (by decide) (by decide) (by decide) fun g cdv Ar outer s H E hr hc0 hN hio => ?_
  have hc : g.c = c := hc0
  subst hc0
  have hK : K = g.c.K := T.hK.symm
  exact (ss_cons (s_expr (e_call G_needed_octets (hr.mono (by decide)) (by rfl) A_needed_octets.g A_needed_octets.F.kp A_needed_octets.b (takes_of rfl rfl rfl rfl) (as_p (pv 0) as_nil) hc rfl rfl (by decide)))
  (ss_cons (s_if (t_val (e_call G_can_be_plain (hr.mono (by decide)) (by rfl) A_can_be_plain.g A_can_be_plain.F.kp A_can_be_plain.b (takes_of rfl rfl rfl rfl) (as_p (pv 0) as_nil) hc rfl rfl (by decide)))
  (ss_one (s_ret (e_str (by decide +kernel) ⟨by decide, by decide⟩)))
  ss_nil)
  (ss_cons (s_if (t_cmp op_le hr_int (o_e (e_b1 call_len (hr_len hK) (by rfl) T.f_len (by decide +kernel) (o_e (e_call G_by_marks (hr.mono (by decide)) (by rfl) A_by_marks.g A_by_marks.F.kp A_by_marks.b (takes_of rfl rfl rfl rfl) (as_p (pv 0) as_nil) hc rfl rfl (by decide))))) (o_e (e_b1 call_len (hr_len hK) (by rfl) T.f_len (by decide +kernel) (o_e (e_call G_by_sixes (hr.mono (by decide)) (by rfl) A_by_sixes.g A_by_sixes.F.kp A_by_sixes.b (takes_of rfl rfl rfl rfl) (as_p (pv 0) as_nil) hc rfl rfl (by decide))))) (nomark _))
  (ss_one (s_ret (e_str (by decide +kernel) ⟨by decide, by decide⟩)))
  ss_nil)
  (ss_one (s_ret (e_str (by decide +kernel) ⟨by decide, by decide⟩))))))
theorem ok_fold_places (T : Tx K mg c) {fa : Addr} {fd : FuncData} (A : At K mg "fold_places" s_fold_places ["line", "begin"] fa fd) :
    FnOk P w K mg base (L2.CX P w) 1 fa fd ["line", "begin"] (spM c 2 [] F_fold_places) := by
  refine fn_okD (N := N_fold_places) (m := m_fold_places) A.F sc_fold_places rfl (by decide) (by decide) (by decide) fun g cdv Ar outer s H E hr hc0 hN hio => ?_
  have hc : g.c = c := hc0
  subst hc0
  have hK : K = g.c.K := T.hK.symm
  exact (ss_one (s_ret (e_lc (own := [("at", 2)]) rfl sc_fold_places.nd (i_range2 (by rfl) T.f_range (a_cons (e_var (pv 1)) (a_cons (e_b1 call_len (hr_len hK) (by rfl) T.f_len (by decide +kernel) (o_var (pv 0))) a_nil))) (blkOk_by (own := [("at", 2)]) (N := N_fold_places) (sc := defScope s_fold_places) (by decide +kernel)) (fun _ _ _ _ _ => pg_name (i := 2) sc_fold_places.nd rfl (by first | exact .inl rfl | exact .inr rfl)) (fun _ _ _ _ _ => ts_one (PW.pt (w_and (t_cmp (op_eqD hr.units) (hq_eq hK) (o_e (e_idx (o_var (pv 0)) (e_var (pv 2)) hK)) (o_e (e_str (by decide +kernel) ⟨by decide, by decide⟩)) (nomark _)) (pw_and1 (t_cmp (op_neD hr.units) (hq_ne hK) (o_e (e_idx (o_var (pv 0)) (e_sub (e_var (pv 2)) e_int) hK)) (o_e (e_str (by decide +kernel) ⟨by decide, by decide⟩)) (nomark _)))))) (fun _ _ _ _ _ => (e_var (pv 2))) (by decide) (comp_io hio (by decide)) (hg_name (by rw [hN]; decide) (not_io hio (by decide))))))
theorem ok_folded_lines (T : Tx K mg c) {fa : Addr} {fd : FuncData} (A : At K mg "folded_lines" s_folded_lines ["line", "begin"] fa fd)
    {a_fold_places : Addr} {fd_fold_places : FuncData} (A_fold_places : At K mg "fold_places" s_fold_places ["line", "begin"] a_fold_places fd_fold_places) (G_fold_places : FnOk P w K mg base (L2.CX P w) 1 a_fold_places fd_fold_places ["line", "begin"] (spM c 2 [] F_fold_places)) :
    FnOk P w K mg base (L2.CX P w) 2 fa fd ["line", "begin"] (spM c 2 [] F_folded_lines) := by
  refine fn_okD (N := N_folded_lines) (m := m_folded_lines) A.F sc_folded_lines rfl (by decide) (by decide) (by decide) fun g cdv Ar outer s H E hr hc0 hN hio => ?_
  have hc : g.c = c := hc0
  subst hc0
  have hK : K = g.c.K := T.hK.symm
  exact (ss_cons (s_set (ps_set (i := 2) sc_folded_lines.nd rfl (by first | exact .inl rfl | exact .inr rfl) (e_lst a_nil)) (by rw [hN]; decide) (not_io hio (by decide)))
  (ss_cons (s_set (ps_set (i := 3) sc_folded_lines.nd rfl (by first | exact .inl rfl | exact .inr rfl) (e_call G_fold_places (hr.mono (by decide)) (by rfl) A_fold_places.g A_fold_places.F.kp A_fold_places.b (takes_of rfl rfl rfl rfl) (as_p (pv 0) (as_p (pv 1) as_nil)) hc rfl rfl (by decide))) (by rw [hN]; decide) (not_io hio (by decide)))
  (ss_cons (s_while (passes_of rfl) (PW.pt (w_and (t_cmp op_gt hr_int (o_e (e_b1 call_len (hr_len hK) (by rfl) T.f_len (by decide +kernel) (o_var (pv 0)))) (o_e (e_gI2 rfl T.c_WIDTH)) (nomark _)) (pw_and1 (t_cmp (op_neD hr.units) (hq_ne hK) (o_var (pv 3)) (o_e (e_lst a_nil)) (nomark _)))))
  (ss_cons (s_setLc (by rw [hN]; decide) (not_io hio (by decide)) (own := [("at", 5)]) rfl sc_folded_lines.nd rfl rfl (sw_true rfl rfl rfl (by decide +kernel)) (i_list hK (e_var (pv 3))) (blkOk_by (own := [("at", 5)]) (N := N_folded_lines) (sc := defScope s_folded_lines) (by decide +kernel)) (fun _ _ _ _ _ => pg_name (i := 5) sc_folded_lines.nd rfl (by first | exact .inl rfl | exact .inr rfl)) (fun _ _ _ _ _ => ts_one (t_cmp op_le hr_int (o_var (pv 5)) (o_e (e_gI2 rfl T.c_WIDTH)) (nomark _))) (fun _ _ _ _ _ => (e_var (pv 5))) (by decide) (comp_io hio (by decide)) (hg_name (by rw [hN]; decide) (not_io hio (by decide))))
  (ss_cons (s_set (ps_set (i := 5) sc_folded_lines.nd rfl (by first | exact .inl rfl | exact .inr rfl) (e_maxdef hK hr (by rfl) T.f_max (e_var (pv 4)) (e_idx (o_var (pv 3)) e_int hK))) (by rw [hN]; decide) (not_io hio (by decide)))
  (ss_cons (s_expr (e_app hK (pe_bm PySem.F.plainAttrs_list PySem.F.slot_list_append PySem.F.type_list_append mt_append (pv 2) (a_cons (e_slc (o_var (pv 0)) p_none (p_some (e_var (pv 5))) hK.symm.symm) a_nil))))
  (ss_cons (s_set (ps_set (i := 0) sc_folded_lines.nd rfl (by first | exact .inl rfl | exact .inr rfl) (e_slc (o_var (pv 0)) (p_some (e_var (pv 5))) p_none hK.symm.symm)) (by rw [hN]; decide) (not_io hio (by decide)))
  (ss_one (s_set (ps_set (i := 3) sc_folded_lines.nd rfl (by first | exact .inl rfl | exact .inr rfl) (e_call G_fold_places (hr.mono (by decide)) (by rfl) A_fold_places.g A_fold_places.F.kp A_fold_places.b (takes_of rfl rfl rfl rfl) (as_p (pv 0) (as_e e_int as_nil)) hc rfl rfl (by decide))) (by rw [hN]; decide) (not_io hio (by decide)))))))))
  (ss_one (s_ret (e_add (e_move (pv 2)) (e_lst (a_cons (e_move (pv 0)) a_nil))))))))
theorem ok_head_text (T : Tx K mg c) {fa : Addr} {fd : FuncData} (A : At K mg "head_text" s_head_text ["name", "value"] fa fd)
    {a_folded_lines : Addr} {fd_folded_lines : FuncData} (A_folded_lines : At K mg "folded_lines" s_folded_lines ["line", "begin"] a_folded_lines fd_folded_lines) (G_folded_lines : FnOk P w K mg base (L2.CX P w) 2 a_folded_lines fd_folded_lines ["line", "begin"] (spM c 2 [] F_folded_lines)) :
    FnOk P w K mg base (L2.CX P w) 3 fa fd ["name", "value"] (spM c 2 [] F_head_text) := by
  refine fn_okD (N := N_head_text) (m := m_head_text) A.F sc_head_text rfl (by decide) (by decide) (by decide) fun g cdv Ar outer s H E hr hc0 hN hio => ?_
  have hc : g.c = c := hc0
  subst hc0
  have hK : K = g.c.K := T.hK.symm
  exact (ss_cons (s_if (t_cmp (op_eqD hr.units) (hq_eq hK) (o_var (pv 1)) (o_e (e_str (by decide +kernel) ⟨by decide, by decide⟩)) (nomark _))
  (ss_one (s_ret (e_add (e_move (pv 0)) (e_str (by decide +kernel) ⟨by decide, by decide⟩))))
  ss_nil)
  (ss_cons (s_set (ps_set (i := 2) sc_head_text.nd rfl (by first | exact .inl rfl | exact .inr rfl) (e_add (e_add (e_var (pv 0)) (e_str (by decide +kernel) ⟨by decide, by decide⟩)) (e_var (pv 1)))) (by rw [hN]; decide) (not_io hio (by decide)))
  (ss_one (s_ret (e_add (e_m PySem.F.slot_str_join PySem.F.type_str_join mt_join (hs_join hK) (o_e (e_str (by decide +kernel) ⟨by decide, by decide⟩)) (o_e (e_call G_folded_lines (hr.mono (by decide)) (by rfl) A_folded_lines.g A_folded_lines.F.kp A_folded_lines.b (takes_of rfl rfl rfl rfl) (as_e (e_move (pv 2)) (as_e (e_add (e_b1 call_len (hr_len hK) (by rfl) T.f_len (by decide +kernel) (o_var (pv 0))) e_int) as_nil)) hc rfl rfl (by decide)))) (e_str (by decide +kernel) ⟨by decide, by decide⟩))))))
theorem ok_needed (T : Tx K mg c) {fa : Addr} {fd : FuncData} (A : At K mg "needed" s_needed ["truth"] fa fd) :
    FnOk P w K mg base (L2.CX P w) 1 fa fd ["truth"] (spM c 1 [] F_needed) := by
  refine fn_okD (N := N_needed) (m := m_needed) A.F sc_needed rfl (by decide) (by decide) (by decide) fun g cdv Ar outer s H E hr hc0 hN hio => ?_
  have hc : g.c = c := hc0
  subst hc0
  have hK : K = g.c.K := T.hK.symm
  exact (ss_one (s_if (t_not (t_val (e_var (pv 0))))
  (ss_one (s_raise (C := "NoPart") rfl (takes_of rfl rfl rfl rfl) T.x_NoPart.1 T.x_NoPart.2.1 T.x_NoPart.2.2.1 T.x_NoPart.2.2.2 T.g_NoPart (by rfl)))
  ss_nil))
theorem ok_checked_heads (T : Tx K mg c) {fa : Addr} {fd : FuncData} (A : At K mg "checked_heads" s_checked_heads ["heads"] fa fd)
    {a_needed : Addr} {fd_needed : FuncData} (A_needed : At K mg "needed" s_needed ["truth"] a_needed fd_needed) (G_needed : FnOk P w K mg base (L2.CX P w) 1 a_needed fd_needed ["truth"] (spM c 1 [] F_needed))
    {a_is_head : Addr} {fd_is_head : FuncData} (A_is_head : At K mg "is_head" s_is_head ["thing"] a_is_head fd_is_head) (G_is_head : FnOk P w K mg base (L2.CX P w) 3 a_is_head fd_is_head ["thing"] (spM c 1 [] F_is_head)) :
    FnOk P w K mg base (L2.CX P w) 4 fa fd ["heads"] (spM c 1 [] F_checked_heads) := by
  refine fn_okD (N := N_checked_heads) (m := m_checked_heads) A.F sc_checked_heads rfl (by decide) (by decide) (by decide) fun g cdv Ar outer s H E hr hc0 hN hio => ?_
  have hc : g.c = c := hc0
  subst hc0
  have hK : K = g.c.K := T.hK.symm
  exact (ss_cons (s_if (t_cmp op_isN hr_isN (o_var (pv 0)) (o_e e_non) (nomark _))
  (ss_one (s_ret (e_lst a_nil)))
  ss_nil)
  (ss_cons (s_expr (e_call G_needed (hr.mono (by decide)) (by rfl) A_needed.g A_needed.F.kp A_needed.b (takes_of rfl rfl rfl rfl) (as_e (e_and (e_isi (y := .list) (by decide +kernel) hK (by rfl) T.f_isinstance (by rfl) T.f_list (o_var (pv 0)) (by decide) (by decide)) (pe_one (e_b1 (cr_all rfl) (hr_all hK) (by rfl) T.f_all (by decide +kernel) (o_e (e_lc (own := [("head", 1)]) rfl sc_checked_heads.nd (i_list hK (e_var (pv 0))) (blkOk_by (own := [("head", 1)]) (N := N_checked_heads) (sc := defScope s_checked_heads) (by decide +kernel)) (fun _ _ _ _ _ => pg_name (i := 1) sc_checked_heads.nd rfl (by first | exact .inl rfl | exact .inr rfl)) (fun _ _ _ _ _ => ts_nil) (fun _ _ _ _ _ => (e_call G_is_head (hr.mono (by decide)) (by rfl) A_is_head.g A_is_head.F.kp A_is_head.b takes0 (as_p (pv 1) as_nil) hc rfl rfl (by decide))) (by decide) (comp_io hio (by decide)) (hg_name (by rw [hN]; decide) (not_io hio (by decide)))))))) as_nil) hc rfl rfl (by decide)))
  (ss_cons (s_expr (e_call G_needed (hr.mono (by decide)) (by rfl) A_needed.g A_needed.F.kp A_needed.b (takes_of rfl rfl rfl rfl) (as_e (e_b1 (cr_all rfl) (hr_all hK) (by rfl) T.f_all (by decide +kernel) (o_e (e_lc (own := [("name", 2), ("value", 3)]) rfl sc_checked_heads.nd (i_list hK (e_var (pv 0))) (blkOk_by (own := [("name", 2), ("value", 3)]) (N := N_checked_heads) (sc := defScope s_checked_heads) (by decide +kernel)) (fun _ _ _ _ _ => pg_tup rfl (pgs_cons (pg_name (i := 2) sc_checked_heads.nd rfl (by first | exact .inl rfl | exact .inr rfl)) (pgs_cons (pg_name (i := 3) sc_checked_heads.nd rfl (by first | exact .inl rfl | exact .inr rfl)) pgs_nil))) (fun _ _ _ _ _ => ts_nil) (fun _ _ _ _ _ => (e_cmp (OpR.or op_notin_str op_notIn_seq) (hq_notin hK) (o_e (e_m0 PySem.F.slot_str_lower PySem.F.type_str_lower mt_lower hs_lower (o_var (pv 2)))) (o_e (e_gT hK l_OWN rfl T.c_OWN)) (by rfl))) (by decide) (comp_io hio (by decide)) (hg_pair (by decide) (by rw [hN]; decide) (not_io hio (by decide)) (by rw [hN]; decide) (not_io hio (by decide)) hK)))) as_nil) hc rfl rfl (by decide)))
  (ss_one (s_ret (e_list hK (by rfl) T.f_list (o_var (pv 0))))))))
theorem ok_checked_kind (T : Tx K mg c) {fa : Addr} {fd : FuncData} (A : At K mg "checked_kind" s_checked_kind ["kind"] fa fd)
    {a_show_kind__n : Addr} {fd_show_kind__n : FuncData} (A_show_kind__n : At K mg "show_kind" s_show_kind__n ["kind"] a_show_kind__n fd_show_kind__n) (G_show_kind__n : FnOk P w K mg base (L2N.CX P w) 5 a_show_kind__n fd_show_kind__n ["kind"] (spM c 1 [] F_show_kind__n)) :
    FnOk P w K mg base (L2.CX P w) 6 fa fd ["kind"] (spM c 1 [] F_checked_kind) := by
  refine fn_okD (N := N_checked_kind) (m := m_checked_kind) A.F sc_checked_kind rfl (by decide) (by decide) (by decide) fun g cdv Ar outer s H E hr hc0 hN hio => ?_
  have hc : g.c = c := hc0
  subst hc0
  have hK : K = g.c.K := T.hK.symm
  exact (ss_cons (s_tryX rfl rfl (by rfl) (by decide) T.g_NoKind (fun _ _ h => T.xt.exm' h) rfl (takes_of rfl rfl rfl rfl)
  (fun _ _ _ tk1 po1 => (ss_one (s_expr (e_callN G_show_kind__n (hr.mono (by decide)) (by rfl) A_show_kind__n.g A_show_kind__n.F.kp A_show_kind__n.b tk1 (as_p (pv 0) as_nil) hc rfl rfl (by decide)))))
  (fun _ _ _ tkS1 hot1 => ss_one (s_raiseHN (C := "NoPart") hot1 tkS1 T.x_NoPart.1 T.x_NoPart.2.1 T.x_NoPart.2.2.1 T.x_NoPart.2.2.2 T.g_NoPart (by rfl))))
  (ss_cons (s_asg (e_var (pv 0)) (g_tupT rfl (gs_cons (g_name (pg_name (i := 1) sc_checked_kind.nd rfl (by first | exact .inl rfl | exact .inr rfl)) (by rw [hN]; decide) (not_io hio (by decide))) (gs_cons (g_name (pg_name (i := 2) sc_checked_kind.nd rfl (by first | exact .inl rfl | exact .inr rfl)) (by rw [hN]; decide) (not_io hio (by decide))) (gs_cons (g_name (pg_name (i := 3) sc_checked_kind.nd rfl (by first | exact .inl rfl | exact .inr rfl)) (by rw [hN]; decide) (not_io hio (by decide))) gs_nil))) hK))
  (ss_one (s_ret (e_tup (a_cons (e_move (pv 1)) (a_cons (e_move (pv 2)) (a_cons (e_list hK (by rfl) T.f_list (o_var (pv 3))) a_nil))))))))
theorem ok_checked_code (T : Tx K mg c) {fa : Addr} {fd : FuncData} (A : At K mg "checked_code" s_checked_code ["octets", "code"] fa fd)
    {a_needed : Addr} {fd_needed : FuncData} (A_needed : At K mg "needed" s_needed ["truth"] a_needed fd_needed) (G_needed : FnOk P w K mg base (L2.CX P w) 1 a_needed fd_needed ["truth"] (spM c 1 [] F_needed))
    {a_best : Addr} {fd_best : FuncData} (A_best : At K mg "best" s_best ["octets"] a_best fd_best) (G_best : FnOk P w K mg base (L2.CX P w) 5 a_best fd_best ["octets"] (spM c 1 [] F_best))
    {a_is_word : Addr} {fd_is_word : FuncData} (A_is_word : At K mg "is_word" s_is_word ["thing", "words"] a_is_word fd_is_word) (G_is_word : FnOk P w K mg base (L2.CX P w) 1 a_is_word fd_is_word ["thing", "words"] (spM c 2 [] F_is_word))
    {a_written_by__n : Addr} {fd_written_by__n : FuncData} (A_written_by__n : At K mg "written_by" s_written_by__n ["octets", "code"] a_written_by__n fd_written_by__n) (G_written_by__n : FnOk P w K mg base (L2N.CX P w) 5 a_written_by__n fd_written_by__n ["octets", "code"] (spM c 2 [] F_written_by__n)) :
    FnOk P w K mg base (L2.CX P w) 6 fa fd ["octets", "code"] (spM c 2 [] F_checked_code) := by
  refine fn_okD (N := N_checked_code) (m := m_checked_code) A.F sc_checked_code rfl (by decide) (by decide) (by decide) fun g cdv Ar outer s H E hr hc0 hN hio => ?_
  have hc : g.c = c := hc0
  subst hc0
  have hK : K = g.c.K := T.hK.symm
  exact (ss_cons (s_if (t_cmp op_isN hr_isN (o_var (pv 1)) (o_e e_non) (nomark _))
  (ss_one (s_ret (e_call G_best (hr.mono (by decide)) (by rfl) A_best.g A_best.F.kp A_best.b (takes_of rfl rfl rfl rfl) (as_e (e_move (pv 0)) as_nil) hc rfl rfl (by decide))))
  ss_nil)
  (ss_cons (s_expr (e_call G_needed (hr.mono (by decide)) (by rfl) A_needed.g A_needed.F.kp A_needed.b (takes_of rfl rfl rfl rfl) (as_e (e_call G_is_word (hr.mono (by decide)) (by rfl) A_is_word.g A_is_word.F.kp A_is_word.b (takes_of rfl rfl rfl rfl) (as_p (pv 1) (as_e (e_gT hK l_CODES rfl T.c_CODES) as_nil)) hc rfl rfl (by decide)) as_nil) hc rfl rfl (by decide)))
  (ss_cons (s_tryX rfl rfl (by rfl) (by decide) T.g_NoCode (fun _ _ h => T.xt.exm' h) rfl (takes_of rfl rfl rfl rfl)
  (fun _ _ _ tk1 po1 => (ss_one (s_expr (e_callN G_written_by__n (hr.mono (by decide)) (by rfl) A_written_by__n.g A_written_by__n.F.kp A_written_by__n.b tk1 (as_p (pv 0) (as_p (pv 1) as_nil)) hc rfl rfl (by decide)))))
  (fun _ _ _ tkS1 hot1 => ss_one (s_raiseHN (C := "NoPart") hot1 tkS1 T.x_NoPart.1 T.x_NoPart.2.1 T.x_NoPart.2.2.1 T.x_NoPart.2.2.2 T.g_NoPart (by rfl))))
  (ss_one (s_ret (e_move (pv 1)))))))
theorem ok__law_cell_at (T : Tx K mg c) {fa : Addr} {fd : FuncData} (A : At K mg "_law_cell_at" s__law_cell_at ["_law_script", "_law_k"] fa fd) :
    FnOk P w K mg base (L2.CX P w) 1 fa fd ["_law_script", "_law_k"] (spM c 2 [] F__law_cell_at) := by
  refine fn_okD (N := N__law_cell_at) (m := m__law_cell_at) A.F sc__law_cell_at rfl (by decide) (by decide) (by decide) fun g cdv Ar outer s H E hr hc0 hN hio => ?_
  have hc : g.c = c := hc0
  subst hc0
  have hK : K = g.c.K := T.hK.symm
  exact (ss_cons (s_if (t_cmp op_lt hr_int (o_var (pv 1)) (o_e (e_b1 call_len (hr_len hK) (by rfl) T.f_len (by decide +kernel) (o_var (pv 0)))) (nomark _))
  (ss_one (s_ret (e_idx (o_var (pv 0)) (e_move (pv 1)) hK)))
  ss_nil)
  (ss_one (s_ret e_int)))
theorem ok__law_mixed (T : Tx K mg c) {fa : Addr} {fd : FuncData} (A : At K mg "_law_mixed" s__law_mixed ["_law_cell", "_law_k"] fa fd) :
    FnOk P w K mg base (L2.CX P w) 1 fa fd ["_law_cell", "_law_k"] (spM c 2 [] F__law_mixed) := by
  refine fn_okD (N := N__law_mixed) (m := m__law_mixed) A.F sc__law_mixed rfl (by decide) (by decide) (by decide) fun g cdv Ar outer s H E hr hc0 hN hio => ?_
  have hc : g.c = c := hc0
  subst hc0
  have hK : K = g.c.K := T.hK.symm
  exact (ss_cons (s_set (ps_set (i := 2) sc__law_mixed.nd rfl (by first | exact .inl rfl | exact .inr rfl) (e_add (e_mod (e_var (pv 0)) e_int) (e_mul (e_fdiv (e_var (pv 0)) e_int) e_int))) (by rw [hN]; decide) (not_io hio (by decide)))
  (ss_cons (s_set (ps_set (i := 2) sc__law_mixed.nd rfl (by first | exact .inl rfl | exact .inr rfl) (e_mod (e_mul (e_add (e_add (e_var (pv 2)) (e_mul e_int (e_var (pv 1)))) e_int) e_int) e_int)) (by rw [hN]; decide) (not_io hio (by decide)))
  (ss_cons (s_set (ps_set (i := 2) sc__law_mixed.nd rfl (by first | exact .inl rfl | exact .inr rfl) (e_mod (e_mul (e_var (pv 2)) (e_add (e_add (e_fdiv (e_var (pv 2)) e_int) e_int) (e_var (pv 1)))) e_int)) (by rw [hN]; decide) (not_io hio (by decide)))
  (ss_one (s_ret (e_mod (e_mul (e_var (pv 2)) (e_add (e_fdiv (e_var (pv 2)) e_int) e_int)) e_int))))))
theorem ok__law_source (T : Tx K mg c) {fa : Addr} {fd : FuncData} (A : At K mg "_law_source" s__law_source ["_law_script", "_law_k"] fa fd)
    {a__law_mixed : Addr} {fd__law_mixed : FuncData} (A__law_mixed : At K mg "_law_mixed" s__law_mixed ["_law_cell", "_law_k"] a__law_mixed fd__law_mixed) (G__law_mixed : FnOk P w K mg base (L2.CX P w) 1 a__law_mixed fd__law_mixed ["_law_cell", "_law_k"] (spM c 2 [] F__law_mixed))
    {a__law_cell_at : Addr} {fd__law_cell_at : FuncData} (A__law_cell_at : At K mg "_law_cell_at" s__law_cell_at ["_law_script", "_law_k"] a__law_cell_at fd__law_cell_at) (G__law_cell_at : FnOk P w K mg base (L2.CX P w) 1 a__law_cell_at fd__law_cell_at ["_law_script", "_law_k"] (spM c 2 [] F__law_cell_at)) :
    FnOk P w K mg base (L2.CX P w) 2 fa fd ["_law_script", "_law_k"] (spM c 2 [] F__law_source) := by
  refine fn_okD (N := N__law_source) (m := m__law_source) A.F sc__law_source rfl (by decide) (by decide) (by decide) fun g cdv Ar outer s H E hr hc0 hN hio => ?_
  have hc : g.c = c := hc0
  subst hc0
  have hK : K = g.c.K := T.hK.symm
  exact (ss_cons (s_if (t_cmp op_lt hr_int (o_var (pv 1)) (o_e (e_b1 call_len (hr_len hK) (by rfl) T.f_len (by decide +kernel) (o_var (pv 0)))) (nomark _))
  (ss_one (s_ret (e_lst (a_cons (e_idx (o_var (pv 0)) (e_var (pv 1)) hK) (a_cons (e_idx (o_var (pv 0)) (e_var (pv 1)) hK) (a_cons e_int a_nil))))))
  ss_nil)
  (ss_cons (s_set (ps_set (i := 2) sc__law_source.nd rfl (by first | exact .inl rfl | exact .inr rfl) (e_call G__law_mixed (hr.mono (by decide)) (by rfl) A__law_mixed.g A__law_mixed.F.kp A__law_mixed.b (takes_of rfl rfl rfl rfl) (as_e (e_call G__law_cell_at (hr.mono (by decide)) (by rfl) A__law_cell_at.g A__law_cell_at.F.kp A__law_cell_at.b (takes_of rfl rfl rfl rfl) (as_p (pv 0) (as_e e_int as_nil)) hc rfl rfl (by decide)) (as_e (e_add e_int (e_var (pv 1))) as_nil)) hc rfl rfl (by decide))) (by rw [hN]; decide) (not_io hio (by decide)))
  (ss_one (s_ret (e_lst (a_cons (e_var (pv 2)) (a_cons (e_var (pv 2)) (a_cons e_int a_nil))))))))
theorem ok__law_next (T : Tx K mg c) {fa : Addr} {fd : FuncData} (A : At K mg "_law_next" s__law_next ["_law_source_here", "_law_many"] fa fd)
    {a__law_mixed : Addr} {fd__law_mixed : FuncData} (A__law_mixed : At K mg "_law_mixed" s__law_mixed ["_law_cell", "_law_k"] a__law_mixed fd__law_mixed) (G__law_mixed : FnOk P w K mg base (L2.CX P w) 1 a__law_mixed fd__law_mixed ["_law_cell", "_law_k"] (spM c 2 [] F__law_mixed)) :
    FnOk P w K mg base (L2.CX P w) 2 fa fd ["_law_source_here", "_law_many"] (spM c 2 [0] F__law_next) := by
  refine fn_okD (N := N__law_next) (m := m__law_next) A.F sc__law_next rfl (by decide) (by decide) (by decide) fun g cdv Ar outer s H E hr hc0 hN hio => ?_
  have hc : g.c = c := hc0
  subst hc0
  have hK : K = g.c.K := T.hK.symm
  exact (ss_cons (s_if (t_cmp op_ge hr_int (o_e (e_idx (o_var (pv 0)) e_int hK)) (o_e (e_pow e_int e_int)) (nomark _))
  (ss_cons (s_set (ps_set (i := 2) sc__law_next.nd rfl (by first | exact .inl rfl | exact .inr rfl) (e_mod (e_idx (o_var (pv 0)) e_int hK) (e_var (pv 1)))) (by rw [hN]; decide) (not_io hio (by decide)))
  (ss_cons (s_asg (e_fdiv (e_idx (o_var (pv 0)) e_int hK) (e_var (pv 1))) (g_set (pg_sub (pv 0) e_int set_list)))
  (ss_one (s_ret (e_move (pv 2))))))
  ss_nil)
  (ss_cons (s_asg (e_add (e_idx (o_var (pv 0)) e_int hK) e_int) (g_set (pg_sub (pv 0) e_int set_list)))
  (ss_one (s_ret (e_mod (e_call G__law_mixed (hr.mono (by decide)) (by rfl) A__law_mixed.g A__law_mixed.F.kp A__law_mixed.b (takes_of rfl rfl rfl rfl) (as_e (e_idx (o_var (pv 0)) e_int hK) (as_e (e_idx (o_var (pv 0)) e_int hK) as_nil)) hc rfl rfl (by decide)) (e_move (pv 1)))))))
theorem ok__law_signs (T : Tx K mg c) {fa : Addr} {fd : FuncData} (A : At K mg "_law_signs" s__law_signs ["_law_source_here", "_law_signs_here", "_law_many"] fa fd)
    {a__law_next : Addr} {fd__law_next : FuncData} (A__law_next : At K mg "_law_next" s__law_next ["_law_source_here", "_law_many"] a__law_next fd__law_next) (G__law_next : FnOk P w K mg base (L2.CX P w) 2 a__law_next fd__law_next ["_law_source_here", "_law_many"] (spM c 2 [0] F__law_next)) :
    FnOk P w K mg base (L2.CX P w) 3 fa fd ["_law_source_here", "_law_signs_here", "_law_many"] (spM c 3 [0] F__law_signs) := by
  refine fn_okD (N := N__law_signs) (m := m__law_signs) A.F sc__law_signs rfl (by decide) (by decide) (by decide) fun g cdv Ar outer s H E hr hc0 hN hio => ?_
  have hc : g.c = c := hc0
  subst hc0
  have hK : K = g.c.K := T.hK.symm
  exact (ss_one (s_ret (e_m PySem.F.slot_str_join PySem.F.type_str_join mt_join (hs_join hK) (o_e (e_str (by decide +kernel) ⟨by decide, by decide⟩)) (o_e (e_lc (own := [("_law_k", 3)]) rfl sc__law_signs.nd (i_range1 (by rfl) T.f_range (a_cons (e_var (pv 2)) a_nil)) (blkOk_by (own := [("_law_k", 3)]) (N := N__law_signs) (sc := defScope s__law_signs) (by decide +kernel)) (fun _ _ _ _ _ => pg_name (i := 3) sc__law_signs.nd rfl (by first | exact .inl rfl | exact .inr rfl)) (fun _ _ _ _ _ => ts_nil) (fun _ _ _ _ _ => (e_idx (o_var (pv 1)) (e_call G__law_next (hr.mono (by decide)) (by rfl) A__law_next.g A__law_next.F.kp A__law_next.b takes0 (as_s (pv 0) (as_e (e_b1 call_len (hr_len hK) (by rfl) T.f_len (by decide +kernel) (o_var (pv 1))) as_nil)) hc rfl rfl (by decide)) hK)) (by decide) (comp_io hio (by decide)) (hg_name (by rw [hN]; decide) (not_io hio (by decide))))))))
theorem ok__law_title (T : Tx K mg c) {fa : Addr} {fd : FuncData} (A : At K mg "_law_title" s__law_title ["_law_source_here", "_law_first", "_law_signs_here"] fa fd)
    {a__law_next : Addr} {fd__law_next : FuncData} (A__law_next : At K mg "_law_next" s__law_next ["_law_source_here", "_law_many"] a__law_next fd__law_next) (G__law_next : FnOk P w K mg base (L2.CX P w) 2 a__law_next fd__law_next ["_law_source_here", "_law_many"] (spM c 2 [0] F__law_next))
    {a__law_signs : Addr} {fd__law_signs : FuncData} (A__law_signs : At K mg "_law_signs" s__law_signs ["_law_source_here", "_law_signs_here", "_law_many"] a__law_signs fd__law_signs) (G__law_signs : FnOk P w K mg base (L2.CX P w) 3 a__law_signs fd__law_signs ["_law_source_here", "_law_signs_here", "_law_many"] (spM c 3 [0] F__law_signs)) :
    FnOk P w K mg base (L2.CX P w) 4 fa fd ["_law_source_here", "_law_first", "_law_signs_here"] (spM c 3 [0] F__law_title) := by
  refine fn_okD (N := N__law_title) (m := m__law_title) A.F sc__law_title rfl (by decide) (by decide) (by decide) fun g cdv Ar outer s H E hr hc0 hN hio => ?_
  have hc : g.c = c := hc0
  subst hc0
  have hK : K = g.c.K := T.hK.symm
  exact (ss_cons (s_set (ps_set (i := 3) sc__law_title.nd rfl (by first | exact .inl rfl | exact .inr rfl) (e_idx (o_e (e_lst (a_cons e_int (a_cons e_int (a_cons e_int (a_cons e_int (a_cons e_int a_nil))))))) (e_call G__law_next (hr.mono (by decide)) (by rfl) A__law_next.g A__law_next.F.kp A__law_next.b (takes_of rfl rfl rfl rfl) (as_s (pv 0) (as_e e_int as_nil)) hc rfl rfl (by decide)) hK)) (by rw [hN]; decide) (not_io hio (by decide)))
  (ss_one (s_ret (e_add (e_call G__law_signs (hr.mono (by decide)) (by rfl) A__law_signs.g A__law_signs.F.kp A__law_signs.b (takes_of rfl rfl rfl rfl) (as_s (pv 0) (as_e (e_move (pv 1)) (as_e e_int as_nil))) hc rfl rfl (by decide)) (e_call G__law_signs (hr.mono (by decide)) (by rfl) A__law_signs.g A__law_signs.F.kp A__law_signs.b (takes_of rfl rfl rfl rfl) (as_s (pv 0) (as_e (e_add (e_str (by decide +kernel) ⟨by decide, by decide⟩) (e_move (pv 2))) (as_e (e_move (pv 3)) as_nil))) hc rfl rfl (by decide))))))
theorem ok__law_kind (T : Tx K mg c) {fa : Addr} {fd : FuncData} (A : At K mg "_law_kind" s__law_kind ["_law_source_here", "_law_most"] fa fd)
    {a__law_next : Addr} {fd__law_next : FuncData} (A__law_next : At K mg "_law_next" s__law_next ["_law_source_here", "_law_many"] a__law_next fd__law_next) (G__law_next : FnOk P w K mg base (L2.CX P w) 2 a__law_next fd__law_next ["_law_source_here", "_law_many"] (spM c 2 [0] F__law_next))
    {a__law_title : Addr} {fd__law_title : FuncData} (A__law_title : At K mg "_law_title" s__law_title ["_law_source_here", "_law_first", "_law_signs_here"] a__law_title fd__law_title) (G__law_title : FnOk P w K mg base (L2.CX P w) 4 a__law_title fd__law_title ["_law_source_here", "_law_first", "_law_signs_here"] (spM c 3 [0] F__law_title))
    {a__law_signs : Addr} {fd__law_signs : FuncData} (A__law_signs : At K mg "_law_signs" s__law_signs ["_law_source_here", "_law_signs_here", "_law_many"] a__law_signs fd__law_signs) (G__law_signs : FnOk P w K mg base (L2.CX P w) 3 a__law_signs fd__law_signs ["_law_source_here", "_law_signs_here", "_law_many"] (spM c 3 [0] F__law_signs)) :
    FnOk P w K mg base (L2.CX P w) 5 fa fd ["_law_source_here", "_law_most"] (spM c 2 [0] F__law_kind) := by
  refine fn_okD (N := N__law_kind) (m := m__law_kind) A.F sc__law_kind rfl (by decide) (by decide) (by decide) fun g cdv Ar outer s H E hr hc0 hN hio => ?_
  have hc : g.c = c := hc0
  subst hc0
  have hK : K = g.c.K := T.hK.symm
  exact (ss_cons (s_set (ps_set (i := 2) sc__law_kind.nd rfl (by first | exact .inl rfl | exact .inr rfl) (e_lst a_nil)) (by rw [hN]; decide) (not_io hio (by decide)))
  (ss_cons (s_for (passes_of rfl) rfl (i_range1 (by rfl) T.f_range (a_cons (e_call G__law_next (hr.mono (by decide)) (by rfl) A__law_next.g A__law_next.F.kp A__law_next.b (takes_of rfl rfl rfl rfl) (as_s (pv 0) (as_e (e_add (e_var (pv 1)) e_int) as_nil)) hc rfl rfl (by decide)) a_nil)) (g_name (pg_name (i := 3) sc__law_kind.nd rfl (by first | exact .inl rfl | exact .inr rfl)) (by rw [hN]; decide) (not_io hio (by decide)))
  (ss_cons (s_set (ps_set (i := 4) sc__law_kind.nd rfl (by first | exact .inl rfl | exact .inr rfl) (e_call G__law_title (hr.mono (by decide)) (by rfl) A__law_title.g A__law_title.F.kp A__law_title.b (takes_of rfl rfl rfl rfl) (as_s (pv 0) (as_e (e_idx (o_e (e_str (by decide +kernel) ⟨by decide, by decide⟩)) (e_var (pv 3)) hK) (as_e (e_str (by decide +kernel) ⟨by decide, by decide⟩) as_nil))) hc rfl rfl (by decide))) (by rw [hN]; decide) (not_io hio (by decide)))
  (ss_cons (s_set (ps_set (i := 5) sc__law_kind.nd rfl (by first | exact .inl rfl | exact .inr rfl) (e_idx (o_e (e_lst (a_cons (e_str (by decide +kernel) ⟨by decide, by decide⟩) (a_cons (e_str (by decide +kernel) ⟨by decide, by decide⟩) (a_cons (e_str (by decide +kernel) ⟨by decide, by decide⟩) a_nil))))) (e_call G__law_next (hr.mono (by decide)) (by rfl) A__law_next.g A__law_next.F.kp A__law_next.b (takes_of rfl rfl rfl rfl) (as_s (pv 0) (as_e e_int as_nil)) hc rfl rfl (by decide)) hK)) (by rw [hN]; decide) (not_io hio (by decide)))
  (ss_cons (s_set (ps_set (i := 6) sc__law_kind.nd rfl (by first | exact .inl rfl | exact .inr rfl) (e_idx (o_e (e_lst (a_cons e_int (a_cons e_int (a_cons e_int (a_cons e_int (a_cons e_int (a_cons e_int (a_cons e_int (a_cons e_int (a_cons e_int (a_cons (e_call G__law_next (hr.mono (by decide)) (by rfl) A__law_next.g A__law_next.F.kp A__law_next.b (takes_of rfl rfl rfl rfl) (as_s (pv 0) (as_e e_int as_nil)) hc rfl rfl (by decide)) a_nil)))))))))))) (e_call G__law_next (hr.mono (by decide)) (by rfl) A__law_next.g A__law_next.F.kp A__law_next.b (takes_of rfl rfl rfl rfl) (as_s (pv 0) (as_e e_int as_nil)) hc rfl rfl (by decide)) hK)) (by rw [hN]; decide) (not_io hio (by decide)))
  (ss_cons (s_if (PW.pt (w_and (t_cmp (op_eqD hr.units) (hq_eq hK) (o_e (e_call G__law_next (hr.mono (by decide)) (by rfl) A__law_next.g A__law_next.F.kp A__law_next.b (takes_of rfl rfl rfl rfl) (as_s (pv 0) (as_e e_int as_nil)) hc rfl rfl (by decide))) (o_e e_int) (nomark _)) (pw_and1 (t_cmp op_lt hr_int (o_e (e_b1 (cr_sum rfl) (hr_sum hK) (by rfl) T.f_sum (by decide +kernel) (o_e (e_lcI (own := [("_law_one", 7), ("_law_value", 8)]) rfl sc__law_kind.nd hK (by rw [hN]; decide) (not_io hio (by decide)) (pv 2) (blkOk_by (own := [("_law_one", 7), ("_law_value", 8)]) (N := N__law_kind) (sc := defScope s__law_kind) (by decide +kernel)) (fun a => (fun _ _ _ _ _ => pg_tup rfl (pgs_cons (pg_name (i := 7) sc__law_kind.nd rfl (by first | exact .inl rfl | exact .inr rfl)) (pgs_cons (pg_name (i := 8) sc__law_kind.nd rfl (by first | exact .inl rfl | exact .inr rfl)) pgs_nil)))) (fun a => (fun _ _ _ _ _ => ts_nil)) (fun a => (fun _ _ _ _ _ => (e_b1 call_len (hr_len hK) (by rfl) T.f_len (by decide +kernel) (o_var (pv 8))))) (by decide) (fun a => comp_io (si_io hio) (by decide)) (fun a => (hg_pair (by decide) (by show _ < Gh.N g; rw [hN]; decide) (not_io (si_io hio) (by decide)) (by show _ < Gh.N g; rw [hN]; decide) (not_io (si_io hio) (by decide)) hK)))))) (o_e e_int) (nomark _)))))
  (ss_one (s_set (ps_set (i := 6) sc__law_kind.nd rfl (by first | exact .inl rfl | exact .inr rfl) (e_add e_int (e_call G__law_next (hr.mono (by decide)) (by rfl) A__law_next.g A__law_next.F.kp A__law_next.b (takes_of rfl rfl rfl rfl) (as_s (pv 0) (as_e e_int as_nil)) hc rfl rfl (by decide)))) (by rw [hN]; decide) (not_io hio (by decide))))
  ss_nil)
  (ss_one (s_expr (e_app hK (pe_bm PySem.F.plainAttrs_list PySem.F.slot_list_append PySem.F.type_list_append mt_append (pv 2) (a_cons (e_tup (a_cons (e_var (pv 4)) (a_cons (e_call G__law_signs (hr.mono (by decide)) (by rfl) A__law_signs.g A__law_signs.F.kp A__law_signs.b (takes_of rfl rfl rfl rfl) (as_s (pv 0) (as_p (pv 5) (as_p (pv 6) as_nil))) hc rfl rfl (by decide)) a_nil))) a_nil))))))))))
  (ss_one (s_ret (e_tup (a_cons (e_call G__law_title (hr.mono (by decide)) (by rfl) A__law_title.g A__law_title.F.kp A__law_title.b (takes_of rfl rfl rfl rfl) (as_s (pv 0) (as_e (e_str (by decide +kernel) ⟨by decide, by decide⟩) (as_e (e_str (by decide +kernel) ⟨by decide, by decide⟩) as_nil))) hc rfl rfl (by decide)) (a_cons (e_call G__law_title (hr.mono (by decide)) (by rfl) A__law_title.g A__law_title.F.kp A__law_title.b (takes_of rfl rfl rfl rfl) (as_s (pv 0) (as_e (e_str (by decide +kernel) ⟨by decide, by decide⟩) (as_e (e_str (by decide +kernel) ⟨by decide, by decide⟩) as_nil))) hc rfl rfl (by decide)) (a_cons (e_move (pv 2)) a_nil))))))))
theorem ok__law_no_title (T : Tx K mg c) {fa : Addr} {fd : FuncData} (A : At K mg "_law_no_title" s__law_no_title ["_law_source_here", "_law_signs_here"] fa fd)
    {a__law_next : Addr} {fd__law_next : FuncData} (A__law_next : At K mg "_law_next" s__law_next ["_law_source_here", "_law_many"] a__law_next fd__law_next) (G__law_next : FnOk P w K mg base (L2.CX P w) 2 a__law_next fd__law_next ["_law_source_here", "_law_many"] (spM c 2 [0] F__law_next)) :
    FnOk P w K mg base (L2.CX P w) 3 fa fd ["_law_source_here", "_law_signs_here"] (spM c 2 [0] F__law_no_title) := by
  refine fn_okD (N := N__law_no_title) (m := m__law_no_title) A.F sc__law_no_title rfl (by decide) (by decide) (by decide) fun g cdv Ar outer s H E hr hc0 hN hio => ?_
  have hc : g.c = c := hc0
  subst hc0
  have hK : K = g.c.K := T.hK.symm
  exact (ss_cons (s_set (ps_set (i := 2) sc__law_no_title.nd rfl (by first | exact .inl rfl | exact .inr rfl) (e_lst (a_cons (e_str (by decide +kernel) ⟨by decide, by decide⟩) (a_cons (e_mul (e_str (by decide +kernel) ⟨by decide, by decide⟩) e_int) (a_cons (e_str (by decide +kernel) ⟨by decide, by decide⟩) (a_cons (e_str (by decide +kernel) ⟨by decide, by decide⟩) (a_cons (e_str (by decide +kernel) ⟨by decide, by decide⟩) (a_cons (e_str (by decide +kernel) ⟨by decide, by decide⟩) (a_cons (e_str (by decide +kernel) ⟨by decide, by decide⟩) (a_cons (e_str (by decide +kernel) ⟨by decide, by decide⟩) (a_cons (e_str (by decide +kernel) ⟨by decide, by decide⟩) (a_cons (e_str (by decide +kernel) ⟨by decide, by decide⟩) (a_cons (e_str (by decide +kernel) ⟨by decide, by decide⟩) (a_cons (e_str (by decide +kernel) ⟨by decide, by decide⟩) (a_cons (e_str (by decide +kernel) ⟨by decide, by decide⟩) (a_cons e_non (a_cons e_int (a_cons (e_lst (a_cons (e_str (by decide +kernel) ⟨by decide, by decide⟩) a_nil)) (a_cons (e_tup (a_cons (e_str (by decide +kernel) ⟨by decide, by decide⟩) a_nil)) a_nil))))))))))))))))))) (by rw [hN]; decide) (not_io hio (by decide)))
  (ss_one (s_ret (e_idx (o_e (e_add (e_move (pv 2)) (e_var (pv 1)))) (e_call G__law_next (hr.mono (by decide)) (by rfl) A__law_next.g A__law_next.F.kp A__law_next.b (takes_of rfl rfl rfl rfl) (as_s (pv 0) (as_e (e_add e_int (e_b1 call_len (hr_len hK) (by rfl) T.f_len (by decide +kernel) (o_var (pv 1)))) as_nil)) hc rfl rfl (by decide)) hK))))
theorem ok__law_bad (T : Tx K mg c) {fa : Addr} {fd : FuncData} (A : At K mg "_law_bad" s__law_bad ["_law_source_here", "_law_given"] fa fd)
    {a__law_next : Addr} {fd__law_next : FuncData} (A__law_next : At K mg "_law_next" s__law_next ["_law_source_here", "_law_many"] a__law_next fd__law_next) (G__law_next : FnOk P w K mg base (L2.CX P w) 2 a__law_next fd__law_next ["_law_source_here", "_law_many"] (spM c 2 [0] F__law_next))
    {a__law_no_title : Addr} {fd__law_no_title : FuncData} (A__law_no_title : At K mg "_law_no_title" s__law_no_title ["_law_source_here", "_law_signs_here"] a__law_no_title fd__law_no_title) (G__law_no_title : FnOk P w K mg base (L2.CX P w) 3 a__law_no_title fd__law_no_title ["_law_source_here", "_law_signs_here"] (spM c 2 [0] F__law_no_title)) :
    FnOk P w K mg base (L2.CX P w) 4 fa fd ["_law_source_here", "_law_given"] (spM c 2 [0] F__law_bad) := by
  refine fn_okD (N := N__law_bad) (m := m__law_bad) A.F sc__law_bad rfl (by decide) (by decide) (by decide) fun g cdv Ar outer s H E hr hc0 hN hio => ?_
  have hc : g.c = c := hc0
  subst hc0
  have hK : K = g.c.K := T.hK.symm
  exact (ss_cons (s_asg (e_var (pv 1)) (g_tupT rfl (gs_cons (g_name (pg_name (i := 2) sc__law_bad.nd rfl (by first | exact .inl rfl | exact .inr rfl)) (by rw [hN]; decide) (not_io hio (by decide))) (gs_cons (g_name (pg_name (i := 3) sc__law_bad.nd rfl (by first | exact .inl rfl | exact .inr rfl)) (by rw [hN]; decide) (not_io hio (by decide))) (gs_cons (g_name (pg_name (i := 4) sc__law_bad.nd rfl (by first | exact .inl rfl | exact .inr rfl)) (by rw [hN]; decide) (not_io hio (by decide))) gs_nil))) hK))
  (ss_cons (s_set (ps_set (i := 5) sc__law_bad.nd rfl (by first | exact .inl rfl | exact .inr rfl) (e_call G__law_next (hr.mono (by decide)) (by rfl) A__law_next.g A__law_next.F.kp A__law_next.b (takes_of rfl rfl rfl rfl) (as_s (pv 0) (as_e (e_add (e_b1 call_len (hr_len hK) (by rfl) T.f_len (by decide +kernel) (o_var (pv 4))) e_int) as_nil)) hc rfl rfl (by decide))) (by rw [hN]; decide) (not_io hio (by decide)))
  (ss_cons (s_set (ps_set (i := 6) sc__law_bad.nd rfl (by first | exact .inl rfl | exact .inr rfl) (e_call G__law_next (hr.mono (by decide)) (by rfl) A__law_next.g A__law_next.F.kp A__law_next.b (takes_of rfl rfl rfl rfl) (as_s (pv 0) (as_e e_int as_nil)) hc rfl rfl (by decide))) (by rw [hN]; decide) (not_io hio (by decide)))
  (ss_cons (s_if (t_cmp (op_eqD hr.units) (hq_eq hK) (o_var (pv 6)) (o_e e_int) (nomark _))
  (ss_one (s_ret (e_tup (a_cons (e_call G__law_no_title (hr.mono (by decide)) (by rfl) A__law_no_title.g A__law_no_title.F.kp A__law_no_title.b (takes_of rfl rfl rfl rfl) (as_s (pv 0) (as_e (e_lst a_nil) as_nil)) hc rfl rfl (by decide)) (a_cons (e_move (pv 3)) (a_cons (e_move (pv 4)) a_nil))))))
  ss_nil)
  (ss_cons (s_if (t_cmp (op_eqD hr.units) (hq_eq hK) (o_var (pv 6)) (o_e e_int) (nomark _))
  (ss_one (s_ret (e_tup (a_cons (e_move (pv 2)) (a_cons (e_call G__law_no_title (hr.mono (by decide)) (by rfl) A__law_no_title.g A__law_no_title.F.kp A__law_no_title.b (takes_of rfl rfl rfl rfl) (as_s (pv 0) (as_e (e_lst a_nil) as_nil)) hc rfl rfl (by decide)) (a_cons (e_move (pv 4)) a_nil))))))
  ss_nil)
  (ss_cons (s_if (t_cmp (op_eqD hr.units) (hq_eq hK) (o_var (pv 6)) (o_e e_int) (nomark _))
  (ss_one (s_ret (e_tup (a_cons (e_move (pv 2)) (a_cons (e_move (pv 3)) (a_cons (e_add (e_add (e_slc (o_var (pv 4)) p_none (p_some (e_var (pv 5))) hK.symm.symm) (e_lst (a_cons (e_tup (a_cons (e_call G__law_no_title (hr.mono (by decide)) (by rfl) A__law_no_title.g A__law_no_title.F.kp A__law_no_title.b (takes_of rfl rfl rfl rfl) (as_s (pv 0) (as_e (e_lst (a_cons (e_str (by decide +kernel) ⟨by decide, by decide⟩) a_nil)) as_nil)) hc rfl rfl (by decide)) (a_cons (e_str (by decide +kernel) ⟨by decide, by decide⟩) a_nil))) a_nil))) (e_slc (o_var (pv 4)) (p_some (e_var (pv 5))) p_none hK.symm.symm)) a_nil))))))
  ss_nil)
  (ss_cons (s_if (t_cmp (op_eqD hr.units) (hq_eq hK) (o_var (pv 6)) (o_e e_int) (nomark _))
  (ss_cons (s_set (ps_set (i := 7) sc__law_bad.nd rfl (by first | exact .inl rfl | exact .inr rfl) (e_idx (o_e (e_lst (a_cons e_non (a_cons (e_str (by decide +kernel) ⟨by decide, by decide⟩) (a_cons e_int (a_cons (e_lst (a_cons (e_str (by decide +kernel) ⟨by decide, by decide⟩) a_nil)) (a_cons (e_tup (a_cons (e_str (by decide +kernel) ⟨by decide, by decide⟩) a_nil)) (a_cons e_bl a_nil)))))))) (e_call G__law_next (hr.mono (by decide)) (by rfl) A__law_next.g A__law_next.F.kp A__law_next.b (takes_of rfl rfl rfl rfl) (as_s (pv 0) (as_e e_int as_nil)) hc rfl rfl (by decide)) hK)) (by rw [hN]; decide) (not_io hio (by decide)))
  (ss_one (s_ret (e_tup (a_cons (e_move (pv 2)) (a_cons (e_move (pv 3)) (a_cons (e_add (e_add (e_slc (o_var (pv 4)) p_none (p_some (e_var (pv 5))) hK.symm.symm) (e_lst (a_cons (e_tup (a_cons (e_str (by decide +kernel) ⟨by decide, by decide⟩) (a_cons (e_move (pv 7)) a_nil))) a_nil))) (e_slc (o_var (pv 4)) (p_some (e_var (pv 5))) p_none hK.symm.symm)) a_nil)))))))
  ss_nil)
  (ss_cons (s_if (t_cmp (op_eqD hr.units) (hq_eq hK) (o_var (pv 6)) (o_e e_int) (nomark _))
  (ss_one (s_ret (e_tup (a_cons (e_move (pv 2)) (a_cons (e_move (pv 3)) (a_cons (e_add (e_add (e_add (e_slc (o_var (pv 4)) p_none (p_some (e_var (pv 5))) hK.symm.symm) (e_lst (a_cons (e_tup (a_cons (e_str (by decide +kernel) ⟨by decide, by decide⟩) (a_cons (e_str (by decide +kernel) ⟨by decide, by decide⟩) a_nil))) a_nil))) (e_slc (o_var (pv 4)) (p_some (e_var (pv 5))) p_none hK.symm.symm)) (e_lst (a_cons (e_tup (a_cons (e_str (by decide +kernel) ⟨by decide, by decide⟩) (a_cons (e_str (by decide +kernel) ⟨by decide, by decide⟩) a_nil))) a_nil))) a_nil))))))
  ss_nil)
  (ss_cons (s_if (t_cmp (op_eqD hr.units) (hq_eq hK) (o_var (pv 6)) (o_e e_int) (nomark _))
  (ss_cons (s_set (ps_set (i := 8) sc__law_bad.nd rfl (by first | exact .inl rfl | exact .inr rfl) (e_idx (o_e (e_lst (a_cons (e_lst (a_cons (e_str (by decide +kernel) ⟨by decide, by decide⟩) (a_cons (e_str (by decide +kernel) ⟨by decide, by decide⟩) a_nil))) (a_cons (e_tup (a_cons (e_str (by decide +kernel) ⟨by decide, by decide⟩) a_nil)) (a_cons (e_tup (a_cons (e_str (by decide +kernel) ⟨by decide, by decide⟩) (a_cons (e_str (by decide +kernel) ⟨by decide, by decide⟩) (a_cons (e_str (by decide +kernel) ⟨by decide, by decide⟩) a_nil)))) (a_cons e_non (a_cons (e_str (by decide +kernel) ⟨by decide, by decide⟩) (a_cons (e_tup a_nil) a_nil)))))))) (e_call G__law_next (hr.mono (by decide)) (by rfl) A__law_next.g A__law_next.F.kp A__law_next.b (takes_of rfl rfl rfl rfl) (as_s (pv 0) (as_e e_int as_nil)) hc rfl rfl (by decide)) hK)) (by rw [hN]; decide) (not_io hio (by decide)))
  (ss_one (s_ret (e_tup (a_cons (e_move (pv 2)) (a_cons (e_move (pv 3)) (a_cons (e_add (e_add (e_slc (o_var (pv 4)) p_none (p_some (e_var (pv 5))) hK.symm.symm) (e_lst (a_cons (e_move (pv 8)) a_nil))) (e_slc (o_var (pv 4)) (p_some (e_var (pv 5))) p_none hK.symm.symm)) a_nil)))))))
  ss_nil)
  (ss_cons (s_set (ps_set (i := 9) sc__law_bad.nd rfl (by first | exact .inl rfl | exact .inr rfl) (e_lst (a_cons (e_lst (a_cons (e_var (pv 2)) (a_cons (e_var (pv 3)) (a_cons (e_var (pv 4)) a_nil)))) (a_cons (e_tup (a_cons (e_var (pv 2)) (a_cons (e_var (pv 3)) a_nil))) (a_cons (e_tup (a_cons (e_var (pv 2)) (a_cons (e_var (pv 3)) (a_cons (e_var (pv 4)) (a_cons (e_var (pv 4)) a_nil))))) (a_cons (e_tup (a_cons (e_var (pv 2)) (a_cons (e_var (pv 3)) (a_cons (e_tuple hK.symm.symm (by rfl) T.f_tuple (o_var (pv 4))) a_nil)))) (a_cons e_non (a_cons (e_str (by decide +kernel) ⟨by decide, by decide⟩) a_nil)))))))) (by rw [hN]; decide) (not_io hio (by decide)))
  (ss_one (s_ret (e_idx (o_e (e_add (e_move (pv 9)) (e_lst (a_cons (e_tup (a_cons (e_var (pv 2)) (a_cons (e_var (pv 3)) (a_cons e_non a_nil)))) (a_cons (e_tup (a_cons (e_var (pv 2)) (a_cons (e_var (pv 3)) (a_cons (e_dictP rfl hK (by rfl) T.f_dict (by decide +kernel) (e_move (pv 4))) a_nil)))) (a_cons (e_tup a_nil) (a_cons (e_var (pv 2)) a_nil))))))) (e_call G__law_next (hr.mono (by decide)) (by rfl) A__law_next.g A__law_next.F.kp A__law_next.b (takes_of rfl rfl rfl rfl) (as_s (pv 0) (as_e e_int as_nil)) hc rfl rfl (by decide)) hK)))))))))))))
theorem wg__law_word {X : Cx} (T : Tx K mg c) (hr0 : Room 2 X.A) {gf : Addr} {q : Str} (cdg : Value) (hXp : X.K = K := by rfl) (hXm : X.mg = mg := by rfl) : LamX.GivesTo X N__law_word "_law_word" (defScope s__law_word) gf cdg (defBody s__law_word) "_law_ask" q (TTw c W__law_word) := by
  obtain ⟨Xprog, Xw, XK, Xmg, Xbase, XA, XN, Xs0, XH0, Xenv, Xouter, Xstack, Xex, Xfn, Xcalm, Xpn, Xxe⟩ := X
  simp only at hXp hXm hr0
  subst hXp hXm
  refine word_gives (N := 2) (i := 1) (n := "e") (e := "LetterError") (Dn := "LetterError") (exm := exm_) (ρ0 := _) rfl sc__law_word.nd rfl (by rfl) (by decide) (fun _ => rfl) (by rfl) (by decide) T.g_LetterError (fun _ _ h => T.xt.exm' h) rfl rfl (fun s H u h => pre_nil h) ?_ ?_
  · refine fun s H a1 oe cls d pn hz1 hf1 x1 g hg hx1 => ?_
    · have hio : g.io.map (·.1) = [] := by rw [hg.2.2]; rfl
      obtain ⟨hc0, hN, _⟩ := hg
      have hc : g.c = c := hc0
      subst hc0
      have hK : XK = g.c.K := T.hK.symm
      have hr := hr0.deeper (envOfC "_law_word" (defScope s__law_word) s.heap.objs.size gf cdg)
      exact (ss_cons (s_if (PW.pt (w_and (t_val (e_isX hz1 hf1 hx1.1 (T.xt.c _ (exT_all hx1.2).1) (fun _ h => T.xt.kit' h) T.f_isinstance (by rfl) T.g_NoKind (pv 1))) (pw_and1 (t_not (t_val (e_isXT (PAC.cons (by rfl) T.g_NoWords (by decide) (by rfl) (PAC.cons (by rfl) T.g_NoAddress (by decide) (by rfl) (PAC.cons (by rfl) T.g_NoHead (by decide) (by rfl) (PAC.cons (by rfl) T.g_NoPart (by decide) (by rfl) PAC.nil)))) hz1 hf1 hx1.1 (T.xt.c _ (exT_all hx1.2).1) (fun _ _ h => T.xt.kit' h) (by decide) T.f_isinstance (pv 1)))))))
  (ss_one (s_ret (e_tup (a_cons (e_str (by decide +kernel) ⟨by decide, by decide⟩) (a_cons (e_xf hz1 hf1 hx1.1 (T.xt.c _ (exT_all hx1.2).1).xf (T.xt.c _ (exT_all hx1.2).1).nA (by rfl) (pv 1)) a_nil)))))
  ss_nil)
  (ss_one (s_ret (e_idx (o_e (e_lst (a_cons (e_str (by decide +kernel) ⟨by decide, by decide⟩) (a_cons (e_str (by decide +kernel) ⟨by decide, by decide⟩) a_nil)))) (e_t1 call_intC hr_intC (by rfl) T.f_int (by decide +kernel) (o_e (e_and (e_isX hz1 hf1 hx1.1 (T.xt.c _ (exT_all hx1.2).1) (fun _ h => T.xt.kit' h) T.f_isinstance (by rfl) T.g_NoPart (pv 1)) (pe_one (e_not (e_isX hz1 hf1 hx1.1 (T.xt.c _ (exT_all hx1.2).1) (fun _ h => T.xt.kit' h) T.f_isinstance (by rfl) T.g_NoKind (pv 1))))))) hK))))
  · refine fun s H g hg => ?_
    · have hio : g.io.map (·.1) = [] := by rw [hg.2.2]; rfl
      obtain ⟨hc0, hN, _⟩ := hg
      have hc : g.c = c := hc0
      subst hc0
      have hK : XK = g.c.K := T.hK.symm
      have hr := hr0.deeper (envOfC "_law_word" (defScope s__law_word) s.heap.objs.size gf cdg)
      exact (ss_one (s_ret (e_str (by decide +kernel) ⟨by decide, by decide⟩)))
theorem ok_Leaf____init__ (T : Tx K mg c) {fa : Addr} {fd : FuncData} (A : AtK K c "Leaf" "Leaf.__init__" s_Leaf____init__ kw_Leaf____init__ fa fd)
    {a_needed : Addr} {fd_needed : FuncData} (A_needed : At K mg "needed" s_needed ["truth"] a_needed fd_needed) (G_needed : FnOk P w K mg base (L2.CX P w) 1 a_needed fd_needed ["truth"] (spM c 1 [] F_needed))
    {a_checked_kind : Addr} {fd_checked_kind : FuncData} (A_checked_kind : At K mg "checked_kind" s_checked_kind ["kind"] a_checked_kind fd_checked_kind) (G_checked_kind : FnOk P w K mg base (L2.CX P w) 6 a_checked_kind fd_checked_kind ["kind"] (spM c 1 [] F_checked_kind))
    {a_checked_code : Addr} {fd_checked_code : FuncData} (A_checked_code : At K mg "checked_code" s_checked_code ["octets", "code"] a_checked_code fd_checked_code) (G_checked_code : FnOk P w K mg base (L2.CX P w) 6 a_checked_code fd_checked_code ["octets", "code"] (spM c 2 [] F_checked_code))
    {a_checked_heads : Addr} {fd_checked_heads : FuncData} (A_checked_heads : At K mg "checked_heads" s_checked_heads ["heads"] a_checked_heads fd_checked_heads) (G_checked_heads : FnOk P w K mg base (L2.CX P w) 4 a_checked_heads fd_checked_heads ["heads"] (spM c 1 [] F_checked_heads))
    {a_is_octets : Addr} {fd_is_octets : FuncData} (A_is_octets : At K mg "is_octets" s_is_octets ["thing"] a_is_octets fd_is_octets) (G_is_octets : FnOk P w K mg base (L2.CX P w) 3 a_is_octets fd_is_octets ["thing"] (spM c 1 [] F_is_octets)) :
    FnOk P w K mg base (L2.CX P w) 7 fa fd ["self", "octets", "kind", "code", "heads"] (spM c 5 [0] F_Leaf____init__) := by
  refine fn_okD (N := N_Leaf____init__) (m := m_Leaf____init__) A.F sc_Leaf____init__ rfl (by decide) (by decide) (by decide) fun g cdv Ar outer s H E hr hc0 hN hio => ?_
  have hc : g.c = c := hc0
  subst hc0
  have hK : K = g.c.K := T.hK.symm
  exact (ss_cons (s_expr (e_call G_needed (hr.mono (by decide)) (by rfl) A_needed.g A_needed.F.kp A_needed.b (takes_of rfl rfl rfl rfl) (as_e (e_call G_is_octets (hr.mono (by decide)) (by rfl) A_is_octets.g A_is_octets.F.kp A_is_octets.b (takes_of rfl rfl rfl rfl) (as_p (pv 1) as_nil) hc rfl rfl (by decide)) as_nil) hc rfl rfl (by decide)))
  (ss_cons (s_if (t_cmp op_isN hr_isN (o_var (pv 2)) (o_e e_non) (nomark _))
  (ss_one (s_set (ps_set (i := 2) sc_Leaf____init__.nd rfl (by first | exact .inl rfl | exact .inr rfl) (e_tup (a_cons (e_str (by decide +kernel) ⟨by decide, by decide⟩) (a_cons (e_str (by decide +kernel) ⟨by decide, by decide⟩) (a_cons (e_lst a_nil) a_nil))))) (by rw [hN]; decide) (not_io hio (by decide))))
  ss_nil)
  (ss_cons (s_setF T.cl_Leaf (T.na_Leaf _ (by decide)) (ps_fld (pv 0) (e_call G_checked_kind (hr.mono (by decide)) (by rfl) A_checked_kind.g A_checked_kind.F.kp A_checked_kind.b (takes_of rfl rfl rfl rfl) (as_p (pv 2) as_nil) hc rfl rfl (by decide)) (by rfl)))
  (ss_cons (s_expr (e_call G_needed (hr.mono (by decide)) (by rfl) A_needed.g A_needed.F.kp A_needed.b (takes_of rfl rfl rfl rfl) (as_e (e_cmp (OpR.or op_notin_str op_notIn_seq) (hq_notin hK) (o_e (e_idxF T.cl_Leaf (T.na_Leaf _ (by decide)) hK (pe_fld (pv 0) rfl) e_int)) (o_e (e_gT hK l_GREATER rfl T.c_GREATER)) (by rfl)) as_nil) hc rfl rfl (by decide)))
  (ss_cons (s_setF T.cl_Leaf (T.na_Leaf _ (by decide)) (ps_fld (pv 0) (e_list hK (by rfl) T.f_list (o_var (pv 1))) (by rfl)))
  (ss_cons (s_setF T.cl_Leaf (T.na_Leaf _ (by decide)) (ps_fld (pv 0) (e_call G_checked_code (hr.mono (by decide)) (by rfl) A_checked_code.g A_checked_code.F.kp A_checked_code.b (takes_of rfl rfl rfl rfl) (as_p (pv 1) (as_p (pv 3) as_nil)) hc rfl rfl (by decide)) (by rfl)))
  (ss_one (s_setF T.cl_Leaf (T.na_Leaf _ (by decide)) (ps_fld (pv 0) (e_call G_checked_heads (hr.mono (by decide)) (by rfl) A_checked_heads.g A_checked_heads.F.kp A_checked_heads.b (takes_of rfl rfl rfl rfl) (as_p (pv 4) as_nil) hc rfl rfl (by decide)) (by rfl))))))))))
theorem ok_law (T : Tx K mg c) {fd : FuncData} (A : At K mg "law" s_law ["_law_script"] (He.fAd K ("law", none)) fd) (TB : LamX.TabB base mg (He.cT K ("law", none)).1 (He.cT K ("law", none)).2) (hmT : ((He.cT K ("law", none)).2, (("law" : Str) ++ (".<locals>." : Str)) ++ ("<lambda>" : Str)) ∈ c.tb) (hu : ∀ p ∈ c.tb, p.1 = (He.cT K ("law", none)).2 → p.2 = (("law" : Str) ++ (".<locals>." : Str)) ++ ("<lambda>" : Str))
    {a_Leaf____init__ : Addr} (M_Leaf : Mk K (c.cls "Leaf") a_Leaf____init__)
    {a__law_source : Addr} {fd__law_source : FuncData} (A__law_source : At K mg "_law_source" s__law_source ["_law_script", "_law_k"] a__law_source fd__law_source) (G__law_source : FnOk P w K mg base (L2.CX P w) 2 a__law_source fd__law_source ["_law_script", "_law_k"] (spM c 2 [] F__law_source))
    {a__law_kind : Addr} {fd__law_kind : FuncData} (A__law_kind : At K mg "_law_kind" s__law_kind ["_law_source_here", "_law_most"] a__law_kind fd__law_kind) (G__law_kind : FnOk P w K mg base (L2.CX P w) 5 a__law_kind fd__law_kind ["_law_source_here", "_law_most"] (spM c 2 [0] F__law_kind))
    {a__law_bad : Addr} {fd__law_bad : FuncData} (A__law_bad : At K mg "_law_bad" s__law_bad ["_law_source_here", "_law_given"] a__law_bad fd__law_bad) (G__law_bad : FnOk P w K mg base (L2.CX P w) 4 a__law_bad fd__law_bad ["_law_source_here", "_law_given"] (spM c 2 [0] F__law_bad))
    {a__law_word : Addr} {fd__law_word : FuncData} (A__law_word : At K mg "_law_word" s__law_word ["_law_ask"] a__law_word fd__law_word)
    {a__law_next : Addr} {fd__law_next : FuncData} (A__law_next : At K mg "_law_next" s__law_next ["_law_source_here", "_law_many"] a__law_next fd__law_next) (G__law_next : FnOk P w K mg base (L2.CX P w) 2 a__law_next fd__law_next ["_law_source_here", "_law_many"] (spM c 2 [0] F__law_next))
    {fd_Leaf____init__ : FuncData} (A_Leaf____init__ : AtK K c "Leaf" "Leaf.__init__" s_Leaf____init__ kw_Leaf____init__ a_Leaf____init__ fd_Leaf____init__) (G_Leaf____init__ : FnOk P w K mg base (L2.CX P w) 7 a_Leaf____init__ fd_Leaf____init__ ["self", "octets", "kind", "code", "heads"] (spM c 5 [0] F_Leaf____init__))
    {a_show_kind : Addr} {fd_show_kind : FuncData} (A_show_kind : At K mg "show_kind" s_show_kind ["kind"] a_show_kind fd_show_kind) (G_show_kind : FnOk P w K mg base (L2.CX P w) 5 a_show_kind fd_show_kind ["kind"] (spM c 1 [] F_show_kind)) :
    RunAt callerA P w K mg base (He.fAd K ("law", none)) fd ["_law_script"] (spM c 1 [] F_law) := by
  refine run_atL (q := ("law", none)) (N := N_law) (m := m_law) (k := 10) A.F sc_law rfl (by decide) (by decide) (by decide) ⟨rfl, by decide, by decide⟩ fun g cdv outer s H E hr hc0 hN hio hcode => ?_
  have hc : g.c = c := hc0
  subst hc0
  have hK : K = g.c.K := T.hK.symm
  exact (ss_cons (s_for (passes_of rfl) rfl (i_range1 (by rfl) T.f_range (a_cons (e_b2 (call_max2 rfl) (by rfl) T.f_max (by decide +kernel) (a_cons e_int (a_cons (e_b2 (call_min2 rfl) (by rfl) T.f_min (by decide +kernel) (a_cons e_int (a_cons (e_b1 call_len (hr_len hK) (by rfl) T.f_len (by decide +kernel) (o_var (pv 0))) a_nil)) br_min) a_nil)) br_max) a_nil)) (g_name (pg_name (i := 1) sc_law.nd rfl (by first | exact .inl rfl | exact .inr rfl)) (by rw [hN]; decide) (not_io hio (by decide)))
  (ss_cons (s_set (ps_set (i := 2) sc_law.nd rfl (by first | exact .inl rfl | exact .inr rfl) (e_call G__law_source (hr.mono (by decide)) (by rfl) A__law_source.g A__law_source.F.kp A__law_source.b (takes_of rfl rfl rfl rfl) (as_p (pv 0) (as_p (pv 1) as_nil)) hc rfl rfl (by decide))) (by rw [hN]; decide) (not_io hio (by decide)))
  (ss_cons (s_set (ps_set (i := 3) sc_law.nd rfl (by first | exact .inl rfl | exact .inr rfl) (e_call G__law_kind (hr.mono (by decide)) (by rfl) A__law_kind.g A__law_kind.F.kp A__law_kind.b (takes_of rfl rfl rfl rfl) (as_s (pv 2) (as_e e_int as_nil)) hc rfl rfl (by decide))) (by rw [hN]; decide) (not_io hio (by decide)))
  (ss_cons (s_set (ps_set (i := 4) sc_law.nd rfl (by first | exact .inl rfl | exact .inr rfl) (e_b1 (call_repr rfl hr.units) (hr_repr hK) (by rfl) T.f_repr (by decide +kernel) (o_var (pv 3)))) (by rw [hN]; decide) (not_io hio (by decide)))
  (ss_cons (s_set (ps_set (i := 5) sc_law.nd rfl (by first | exact .inl rfl | exact .inr rfl) (e_call G__law_bad (hr.mono (by decide)) (by rfl) A__law_bad.g A__law_bad.F.kp A__law_bad.b (takes_of rfl rfl rfl rfl) (as_s (pv 2) (as_p (pv 3) as_nil)) hc rfl rfl (by decide))) (by rw [hN]; decide) (not_io hio (by decide)))
  (ss_cons (s_if (t_cmp (op_neD hr.units) (hq_ne hK) (o_e (e_lam (k := 5) (p := _) A__law_word (by rfl) sc__law_word rfl (.inl rfl) hc (fun cdg => wg__law_word T (hr.mono (by decide)) cdg) TB hcode hmT hu (hr.mono (by decide)) (LamX.lamS_by rfl) rfl (fun _ _ _ _ _ => rfl)
  (fun _ _ _ _ _ _ _ hr g2 hg => have hc := hg.1; have hK : K = g2.c.K := (by rw [hg.1]; exact hK); have hN := hg.2.trans hN; (e_call G_show_kind (hr.mono (by decide)) (by rfl) A_show_kind.g A_show_kind.F.kp A_show_kind.b (takes_of rfl rfl rfl rfl) (as_p (pv 3) as_nil) hc rfl rfl (by decide))))) (o_e (e_str (by decide +kernel) ⟨by decide, by decide⟩)) (nomark _))
  (ss_one (s_ret e_bl))
  ss_nil)
  (ss_cons (s_if (t_cmp (op_neD hr.units) (hq_ne hK) (o_e (e_lam (k := 8) (p := _) A__law_word (by rfl) sc__law_word rfl (.inl rfl) hc (fun cdg => wg__law_word T (hr.mono (by decide)) cdg) TB hcode hmT hu (hr.mono (by decide)) (LamX.lamS_by rfl) rfl (fun _ _ _ _ _ => rfl)
  (fun _ _ _ _ _ _ _ hr g2 hg => have hc := hg.1; have hK : K = g2.c.K := (by rw [hg.1]; exact hK); have hN := hg.2.trans hN; (e_newK (n := 1) (np := 5) (by rw [hg.1]; exact M_Leaf) G_Leaf____init__ (hr.mono (by decide)) (kbS A_Leaf____init__.F 2 ["kind"] [(("code" : Str), V.non), (("heads" : Str), V.non)] [(0, 0), (2, 0), (1, 0), (1, 1)] [.non, .non] (by simp [kw_Leaf____init__]) (by simp [kw_Leaf____init__]) rfl fun D doc pm an cdv ct us mv ws l1 l2 l3 => match us, mv, ws, l1, l2, l3 with | [u0, u1], [m0, m1], [w0], _, _, _ => ⟨_, _, _, _, _, _, rfl, rfl, ⟨_, _, _, _, _, _, rfl, rfl, rfl⟩⟩) (takes_of rfl rfl rfl rfl) (by rfl) (by rw [hg.1]; exact T.gC_Leaf) (a_cons (e_lst a_nil) a_nil) (k_cons (e_var (pv 3)) k_nil) hc rfl rfl (by simp [Sc.good]) (fun a b c h1 h2 h3 => match a, b, c, h1, h2, h3 with | [_], [_, _], [_], _, _, _ => rfl))))) (o_e (e_str (by decide +kernel) ⟨by decide, by decide⟩)) (nomark _))
  (ss_one (s_ret e_bl))
  ss_nil)
  (ss_cons (s_if (t_cmp (op_neD hr.units) (hq_ne hK) (o_e (e_lam (k := 5) (p := _) A__law_word (by rfl) sc__law_word rfl (.inl rfl) hc (fun cdg => wg__law_word T (hr.mono (by decide)) cdg) TB hcode hmT hu (hr.mono (by decide)) (LamX.lamS_by rfl) rfl (fun _ _ _ _ _ => rfl)
  (fun _ _ _ _ _ _ _ hr g2 hg => have hc := hg.1; have hK : K = g2.c.K := (by rw [hg.1]; exact hK); have hN := hg.2.trans hN; (e_call G_show_kind (hr.mono (by decide)) (by rfl) A_show_kind.g A_show_kind.F.kp A_show_kind.b (takes_of rfl rfl rfl rfl) (as_p (pv 5) as_nil) hc rfl rfl (by decide))))) (o_e (e_tup (a_cons (e_str (by decide +kernel) ⟨by decide, by decide⟩) (a_cons e_int a_nil)))) (nomark _))
  (ss_one (s_ret e_bl))
  ss_nil)
  (ss_cons (s_if (PW.pt (w_and (t_cmp op_notN hr_notN (o_var (pv 5)) (o_e e_non) (nomark _)) (pw_and1 (t_cmp (op_neD hr.units) (hq_ne hK) (o_e (e_lam (k := 8) (p := _) A__law_word (by rfl) sc__law_word rfl (.inl rfl) hc (fun cdg => wg__law_word T (hr.mono (by decide)) cdg) TB hcode hmT hu (hr.mono (by decide)) (LamX.lamS_by rfl) rfl (fun _ _ _ _ _ => rfl)
  (fun _ _ _ _ _ _ _ hr g2 hg => have hc := hg.1; have hK : K = g2.c.K := (by rw [hg.1]; exact hK); have hN := hg.2.trans hN; (e_newK (n := 1) (np := 5) (by rw [hg.1]; exact M_Leaf) G_Leaf____init__ (hr.mono (by decide)) (kbS A_Leaf____init__.F 2 ["kind"] [(("code" : Str), V.non), (("heads" : Str), V.non)] [(0, 0), (2, 0), (1, 0), (1, 1)] [.non, .non] (by simp [kw_Leaf____init__]) (by simp [kw_Leaf____init__]) rfl fun D doc pm an cdv ct us mv ws l1 l2 l3 => match us, mv, ws, l1, l2, l3 with | [u0, u1], [m0, m1], [w0], _, _, _ => ⟨_, _, _, _, _, _, rfl, rfl, ⟨_, _, _, _, _, _, rfl, rfl, rfl⟩⟩) (takes_of rfl rfl rfl rfl) (by rfl) (by rw [hg.1]; exact T.gC_Leaf) (a_cons (e_lst a_nil) a_nil) (k_cons (e_var (pv 5)) k_nil) hc rfl rfl (by simp [Sc.good]) (fun a b c h1 h2 h3 => match a, b, c, h1, h2, h3 with | [_], [_, _], [_], _, _, _ => rfl))))) (o_e (e_str (by decide +kernel) ⟨by decide, by decide⟩)) (nomark _)))))
  (ss_one (s_ret e_bl))
  ss_nil)
  (ss_cons (s_set (ps_set (i := 6) sc_law.nd rfl (by first | exact .inl rfl | exact .inr rfl) (e_idx (o_e (e_lst (a_cons (e_str (by decide +kernel) ⟨by decide, by decide⟩) (a_cons (e_str (by decide +kernel) ⟨by decide, by decide⟩) a_nil)))) (e_call G__law_next (hr.mono (by decide)) (by rfl) A__law_next.g A__law_next.F.kp A__law_next.b (takes_of rfl rfl rfl rfl) (as_s (pv 2) (as_e e_int as_nil)) hc rfl rfl (by decide)) hK)) (by rw [hN]; decide) (not_io hio (by decide)))
  (ss_cons (s_if (PW.pt (w_or (t_cmp (op_neD hr.units) (hq_ne hK) (o_e (e_lam (k := 5) (p := _) A__law_word (by rfl) sc__law_word rfl (.inl rfl) hc (fun cdg => wg__law_word T (hr.mono (by decide)) cdg) TB hcode hmT hu (hr.mono (by decide)) (LamX.lamS_by rfl) rfl (fun _ _ _ _ _ => rfl)
  (fun _ _ _ _ _ _ _ hr g2 hg => have hc := hg.1; have hK : K = g2.c.K := (by rw [hg.1]; exact hK); have hN := hg.2.trans hN; (e_call G_show_kind (hr.mono (by decide)) (by rfl) A_show_kind.g A_show_kind.F.kp A_show_kind.b (takes_of rfl rfl rfl rfl) (as_e (e_tup (a_cons (e_var (pv 6)) (a_cons (e_str (by decide +kernel) ⟨by decide, by decide⟩) (a_cons (e_lst a_nil) a_nil)))) as_nil) hc rfl rfl (by decide))))) (o_e (e_str (by decide +kernel) ⟨by decide, by decide⟩)) (nomark _)) (pw_or1 (t_cmp (op_neD hr.units) (hq_ne hK) (o_e (e_b1 (call_repr rfl hr.units) (hr_repr hK) (by rfl) T.f_repr (by decide +kernel) (o_var (pv 3)))) (o_var (pv 4)) (nomark _)))))
  (ss_one (s_ret e_bl))
  ss_nil)
  (ss_one (s_if (t_cmp (op_neD hr.units) (hq_ne hK) (o_e (e_lam (k := 8) (p := _) A__law_word (by rfl) sc__law_word rfl (.inl rfl) hc (fun cdg => wg__law_word T (hr.mono (by decide)) cdg) TB hcode hmT hu (hr.mono (by decide)) (LamX.lamS_by rfl) rfl (fun _ _ _ _ _ => rfl)
  (fun _ _ _ _ _ _ _ hr g2 hg => have hc := hg.1; have hK : K = g2.c.K := (by rw [hg.1]; exact hK); have hN := hg.2.trans hN; (e_newK (n := 1) (np := 5) (by rw [hg.1]; exact M_Leaf) G_Leaf____init__ (hr.mono (by decide)) (kbS A_Leaf____init__.F 2 ["kind"] [(("code" : Str), V.non), (("heads" : Str), V.non)] [(0, 0), (2, 0), (1, 0), (1, 1)] [.non, .non] (by simp [kw_Leaf____init__]) (by simp [kw_Leaf____init__]) rfl fun D doc pm an cdv ct us mv ws l1 l2 l3 => match us, mv, ws, l1, l2, l3 with | [u0, u1], [m0, m1], [w0], _, _, _ => ⟨_, _, _, _, _, _, rfl, rfl, ⟨_, _, _, _, _, _, rfl, rfl, rfl⟩⟩) (takes_of rfl rfl rfl rfl) (by rfl) (by rw [hg.1]; exact T.gC_Leaf) (a_cons (e_lst a_nil) a_nil) (k_cons (e_tup (a_cons (e_var (pv 6)) (a_cons (e_str (by decide +kernel) ⟨by decide, by decide⟩) (a_cons (e_lst a_nil) a_nil)))) k_nil) hc rfl rfl (by simp [Sc.good]) (fun a b c h1 h2 h3 => match a, b, c, h1, h2, h3 with | [_], [_, _], [_], _, _, _ => rfl))))) (o_e (e_str (by decide +kernel) ⟨by decide, by decide⟩)) (nomark _))
  (ss_one (s_ret e_bl))
  ss_nil)))))))))))))
  (ss_one (s_ret e_bl)))
end
end K34


namespace K34
open VS L2
theorem cell_ok (o : Ow) (ns : List Int) (k : Nat) : ∃ i : Int, F__law_cell_at [.lst o (ns.map D.int), .int k] = .ok (.int i) [] := by
  by_cases h : k < ns.length
  · refine ⟨ns[k], ?_⟩
    simp [F__law_cell_at, m__law_cell_at, h, atI_nn]
  · refine ⟨0, ?_⟩
    simp [F__law_cell_at, m__law_cell_at, h]
theorem mixed_ok (i k : Int) : ∃ r : Int, 0 ≤ r ∧ r < 2147483563 ∧ F__law_mixed [.int i, .int k] = .ok (.int r) [] := by
  have q1 : ∀ e : Int, (e % 2147483629).natAbs < 18446744073709551616 := by omega
  have q2 : ∀ e : Int, (e % 2147483587).natAbs < 18446744073709551616 := by omega
  refine ⟨_, ?_, ?_, by
    simp [F__law_mixed, m__law_mixed, q1, q2]
    rfl⟩
  · omega
  · omega
/-- a source of draws -/
def encS (s : Int × Int × Int) : D := .lst .own [.int s.1, .int s.2.1, .int s.2.2]
theorem source_ok (o : Ow) (ns : List Int) (k : Nat) : ∃ s, F__law_source [.lst o (ns.map D.int), .int k] = .ok (encS s) [] := by
  by_cases h : k < ns.length
  · refine ⟨(ns[k], ns[k], 0), ?_⟩
    cases o <;> simp [F__law_source, m__law_source, h, atI_nn, encS]
  · obtain ⟨i, hi⟩ := cell_ok (if o = .own then .shr else o) ns 0
    obtain ⟨r, h1, h2, hr⟩ := mixed_ok i (1000 + k)
    refine ⟨(r, r, 0), ?_⟩
    cases o <;> simp at hi <;> simp [F__law_source, m__law_source, h, hi, hr, encS]
theorem next_ok (s : Int × Int × Int) (m : Int) : ∃ r : Int × Int × Int × Int, (0 < m → m < 4611686018427387904 → (0 ≤ r.1 ∧ r.1 < m) ∧ F__law_next [encS s, .int m] = .ok (.int r.1) [encS r.2]) := by
  obtain ⟨a, b, c⟩ := s
  by_cases q : (1000000000000000000 : Int) ≤ a
  · refine ⟨(a % m, a / m, b, c), fun h h2 => ⟨⟨Int.emod_nonneg _ (by omega), Int.emod_lt_of_pos _ h⟩, ?_⟩⟩
    simp [F__law_next, m__law_next, q, h, h2, atI_s, L2.ixN, encS]
  · obtain ⟨r, h1, h2, hr⟩ := mixed_ok b (c + 1)
    refine ⟨(r % m, a, b, c + 1), fun h h2 => ⟨⟨Int.emod_nonneg _ (by omega), Int.emod_lt_of_pos _ h⟩, ?_⟩⟩
    simp [F__law_next, m__law_next, q, h, h2, atI_s, L2.ixN, hr, encS]
noncomputable def nx (s : Int × Int × Int) (m : Int) : Int := (next_ok s m).choose.1
noncomputable def sn (s : Int × Int × Int) (m : Int) : Int × Int × Int := (next_ok s m).choose.2
theorem next_f (s : Int × Int × Int) (m : Int) (h : 0 < m) (h2 : m < 4611686018427387904) : F__law_next [encS s, .int m] = .ok (.int (nx s m)) [encS (sn s m)] := ((next_ok s m).choose_spec h h2).2
theorem nx_nn (s : Int × Int × Int) (m : Int) (h : 0 < m) (h2 : m < 4611686018427387904) : 0 ≤ nx s m := ((next_ok s m).choose_spec h h2).1.1
theorem nx_lt (s : Int × Int × Int) (m : Int) (h : 0 < m) (h2 : m < 4611686018427387904) : nx s m < m := ((next_ok s m).choose_spec h h2).1.2

theorem whole_int (x : Int) : F_is_whole [.int x] = .ok (.bl true) [] := by simp [F_is_whole, m_is_whole]
theorem between_int (x a b : Int) : F_is_between [.int x, .int a, .int b] = .ok (.bl (decide (a ≤ x) && decide (x ≤ b))) [] := by
  by_cases h : a ≤ x <;> simp [F_is_between, m_is_between, whole_int, h]
def isSg (x : Int) : Bool := (decide (32 ≤ x) && decide (x ≤ 126)) && !decide (x = 37)
theorem is_sign_ok (x : Int) : F_is_sign [.int x] = .ok (.bl (isSg x)) [] := by
  by_cases h1 : (32 : Int) ≤ x
  · by_cases h2 : x ≤ 126
    · by_cases h3 : x = 37 <;> simp [F_is_sign, m_is_sign, isSg, h1, h2, h3]
    · simp [F_is_sign, m_is_sign, isSg, h1, h2]
  · simp [F_is_sign, m_is_sign, isSg, h1]
theorem isSg_iff (x : Int) : isSg x = true ↔ 32 ≤ x ∧ x ≤ 126 ∧ x ≠ 37 := by
  simp [isSg, and_assoc]
theorem sig_at (x : Int) (h : isSg x = true) : atI k_SIGNS (x - 32 - (if 37 < x then 1 else 0)) = some x.toNat := by
  obtain ⟨h1, h2, h3⟩ := (isSg_iff x).1 h
  have key : ∀ n : Nat, n < 127 → 32 ≤ n → n ≠ 37 → k_SIGNS[n - 32 - (if 37 < n then 1 else 0)]? = some n ∧ n - 32 - (if 37 < n then 1 else 0) < 94 := by decide
  obtain ⟨n, rfl⟩ := Int.eq_ofNat_of_zero_le (show 0 ≤ x by omega)
  obtain ⟨k1, k2⟩ := key n (by omega) (by omega) (by omega)
  have e : ((n : Int) - 32 - (if 37 < (n : Int) then 1 else 0)) = ((n - 32 - (if 37 < n then 1 else 0) : Nat) : Int) := by
    by_cases q : 37 < n
    · have q' : 37 < (n : Int) := by omega
      rw [if_pos q, if_pos q']; omega
    · have q' : ¬ 37 < (n : Int) := by omega
      rw [if_neg q, if_neg q']; omega
  rw [e, atI_nn _ _ (by have : k_SIGNS.length = 94 := rfl; omega), k1]
  simp
theorem sign_of_ok (x : Int) (h : isSg x = true) : F_sign_of [.int x] = .ok (.str [x.toNat]) [] := by
  have a := sig_at x h
  simp [F_sign_of, m_sign_of, a]
theorem octets_int (o : Ow) (xs : List Int) (h : ∀ x ∈ xs, 0 ≤ x ∧ x ≤ 255) (hl : xs.length ≤ 16777216) : F_is_octets [.lst o (xs.map D.int)] = .ok (.bl true) [] := by
  have e := fun (o : Ow) => lcL_map (g := mPut 1) (e := mCall F_is_between [.p 1, .e (mC (.int 0)), .e (mC (.int 255))]) (vs := [1]) (ρ := [some (.lst o (xs.map D.int)), none]) D.int (fun x => .bl (decide (0 ≤ x) && decide (x ≤ 255))) rfl (fun x => ⟨_, _, rfl, by simp [between_int]; rfl, rfl⟩) xs
  have q : xs.all (fun x : Int => decide (0 ≤ x) && decide (x ≤ 255)) = true := by
    simp [List.all_eq_true]
    exact h
  have k := fun o => allD_map o (fun x : Int => decide (0 ≤ x) && decide (x ≤ 255)) xs
  rw [q] at k
  cases o <;> simp [F_is_octets, m_is_octets, saved, wipeD, e, hl, restD, k]
theorem stepD_cons (lo c : Int) (n : Nat) : stepD lo c (n + 1) = D.int lo :: stepD (lo + c) c n := by
  unfold stepD
  rw [List.range_succ_eq_map, List.map_cons, List.map_map]
  congr 1
  · simp
  · apply List.map_congr_left
    intro k _
    simp [Function.comp_def, Int.add_mul]
    omega
def Oct (x : Int) : Prop := 0 ≤ x ∧ x ≤ 255
def S6 (i : Int) : Nat := k_SIX.getD i.toNat 0
theorem s6_at (i : Int) (h : 0 ≤ i ∧ i < 64) : atI k_SIX i = some (S6 i) := by
  obtain ⟨n, rfl⟩ := Int.eq_ofNat_of_zero_le h.1
  have hl : k_SIX.length = 64 := rfl
  rw [atI_nn _ _ (by omega)]
  unfold S6
  have : n < k_SIX.length := by omega
  simp [this]
def six : List Int → List Nat
  | [] => []
  | [a] => [S6 (a / 4), S6 (a % 4 * 16), 61, 61]
  | [a, b] => [S6 (a / 4), S6 (a % 4 * 16 + b / 16), S6 (b % 16 * 4), 61]
  | a :: b :: c :: r => [S6 (a / 4), S6 (a % 4 * 16 + b / 16), S6 (b % 16 * 4 + c / 64), S6 (c % 64)] ++ six r
def bX : Cm Out := (mSeq (mSet 3 (mSlc (.v 0) (some (mVar 2)) (some (mBin addD (mVar 2) (mC (.int 3))))))
  (mSeq (mAsg (mBin addD (mVar 3) (mBin mulD (mLst [(mC (.int 0))]) (mBin subD (mC (.int 3)) (mP1 lenD (.v 3))))) (mTupL [(mPut 4), (mPut 5), (mPut 6)]))
  (mSeq (mSet 7 (mBin addD (mBin addD (mBin mulD (mC (.int 65536)) (mVar 4)) (mBin mulD (mC (.int 256)) (mVar 5))) (mVar 6)))
  (mSeq (mSet 8 (mLst [(mBin fdivD (mVar 7) (mC (.int 262144))), (mBin modD (mBin fdivD (mVar 7) (mC (.int 4096))) (mC (.int 64))), (mBin modD (mBin fdivD (mVar 7) (mC (.int 64))) (mC (.int 64))), (mBin modD (mVar 7) (mC (.int 64)))]))
  (mAug augA 1 (mBin addD (mM joinD (.e (mC (.str []))) (.e (mLc (mItemsL (mSlc (.v 8) none (some (mBin addD (mP1 lenD (.v 3)) (mC (.int 1)))))) (mPut 9) mYes (mIdx (.e (mC (.str k_SIX))) (mVar 9)) [9]))) (mBin mulD (mC (.str [61])) (mBin subD (mC (.int 3)) (mP1 lenD (.v 3))))))))))
theorem lc6 (x0 x1 x2 x3 x4 x5 x6 x7 x8 : Option D) : ∀ (is : List Int), (∀ i ∈ is, 0 ≤ i ∧ i < 64) → lcL (mPut 9) mYes (mIdx (.e (mC (.str k_SIX))) (mVar 9)) [9] (is.map D.int) [x0, x1, x2, x3, x4, x5, x6, x7, x8, none] = .ok ((is.map S6).map fun c => D.str [c]) [x0, x1, x2, x3, x4, x5, x6, x7, x8, none]
  | [], _ => rfl
  | i :: is, h => by
    have a := s6_at i (h i (by simp))
    have ih := lc6 x0 x1 x2 x3 x4 x5 x6 x7 x8 is (fun j hj => h j (by simp [hj]))
    simp only [List.map_cons, lcL, mPut_, R.bind_ok, List.set_cons_succ, List.set_cons_zero, mYes_, if_true]
    have e : mIdx (.e (mC (.str k_SIX))) (mVar 9) [x0, x1, x2, x3, x4, x5, x6, x7, x8, some (D.int i)] = .ok (.str [S6 i]) [x0, x1, x2, x3, x4, x5, x6, x7, x8, some (D.int i)] := by
      generalize k_SIX = K at *
      simp [a]
    rw [e]
    have w : wipeD [x0, x1, x2, x3, x4, x5, x6, x7, x8, some (D.int i)] [9] = [x0, x1, x2, x3, x4, x5, x6, x7, x8, none] := rfl
    simp only [R.bind_ok, w]
    rw [show (is.map fun i => D.int i) = is.map D.int from rfl] at *
    rw [ih]
    rfl
theorem bX3 (o : Ow) (ho : o = .shr ∨ o = .frz ∨ o = .stc) (pre r : List Int) (a b c : Int) (ha : Oct a) (hb : Oct b) (hc : Oct c) (f : List Nat) (hf : f.length ≤ 10000) (octs : List Int) (he : octs = pre ++ a :: b :: c :: r) (x3 x4 x5 x6 x7 x8 : Option D) :
    ∃ y3 y4 y5 y6 y7 y8, bX [some (.lst o (octs.map D.int)), some (.str f), some (.int pre.length), x3, x4, x5, x6, x7, x8, none] = .ok .nx [some (.lst o (octs.map D.int)), some (.str (f ++ [S6 (a / 4), S6 (a % 4 * 16 + b / 16), S6 (b % 16 * 4 + c / 64), S6 (c % 64)])), some (.int pre.length), y3, y4, y5, y6, y7, y8, none] := by
  obtain ⟨ha1, ha2⟩ := ha
  obtain ⟨hb1, hb2⟩ := hb
  obtain ⟨hc1, hc2⟩ := hc
  have ct : cutL octs (some (pre.length : Int)) (some ((pre.length : Int) + 3)) = [a, b, c] := by
    have := cut_mid octs pre.length (pre.length + 3) (by omega) (by subst he; simp)
    rw [Int.natCast_add] at this
    subst he
    simpa using this
  have e1 : (65536 * a + 256 * b + c) / 262144 = a / 4 := by omega
  have e2 : (65536 * a + 256 * b + c) / 4096 % 64 = a % 4 * 16 + b / 16 := by omega
  have e3 : (65536 * a + 256 * b + c) / 64 % 64 = b % 16 * 4 + c / 64 := by omega
  have e4 : (65536 * a + 256 * b + c) % 64 = c % 64 := by omega
  have l := fun x0 x1 x2 x3 x4 x5 x6 x7 x8 => lc6 x0 x1 x2 x3 x4 x5 x6 x7 x8 [a / 4, a % 4 * 16 + b / 16, b % 16 * 4 + c / 64, c % 64] (by simp; omega)
  have j := fun o => join_signs o [S6 (a / 4), S6 (a % 4 * 16 + b / 16), S6 (b % 16 * 4 + c / 64), S6 (c % 64)] (by simp)
  have c4 : ∀ w x y z : D, cutL [w, x, y, z] none (some 4) = [w, x, y, z] := fun w x y z => by
    have := cut_take [w, x, y, z] 4 (by simp)
    simpa using this
  simp at l j
  have z1 : f.length + 4 ≤ 16777216 := by omega
  rcases ho with rfl | rfl | rfl <;> exact ⟨_, _, _, _, _, _, by
    simp [bX, cutL_map, ct, mTupL, Ds.pur_all, e1, e2, e3, e4, saved, wipeD, restD, l, j, c4, z1]; exact ⟨rfl, rfl, rfl, rfl, rfl, rfl⟩⟩
theorem bX2 (o : Ow) (ho : o = .shr ∨ o = .frz ∨ o = .stc) (pre : List Int) (a b : Int) (ha : Oct a) (hb : Oct b) (f : List Nat) (hf : f.length ≤ 10000) (octs : List Int) (he : octs = pre ++ a :: b :: []) (x3 x4 x5 x6 x7 x8 : Option D) :
    ∃ y3 y4 y5 y6 y7 y8, bX [some (.lst o (octs.map D.int)), some (.str f), some (.int pre.length), x3, x4, x5, x6, x7, x8, none] = .ok .nx [some (.lst o (octs.map D.int)), some (.str (f ++ [S6 (a / 4), S6 (a % 4 * 16 + b / 16), S6 (b % 16 * 4), 61])), some (.int pre.length), y3, y4, y5, y6, y7, y8, none] := by
  obtain ⟨ha1, ha2⟩ := ha
  obtain ⟨hb1, hb2⟩ := hb
  have ct : cutL octs (some (pre.length : Int)) (some ((pre.length : Int) + 3)) = [a, b] := by
    subst he
    unfold cutL
    have e : (pre.length : Int) + 3 = ((pre.length + 3 : Nat) : Int) := by omega
    rw [e, HT.sIx_nat, HT.sIx_nat]
    simp
  have e1 : (65536 * a + 256 * b) / 262144 = a / 4 := by omega
  have e2 : (65536 * a + 256 * b) / 4096 % 64 = a % 4 * 16 + b / 16 := by omega
  have e3 : (65536 * a + 256 * b) / 64 % 64 = b % 16 * 4 := by omega
  have e4 : (65536 * a + 256 * b) % 64 = 0 := by omega
  have l := fun x0 x1 x2 x3 x4 x5 x6 x7 x8 => lc6 x0 x1 x2 x3 x4 x5 x6 x7 x8 [a / 4, a % 4 * 16 + b / 16, b % 16 * 4] (by simp; omega)
  have j := fun o => join_signs o [S6 (a / 4), S6 (a % 4 * 16 + b / 16), S6 (b % 16 * 4)] (by simp)
  have c4 : ∀ w x y z : D, cutL [w, x, y, z] none (some 3) = [w, x, y] := fun w x y z => by
    have := cut_take [w, x, y, z] 3 (by simp)
    simpa using this
  simp at l j
  have z1 : f.length + 4 ≤ 16777216 := by omega
  rcases ho with rfl | rfl | rfl <;> exact ⟨_, _, _, _, _, _, by
    simp [bX, cutL_map, ct, mTupL, Ds.pur_all, e1, e2, e3, e4, saved, wipeD, restD, l, j, c4, z1]; exact ⟨rfl, rfl, rfl, rfl, rfl, rfl⟩⟩
theorem bX1 (o : Ow) (ho : o = .shr ∨ o = .frz ∨ o = .stc) (pre : List Int) (a : Int) (ha : Oct a) (f : List Nat) (hf : f.length ≤ 10000) (octs : List Int) (he : octs = pre ++ a :: []) (x3 x4 x5 x6 x7 x8 : Option D) :
    ∃ y3 y4 y5 y6 y7 y8, bX [some (.lst o (octs.map D.int)), some (.str f), some (.int pre.length), x3, x4, x5, x6, x7, x8, none] = .ok .nx [some (.lst o (octs.map D.int)), some (.str (f ++ [S6 (a / 4), S6 (a % 4 * 16), 61, 61])), some (.int pre.length), y3, y4, y5, y6, y7, y8, none] := by
  obtain ⟨ha1, ha2⟩ := ha
  have ct : cutL octs (some (pre.length : Int)) (some ((pre.length : Int) + 3)) = [a] := by
    subst he
    unfold cutL
    have e : (pre.length : Int) + 3 = ((pre.length + 3 : Nat) : Int) := by omega
    rw [e, HT.sIx_nat, HT.sIx_nat]
    simp
  have e1 : (65536 * a) / 262144 = a / 4 := by omega
  have e2 : (65536 * a) / 4096 % 64 = a % 4 * 16 := by omega
  have e3 : (65536 * a) / 64 % 64 = 0 := by omega
  have e4 : (65536 * a) % 64 = 0 := by omega
  have l := fun x0 x1 x2 x3 x4 x5 x6 x7 x8 => lc6 x0 x1 x2 x3 x4 x5 x6 x7 x8 [a / 4, a % 4 * 16] (by simp; omega)
  have j := fun o => join_signs o [S6 (a / 4), S6 (a % 4 * 16)] (by simp)
  have c4 : ∀ w x y z : D, cutL [w, x, y, z] none (some 2) = [w, x] := fun w x y z => by
    have := cut_take [w, x, y, z] 2 (by simp)
    simpa using this
  simp at l j
  have z1 : f.length + 4 ≤ 16777216 := by omega
  rcases ho with rfl | rfl | rfl <;> exact ⟨_, _, _, _, _, _, by
    simp [bX, cutL_map, ct, mTupL, Ds.pur_all, e1, e2, e3, e4, saved, wipeD, restD, l, j, c4, z1]; exact ⟨rfl, rfl, rfl, rfl, rfl, rfl⟩⟩
theorem six_loop (o : Ow) (ho : o = .shr ∨ o = .frz ∨ o = .stc) (octs : List Int) : ∀ (rest pre : List Int) (f : List Nat) (x2 x3 x4 x5 x6 x7 x8 : Option D), (∀ x ∈ rest, Oct x) → f.length + 2 * rest.length + 4 ≤ 10000 → octs = pre ++ rest →
    ∃ y2 y3 y4 y5 y6 y7 y8, forL (mPut 2) bX (stepD pre.length 3 ((rest.length + 2) / 3)) [some (.lst o (octs.map D.int)), some (.str f), x2, x3, x4, x5, x6, x7, x8, none] = .ok .nx [some (.lst o (octs.map D.int)), some (.str (f ++ six rest)), y2, y3, y4, y5, y6, y7, y8, none]
  | [], pre, f, x2, x3, x4, x5, x6, x7, x8, h, hl, he => ⟨x2, x3, x4, x5, x6, x7, x8, by simp [stepD, forL, six]⟩
  | [a], pre, f, x2, x3, x4, x5, x6, x7, x8, h, hl, he => by
    obtain ⟨y3, y4, y5, y6, y7, y8, e⟩ := bX1 o ho pre a (h a (by simp)) f (by omega) octs he x3 x4 x5 x6 x7 x8
    refine ⟨some (.int pre.length), y3, y4, y5, y6, y7, y8, ?_⟩
    have hn : (([a] : List Int).length + 2) / 3 = 0 + 1 := by simp
    rw [hn, stepD_cons]
    simp [forL, stepD, e, six]
  | [a, b], pre, f, x2, x3, x4, x5, x6, x7, x8, h, hl, he => by
    obtain ⟨y3, y4, y5, y6, y7, y8, e⟩ := bX2 o ho pre a b (h a (by simp)) (h b (by simp)) f (by omega) octs he x3 x4 x5 x6 x7 x8
    refine ⟨some (.int pre.length), y3, y4, y5, y6, y7, y8, ?_⟩
    have hn : (([a, b] : List Int).length + 2) / 3 = 0 + 1 := by simp
    rw [hn, stepD_cons]
    simp [forL, stepD, e, six]
  | a :: b :: c :: r, pre, f, x2, x3, x4, x5, x6, x7, x8, h, hl, he => by
    obtain ⟨y3, y4, y5, y6, y7, y8, e⟩ := bX3 o ho pre r a b c (h a (by simp)) (h b (by simp)) (h c (by simp)) f (by omega) octs he x3 x4 x5 x6 x7 x8
    simp at hl
    obtain ⟨z2, z3, z4, z5, z6, z7, z8, e2⟩ := six_loop o ho octs r (pre ++ [a, b, c]) (f ++ [S6 (a / 4), S6 (a % 4 * 16 + b / 16), S6 (b % 16 * 4 + c / 64), S6 (c % 64)]) (some (.int pre.length)) y3 y4 y5 y6 y7 y8 (fun x hx => h x (by simp [hx])) (by simp; omega) (by rw [he]; simp)
    refine ⟨z2, z3, z4, z5, z6, z7, z8, ?_⟩
    have hn : ((a :: b :: c :: r).length + 2) / 3 = (r.length + 2) / 3 + 1 := by simp; omega
    have hp : ((pre ++ [a, b, c]).length : Int) = (pre.length : Int) + 3 := by simp
    rw [hp] at e2
    rw [hn, stepD_cons]
    simp only [forL, mPut_, R.bind_ok, List.set_cons_succ, List.set_cons_zero, e]
    rw [e2]
    simp [six]
theorem six_len : ∀ l : List Int, (six l).length ≤ 2 * l.length + 2
  | [] => by simp [six]
  | [a] => by simp [six]
  | [a, b] => by simp [six]
  | a :: b :: c :: r => by have := six_len r; simp [six]; omega
theorem el6 (o : Ow) (octs : List Int) : F_six_bits [.lst o (octs.map D.int)] = runF 10 [] (mSeq (mSet 1 (mC (.str []))) (mSeq (mFor (mRange3 (mC (.int 0)) (mP1 lenD (.v 0)) (mC (.int 3))) (mPut 2) bX) (mRet (mMove 1)))) [.lst o (octs.map D.int)] := rfl
theorem r6 (o : Ow) (octs : List Int) (hl : octs.length ≤ 2000) : mRange3 (mC (.int 0)) (mP1 lenD (.v 0)) (mC (.int 3)) [some (.lst o (octs.map D.int)), some (.str []), none, none, none, none, none, none, none, none] = .ok (stepD 0 3 ((octs.length + 2) / 3)) [some (.lst o (octs.map D.int)), some (.str []), none, none, none, none, none, none, none, none] :=
    range3_ok (n := octs.length) (c := 3) (N := (octs.length + 2) / 3) rfl (by simp) rfl (by decide) (by decide) (Nat.le_trans hl (by decide)) (by rw [show octs.length + 3 - 1 = octs.length + 2 by omega])
theorem e6 (o : Ow) (ho : o = .shr ∨ o = .frz ∨ o = .stc) (octs : List Int) (h : ∀ x ∈ octs, Oct x) (hl : octs.length ≤ 2000) : ∃ y2 y3 y4 y5 y6 y7 y8, forL (mPut 2) bX (stepD 0 3 ((octs.length + 2) / 3)) [some (.lst o (octs.map D.int)), some (.str []), none, none, none, none, none, none, none, none] = .ok .nx [some (.lst o (octs.map D.int)), some (.str (six octs)), y2, y3, y4, y5, y6, y7, y8, none] :=
  six_loop o ho octs octs [] [] none none none none none none none h (by rw [List.length_nil]; omega) rfl
theorem eC (o : Ow) (ho : o = .shr ∨ o = .frz ∨ o = .stc) (octs : List Int) (h : ∀ x ∈ octs, Oct x) (hl : ([] : List Nat).length + 2 * octs.length + 4 ≤ 10000) : ∃ y2 y3 y4 y5 y6 y7 y8, forL (mPut 2) bX (stepD (([] : List Int).length : Nat) 3 ((octs.length + 2) / 3)) [some (.lst o (octs.map D.int)), some (.str []), none, none, none, none, none, none, none, none] = .ok .nx [some (.lst o (octs.map D.int)), some (.str ([] ++ six octs)), y2, y3, y4, y5, y6, y7, y8, none] :=
  six_loop o ho octs octs [] [] none none none none none none none h hl (List.nil_append octs).symm
theorem eC2 (o : Ow) (ho : o = .shr ∨ o = .frz ∨ o = .stc) (octs : List Int) (h : ∀ x ∈ octs, Oct x) (hl : ([] : List Nat).length + 2 * octs.length + 4 ≤ 10000) : ∃ y2 y3 y4 y5 y6 y7 y8, forL (mPut 2) bX (stepD 0 3 ((octs.length + 2) / 3)) [some (.lst o (octs.map D.int)), some (.str []), none, none, none, none, none, none, none, none] = .ok .nx [some (.lst o (octs.map D.int)), some (.str (six octs)), y2, y3, y4, y5, y6, y7, y8, none] := by
  have e := eC o ho octs h hl
  have h0 : ((([] : List Int).length : Nat) : Int) = 0 := rfl
  rw [h0, List.nil_append] at e
  exact e
theorem six_core (o : Ow) (ho : o = .shr ∨ o = .frz ∨ o = .stc) (xs : List D) (hx : xs.map D.fz = xs) (S : List Nat) (L : List D) (M : Cm (List D)) (y2 y3 y4 y5 y6 y7 y8 : Option D)
    (r : M [some (.lst o xs), some (.str []), none, none, none, none, none, none, none, none] = .ok L [some (.lst o xs), some (.str []), none, none, none, none, none, none, none, none])
    (e : forL (mPut 2) bX L [some (.lst o xs), some (.str []), none, none, none, none, none, none, none, none] = .ok .nx [some (.lst o xs), some (.str S), y2, y3, y4, y5, y6, y7, y8, none]) :
    runF 10 [] (mSeq (mSet 1 (mC (.str []))) (mSeq (mFor M (mPut 2) bX) (mRet (mMove 1)))) [.lst o xs] = .ok (.str S) [] := by
  rcases ho with rfl | rfl | rfl <;> simp [r, e]
theorem eB (octs : List Int) (hl : octs.length ≤ 2000) : ([] : List Nat).length + 2 * octs.length + 4 ≤ 10000 := by
  have : 2 * octs.length ≤ 4000 := Nat.mul_le_mul_left 2 hl
  exact Nat.le_trans (Nat.add_le_add_right (Nat.le_trans (Nat.le_of_eq (Nat.zero_add _)) this) 4) (by decide)
theorem six_ok (o : Ow) (ho : o = .shr ∨ o = .frz ∨ o = .stc) (octs : List Int) (h : ∀ x ∈ octs, Oct x) (hl : octs.length ≤ 2000) : F_six_bits [.lst o (octs.map D.int)] = .ok (.str (six octs)) [] := by
  obtain ⟨y2, y3, y4, y5, y6, y7, y8, e⟩ := eC2 o ho octs h (eB octs hl)
  exact (el6 o octs).trans (six_core o ho _ (by simp) _ _ _ y2 y3 y4 y5 y6 y7 y8 (r6 o octs hl) e)
def H16 (i : Int) : Nat := k_SIXTEEN.getD i.toNat 0
theorem h16_at (i : Int) (h : 0 ≤ i ∧ i < 16) : atI k_SIXTEEN i = some (H16 i) := by
  obtain ⟨n, rfl⟩ := Int.eq_ofNat_of_zero_le h.1
  have hl : k_SIXTEEN.length = 16 := rfl
  rw [atI_nn _ _ (by omega)]
  unfold H16
  have : n < k_SIXTEEN.length := by omega
  simp [this]
theorem two_ok (x : Int) (h : Oct x) : F_two_figures [.int x] = .ok (.str [61, H16 (x / 16), H16 (x % 16)]) [] := by
  obtain ⟨h1, h2⟩ := h
  have a := h16_at (x / 16) (by omega)
  have b := h16_at (x % 16) (by omega)
  simp [F_two_figures, m_two_figures, a, b]
end K34


namespace K34
open VS L2
def Fr (c : Nat) : Prop := c ≠ 32 ∧ c ≠ 10
instance (c : Nat) : Decidable (Fr c) := inferInstanceAs (Decidable (_ ∧ _))
instance (c : Nat) : Decidable (Fr c) := inferInstanceAs (Decidable (_ ∧ _))
theorem getD_fr (l : List Nat) (h : ∀ c ∈ l, Fr c) (i : Nat) : Fr (l.getD i 0) := by
  rw [List.getD_eq_getElem?_getD]
  cases e : l[i]? with
  | none => exact ⟨by decide, by decide⟩
  | some c => exact h c (List.mem_of_getElem? e)
theorem H16_fr (i : Int) : Fr (H16 i) := getD_fr k_SIXTEEN (by decide) _
def flat (l : List (List Nat)) : List Nat := l.flatMap fun x => x ++ [10]
/-- how an octet is written by marks, told the next one (10 where there is none) -/
def un (x y : Int) : List Nat := if x = 32 ∧ y ≠ 10 then [32] else if x ≠ 32 ∧ x ≠ 61 ∧ isSg x = true then [x.toNat] else [61, H16 (x / 16), H16 (x % 16)]
def hd : List Int → Int
  | [] => 10
  | x :: _ => x
theorem un_len (x y : Int) : 1 ≤ (un x y).length ∧ (un x y).length ≤ 3 := by unfold un; split; simp; split <;> simp
theorem un_10 (x y : Int) : 10 ∉ un x y := by
  unfold un
  split
  · simp
  · split
    · rename_i q
      have := (isSg_iff x).1 q.2.2
      simp
      omega
    · have a := (H16_fr (x / 16)).2
      have b := (H16_fr (x % 16)).2
      simp [Ne.symm a, Ne.symm b]
/-- the text from a place on, the line so far of n signs -/
def mkF : List (List Nat) → List Nat → List Int → List (List Nat) × List Nat
  | fd, r, [] => (fd, r)
  | fd, r, x :: xs => if x = 10 then mkF (fd ++ [r]) [] xs else if 72 ≤ r.length + (un x (hd xs)).length then mkF (fd ++ [r ++ [61]]) (un x (hd xs)) xs else mkF fd (r ++ un x (hd xs)) xs
def endR (r : List Nat) : List (List Nat) := if r = [] then [] else [r ++ [61]]
theorem mk_rows : ∀ (l : List Int) (fd : List (List Nat)) (r : List Nat), (∀ w ∈ fd, w.length ≤ 72 ∧ 10 ∉ w) → r.length ≤ 71 → 10 ∉ r → (∀ w ∈ (mkF fd r l).1, w.length ≤ 72 ∧ 10 ∉ w) ∧ (mkF fd r l).2.length ≤ 71 ∧ 10 ∉ (mkF fd r l).2
  | [], fd, r, h1, h2, h3 => ⟨h1, h2, h3⟩
  | x :: xs, fd, r, h1, h2, h3 => by
    have ul := un_len x (hd xs)
    have u10 := un_10 x (hd xs)
    rw [mkF]
    split
    · refine mk_rows xs _ _ (fun w hw => ?_) (by simp) (by simp)
      rcases List.mem_append.1 hw with hw | hw
      · exact h1 w hw
      · rw [List.mem_singleton] at hw; subst hw; exact ⟨by omega, h3⟩
    · split
      · refine mk_rows xs _ _ (fun w hw => ?_) (by omega) u10
        rcases List.mem_append.1 hw with hw | hw
        · exact h1 w hw
        · rw [List.mem_singleton] at hw; subst hw; exact ⟨by simp; omega, by simp [h3]⟩
      · refine mk_rows xs _ _ h1 (by rw [List.length_append]; omega) (by simp [h3, u10])
theorem mk_size : ∀ (l : List Int) (fd : List (List Nat)) (r : List Nat), (mkF fd r l).1.length ≤ fd.length + l.length
  | [], fd, r => by simp [mkF]
  | x :: xs, fd, r => by
    rw [mkF]
    split
    · have := mk_size xs (fd ++ [r]) []; simp at this ⊢; omega
    · split
      · have := mk_size xs (fd ++ [r ++ [61]]) (un x (hd xs)); simp at this ⊢; omega
      · have := mk_size xs fd (r ++ un x (hd xs)); simp at this ⊢; omega
def rowsOf (l : List Int) : List (List Nat) := (mkF [] [] l).1 ++ endR (mkF [] [] l).2
def mkT (l : List Int) : List Nat := flat (rowsOf l)
theorem rows_good (l : List Int) : ∀ w ∈ rowsOf l, w.length ≤ 72 ∧ 10 ∉ w := by
  obtain ⟨h1, h2, h3⟩ := mk_rows l [] [] (by simp) (by simp) (by simp)
  intro w hw
  rcases List.mem_append.1 hw with hw | hw
  · exact h1 w hw
  · unfold endR at hw
    split at hw
    · simp at hw
    · rw [List.mem_singleton] at hw
      subst hw
      exact ⟨by simp; omega, by simp [h3]⟩
theorem rows_size (l : List Int) : (rowsOf l).length ≤ l.length + 1 := by
  have := mk_size l [] []
  unfold rowsOf endR
  split <;> simp at this ⊢ <;> omega
theorem flat_size (ls : List (List Nat)) (n : Nat) (h : ∀ w ∈ ls, w.length ≤ n) : (flat ls).length ≤ (n + 1) * ls.length := by
  induction ls with
  | nil => simp [flat]
  | cons w ls ih =>
    have a := h w (by simp)
    have b := ih fun x hx => h x (by simp [hx])
    have e : flat (w :: ls) = w ++ [10] ++ flat ls := by simp [flat]
    have d : (n + 1) * (w :: ls).length = (n + 1) * ls.length + (n + 1) := by rw [List.length_cons, Nat.mul_succ]
    rw [e, List.length_append, List.length_append, d]
    simp
    omega
theorem mkT_len (l : List Int) (h : l.length ≤ 1000) : (mkT l).length ≤ 73 * 1001 := by
  have a := flat_size (rowsOf l) 72 fun w hw => (rows_good l w hw).1
  have b := rows_size l
  have c : 73 * (rowsOf l).length ≤ 73 * 1001 := Nat.mul_le_mul_left _ (by omega)
  unfold mkT
  omega
/-- what stands behind a blank: more blanks, then a sign that is neither a blank nor a line feed -/
theorem forL_one {g : D → Cm Unit} {b : Cm Out} {d : D} {ds : List D} {ρ ρ1 ρ2 : DE} (h1 : g d ρ = .ok () ρ1) (h2 : b ρ1 = .ok .nx ρ2) : forL g b (d :: ds) ρ = forL g b ds ρ2 := by
  simp only [forL, h1, R.bind_ok, h2]
theorem at_mid {α : Type} (X Y : List α) (c : α) (k : Nat) (h : k = X.length) : (X ++ c :: Y)[k]? = some c := by
  subst h
  simp
theorem atI_mid {α : Type} (X Y : List α) (c : α) (k : Nat) (h : k = X.length) : atI (X ++ c :: Y) (k : Int) = some c := by
  rw [atI_nn _ _ (by subst h; simp)]
  exact at_mid X Y c k h
theorem mark_unit_ok (o : Ow) (pre xs : List Int) (x : Int) (hx : Oct x) (k : Nat) (hk : k = pre.length) : F_mark_unit [.lst o ((pre ++ x :: xs).map D.int), .int k] = .ok (.str (un x (hd xs))) [] := by
  have i0 : atI ((pre ++ x :: xs).map D.int) (k : Int) = some (.int x) := by
    rw [List.map_append, List.map_cons]
    exact atI_mid _ _ _ k (by simpa using hk)
  have sg := is_sign_ok x
  have tf := two_ok x hx
  have ll : (((pre ++ x :: xs).map D.int).length : Nat) = k + 1 + xs.length := by simp; omega
  have i1 : ∀ y ys, xs = y :: ys → atI ((pre ++ x :: xs).map D.int) ((k : Int) + 1) = some (.int y) := by
    intro y ys e
    subst e
    have e2 : (pre ++ x :: y :: ys).map D.int = ((pre ++ [x]).map D.int) ++ D.int y :: ys.map D.int := by simp
    rw [e2, show (k : Int) + 1 = ((k + 1 : Nat) : Int) by omega]
    exact atI_mid _ _ _ (k + 1) (by simp; omega)
  unfold un
  generalize hX : (pre ++ x :: xs).map D.int = XS at *
  by_cases q : x = 32
  · subst q
    cases xs with
    | nil =>
      have g : ¬ ((k : Int) + 1 < (XS.length : Int)) := by rw [ll]; simp
      simp [F_mark_unit, m_mark_unit, i0, g, hd, tf]
    | cons y ys =>
      have i1 := i1 y ys rfl
      have g : ((k : Int) + 1 < (XS.length : Int)) := by rw [ll]; simp; omega
      by_cases p : y = 10
      · simp [F_mark_unit, m_mark_unit, i0, g, hd, tf, i1, p]
      · simp [F_mark_unit, m_mark_unit, i0, g, hd, tf, i1, p]
  · by_cases p : x = 61
    · subst p
      simp [F_mark_unit, m_mark_unit, i0, tf]
    · by_cases c : isSg x = true
      · have so := sign_of_ok x c
        rw [c] at sg
        simp [F_mark_unit, m_mark_unit, i0, q, p, sg, so, c]
      · have c : isSg x = false := by simpa using c
        rw [c] at sg
        simp [F_mark_unit, m_mark_unit, i0, q, p, sg, tf, c]
/-- places told, from a place on -/
def enF : Nat → List Int → List D
  | _, [] => []
  | k, x :: xs => .tup [.int (k : Nat), .int x] :: enF (k + 1) xs
theorem enum_from (l : List Int) : ∀ k : Nat, (l.map D.int).mapIdx (fun i d => D.tup [.sc (.int ((k + i : Nat) : Int)), d]) = enF k l := by
  induction l with
  | nil => intro k; rfl
  | cons x l ih =>
    intro k
    rw [List.map_cons, List.mapIdx_cons, enF, ← ih (k + 1)]
    simp only [Nat.add_zero, Int.natCast_add, List.cons.injEq, true_and]
    congr 1
    funext i d
    have e : (k : Int) + ((i + 1 : Nat) : Int) = ((k + 1 + i : Nat) : Int) := by omega
    simp
    omega
theorem enum_ints (l : List Int) : enumD (l.map D.int) = enF 0 l := by
  rw [← enum_from l 0]
  simp [enumD]
def bB : Cm Out := (mIf (mTest (mP2 eqD (.v 4) (.e (mC (.int 10)))))
  (mSeq (mDrop (mApp 1 (mVar 2)))
  (mSet 2 (mC (.str []))))
  (mSeq (mSet 5 (mCall F_mark_unit [.p 0, .p 3]))
  (mSeq (mIf (mTest (mP2 geD (.e (mBin addD (mP1 lenD (.v 2)) (mP1 lenD (.v 5)))) (.e (mC (.int 72)))))
  (mSeq (mDrop (mApp 1 (mBin addD (mVar 2) (mC (.str [61])))))
  (mSet 2 (mC (.str []))))
  mNext)
  (mAug augA 2 (mVar 5)))))
def tB : D → Cm Unit := mTupT [(mPut 3), (mPut 4)]
theorem bB_10 (x0 x3 x5 : Option D) (FD : List D) (r : List Nat) (hF : FD.length ≤ 10000) : bB [x0, some (.lst .own FD), some (.str r), x3, some (.int 10), x5, none] = .ok .nx [x0, some (.lst .own (FD ++ [.str r])), some (.str []), x3, some (.int 10), x5, none] := by
  have : FD.length < 16777216 := by omega
  simp [bB, this]
theorem bB_on (X FD : List D) (o : Ow) (ho : o ≠ .own) (r u : List Nat) (k x : Int) (x5 : Option D) (hX : X.map D.fz = X) (hF : FD.length ≤ 10000) (hr : r.length ≤ 71) (hu : u.length ≤ 3) (hx : x ≠ 10) (e : F_mark_unit [.lst o X, .int k] = .ok (.str u) []) :
    bB [some (.lst o X), some (.lst .own FD), some (.str r), some (.int k), some (.int x), x5, none] = .ok .nx (if 72 ≤ r.length + u.length then [some (.lst o X), some (.lst .own (FD ++ [.str (r ++ [61])])), some (.str u), some (.int k), some (.int x), some (.str u), none] else [some (.lst o X), some (.lst .own FD), some (.str (r ++ u)), some (.int k), some (.int x), some (.str u), none]) := by
  have ow : (if o = Ow.own then Ow.shr else o) = o := if_neg ho
  have h1 : FD.length < 16777216 := by omega
  have h2 : r.length + u.length ≤ 16777216 := by omega
  have h3 : r.length + 1 ≤ 16777216 := by omega
  have h4 : u.length ≤ 16777216 := by omega
  by_cases q : 72 ≤ r.length + u.length
  · have q2 : (72 : Int) ≤ (r.length : Int) + (u.length : Int) := by omega
    simp [bB, ow, hX, hx, e, q, q2, h1, h3, h4]
  · have q2 : ¬ (72 : Int) ≤ (r.length : Int) + (u.length : Int) := by omega
    simp [bB, ow, hX, hx, e, q, q2, h2]
theorem byF (l0 : List Int) (o : Ow) (ho : o ≠ .own) : ∀ (xs pre : List Int) (fd : List (List Nat)) (r : List Nat) (x3 x4 x5 : Option D), (∀ x ∈ xs, Oct x) → l0 = pre ++ xs → r.length ≤ 71 → fd.length + xs.length ≤ 10000 →
    ∃ y3 y4 y5, forL tB bB (enF pre.length xs) [some (.lst o (l0.map D.int)), some (.lst .own (fd.map D.str)), some (.str r), x3, x4, x5, none] = .ok .nx [some (.lst o (l0.map D.int)), some (.lst .own ((mkF fd r xs).1.map D.str)), some (.str (mkF fd r xs).2), y3, y4, y5, none]
  | [], pre, fd, r, x3, x4, x5, _, _, _, _ => ⟨x3, x4, x5, rfl⟩
  | x :: xs, pre, fd, r, x3, x4, x5, hx, hl, hr, hz => by
    simp only [List.length_cons] at hz
    have hl2 : l0 = (pre ++ [x]) ++ xs := by rw [hl]; simp
    have pl : (pre ++ [x]).length = pre.length + 1 := by simp
    have st : tB (.tup [.int (pre.length : Nat), .int x]) [some (.lst o (l0.map D.int)), some (.lst .own (fd.map D.str)), some (.str r), x3, x4, x5, none] = .ok () [some (.lst o (l0.map D.int)), some (.lst .own (fd.map D.str)), some (.str r), some (.int (pre.length : Nat)), some (.int x), x5, none] := by simp [tB]
    by_cases q : x = 10
    · subst q
      have b := bB_10 (some (.lst o (l0.map D.int))) (some (.int (pre.length : Nat))) x5 (fd.map D.str) r (by simp; omega)
      obtain ⟨y3, y4, y5, ih⟩ := byF l0 o ho xs (pre ++ [10]) (fd ++ [r]) [] (some (.int (pre.length : Nat))) (some (.int 10)) x5 (fun y hy => hx y (by simp [hy])) hl2 (by simp) (by simp; omega)
      refine ⟨y3, y4, y5, ?_⟩
      rw [enF, forL_one st b, mkF, if_pos rfl, ← ih, pl]
      simp
    · have hu := un_len x (hd xs)
      have e := mark_unit_ok o pre xs x (hx x (by simp)) pre.length rfl
      rw [← hl] at e
      have b := bB_on (l0.map D.int) (fd.map D.str) o ho r (un x (hd xs)) (pre.length : Nat) x x5 (by simp) (by simp; omega) hr hu.2 q e
      by_cases c : 72 ≤ r.length + (un x (hd xs)).length
      · rw [if_pos c] at b
        obtain ⟨y3, y4, y5, ih⟩ := byF l0 o ho xs (pre ++ [x]) (fd ++ [r ++ [61]]) (un x (hd xs)) (some (.int (pre.length : Nat))) (some (.int x)) (some (.str (un x (hd xs)))) (fun y hy => hx y (by simp [hy])) hl2 (by omega) (by simp; omega)
        refine ⟨y3, y4, y5, ?_⟩
        rw [enF, forL_one st b, mkF, if_neg q, if_pos c, ← ih, pl]
        simp
      · rw [if_neg c] at b
        obtain ⟨y3, y4, y5, ih⟩ := byF l0 o ho xs (pre ++ [x]) fd (r ++ un x (hd xs)) (some (.int (pre.length : Nat))) (some (.int x)) (some (.str (un x (hd xs)))) (fun y hy => hx y (by simp [hy])) hl2 (by rw [List.length_append]; omega) (by omega)
        refine ⟨y3, y4, y5, ?_⟩
        rw [enF, forL_one st b, mkF, if_neg q, if_neg c, ← ih, pl]

end K34


namespace K34
open VS L2
theorem lcL_mapM {α : Type} {g : D → Cm Unit} {e : Cm D} {vs : List Nat} {ρ : DE} (el : α → D) (f : α → D) : ∀ xs : List α, (∀ x ∈ xs, ∃ ρ1 ρ2, g (el x) ρ = .ok () ρ1 ∧ e ρ1 = .ok (f x) ρ2 ∧ wipeD ρ2 vs = ρ) → lcL g mYes e vs (xs.map el) ρ = .ok (xs.map f) ρ
  | [], _ => rfl
  | x :: xs, h => by
    obtain ⟨ρ1, ρ2, h1, h2, h3⟩ := h x (by simp)
    have ih := lcL_mapM el f xs fun y hy => h y (by simp [hy])
    simp only [List.map_cons, lcL, h1, R.bind_ok, mYes_, if_true, h2, h3, ih]
theorem joinL_nil2 (ls : List (List Nat)) : joinL [] ls = ls.flatten := by
  cases ls with
  | nil => rfl
  | cons x r =>
    have : ∀ r : List (List Nat), glL [] r = r.flatten := fun r => by
      induction r with
      | nil => rfl
      | cons y r ih => simp [glL, ih]
    simp [joinL, this]
theorem eqB_ints (l : List Int) : Ds.eqB (l.map D.int) (l.map D.int) = true := by
  induction l with
  | nil => rfl
  | cons x l ih => simp [Ds.eqB, ih]
theorem ints_fz (l : List Int) : (l.map D.int).map D.fz = l.map D.int := by simp
theorem strs_fz (l : List (List Nat)) : (l.map D.str).map D.fz = l.map D.str := by simp
theorem join_any (sep : List Nat) (o : Ow) (ws : List (List Nat)) (h : (ws.map List.length).sum + ws.length * sep.length ≤ 16777216) : joinD (.str sep) (.lst o (ws.map D.str)) = some (.str (joinL sep ws)) := by
  show (match strL (ws.map D.str) with
    | some ys => if (ys.map List.length).sum + ys.length * sep.length ≤ 16777216 then some (Sc.str (joinL sep ys)) else none
    | none => none) = _
  rw [strL_map]
  exact if_pos h
theorem byM_core (X FD : List D) (o : Ow) (ho : o ≠ .own) (hX : X.map D.fz = X) (EN : List D) (he : enumD X = EN) (L : List D) (r : List Nat) (S : List Nat) (y3 y4 y5 : Option D) (hF : FD.length < 10000) (hr : r.length ≤ 71) (hFD : FD.map D.fz = FD)
    (e : forL tB bB EN [some (.lst o X), some (.lst .own []), some (.str []), none, none, none, none] = .ok .nx [some (.lst o X), some (.lst .own FD), some (.str r), y3, y4, y5, none])
    (el : lcL (mPut 6) mYes (mBin addD (mVar 6) (mC (.str [10]))) [6] (FD ++ if r = [] then [] else [.str (r ++ [61])]) [some (.lst o X), some (.lst .shr (FD ++ if r = [] then [] else [.str (r ++ [61])])), some (.str r), y3, y4, y5, none] = .ok L [some (.lst o X), some (.lst .shr (FD ++ if r = [] then [] else [.str (r ++ [61])])), some (.str r), y3, y4, y5, none])
    (hL : L.length ≤ 16777216) (j : joinD (.str []) (.lst .own L) = some (.str S)) : F_by_marks [.lst o X] = .ok (.str S) [] := by
  have ow : (if o = Ow.own then Ow.shr else o) = o := if_neg ho
  have el8 : F_by_marks [.lst o X] = runF 7 [] (mSeq (mSet 1 (mLst [])) (mSeq (mSet 2 (mC (.str []))) (mSeq (mFor (mEnum (mVar 0)) tB bB) (mSeq (mIf (mTest (mP2 neD (.v 2) (.e (mC (.str [])))))
  (mDrop (mApp 1 (mBin addD (mVar 2) (mC (.str [61])))))
  mNext)
  (mRet (mM joinD (.e (mC (.str []))) (.e (mLc (mItemsL (mVar 1)) (mPut 6) mYes (mBin addD (mVar 6) (mC (.str [10]))) [6])))))))) [.lst o X] := rfl
  rw [el8]
  have z1 : FD.length < 16777216 := by omega
  have z2 : r.length + 1 ≤ 16777216 := by omega
  have z3 : FD.length ≤ 16777215 := by omega
  have z4 : FD.length ≤ 16777216 := by omega
  by_cases q : r = []
  · subst q
    simp at el
    simp [ow, hX, he, e, saved, wipeD, restD, hFD, el, hL, j, z4]
  · rw [if_neg q] at el
    simp [ow, hX, he, e, saved, wipeD, restD, hFD, el, hL, j, q, z1, z2, z3]
theorem by_marks_ok (o : Ow) (ho : o ≠ .own) (l : List Int) (hx : ∀ x ∈ l, Oct x) (hl : l.length ≤ 1000) : F_by_marks [.lst o (l.map D.int)] = .ok (.str (mkT l)) [] := by
  obtain ⟨y3, y4, y5, e⟩ := byF l o ho l [] [] [] none none none hx rfl (by simp) (by simp; omega)
  obtain ⟨_, hr, _⟩ := mk_rows l [] [] (by simp) (by simp) (by simp)
  have hz := mk_size l [] []
  have hz2 := rows_size l
  simp only [List.length_nil, Nat.zero_add] at hz e
  have er : ((mkF [] [] l).1.map D.str ++ if (mkF [] [] l).2 = [] then [] else [D.str ((mkF [] [] l).2 ++ [61])]) = (rowsOf l).map D.str := by
    unfold rowsOf endR
    split <;> simp
  refine byM_core (l.map D.int) ((mkF [] [] l).1.map D.str) o ho (by simp) _ (enum_ints l) ((rowsOf l).map fun w => D.str (w ++ [10])) (mkF [] [] l).2 (mkT l) y3 y4 y5 (by simp; omega) hr (by simp) e ?_ (by simp; omega) ?_
  · rw [er]
    exact lcL_mapM D.str (fun w => D.str (w ++ [10])) (rowsOf l) fun w hw => ⟨_, [some (.lst o (l.map D.int)), some (.lst .shr ((rowsOf l).map D.str)), some (.str (mkF [] [] l).2), y3, y4, y5, some (.str w)], rfl, by
      have a := (rows_good l w hw).1
      have : w.length + 1 ≤ 16777216 := by omega
      simp [this], rfl⟩
  · have k := join_any [] .own ((rowsOf l).map fun w => w ++ [10]) (by
      have a := mkT_len l hl
      have b : (((rowsOf l).map fun w => w ++ [10]).map List.length).sum = (mkT l).length := by
        unfold mkT flat
        rw [List.length_flatMap, List.map_map]
        rfl
      rw [b]
      simp
      omega)
    rw [List.map_map] at k
    have c : joinL [] ((rowsOf l).map fun w => w ++ [10]) = mkT l := by
      rw [joinL_nil2]
      unfold mkT flat
      rw [List.flatMap_def]
    rw [c] at k
    exact k

end K34


namespace K34
open VS L2
def chk : Nat → List Nat → List (List Nat)
  | 0, _ => []
  | m + 1, l => if l = [] then [] else l.take 72 :: chk m (l.drop 72)
def lines72 (l : List Nat) : List (List Nat) := chk (l.length + 1) l
theorem chk_flat : ∀ (m : Nat) (l : List Nat), l.length < 72 * m + 1 → (chk m l).flatten = l
  | 0, l, h => by
    have : l = [] := List.length_eq_zero_iff.1 (by omega)
    subst this; rfl
  | m + 1, l, h => by
    rw [chk]
    split
    · rename_i q; subst q; rfl
    · rw [List.flatten_cons, chk_flat m (l.drop 72) (by simp; omega), List.take_append_drop]
theorem chk_map : ∀ (m : Nat) (l pre : List Nat), l.length < 72 * m + 1 → chk m l = (List.range ((l.length + 71) / 72)).map fun k => (((pre ++ l).drop (pre.length + 72 * k)).take 72)
  | 0, l, pre, h => by
    have : l = [] := List.length_eq_zero_iff.1 (by omega)
    subst this; rfl
  | m + 1, l, pre, h => by
    rw [chk]
    by_cases q : l = []
    · subst q; rfl
    · rw [if_neg q]
      have hl : 0 < l.length := List.length_pos_iff.2 q
      have e : (l.length + 71) / 72 = ((l.drop 72).length + 71) / 72 + 1 := by simp; omega
      rw [e, List.range_succ_eq_map, List.map_cons, List.map_map]
      congr 1
      · simp
      · rw [chk_map m (l.drop 72) (pre ++ l.take 72) (by simp; omega)]
        refine List.map_congr_left fun k hk => ?_
        simp only [Function.comp]
        have hk2 : k < ((l.drop 72).length + 71) / 72 := List.mem_range.1 hk
        have l72 : 72 < l.length := by
          by_cases c : 72 < l.length
          · exact c
          · have : (l.drop 72).length = 0 := by simp; omega
            rw [this] at hk2
            omega
        rw [List.append_assoc, List.take_append_drop]
        congr 2
        simp
        omega
theorem chk_len : ∀ (m : Nat) (l : List Nat), ∀ r ∈ chk m l, r.length ≤ 72
  | 0, l, r, h => by cases h
  | m + 1, l, r, h => by
    rw [chk] at h
    split at h
    · cases h
    · rcases List.mem_cons.1 h with rfl | h
      · simp; omega
      · exact chk_len m _ r h
def sxT (l : List Int) : List Nat := flat (lines72 (six l))
theorem chk_size : ∀ (m : Nat) (l : List Nat), (chk m l).length ≤ l.length
  | 0, l => by simp [chk]
  | m + 1, l => by
    rw [chk]
    split
    · simp
    · rename_i q
      have := chk_size m (l.drop 72)
      have : 0 < l.length := List.length_pos_iff.2 q
      simp at *
      omega
theorem flat_size2 (ls : List (List Nat)) : (flat ls).length = ls.flatten.length + ls.length := by
  induction ls with
  | nil => rfl
  | cons w ls ih =>
    have e : flat (w :: ls) = w ++ [10] ++ flat ls := by simp [flat]
    rw [e, List.length_append, ih]
    simp
    omega
theorem lines_flat (l : List Nat) : (lines72 l).flatten = l := chk_flat _ l (by omega)
theorem flat_eq_map (ls : List (List Nat)) : flat ls = (ls.map fun w => w ++ [10]).flatten := by
  unfold flat
  rw [List.flatMap_def]
theorem cut_to {α : Type} (xs : List α) (a k : Nat) (h : a ≤ xs.length) : cutL xs (some (a : Int)) (some ((a : Int) + (k : Int))) = (xs.drop a).take k := by
  have e : ((a : Int) + (k : Int)) = ((a + k : Nat) : Int) := by omega
  unfold cutL
  rw [e, HT.sIx_nat, HT.sIx_nat, Nat.min_eq_left h]
  by_cases q : a + k ≤ xs.length
  · rw [Nat.min_eq_left q]
    congr 1
    omega
  · rw [Nat.min_eq_right (by omega), List.take_of_length_le (by simp), List.take_of_length_le (by simp; omega)]
theorem cut_row72 (S pre : List Nat) (k : Nat) (h : k < (S.length + 71) / 72) : cutL S (some (0 + (k : Int) * 72)) (some (0 + (k : Int) * 72 + 72)) = (S.drop (72 * k)).take 72 := by
  have e : (0 + (k : Int) * 72) = ((72 * k : Nat) : Int) := by omega
  rw [e]
  exact cut_to S (72 * k) 72 (by omega)
theorem lines_range (S : List Nat) : lines72 S = (List.range ((S.length + 71) / 72)).map fun k => ((S.drop (72 * k)).take 72) := by
  have := chk_map (S.length + 1) S [] (by omega)
  unfold lines72
  rw [this]
  refine List.map_congr_left fun k _ => ?_
  simp
theorem row_lc (S : List Nat) (x0 x2 x4 : Option D) : lcL (mPut 3) mYes (mSlc (.v 1) (some (mVar 3)) (some (mBin addD (mVar 3) (mC (.int 72))))) [3] (stepD 0 72 ((S.length + 71) / 72)) [x0, some (.str S), x2, none, x4] = .ok ((lines72 S).map D.str) [x0, some (.str S), x2, none, x4] := by
  have k := lcL_mapM (g := mPut 3) (e := mSlc (.v 1) (some (mVar 3)) (some (mBin addD (mVar 3) (mC (.int 72))))) (vs := [3]) (ρ := [x0, some (.str S), x2, none, x4]) (fun k : Nat => D.int (0 + (k : Int) * 72)) (fun k : Nat => D.str ((S.drop (72 * k)).take 72)) (List.range ((S.length + 71) / 72)) fun k hk => ⟨_, [x0, some (.str S), x2, some (.int (0 + (k : Int) * 72)), x4], rfl, by
    have c := cut_row72 S [] k (List.mem_range.1 hk)
    generalize (0 + (k : Int) * 72) = m at *
    simp [c], rfl⟩
  rw [lines_range, List.map_map]
  exact k
theorem nl_lc (ls : List (List Nat)) (h : ∀ w ∈ ls, w.length ≤ 72) (x0 x1 x2 x3 : Option D) : lcL (mPut 4) mYes (mBin addD (mVar 4) (mC (.str [10]))) [4] (ls.map D.str) [x0, x1, x2, x3, none] = .ok (ls.map fun w => D.str (w ++ [10])) [x0, x1, x2, x3, none] :=
  lcL_mapM D.str (fun w => D.str (w ++ [10])) ls fun w hw => ⟨_, [x0, x1, x2, x3, some (.str w)], rfl, by
    have := h w hw
    have : w.length + 1 ≤ 16777216 := by omega
    simp [this], rfl⟩
theorem r72 (S : List Nat) (hS : S.length ≤ 5000) (x0 x2 x3 x4 : Option D) : mRange3 (mC (.int 0)) (mP1 lenD (.v 1)) (mC (.int 72)) [x0, some (.str S), x2, x3, x4] = .ok (stepD 0 72 ((S.length + 71) / 72)) [x0, some (.str S), x2, x3, x4] :=
  range3_ok (n := S.length) (c := 72) (N := (S.length + 71) / 72) rfl (by simp) rfl (by decide) (by decide) (Nat.le_trans hS (by decide)) (by rw [show S.length + 72 - 1 = S.length + 71 by omega])
theorem mSeq_nx {a b : Cm Out} {ρ ρ1 : DE} (h : a ρ = .ok .nx ρ1) : mSeq a b ρ = b ρ1 := by simp [h]
theorem bys_b (x0 : Option D) (S : List Nat) (L RS : List D) (M : Cm (List D)) (r1 : ∀ x0 x2 x3 x4, M [x0, some (.str S), x2, x3, x4] = .ok L [x0, some (.str S), x2, x3, x4]) (hL : L.length ≤ 16777216)
    (l1 : ∀ x0 x2 x4, lcL (mPut 3) mYes (mSlc (.v 1) (some (mVar 3)) (some (mBin addD (mVar 3) (mC (.int 72))))) [3] L [x0, some (.str S), x2, none, x4] = .ok RS [x0, some (.str S), x2, none, x4]) :
    (mSet 2 (mLc M (mPut 3) mYes (mSlc (.v 1) (some (mVar 3)) (some (mBin addD (mVar 3) (mC (.int 72))))) [3])) [x0, some (.str S), none, none, none] = .ok .nx [x0, some (.str S), some (.lst .own RS), none, none] := by
  simp [r1, saved, wipeD, restD, l1, hL]
theorem bys_c (x0 : Option D) (S : List Nat) (RS LS : List D) (R : List Nat) (hR : RS.map D.fz = RS) (lR : RS.length ≤ 16777216) (l2 : ∀ x0 x1 x2 x3, lcL (mPut 4) mYes (mBin addD (mVar 4) (mC (.str [10]))) [4] RS [x0, x1, x2, x3, none] = .ok LS [x0, x1, x2, x3, none]) (lL : LS.length ≤ 16777216) (j : joinD (.str []) (.lst .own LS) = some (.str R)) :
    endF [] ((mRet (mM joinD (.e (mC (.str []))) (.e (mLc (mItemsL (mVar 2)) (mPut 4) mYes (mBin addD (mVar 4) (mC (.str [10]))) [4])))) [x0, some (.str S), some (.lst .own RS), none, none]) = .ok (.str R) [] := by
  simp [saved, wipeD, restD, hR, lR, l2, lL, j]
theorem bys_core (F6 : List D → RF) (o : Ow) (X RS LS L : List D) (S R : List Nat) (hX : X.map D.fz = X) (e6 : ∀ o : Ow, o = .shr ∨ o = .frz ∨ o = .stc → F6 [.lst o X] = .ok (.str S) []) (M : Cm (List D))
    (r1 : ∀ x0 x2 x3 x4, M [x0, some (.str S), x2, x3, x4] = .ok L [x0, some (.str S), x2, x3, x4]) (hL : L.length ≤ 16777216)
    (l1 : ∀ x0 x2 x4, lcL (mPut 3) mYes (mSlc (.v 1) (some (mVar 3)) (some (mBin addD (mVar 3) (mC (.int 72))))) [3] L [x0, some (.str S), x2, none, x4] = .ok RS [x0, some (.str S), x2, none, x4])
    (hR : RS.map D.fz = RS) (lR : RS.length ≤ 16777216) (l2 : ∀ x0 x1 x2 x3, lcL (mPut 4) mYes (mBin addD (mVar 4) (mC (.str [10]))) [4] RS [x0, x1, x2, x3, none] = .ok LS [x0, x1, x2, x3, none]) (lL : LS.length ≤ 16777216) (j : joinD (.str []) (.lst .own LS) = some (.str R)) :
    runF 5 [] (mSeq (mSet 1 (mCall F6 [.p 0]))
  (mSeq (mSet 2 (mLc M (mPut 3) mYes (mSlc (.v 1) (some (mVar 3)) (some (mBin addD (mVar 3) (mC (.int 72))))) [3]))
  (mRet (mM joinD (.e (mC (.str []))) (.e (mLc (mItemsL (mVar 2)) (mPut 4) mYes (mBin addD (mVar 4) (mC (.str [10]))) [4])))))) [.lst o X] = .ok (.str R) [] := by
  have A : (mSet 1 (mCall F6 [.p 0])) [some (.lst o X), none, none, none, none] = .ok .nx [some (.lst o X), some (.str S), none, none, none] := by
    cases o
    · simp [hX, e6 .shr (.inl rfl)]
    · simp [hX, e6 .shr (.inl rfl)]
    · simp [hX, e6 .frz (.inr (.inl rfl))]
    · simp [hX, e6 .stc (.inr (.inr rfl))]
  have B := fun x0 => bys_b x0 S L RS M r1 hL l1
  have C := fun x0 => bys_c x0 S RS LS R hR lR l2 lL j
  unfold runF
  have st : startD 5 [D.lst o X] = [some (.lst o X), none, none, none, none] := rfl
  rw [st, mSeq_nx A, mSeq_nx (B _)]
  exact C _
theorem sixT_join (o : Ow) (S : List Nat) (hS : S.length ≤ 5000) : joinD (.str []) (.lst o ((lines72 S).map fun w => D.str (w ++ [10]))) = some (.str (flat (lines72 S))) := by
  have a := chk_size (S.length + 1) S
  have ll : (lines72 S).length ≤ S.length := a
  have k := join_any [] o ((lines72 S).map fun w => w ++ [10]) (by
    have b : (((lines72 S).map fun w => w ++ [10]).map List.length).sum = (flat (lines72 S)).length := by
      unfold flat
      rw [List.length_flatMap, List.map_map]
      rfl
    rw [b, flat_size2, lines_flat]
    simp
    omega)
  rw [List.map_map] at k
  rw [joinL_nil2, ← flat_eq_map] at k
  exact k
theorem by_sixes_ok (o : Ow) (l : List Int) (h : ∀ x ∈ l, Oct x) (hl : l.length ≤ 1000) : F_by_sixes [.lst o (l.map D.int)] = .ok (.str (sxT l)) [] := by
  have e6 := fun (o : Ow) (ho : o = .shr ∨ o = .frz ∨ o = .stc) => six_ok o ho l h (by omega)
  have sl := six_len l
  have ll : (lines72 (six l)).length ≤ (six l).length := chk_size ((six l).length + 1) (six l)
  have el : F_by_sixes [.lst o (l.map D.int)] = runF 5 [] (mSeq (mSet 1 (mCall F_six_bits [.p 0]))
    (mSeq (mSet 2 (mLc (mRange3 (mC (.int 0)) (mP1 lenD (.v 1)) (mC (.int 72))) (mPut 3) mYes (mSlc (.v 1) (some (mVar 3)) (some (mBin addD (mVar 3) (mC (.int 72))))) [3]))
    (mRet (mM joinD (.e (mC (.str []))) (.e (mLc (mItemsL (mVar 2)) (mPut 4) mYes (mBin addD (mVar 4) (mC (.str [10]))) [4])))))) [.lst o (l.map D.int)] := rfl
  rw [el]
  exact bys_core F_six_bits o (l.map D.int) _ _ _ (six l) (sxT l) (ints_fz l) e6 _ (r72 (six l) (by omega)) (by simp [stepD]; omega) (row_lc (six l)) (strs_fz _) (by simp; omega) (nl_lc _ (chk_len _ _)) (by simp; omega) (sixT_join .own (six l) (by omega))

end K34


namespace K34
open VS L2
def nxt (n : Nat) (x : Int) : Nat := if x = 10 then 0 else n + 1
def canF : Nat → List Int → Bool
  | n, [] => decide (n = 0)
  | n, x :: xs => if (x ≠ 10 ∧ isSg x = false) ∨ 72 < nxt n x then false else canF (nxt n x) xs
def bC : Cm Out := (mSeq (mSet 1 (mIfE (mTest (mP2 eqD (.v 2) (.e (mC (.int 10))))) (mC (.int 0)) (mBin addD (mVar 1) (mC (.int 1)))))
  (mIf (mOr (mAnd (mTest (mP2 neD (.v 2) (.e (mC (.int 10))))) (mNot (mTest (mCall F_is_sign [.p 2])))) (mTest (mP2 gtD (.v 1) (.e (mC (.int 72))))))
  (mRet (mC (.bl false)))
  mNext))
theorem bC_ok (x0 : Option D) (n : Nat) (x : Int) : bC [x0, some (.int n), some (.int x)] = if (x ≠ 10 ∧ isSg x = false) ∨ 72 < nxt n x then .ok (.ret (.bl false)) [x0, some (.int (nxt n x : Nat)), some (.int x)] else .ok .nx [x0, some (.int (nxt n x : Nat)), some (.int x)] := by
  have sg := is_sign_ok x
  unfold nxt
  by_cases c : x = 10
  · subst c
    simp [bC]
  · cases s : isSg x with
    | false =>
      rw [s] at sg
      simp [bC, c, sg]
    | true =>
      rw [s] at sg
      by_cases g : 72 < n + 1
      · have g2 : (72 : Int) < (n : Int) + 1 := by omega
        simp [bC, c, sg, g, g2]
      · have g2 : ¬ (72 : Int) < (n : Int) + 1 := by omega
        simp [bC, c, sg, g, g2]
theorem forL_ret {g : D → Cm Unit} {b : Cm Out} {d r : D} {ds : List D} {ρ ρ1 ρ2 : DE} (h1 : g d ρ = .ok () ρ1) (h2 : b ρ1 = .ok (.ret r) ρ2) : forL g b (d :: ds) ρ = .ok (.ret r) ρ2 := by
  simp only [forL, h1, R.bind_ok, h2]
theorem can_loop (x0 : Option D) : ∀ (l : List Int) (n : Nat) (x2 : Option D), (∃ ρ', forL (mPut 2) bC (l.map D.int) [x0, some (.int n), x2] = .ok (.ret (.bl false)) ρ' ∧ canF n l = false) ∨
    ∃ (m : Nat) (y2 : Option D), forL (mPut 2) bC (l.map D.int) [x0, some (.int n), x2] = .ok .nx [x0, some (.int m), y2] ∧ canF n l = decide (m = 0)
  | [], n, x2 => .inr ⟨n, x2, rfl, rfl⟩
  | x :: l, n, x2 => by
    have b := bC_ok x0 n x
    by_cases q : (x ≠ 10 ∧ isSg x = false) ∨ 72 < nxt n x
    · rw [if_pos q] at b
      left
      refine ⟨_, by rw [List.map_cons, forL_ret (ρ1 := [x0, some (.int n), some (.int x)]) rfl b], by rw [canF, if_pos q]⟩
    · rw [if_neg q] at b
      rw [List.map_cons, forL_one (ρ1 := [x0, some (.int n), some (.int x)]) rfl b, canF, if_neg q]
      exact can_loop x0 l (nxt n x) _
theorem can_core (o : Ow) (X : List D) (hX : X.map D.fz = X) (r : Bool) (h : ∀ x0, (∃ ρ', forL (mPut 2) bC X [x0, some (.int 0), none] = .ok (.ret (.bl false)) ρ' ∧ r = false) ∨ ∃ (m : Nat) (y2 : Option D), forL (mPut 2) bC X [x0, some (.int 0), none] = .ok .nx [x0, some (.int m), y2] ∧ r = decide (m = 0)) :
    F_can_be_plain [.lst o X] = .ok (.bl r) [] := by
  have el : F_can_be_plain [.lst o X] = runF 3 [] (mSeq (mSet 1 (mC (.int 0))) (mSeq (mFor (mItemsL (mVar 0)) (mPut 2) bC) (mRet (mP2 eqD (.v 1) (.e (mC (.int 0))))))) [.lst o X] := rfl
  rw [el]
  rcases h (some (.lst (if o = .own then .shr else o) X)) with ⟨ρ', e, rfl⟩ | ⟨m, y2, e, rfl⟩
  · cases o <;> simp at e <;> simp [hX, e]
  · have em : (((m : Nat) : Int) == 0) = decide (m = 0) := by by_cases c : m = 0 <;> simp [c]
    cases o <;> simp at e <;> simp [hX, e, em]
theorem can_ok (o : Ow) (l : List Int) : F_can_be_plain [.lst o (l.map D.int)] = .ok (.bl (canF 0 l)) [] :=
  can_core o (l.map D.int) (ints_fz l) (canF 0 l) fun x0 => can_loop x0 l 0 none
/-- the three codes -/
inductive Wd
  | p | s | m
def Wd.w : Wd → List Nat
  | .p => [112, 108, 97, 105, 110]
  | .s => [115, 105, 120, 101, 115]
  | .m => [109, 97, 114, 107, 115]
theorem noct_ok (o : Ow) (l : List Int) (h : ∀ x ∈ l, Oct x) (hl : l.length ≤ 5000) : F_needed_octets [.lst o (l.map D.int)] = .ok .non [] := by
  have e := octets_int (if o = .own then .shr else o) l h (by omega)
  have hx := ints_fz l
  generalize l.map D.int = X at *
  cases o <;> simp at e <;> simp [F_needed_octets, m_needed_octets, e, hx]
/-- what read_by tells of any text of signs -/
def bestW (l : List Int) : List Nat := if canF 0 l = true then [112, 108, 97, 105, 110] else if (mkT l).length ≤ (sxT l).length then [109, 97, 114, 107, 115] else [115, 105, 120, 101, 115]
def bestM (FO FP FM F6 : List D → RF) : Cm Out := (mSeq (mDrop (mCall FO [.p 0]))
  (mSeq (mIf (mTest (mCall FP [.p 0]))
  (mRet (mC (.str [112, 108, 97, 105, 110])))
  mNext)
  (mSeq (mIf (mTest (mP2 leD (.e (mP1 lenD (.e (mCall FM [.p 0])))) (.e (mP1 lenD (.e (mCall F6 [.p 0]))))))
  (mRet (mC (.str [109, 97, 114, 107, 115])))
  mNext)
  (mRet (mC (.str [115, 105, 120, 101, 115]))))))
theorem best_core (FO FP FM F6 : List D → RF) (o : Ow) (X : List D) (r : Bool) (M S : List Nat) (hX : X.map D.fz = X) (e : ∀ o, FO [.lst o X] = .ok .non []) (p : ∀ o, FP [.lst o X] = .ok (.bl r) []) (m : ∀ o, o ≠ .own → FM [.lst o X] = .ok (.str M) []) (s : ∀ o, F6 [.lst o X] = .ok (.str S) []) :
    runF 1 [] (bestM FO FP FM F6) [.lst o X] = .ok (.str (if r = true then [112, 108, 97, 105, 110] else if M.length ≤ S.length then [109, 97, 114, 107, 115] else [115, 105, 120, 101, 115])) [] := by
  have m1 := m .shr (by decide)
  have m2 := m .frz (by decide)
  have m3 := m .stc (by decide)
  cases r
  · by_cases q : M.length ≤ S.length
    · have q2 : (M.length : Int) ≤ S.length := by omega
      cases o <;> simp [bestM, e, p, hX, m1, m2, m3, s, q, q2]
    · have q2 : ¬ (M.length : Int) ≤ S.length := by omega
      cases o <;> simp [bestM, e, p, hX, m1, m2, m3, s, q, q2]
  · cases o <;> simp [bestM, e, p, hX]
theorem best_ok (o : Ow) (l : List Int) (h : ∀ x ∈ l, Oct x) (hl : l.length ≤ 1000) : F_best [.lst o (l.map D.int)] = .ok (.str (bestW l)) [] :=
  best_core F_needed_octets F_can_be_plain F_by_marks F_by_sixes o (l.map D.int) (canF 0 l) (mkT l) (sxT l) (ints_fz l) (fun o => noct_ok o l h (by omega)) (fun o => can_ok o l) (fun o ho => by_marks_ok o ho l h hl) (fun o => by_sixes_ok o l h hl)

end K34


namespace K34
open VS L2
theorem atI_in {α : Type} (l : List α) (i : Int) (h : 0 ≤ i) (h2 : i < l.length) : ∃ c, atI l i = some c ∧ c ∈ l := by
  obtain ⟨n, rfl⟩ := Int.eq_ofNat_of_zero_le h
  have : n < l.length := by omega
  exact ⟨l[n], by rw [atI_nn _ _ this]; simp [this], by simp⟩
theorem signs_ok (s : Int × Int × Int) (S : List Nat) (n : Nat) (hS : S ≠ []) (hl : S.length ≤ 1000) (hn : n ≤ 1000) : ∃ (cs : List Nat) (s' : Int × Int × Int), F__law_signs [encS s, .str S, .int n] = .ok (.str cs) [encS s'] ∧ cs.length = n ∧ ∀ c ∈ cs, c ∈ S := by
  have hp : 0 < (S.length : Int) := by
    have := List.length_pos_iff.2 hS
    omega
  have hp2 : (S.length : Int) < 4611686018427387904 := by omega
  obtain ⟨cs, s', e, e1, e2⟩ := lcL_draw (g := mPut 3) (e := mIdx (.v 1) (mCall F__law_next [.s 0, .e (mP1 lenD (.v 1))])) (vs := [3]) (fun s => [some (encS s), some (.str S), some (.int n), none]) (fun c => c ∈ S)
    (fun s d => by
      obtain ⟨c, h1, h2⟩ := atI_in S (nx s S.length) (nx_nn s _ hp hp2) (nx_lt s _ hp hp2)
      refine ⟨_, [some (encS (sn s S.length)), some (.str S), some (.int n), some d], c, sn s S.length, rfl, ?_, rfl, h2⟩
      have nf := next_f s S.length hp hp2
      simp [nf, h1]) (rangeD 0 n) s
  have hs : smallR (n : Int) := by unfold smallR; omega
  simp at e1
  have hj := fun o => join_signs o cs (by omega)
  refine ⟨cs, s', ?_, e1, e2⟩
  have hl2 : n ≤ 16777216 := by omega
  simp [F__law_signs, m__law_signs, hs, saved, wipeD, e, restD, hl2, hj]
theorem line_ok (l : List Nat) (h : 10 ∉ l) : F_is_line [.str l] = .ok (.bl true) [] := by
  simp [F_is_line, m_is_line, h]
theorem of_ok (l s : List Nat) (hl : l.length ≤ 16777216) : F_is_of [.str l, .str s] = .ok (.bl (l.all fun c => decide (c ∈ s))) [] := by
  have e := lcL_map (g := mPut 2) (e := mP2 (inD false) (.v 2) (.v 1)) (vs := [2]) (ρ := [some (.str l), some (.str s), none]) (fun c => D.str [c]) (fun c => .bl (decide (c ∈ s))) rfl (fun x => ⟨_, _, rfl, by simp; rfl, rfl⟩) l
  have k := fun o => allD_map o (fun c : Nat => decide (c ∈ s)) l
  simp [F_is_of, m_is_of, saved, wipeD, e, hl, restD, k]

def isP (L : List Nat) (k : Nat) : Bool := decide (L[k]? = some 32) && !decide (L[k - 1]? = some 32)
def places (L : List Nat) (b : Nat) : List Nat := ((List.range (L.length - b)).filter fun k => isP L (b + k)).map (b + ·)
def numsD (l : List Nat) : List D := l.map fun k : Nat => D.int (k : Int)
def cutF (c : Nat) (ps : List Nat) : Nat := ps.foldl (fun c a => if a ≤ 72 then a else c) c
def cutOf : List Nat → Option Nat
  | [] => none
  | p :: ps => some (cutF p ps)
def pcs : Nat → List Nat → Nat → List (List Nat)
  | 0, L, _ => [L]
  | m + 1, L, b => if 72 < L.length then match cutOf (places L b) with
    | none => [L]
    | some c => L.take c :: pcs m (L.drop c) 1 else [L]
@[simp] theorem fz_nums (l : List Nat) : (numsD l).map D.fz = numsD l := by simp [numsD]
@[simp] theorem nums_pur (l : List Nat) : (numsD l).all D.pur = true := by simp [numsD]
@[simp] theorem nums_sc (l : List Nat) : (numsD l).all D.isSc = true := by simp [numsD]
@[simp] theorem nums_flat (n : Nat) (l : List Nat) : (numsD l).all (D.flatN n) = true := by simp [numsD]
@[simp] theorem nums_emp (l : List Nat) : (numsD l).isEmpty = l.isEmpty := by simp [numsD]
@[simp] theorem nums_len (l : List Nat) : (numsD l).length = l.length := by simp [numsD]
def T (n v : List Nat) : List Nat := if v = [] then n ++ [58, 10] else flat (pcs 100000 (n ++ ([58, 32] ++ v)) (n.length + 2))
end K34


namespace K34
open VS L2
def esc (l : List Nat) : List Nat := l.flatMap fun c => if c = 34 ∨ c = 92 then [92, c] else [c]
def isAt (l : List Nat) : Bool := (!l.isEmpty) && l.all fun c => decide (c ∈ k_ATOM_SIGNS)
def due (l : List Nat) : List Nat := if isAt l then l else 34 :: (esc l ++ [34])
theorem esc_len (l : List Nat) : (esc l).length ≤ 2 * l.length := by
  induction l with
  | nil => simp [esc]
  | cons x l ih =>
    have : esc (x :: l) = (if x = 34 ∨ x = 92 then [92, x] else [x]) ++ esc l := rfl
    rw [this]
    split <;> simp <;> omega
theorem atom_ok (l : List Nat) (hl : l.length ≤ 16777216) : F_is_atom [.str l] = .ok (.bl (isAt l)) [] := by
  cases l with
  | nil => simp [F_is_atom, m_is_atom, isAt]
  | cons c l => simp [F_is_atom, m_is_atom, isAt, of_ok _ _ hl]
theorem repl_esc (l : List Nat) : PySem.StrLaws.replL [34] [92, 34] (PySem.StrLaws.replL [92] [92, 92] l) = esc l := by
  rw [repl_one, repl_one, List.flatMap_assoc]
  unfold esc
  congr 1
  funext x
  by_cases h : x = 92
  · subst h; rfl
  · by_cases h2 : x = 34
    · subst h2; rfl
    · simp [h, h2]
theorem quoted_in_ok (l : List Nat) (hl : l.length ≤ 1000) (hc : ∀ c ∈ l, c < 1114112) : F_quoted_in [.str l] = .ok (.str (due l)) [] := by
  have a := atom_ok l (by omega)
  cases q : isAt l with
  | true =>
    rw [q] at a
    simp [F_quoted_in, m_quoted_in, a, due, q]
  | false =>
    rw [q] at a
    have r1 : (PySem.StrLaws.replL [92] [92, 92] l).length ≤ 2 * l.length := by
      rw [repl_one]
      clear a q hl hc
      induction l with
      | nil => simp
      | cons x l ih => rw [List.flatMap_cons]; split <;> simp at ih ⊢ <;> omega
    have m1 : ∀ c ∈ PySem.StrLaws.replL [92] [92, 92] l, c < 1114112 := by
      intro c h
      rw [repl_one] at h
      obtain ⟨x, hx, h⟩ := List.mem_flatMap.1 h
      split at h
      · simp at h; omega
      · simp at h; subst h; exact hc _ hx
    have m2 : ∀ c ∈ esc l, c < 1114112 := by
      intro c h
      obtain ⟨x, hx, h⟩ := List.mem_flatMap.1 h
      split at h
      · simp at h; rcases h with rfl | rfl
        · omega
        · exact hc _ hx
      · simp at h; subst h; exact hc _ hx
    have l1 : l.length + (l.length + 1) * 2 ≤ 16777216 := by omega
    have l2 : (PySem.StrLaws.replL [92] [92, 92] l).length + ((PySem.StrLaws.replL [92] [92, 92] l).length + 1) * 2 ≤ 16777216 := by omega
    have e := repl_esc l
    have l3 := esc_len l
    have l4 : 1 + (esc l).length ≤ 16777216 := by omega
    have l5 : (esc l).length + 1 ≤ 16777216 := by omega
    have l6 : (esc l).length + 1 + 1 ≤ 16777216 := by omega
    have m1' : ((PySem.StrLaws.replL [92] [92, 92] l).all fun c => decide (c < 1114112)) = true := by simpa [List.all_eq_true] using m1
    have m2' : ((esc l).all fun c => decide (c < 1114112)) = true := by simpa [List.all_eq_true] using m2
    have e1 : F_quoted_in [.str l] = runF 1 [] m_quoted_in [.str l] := rfl
    rw [e1]
    simp -implicitDefEqProofs only [m_quoted_in, runF_, startD_, mSeq_, mIf_, mTest_, mCall_, mRet_, mBin_, mRepl_, mMove_, mC_, mNext_]
    have m1e := eq_true m1
    have m2e := eq_true m2
    simp [a, due, q, l1, l2, l4, l5, l6, e, m1e, m2e]
theorem atI_strs (L : List (List Nat)) (c : Int) (h : 0 ≤ c) (h2 : c < (L.length : Nat)) : ∃ w, atI (L.map D.str) c = some (.str w) ∧ w ∈ L := by
  obtain ⟨n, rfl⟩ := Int.eq_ofNat_of_zero_le h
  have hn : n < L.length := by omega
  refine ⟨L[n], ?_, List.getElem_mem _⟩
  rw [atI_nn _ _ (by simpa using h2)]
  simp [hn]
theorem add_tx (a b : List Nat) (h : a.length + b.length ≤ 100000) : addD (.str a) (.str b) = some (.str (a ++ b)) := by
  rw [addD_str, if_pos (by omega)]
theorem cut_btw_len (T : List Nat) (m j : Nat) (h : m ≤ T.length) : (cutL T (some (m : Int)) (some ((m : Int) + (j : Int)))).length ≤ j := by
  rw [cut_to T m j h, List.length_take]
  omega
/-! ### kinds, looked at -/
structure TitK (S t : List Nat) : Prop where
  len : t.length ≤ 20
  hd : ∃ c r, t = c :: r ∧ c ∈ k_SMALL
  at_ : ∀ c ∈ t, c ∈ S
theorem title_ok (S t : List Nat) (h : TitK S t) : F_is_title [.str t, .str S] = .ok (.bl true) [] := by
  obtain ⟨l, ⟨c, r, rfl, hc⟩, ha⟩ := h
  have o := of_ok (c :: r) S (by omega)
  have a : ((c :: r).all fun c => decide (c ∈ S)) = true := List.all_eq_true.2 fun x hx => by simpa using ha x hx
  rw [a] at o
  have i : inD false (.str [c]) (.str k_SMALL) = some (.bl true) := by
    have : inD false (.str [c]) (.str k_SMALL) = some (.bl (false ^^ inStr [c] k_SMALL)) := rfl
    rw [this, inStr_one, decide_eq_true hc]
    rfl
  have ix : atI (c :: r) 0 = some c := by
    have := atI_nn (c :: r) 0 (by simp)
    simpa using this
  have z1 : (1 : Int) ≤ ((c :: r).length : Nat) := by simp; omega
  have z2 : ((c :: r).length : Nat) ≤ (20 : Int) := by omega
  generalize c :: r = T at *
  have e : F_is_title [.str T, .str S] = runF 2 [] m_is_title [.str T, .str S] := rfl
  generalize hK : k_SMALL = K at *
  rw [e]
  unfold m_is_title
  rw [hK]
  simp [o, i, ix, z1, z2, mChain]
abbrev Pr := List Nat × List Nat
def prD (p : Pr) : D := .tup [.str p.1, .str p.2]
structure PrK (p : Pr) : Prop where
  ti : TitK k_KEY_SIGNS p.1
  lf : 10 ∉ p.2
  len : p.2.length ≤ 530
  sg : ∀ c ∈ p.2, c < 127
theorem pair_ok (p : Pr) (h : PrK p) : F_is_pair [prD p] = .ok (.bl true) [] := by
  have t := title_ok k_KEY_SIGNS p.1 h.ti
  have l := line_ok p.2 h.lf
  have e : F_is_pair [prD p] = runF 1 [] m_is_pair [prD p] := rfl
  rw [e]
  unfold prD m_is_pair
  generalize k_KEY_SIGNS = K at *
  have i0 : atI [D.str p.1, D.str p.2] 0 = some (.str p.1) := rfl
  have i1 : atI [D.str p.1, D.str p.2] 1 = some (.str p.2) := rfl
  have tt : isTy .tuple (.tup [D.str p.1, D.str p.2]) = some (.bl true) := rfl
  simp [tt, i0, i1, t, l]
def kdD (o : Ow) (m s : List Nat) (ps : List Pr) : D := .tup [.str m, .str s, .lst o (ps.map prD)]
theorem pr_fz (ps : List Pr) : (ps.map prD).map D.fz = ps.map prD := by simp [prD]
theorem pr_pur (ps : List Pr) : ∀ x ∈ ps.map prD, x.pur = true := fun x hx => by
  obtain ⟨p, _, rfl⟩ := List.mem_map.1 hx
  rfl
theorem lc_pairs (ρ0 : Option D) (ps : List Pr) (h : ∀ p ∈ ps, PrK p) : lcL (mPut 1) mYes (mCall F_is_pair [.p 1]) [1] (ps.map prD) [ρ0, none] = .ok (ps.map fun _ => D.bl true) [ρ0, none] := by
  refine lcL_mapM prD (fun _ => D.bl true) ps fun p hp => ⟨[ρ0, some (prD p)], [ρ0, some (prD p)], rfl, ?_, rfl⟩
  have e := pair_ok p (h p hp)
  have f : (prD p).fz = prD p := by simp [prD]
  unfold prD at *
  simp [e]
theorem lc_names (ρ0 : Option D) (ps : List Pr) : lcL (mPut 1) mYes (mIdx (.v 1) (mC (.int 0))) [1] (ps.map prD) [ρ0, none] = .ok ((ps.map (·.1)).map D.str) [ρ0, none] := by
  have := lcL_mapM (g := mPut 1) (e := mIdx (.v 1) (mC (.int 0))) (vs := [1]) (ρ := [ρ0, none]) prD (fun p => D.str p.1) ps fun p hp => ⟨[ρ0, some (prD p)], [ρ0, some (prD p)], rfl, by
    have i0 : atI [D.str p.1, D.str p.2] 0 = some (.str p.1) := rfl
    unfold prD
    simp [i0], rfl⟩
  rw [this, List.map_map]
  rfl
structure KdK (m s : List Nat) (ps : List Pr) : Prop where
  m : TitK (k_KEY_SIGNS ++ [43]) m
  s : TitK (k_KEY_SIGNS ++ [43]) s
  pk : ∀ p ∈ ps, PrK p
  nd : (ps.map (·.1)).Nodup
  len : ps.length ≤ 8
theorem is_kind_core (o : Ow) (m s S : List Nat) (P B N : List D) (n : Nat) (FT FP : List D → RF) (hK : k_KEY_SIGNS ++ [43] = S) (a1 : addD (.str k_KEY_SIGNS) (.str [43]) = some (.str S)) (t1 : FT [.str m, .str S] = .ok (.bl true) []) (t2 : FT [.str s, .str S] = .ok (.bl true) [])
    (fz : P.map D.fz = P) (lP : P.length = n) (zP : n ≤ 16777216) (zB : B.length ≤ 16777216) (zN : N.length ≤ 16777216) (x0 : D) (hx : x0 = .tup [.str m, .str s, .lst o P])
    (e1 : ∀ y, lcL (mPut 1) mYes (mCall FP [.p 1]) [1] P [y, none] = .ok B [y, none]) (b : ∀ o, allD (.lst o B) = some (.bl true)) (e2 : ∀ y, lcL (mPut 1) mYes (mIdx (.v 1) (mC (.int 0))) [1] P [y, none] = .ok N [y, none]) (ns : List (List Nat)) (hN : strL N = some ns) (ln : ns.length ≤ 3000) (dn : dnA [] ns = n) :
    runF 2 [] (mSeq (mIf (mOr (mNot (mTest (mP1 (isTy .tuple) (.v 0)))) (mOr (mTest (mP2 neD (.e (mP1 lenD (.v 0))) (.e (mC (.int 3))))) (mNot (mTest (mP1 (isTyK .list) (.e (mIdx (.v 0) (mC (.int 2)))))))))
  (mRet (mC (.bl false)))
  mNext)
  (mSeq (mIf (mOr (mNot (mTest (mCall FT [.e (mIdx (.v 0) (mC (.int 0))), .e (mBin addD (mC (.str k_KEY_SIGNS)) (mC (.str [43])))]))) (mNot (mTest (mCall FT [.e (mIdx (.v 0) (mC (.int 1))), .e (mBin addD (mC (.str k_KEY_SIGNS)) (mC (.str [43])))]))))
  (mRet (mC (.bl false)))
  mNext)
  (mSeq (mIf (mNot (mTest (mP1 allD (.e (mLc (mItemsL (mIdx (.v 0) (mC (.int 2)))) (mPut 1) mYes (mCall FP [.p 1]) [1])))))
  (mRet (mC (.bl false)))
  mNext)
  (mRet (mP2 eqD (.e (mDist (mLc (mItemsL (mIdx (.v 0) (mC (.int 2)))) (mPut 1) mYes (mIdx (.v 1) (mC (.int 0))) [1]))) (.e (mP1 lenD (.e (mIdx (.v 0) (mC (.int 2)))))))))) ) [x0] = .ok (.bl true) [] := by
  subst hx
  have i0 : ∀ o, atI [D.str m, D.str s, D.lst o P] 0 = some (.str m) := fun _ => rfl
  have i1 : ∀ o, atI [D.str m, D.str s, D.lst o P] 1 = some (.str s) := fun _ => rfl
  have i2 : ∀ o, atI [D.str m, D.str s, D.lst o P] 2 = some (.lst o P) := fun _ => rfl
  have tt : ∀ o, isTy .tuple (.tup [D.str m, D.str s, D.lst o P]) = some (.bl true) := fun _ => rfl
  have tl : ∀ o, isTyK .list (.lst o P) = some (.bl true) := fun _ => rfl
  generalize k_KEY_SIGNS = K at *
  cases o <;> simp [tt, tl, i0, i1, i2, -addD_str, a1, t1, t2, fz, lP, zP, zB, zN, e1, b, e2, hN, ln, dn, saved, wipeD, restD]
theorem is_kind_ok (o : Ow) (m s : List Nat) (ps : List Pr) (h : KdK m s ps) : F_is_kind [kdD o m s ps] = .ok (.bl true) [] := by
  have el : F_is_kind [kdD o m s ps] = runF 2 [] m_is_kind [kdD o m s ps] := rfl
  have a1 : addD (.str k_KEY_SIGNS) (.str [43]) = some (.str (k_KEY_SIGNS ++ [43])) := add_tx _ _ (by decide)
  have dn : dnA [] (ps.map (·.1)) = ps.length := by rw [dnA_all _ _ h.nd (by simp), List.length_map]
  have b : ∀ o, allD (.lst o (ps.map fun _ => D.bl true)) = some (.bl true) := fun o => by
    have := allD_map o (fun _ : Pr => true) ps
    rw [this]
    simp
  exact el.trans (is_kind_core o m s _ (ps.map prD) (ps.map fun _ => D.bl true) ((ps.map (·.1)).map D.str) ps.length F_is_title F_is_pair rfl a1 (title_ok _ _ h.m) (title_ok _ _ h.s) (pr_fz ps) (by simp) (by have := h.len; omega) (by simp; have := h.len; omega) (by simp; have := h.len; omega) _ rfl
    (fun y => lc_pairs y ps h.pk) b (fun y => lc_names y ps) (ps.map (·.1)) (strL_map _) (by simp; have := h.len; omega) dn)
/-! ### a pair, written -/
def pcK (v : List Nat) (k : Nat) : List Nat := cutL v (some ((k : Int) * 40)) (some ((k : Int) * 40 + 40))
def ncK (v : List Nat) : Nat := (v.length + 40 - 1) / 40
def wpK (n v : List Nat) (k : Nat) : List Nat := [59, 32] ++ n ++ [42] ++ numL (k : Int) ++ [61] ++ due (pcK v k)
def pairT (p : Pr) : List Nat := if p.2.length ≤ 40 then [59, 32] ++ p.1 ++ [61] ++ due p.2 else (List.range (ncK p.2)).flatMap (wpK p.1 p.2)
theorem num_small : ∀ k : Nat, k < 20 → (numL (k : Int)).length ≤ 2 := by
  intro k hk
  rw [numL_nat]
  have : ∀ k : Nat, k < 20 → ((Nat.toDigits 10 k).map Char.toNat).length ≤ 2 := by decide
  exact this k hk
theorem nc_le (v : List Nat) (h : v.length ≤ 530) : ncK v ≤ 14 := by unfold ncK; omega
theorem pc_len (v : List Nat) (k : Nat) (h : k < ncK v) : (pcK v k).length ≤ 40 := by
  unfold ncK at h
  have := cut_btw_len v (k * 40) 40 (by omega)
  unfold pcK
  rw [show ((k : Int) * 40) = ((k * 40 : Nat) : Int) by omega]
  exact this
theorem pc_sub (v : List Nat) (k : Nat) : ∀ c ∈ pcK v k, c ∈ v := fun c hc => cut_sub _ _ _ c hc
theorem due_len (v : List Nat) : (due v).length ≤ 2 * v.length + 2 := by
  have := esc_len v
  unfold due
  split
  · omega
  · simp; omega
theorem wp_len (n v : List Nat) (k : Nat) (hn : n.length ≤ 20) (h : k < ncK v) (hv : v.length ≤ 530) : (wpK n v k).length ≤ 108 := by
  have a := due_len (pcK v k)
  have b := pc_len v k h
  have c := num_small k (by have := nc_le v hv; omega)
  unfold wpK
  simp only [List.length_append, List.length_cons, List.length_nil]
  omega
def bSh (FQ : List D → RF) : Cm Out := (mAug augA 2 (mBin addD (mBin addD (mBin addD (mBin addD (mBin addD (mC (.str [59, 32])) (mVar 0)) (mC (.str [42]))) (mP1 strD (.v 3))) (mC (.str [61]))) (mCall FQ [.e (mSlc (.v 1) (some (mVar 4)) (some (mBin addD (mVar 4) (mC (.int 40)))))])))
theorem bSh_core (FQ : List D → RF) (n v f P Q M a1 a2 a3 a4 a5 a6 : List Nat) (k i : Int) (e1 : addD (.str [59, 32]) (.str n) = some (.str a1)) (e2 : addD (.str a1) (.str [42]) = some (.str a2)) (sn : strD (.int k) = some (.str M)) (e3 : addD (.str a2) (.str M) = some (.str a3)) (e4 : addD (.str a3) (.str [61]) = some (.str a4))
    (cu : cutL v (some i) (some (i + 40)) = P) (q : FQ [.str P] = .ok (.str Q) []) (e5 : addD (.str a4) (.str Q) = some (.str a5)) (e6 : augA (.str f) (.str a5) = some (.str a6)) :
    bSh FQ [some (.str n), some (.str v), some (.str f), some (.int k), some (.int i)] = .ok .nx [some (.str n), some (.str v), some (.str a6), some (.int k), some (.int i)] := by
  unfold bSh
  simp [-addD_str, -augA_str, e1, e2, sn, e3, e4, cu, q, e5, e6]
theorem aug_tx (a b : List Nat) (h : a.length + b.length ≤ 100000) : augA (.str a) (.str b) = some (.str (a ++ b)) := by rw [augA_str, if_pos (by omega)]
theorem bSh_ok (n v f : List Nat) (k : Nat) (hn : n.length ≤ 20) (hk : k < ncK v) (hv : v.length ≤ 530) (sg : ∀ c ∈ v, c < 127) (hf : f.length ≤ 50000) : bSh F_quoted_in [some (.str n), some (.str v), some (.str f), some (.int (k : Nat)), some (.int ((k : Int) * 40))] = .ok .nx [some (.str n), some (.str v), some (.str (f ++ wpK n v k)), some (.int (k : Nat)), some (.int ((k : Int) * 40))] := by
  have b := pc_len v k hk
  have q := quoted_in_ok (pcK v k) (by omega) fun c hc => by have := sg c (pc_sub v k c hc); omega
  have a := due_len (pcK v k)
  have c := num_small k (by have := nc_le v hv; omega)
  have kk : k < 20 := by have := nc_le v hv; omega
  refine bSh_core F_quoted_in n v f (pcK v k) (due (pcK v k)) (numL (k : Int)) ([59, 32] ++ n) ([59, 32] ++ n ++ [42]) ([59, 32] ++ n ++ [42] ++ numL (k : Int)) ([59, 32] ++ n ++ [42] ++ numL (k : Int) ++ [61]) (wpK n v k) _ k _ (add_tx _ _ ?_) (add_tx _ _ ?_) (strD_int _ (by omega)) (add_tx _ _ ?_) (add_tx _ _ ?_) rfl q (add_tx _ _ ?_) (aug_tx _ _ ?_)
  · simp; omega
  · simp; omega
  · simp; omega
  · simp; omega
  · simp; omega
  · have := wp_len n v k hn hk hv; omega
theorem enum_at (N i : Nat) (d : D) (h : (enumD (stepD 0 40 N))[i]? = some d) : i < N ∧ d = .tup [.int (i : Nat), .int ((i : Int) * 40)] := by
  unfold enumD stepD at h
  rw [List.getElem?_mapIdx, List.getElem?_map, Option.map_map, Option.map_eq_some_iff] at h
  obtain ⟨k, hk, rfl⟩ := h
  have hlt : i < N := by
    by_cases q : i < N
    · exact q
    · rw [List.getElem?_eq_none (by simp; omega)] at hk; cases hk
  rw [List.getElem?_range hlt] at hk
  cases hk
  exact ⟨hlt, by simp⟩
theorem sh_loop (n v : List Nat) (hn : n.length ≤ 20) (hv : v.length ≤ 530) (sg : ∀ c ∈ v, c < 127) (x3 x4 : Option D) : ∃ y3 y4, forL (mTupT [(mPut 3), (mPut 4)]) (bSh F_quoted_in) (enumD (stepD 0 40 (ncK v))) [some (.str n), some (.str v), some (.str []), x3, x4] = .ok .nx [some (.str n), some (.str v), some (.str ((List.range (ncK v)).flatMap (wpK n v))), y3, y4] := by
  let I : Nat → DE → Prop := fun k ρ => ∃ y3 y4, k ≤ ncK v ∧ ((List.range k).flatMap (wpK n v)).length ≤ 108 * k ∧ ρ = [some (.str n), some (.str v), some (.str ((List.range k).flatMap (wpK n v))), y3, y4]
  have hf : ∃ ρ', forL (mTupT [(mPut 3), (mPut 4)]) (bSh F_quoted_in) (enumD (stepD 0 40 (ncK v))) [some (.str n), some (.str v), some (.str []), x3, x4] = .ok .nx ρ' ∧ I (enumD (stepD 0 40 (ncK v))).length ρ' := by
    refine forL_inv0 I ⟨_, _, Nat.zero_le _, by simp, rfl⟩ ?_
    rintro i d ρ hd ⟨y3, y4, hi, hl, rfl⟩
    obtain ⟨hlt, rfl⟩ := enum_at _ _ _ hd
    have nl := nc_le v hv
    have wl := wp_len n v i hn hlt hv
    have b := bSh_ok n v ((List.range i).flatMap (wpK n v)) i hn hlt hv sg (by omega)
    refine ⟨[some (.str n), some (.str v), some (.str ((List.range i).flatMap (wpK n v))), some (.int (i : Nat)), some (.int ((i : Int) * 40))], rfl, .nx, _, b, Or.inl rfl, some (.int (i : Nat)), some (.int ((i : Int) * 40)), hlt, ?_, ?_⟩
    · rw [List.range_succ, List.flatMap_append, List.length_append]
      simp only [List.flatMap_cons, List.flatMap_nil, List.append_nil]
      omega
    · rw [List.range_succ, List.flatMap_append]
      simp only [List.flatMap_cons, List.flatMap_nil, List.append_nil]
  obtain ⟨ρ', e, y3, y4, _, _, rfl⟩ := hf
  have ln : (enumD (stepD 0 40 (ncK v))).length = ncK v := by simp [enumD_len, stepD]
  rw [ln] at e
  exact ⟨y3, y4, e⟩
theorem sp_short (n v Q a1 a2 a3 : List Nat) (FQ : List D → RF) (L : Cm Out) (hv : v.length ≤ 40) (q : FQ [.str v] = .ok (.str Q) []) (e1 : addD (.str [59, 32]) (.str n) = some (.str a1)) (e2 : addD (.str a1) (.str [61]) = some (.str a2)) (e3 : addD (.str a2) (.str Q) = some (.str a3)) :
    runF 5 [] (mSeq (mIf (mTest (mP2 leD (.e (mP1 lenD (.v 1))) (.e (mC (.int 40)))))
  (mRet (mBin addD (mBin addD (mBin addD (mC (.str [59, 32])) (mMove 0)) (mC (.str [61]))) (mCall FQ [.e (mMove 1)])))
  mNext) L) [.str n, .str v] = .ok (.str a3) [] := by
  have z : (v.length : Int) ≤ 40 := by omega
  simp [z, -addD_str, e1, e2, q, e3]
theorem sp_long (n v R : List Nat) (FQ : List D → RF) (M : Cm Out) (x0 x1 y0 y1 y3 y4 : Option D) (hv : ¬ v.length ≤ 40) (e : M [some (.str n), some (.str v), some (.str []), none, none] = .ok .nx [y0, y1, some (.str R), y3, y4]) :
    runF 5 [] (mSeq (mIf (mTest (mP2 leD (.e (mP1 lenD (.v 1))) (.e (mC (.int 40)))))
  (mRet (mBin addD (mBin addD (mBin addD (mC (.str [59, 32])) (mMove 0)) (mC (.str [61]))) (mCall FQ [.e (mMove 1)])))
  mNext) (mSeq (mSet 2 (mC (.str []))) (mSeq M (mRet (mMove 2))))) [.str n, .str v] = .ok (.str R) [] := by
  have z : ¬ (v.length : Int) ≤ 40 := by omega
  simp [z, e]
theorem show_pair_ok (p : Pr) (hn : p.1.length ≤ 20) (hv : p.2.length ≤ 530) (sg : ∀ c ∈ p.2, c < 127) : F_show_pair [.str p.1, .str p.2] = .ok (.str (pairT p)) [] := by
  obtain ⟨n, v⟩ := p
  simp only at hn hv sg
  have el : F_show_pair [.str n, .str v] = runF 5 [] (mSeq (mIf (mTest (mP2 leD (.e (mP1 lenD (.v 1))) (.e (mC (.int 40)))))
  (mRet (mBin addD (mBin addD (mBin addD (mC (.str [59, 32])) (mMove 0)) (mC (.str [61]))) (mCall F_quoted_in [.e (mMove 1)])))
  mNext) (mSeq (mSet 2 (mC (.str []))) (mSeq (mFor (mEnumR (mC (.int 0)) (mP1 lenD (.v 1)) (mC (.int 40))) (mTupT [(mPut 3), (mPut 4)]) (bSh F_quoted_in)) (mRet (mMove 2))))) [.str n, .str v] := rfl
  unfold pairT
  by_cases q : v.length ≤ 40
  · rw [if_pos q]
    have qi := quoted_in_ok v (by omega) fun c hc => by have := sg c hc; omega
    have a := due_len v
    exact el.trans (sp_short n v _ _ _ _ _ _ q qi (add_tx _ _ (by simp; omega)) (add_tx _ _ (by simp; omega)) (add_tx _ _ (by simp; omega)))
  · rw [if_neg q]
    obtain ⟨y3, y4, e⟩ := sh_loop n v hn hv sg none none
    refine el.trans (sp_long n v _ F_quoted_in _ none none (some (.str n)) (some (.str v)) y3 y4 q ?_)
    have er := enumR_ok (ma := mC (.int 0)) (mb := mP1 lenD (.v 1)) (mc := mC (.int 40)) (ρ := [some (.str n), some (.str v), some (.str []), none, none]) (ρ1 := [some (.str n), some (.str v), some (.str []), none, none]) (ρ2 := [some (.str n), some (.str v), some (.str []), none, none]) (ρ3 := [some (.str n), some (.str v), some (.str []), none, none]) (n := v.length) (c := 40) (N := ncK v) rfl (by simp) rfl (by decide) (by decide) (by omega) rfl
    show (mEnumR _ _ _ _).bind _ = _
    rw [er]
    exact e

end K34


namespace K34
open VS L2
/-! ### small things -/
theorem cut_take' {α : Type} (xs : List α) (n : Nat) : cutL xs none (some (n : Int)) = xs.take n := by
  by_cases h : n ≤ xs.length
  · exact cut_take xs n h
  · unfold cutL
    rw [HT.sIx_none, HT.sIx_nat, Nat.min_eq_right (by omega)]
    simp
    rw [List.take_of_length_le (by omega)]
theorem cut_drop' {α : Type} (xs : List α) (n : Nat) : cutL xs (some (n : Int)) none = xs.drop n := by
  by_cases h : n ≤ xs.length
  · exact cut_drop xs n h
  · unfold cutL
    rw [HT.sIx_none, HT.sIx_nat, Nat.min_eq_right (by omega)]
    simp
    omega
theorem seq_nx {a b : Cm Out} {ρ ρ1 : DE} (h : a ρ = .ok .nx ρ1) : mSeq a b ρ = b ρ1 := by rw [mSeq_, h]; rfl
theorem join_e (o : Ow) (ws : List (List Nat)) (h : (ws.map List.length).sum ≤ 16777216) : joinD (.str []) (.lst o (ws.map D.str)) = some (.str ws.flatten) := by
  have jl : joinL [] ws = ws.flatten := by
    have g : ∀ r : List (List Nat), glL [] r = r.flatten := by
      intro r
      induction r with
      | nil => rfl
      | cons x r ih => unfold glL; rw [ih]; simp
    cases ws with
    | nil => rfl
    | cons x r =>
      show x ++ glL [] r = _
      rw [g]
      simp
  rw [← jl]
  show (match strL (ws.map D.str) with
    | some ys => if (ys.map List.length).sum + ys.length * ([] : List Nat).length ≤ 16777216 then some (Sc.str (joinL [] ys)) else none
    | none => none) = _
  rw [strL_map]
  exact if_pos (by simpa using h)
/-! ### a kind, written -/
def kdT (m s : List Nat) (ps : List Pr) : List Nat := m ++ [47] ++ s ++ (ps.map pairT).flatten
theorem pair_len (p : Pr) (h : PrK p) : (pairT p).length ≤ 1512 := by
  obtain ⟨n, v⟩ := p
  have hn : n.length ≤ 20 := h.ti.len
  have hv : v.length ≤ 530 := h.len
  unfold pairT
  simp only
  split
  · have := due_len v; simp; omega
  · have nl := nc_le v hv
    have k : ∀ m, m ≤ ncK v → ((List.range m).flatMap (wpK n v)).length ≤ 108 * m := by
      intro m
      induction m with
      | zero => simp
      | succ m ih =>
        intro hm
        have wl := wp_len n v m hn hm hv
        have := ih (by omega)
        rw [List.range_succ, List.flatMap_append, List.length_append]
        simp only [List.flatMap_cons, List.flatMap_nil, List.append_nil]
        omega
    have := k _ (Nat.le_refl _)
    omega
theorem pairs_len (ps : List Pr) (h : ∀ p ∈ ps, PrK p) : ((ps.map pairT).map List.length).sum ≤ 1512 * ps.length := by
  induction ps with
  | nil => simp
  | cons p r ih =>
    have a := pair_len p (h p (by simp))
    have b := ih fun q hq => h q (by simp [hq])
    simp only [List.map_cons, List.sum_cons, List.length_cons]
    omega
theorem lc_show (x0 x1 x2 x3 : Option D) (ps : List Pr) (h : ∀ p ∈ ps, PrK p) : lcL (mUnp [mPut 4, mPut 5]) mYes (mCall F_show_pair [.p 4, .p 5]) [4, 5] (ps.map prD) [x0, x1, x2, x3, none, none] = .ok ((ps.map pairT).map D.str) [x0, x1, x2, x3, none, none] := by
  rw [List.map_map]
  refine lcL_mapM prD (D.str ∘ pairT) ps fun p hp => ⟨[x0, x1, x2, x3, some (.str p.1), some (.str p.2)], [x0, x1, x2, x3, some (.str p.1), some (.str p.2)], rfl, ?_, rfl⟩
  have k := h p hp
  have e := show_pair_ok p k.ti.len k.len k.sg
  simp [e]
theorem sk_core {Z : Cm Out} (o : Ow) (m s J a1 a2 a3 : List Nat) (P R : List D) (FK FS : List D → RF) (fz : P.map D.fz = P) (k : ∀ o, FK [.tup [.str m, .str s, .lst o P]] = .ok (.bl true) []) (zP : P.length ≤ 16777216)
    (l : ∀ y0 y1 y2 y3, lcL (mUnp [mPut 4, mPut 5]) mYes (mCall FS [.p 4, .p 5]) [4, 5] P [y0, y1, y2, y3, none, none] = .ok R [y0, y1, y2, y3, none, none]) (zR : R.length ≤ 16777216) (j : ∀ o, joinD (.str []) (.lst o R) = some (.str J)) (e1 : addD (.str m) (.str [47]) = some (.str a1)) (e2 : addD (.str a1) (.str s) = some (.str a2)) (e3 : addD (.str a2) (.str J) = some (.str a3)) :
    runF 6 [] (mSeq (mIf (mNot (mTest (mCall FK [.p 0])))
  Z
  mNext)
  (mSeq (mAsg (mVar 0) (mTupT [(mPut 1), (mPut 2), (mPut 3)]))
  (mRet (mBin addD (mBin addD (mBin addD (mMove 1) (mC (.str [47]))) (mMove 2)) (mM joinD (.e (mC (.str []))) (.e (mLc (mItemsL (mVar 3)) (mUnp [mPut 4, mPut 5]) mYes (mCall FS [.p 4, .p 5]) [4, 5]))))))) [.tup [.str m, .str s, .lst o P]] = .ok (.str a3) [] := by
  cases o <;> simp [k, fz, zP, zR, l, -addD_str, e1, e2, j, e3, saved, wipeD, restD]
theorem show_kind_ok (o : Ow) (m s : List Nat) (ps : List Pr) (h : KdK m s ps) : F_show_kind [kdD o m s ps] = .ok (.str (kdT m s ps)) [] := by
  have el : F_show_kind [kdD o m s ps] = runF 6 [] m_show_kind [.tup [.str m, .str s, .lst o (ps.map prD)]] := rfl
  have pl := pairs_len ps h.pk
  have nl := h.len
  have ml := h.m.len
  have sl := h.s.len
  have fl : (ps.map pairT).flatten.length ≤ 12096 := by rw [List.length_flatten]; omega
  have j := fun o => join_e o (ps.map pairT) (by omega)
  exact el.trans (sk_core o m s _ _ _ _ (ps.map prD) ((ps.map pairT).map D.str) F_is_kind F_show_pair (pr_fz ps) (fun o => is_kind_ok o m s ps h) (by simp; omega) (fun y0 y1 y2 y3 => lc_show y0 y1 y2 y3 ps h.pk) (by simp; omega) j (add_tx _ _ (by simp; omega)) (add_tx _ _ (by simp; omega)) (add_tx _ _ (by simp only [List.length_append, List.length_singleton]; omega)))
/-! ### the law's own kind, written -/
end K34


namespace K34
open VS L2
/-! ### kinds drawn -/
def TL : List Nat := [97, 98, 121, 122, 48, 53, 57, 45]
theorem ti_core (s s1 s2 s3 : D) (A B AB c1 c2 c3 : List Nat) (j n : Int) (n1 : F__law_next [s, .int 5] = .ok (.int j) [s1]) (ix : atI [D.int 0, D.int 2, D.int 7, D.int 18, D.int 19] j = some (.int n)) (g1 : F__law_signs [s1, .str A, .int 1] = .ok (.str c1) [s2])
    (a1 : addD (.str TL) (.str B) = some (.str AB)) (g2 : F__law_signs [s2, .str AB, .int n] = .ok (.str c2) [s3]) (a2 : addD (.str c1) (.str c2) = some (.str c3)) :
    F__law_title [s, .str A, .str B] = .ok (.str c3) [s3] := by
  have el : F__law_title [s, .str A, .str B] = runF 4 [0] (mSeq (mSet 3 (mIdx (.e (mLst [(mC (.int 0)), (mC (.int 2)), (mC (.int 7)), (mC (.int 18)), (mC (.int 19))])) (mCall F__law_next [.s 0, .e (mC (.int 5))])))
  (mRet (mBin addD (mCall F__law_signs [.s 0, .e (mMove 1), .e (mC (.int 1))]) (mCall F__law_signs [.s 0, .e (mBin addD (mC (.str TL)) (mMove 2)), .e (mMove 3)])))) [s, .str A, .str B] := rfl
  rw [el]
  generalize TL = L at *
  simp [n1, ix, g1, -addD_str, a1, g2, a2]
theorem title_drawn (s : Int × Int × Int) (A B S : List Nat) (hA : A ≠ []) (lA : A.length ≤ 100) (lB : B.length ≤ 100) (h1 : ∀ c ∈ A, c ∈ k_SMALL) (h2 : ∀ c ∈ A, c ∈ S) (h3 : ∀ c ∈ TL ++ B, c ∈ S) : ∃ (s' : Int × Int × Int) (t : List Nat), TitK S t ∧ (∃ c r, t = c :: r ∧ c ∈ A) ∧ F__law_title [encS s, .str A, .str B] = .ok (.str t) [encS s'] := by
  have n1 := next_f s 5 (by decide) (by decide)
  have l1 := nx_nn s 5 (by decide) (by decide)
  have u1 := nx_lt s 5 (by decide) (by decide)
  generalize nx s 5 = j at *
  generalize sn s 5 = s1 at *
  obtain ⟨n, hn, ix⟩ : ∃ n : Nat, n ≤ 19 ∧ atI [D.int 0, D.int 2, D.int 7, D.int 18, D.int 19] j = some (.int (n : Nat)) := by
    have : j = 0 ∨ j = 1 ∨ j = 2 ∨ j = 3 ∨ j = 4 := by omega
    rcases this with rfl | rfl | rfl | rfl | rfl
    · exact ⟨0, by decide, rfl⟩
    · exact ⟨2, by decide, rfl⟩
    · exact ⟨7, by decide, rfl⟩
    · exact ⟨18, by decide, rfl⟩
    · exact ⟨19, by decide, rfl⟩
  obtain ⟨c1, s2, g1, e1, m1⟩ := signs_ok s1 A 1 hA (by omega) (by decide)
  obtain ⟨c2, s3, g2, e2, m2⟩ := signs_ok s2 (TL ++ B) n (by simp [TL]) (by simp [TL]; omega) (by omega)
  obtain ⟨c, rfl⟩ := List.length_eq_one_iff.1 e1
  have hc := m1 c (by simp)
  refine ⟨s3, [c] ++ c2, ⟨by simp; omega, ⟨c, c2, rfl, h1 c hc⟩, fun x hx => ?_⟩, ⟨c, c2, rfl, hc⟩, ti_core (encS s) (encS s1) (encS s2) (encS s3) A B _ [c] c2 _ j n n1 ix g1 (add_tx _ _ (by simp [TL]; omega)) g2 (add_tx _ _ (by simp; omega))⟩
  rcases List.mem_append.1 hx with hx | hx
  · rw [List.mem_singleton] at hx; subst hx; exact h2 _ hc
  · exact h3 x (m2 x hx)
def LT : List Nat := [97, 98, 99, 100, 101, 102, 103, 104]
def SM : List (List Nat) := [[97, 98, 90, 57, 46, 47, 61, 63, 39, 95], [97, 98, 32, 34, 92, 59, 61, 42, 40, 41], [97, 66, 57, 32]]
theorem SM_ok : ∀ S ∈ SM, S ≠ [] ∧ S.length ≤ 100 ∧ ∀ c ∈ S, c < 127 ∧ c ≠ 10 := by decide
def cMo : Cm Bool := (mAnd (mTest (mP2 eqD (.e (mCall F__law_next [.s 0, .e (mC (.int 24))])) (.e (mC (.int 0))))) (mTest (mP2 ltD (.e (mP1 sumD (.e (mLcI 2 (mUnp [mPut 7, mPut 8]) mYes (mP1 lenD (.v 8)) [7, 8])))) (.e (mC (.int 300))))))
def bKd : Cm Out := (mSeq (mSet 4 (mCall F__law_title [.s 0, .e (mIdx (.e (mC (.str LT))) (mVar 3)), .e (mC (.str []))]))
  (mSeq (mSet 5 (mIdx (.e (mLst [(mC (.str [97, 98, 90, 57, 46, 47, 61, 63, 39, 95])), (mC (.str [97, 98, 32, 34, 92, 59, 61, 42, 40, 41])), (mC (.str [97, 66, 57, 32]))])) (mCall F__law_next [.s 0, .e (mC (.int 3))])))
  (mSeq (mSet 6 (mIdx (.e (mLst [(mC (.int 0)), (mC (.int 1)), (mC (.int 5)), (mC (.int 39)), (mC (.int 40)), (mC (.int 41)), (mC (.int 79)), (mC (.int 80)), (mC (.int 81)), (mCall F__law_next [.s 0, .e (mC (.int 140))])])) (mCall F__law_next [.s 0, .e (mC (.int 10))])))
  (mSeq (mIf cMo
  (mSet 6 (mBin addD (mC (.int 400)) (mCall F__law_next [.s 0, .e (mC (.int 130))])))
  mNext)
  (mDrop (mApp 2 (mTup [(mVar 4), (mCall F__law_signs [.s 0, .p 5, .p 6])])))))))
theorem lc_lens (x0 x1 x2 x3 x4 x5 x6 : Option D) (ps : List Pr) : lcL (mUnp [mPut 7, mPut 8]) mYes (mP1 lenD (.v 8)) [7, 8] (ps.map prD) [x0, x1, x2, x3, x4, x5, x6, none, none] = .ok ((ps.map fun p => (p.2.length : Int)).map D.int) [x0, x1, x2, x3, x4, x5, x6, none, none] := by
  rw [List.map_map]
  exact lcL_mapM prD (D.int ∘ fun p => (p.2.length : Int)) ps fun p hp => ⟨[x0, x1, x2, x3, x4, x5, x6, some (.str p.1), some (.str p.2)], [x0, x1, x2, x3, x4, x5, x6, some (.str p.1), some (.str p.2)], rfl, by simp, rfl⟩
theorem pr_purD : ∀ ps : List Pr, Ds.pur (ps.map prD) = true
  | [] => rfl
  | p :: ps => by
    rw [List.map_cons, Ds.pur, pr_purD ps]
    rfl
theorem cMo_ok (s : Int × Int × Int) (ps : List Pr) (hl : ps.length ≤ 8) (x1 x3 x4 x5 x6 x7 x8 : Option D) (h78 : x7 = none ∧ x8 = none) : ∃ (b : Bool) (s' : Int × Int × Int), cMo [some (encS s), x1, some (.lst .own (ps.map prD)), x3, x4, x5, x6, x7, x8] = .ok b [some (encS s'), x1, some (.lst .own (ps.map prD)), x3, x4, x5, x6, x7, x8] := by
  obtain ⟨rfl, rfl⟩ := h78
  have n1 := next_f s 24 (by decide) (by decide)
  generalize nx s 24 = j at *
  generalize sn s 24 = s1 at *
  have l := lc_lens (some (encS s1)) x1 none x3 x4 x5 x6 ps
  have sm := fun o => sumD_ o (ps.map fun p => (p.2.length : Int))
  have pp : Ds.pur (ps.map prD) = true := pr_purD ps
  have zP : (ps.map prD).length ≤ 16777216 := by simp; omega
  generalize ps.map prD = P at *
  generalize hN : (ps.map fun p => (p.2.length : Int)) = N at *
  have sm2 : ∀ o, sumD (.lst o (N.map D.int)) = some (.int N.sum) := sm
  generalize N.map D.int = M at *
  generalize N.sum = t at *
  generalize encS s = e0 at *
  generalize he : encS s1 = e1 at *
  by_cases q : j = 0
  · subst q
    refine ⟨decide (t < 300), s1, ?_⟩
    unfold cMo
    simp [n1, pp, zP, l, sm2, saved, wipeD, restD, he]
  · refine ⟨false, s1, ?_⟩
    have q2 : (j == 0) = false := by simpa using q
    unfold cMo
    simp [n1, q, q2, he]
theorem st1 (e e1 : D) (c : Nat) (N L : List Nat) (k : Int) (hL : LT = L) (ix : atI L k = some c) (ti : F__law_title [e, .str [c], .str []] = .ok (.str N) [e1]) (x1 x2 x4 x5 x6 x7 x8 : Option D) :
    mSet 4 (mCall F__law_title [.s 0, .e (mIdx (.e (mC (.str L))) (mVar 3)), .e (mC (.str []))]) [some e, x1, x2, some (.int k), x4, x5, x6, x7, x8] = .ok .nx [some e1, x1, x2, some (.int k), some (.str N), x5, x6, x7, x8] := by
  simp [ix, ti]
theorem st2 (e e1 : D) (j : Int) (S : List Nat) (n : F__law_next [e, .int 3] = .ok (.int j) [e1]) (ix : atI (SM.map D.str) j = some (.str S)) (x1 x2 x3 x4 x5 x6 x7 x8 : Option D) :
    mSet 5 (mIdx (.e (mLst [(mC (.str [97, 98, 90, 57, 46, 47, 61, 63, 39, 95])), (mC (.str [97, 98, 32, 34, 92, 59, 61, 42, 40, 41])), (mC (.str [97, 66, 57, 32]))])) (mCall F__law_next [.s 0, .e (mC (.int 3))])) [some e, x1, x2, x3, x4, x5, x6, x7, x8] = .ok .nx [some e1, x1, x2, x3, x4, some (.str S), x6, x7, x8] := by
  unfold SM at ix
  simp only [List.map_cons, List.map_nil] at ix
  simp [n, ix]
theorem st3 (e e1 e2 : D) (a b m : Int) (n1 : F__law_next [e, .int 140] = .ok (.int a) [e1]) (n2 : F__law_next [e1, .int 10] = .ok (.int b) [e2]) (ix : atI [D.int 0, D.int 1, D.int 5, D.int 39, D.int 40, D.int 41, D.int 79, D.int 80, D.int 81, D.int a] b = some (.int m)) (x1 x2 x3 x4 x5 x6 x7 x8 : Option D) :
    mSet 6 (mIdx (.e (mLst [(mC (.int 0)), (mC (.int 1)), (mC (.int 5)), (mC (.int 39)), (mC (.int 40)), (mC (.int 41)), (mC (.int 79)), (mC (.int 80)), (mC (.int 81)), (mCall F__law_next [.s 0, .e (mC (.int 140))])])) (mCall F__law_next [.s 0, .e (mC (.int 10))])) [some e, x1, x2, x3, x4, x5, x6, x7, x8] = .ok .nx [some e2, x1, x2, x3, x4, x5, some (.int m), x7, x8] := by
  simp [n1, n2, ix]
theorem st4 (C : Cm Bool) (e e1 e2 : D) (b : Bool) (r m : Int) (x1 x2 x3 x4 x5 x7 x8 : Option D) (c : C [some e, x1, x2, x3, x4, x5, some (.int m), x7, x8] = .ok b [some e1, x1, x2, x3, x4, x5, some (.int m), x7, x8]) (n : F__law_next [e1, .int 130] = .ok (.int r) [e2]) :
    (mIf C (mSet 6 (mBin addD (mC (.int 400)) (mCall F__law_next [.s 0, .e (mC (.int 130))]))) mNext) [some e, x1, x2, x3, x4, x5, some (.int m), x7, x8] = .ok .nx [some (if b = true then e2 else e1), x1, x2, x3, x4, x5, some (.int (if b = true then 400 + r else m)), x7, x8] := by
  cases b <;> simp [c, n]
theorem st5 (e e1 : D) (N S V : List Nat) (m : Int) (P : List D) (lP : P.length < 16777216) (g : F__law_signs [e, .str S, .int m] = .ok (.str V) [e1]) (x1 x3 x7 x8 : Option D) :
    mDrop (mApp 2 (mTup [(mVar 4), (mCall F__law_signs [.s 0, .p 5, .p 6])])) [some e, x1, some (.lst .own P), x3, some (.str N), some (.str S), some (.int m), x7, x8] = .ok .nx [some e1, x1, some (.lst .own (P ++ [.tup [.str N, .str V]])), x3, some (.str N), some (.str S), some (.int m), x7, x8] := by
  simp [g, lP]
theorem many_at (a b : Int) (ha : 0 ≤ a ∧ a < 140) (hb : 0 ≤ b ∧ b < 10) : ∃ m : Nat, m ≤ 140 ∧ atI [D.int 0, D.int 1, D.int 5, D.int 39, D.int 40, D.int 41, D.int 79, D.int 80, D.int 81, D.int a] b = some (.int (m : Nat)) := by
  obtain ⟨k, rfl⟩ := Int.eq_ofNat_of_zero_le ha.1
  have : b = 0 ∨ b = 1 ∨ b = 2 ∨ b = 3 ∨ b = 4 ∨ b = 5 ∨ b = 6 ∨ b = 7 ∨ b = 8 ∨ b = 9 := by omega
  rcases this with rfl | rfl | rfl | rfl | rfl | rfl | rfl | rfl | rfl | rfl
  · exact ⟨0, by decide, rfl⟩
  · exact ⟨1, by decide, rfl⟩
  · exact ⟨5, by decide, rfl⟩
  · exact ⟨39, by decide, rfl⟩
  · exact ⟨40, by decide, rfl⟩
  · exact ⟨41, by decide, rfl⟩
  · exact ⟨79, by decide, rfl⟩
  · exact ⟨80, by decide, rfl⟩
  · exact ⟨81, by decide, rfl⟩
  · exact ⟨k, by omega, rfl⟩
theorem bKd_ok (s : Int × Int × Int) (ps : List Pr) (k : Nat) (hk : k < 8) (hl : ps.length ≤ 8) (x1 x4 x5 x6 : Option D) : ∃ (s' : Int × Int × Int) (p : Pr) (y4 y5 y6 : Option D), PrK p ∧ p.1.head? = LT[k]? ∧ bKd [some (encS s), x1, some (.lst .own (ps.map prD)), some (.int (k : Nat)), x4, x5, x6, none, none] = .ok .nx [some (encS s'), x1, some (.lst .own ((ps ++ [p]).map prD)), some (.int (k : Nat)), y4, y5, y6, none, none] := by
  obtain ⟨c, hc, hcs, hck⟩ : ∃ c, atI LT (k : Int) = some c ∧ c ∈ k_SMALL ∧ LT[k]? = some c := by
    have hkl : k < LT.length := by simpa [LT] using hk
    refine ⟨LT[k], by rw [atI_nn _ _ hkl]; simp [hkl], ?_, by simp [hkl]⟩
    have : ∀ c ∈ LT, c ∈ k_SMALL := by decide
    exact this _ (List.getElem_mem _)
  have sk : ∀ c ∈ k_SMALL, c ∈ k_KEY_SIGNS := by decide
  obtain ⟨s1, N, hN, ⟨c2, r2, rfl, hc2⟩, ti⟩ := title_drawn s [c] [] k_KEY_SIGNS (by simp) (by simp) (by simp) (by simpa using hcs) (by simpa using sk c hcs) (by decide)
  rw [List.mem_singleton] at hc2
  subst hc2
  have n2 := next_f s1 3 (by decide) (by decide)
  have l2 := nx_nn s1 3 (by decide) (by decide)
  have u2 := nx_lt s1 3 (by decide) (by decide)
  generalize nx s1 3 = j at *
  generalize sn s1 3 = s2 at *
  obtain ⟨S, iS, hS⟩ := atI_strs SM j l2 u2
  obtain ⟨q1, q2, q3⟩ := SM_ok S hS
  have n3 := next_f s2 140 (by decide) (by decide)
  have l3 := nx_nn s2 140 (by decide) (by decide)
  have u3 := nx_lt s2 140 (by decide) (by decide)
  generalize nx s2 140 = a at *
  generalize sn s2 140 = s3 at *
  have n4 := next_f s3 10 (by decide) (by decide)
  have l4 := nx_nn s3 10 (by decide) (by decide)
  have u4 := nx_lt s3 10 (by decide) (by decide)
  generalize nx s3 10 = b at *
  generalize sn s3 10 = s4 at *
  obtain ⟨m, hm, im⟩ := many_at a b ⟨l3, u3⟩ ⟨l4, u4⟩
  obtain ⟨t, s5, cm⟩ := cMo_ok s4 ps hl x1 (some (.int (k : Nat))) (some (.str (c2 :: r2))) (some (.str S)) (some (.int (m : Nat))) none none ⟨rfl, rfl⟩
  have n6 := next_f s5 130 (by decide) (by decide)
  have l6 := nx_nn s5 130 (by decide) (by decide)
  have u6 := nx_lt s5 130 (by decide) (by decide)
  generalize nx s5 130 = r at *
  generalize sn s5 130 = s6 at *
  obtain ⟨r, rfl⟩ := Int.eq_ofNat_of_zero_le l6
  obtain ⟨V, s7, gs, gl, gm⟩ := signs_ok (if t = true then s6 else s5) S (if t = true then 400 + r else m) q1 (by omega) (by split <;> omega)
  have e4 := st4 cMo (encS s4) (encS s5) (encS s6) t r m x1 (some (.lst .own (ps.map prD))) (some (.int (k : Nat))) (some (.str (c2 :: r2))) (some (.str S)) none none cm n6
  have i1 : (if t = true then encS s6 else encS s5) = encS (if t = true then s6 else s5) := by cases t <;> rfl
  have i2 : (if t = true then (400 : Int) + ((r : Nat) : Int) else ((m : Nat) : Int)) = (((if t = true then 400 + r else m) : Nat) : Int) := by cases t <;> simp
  rw [i1, i2] at e4
  refine ⟨s7, (c2 :: r2, V), some (.str (c2 :: r2)), some (.str S), some (.int (((if t = true then 400 + r else m) : Nat) : Int)), ⟨hN, fun h => (q3 10 (gm 10 h)).2 rfl, by simp only; rw [gl]; split <;> omega, fun c h => (q3 c (gm c h)).1⟩, by simp [hck], ?_⟩
  unfold bKd
  rw [seq_nx (st1 (encS s) (encS s1) c2 _ LT k rfl hc ti _ _ _ _ _ _ _), seq_nx (st2 (encS s1) (encS s2) j S n2 iS _ _ _ _ _ _ _ _), seq_nx (st3 (encS s2) (encS s3) (encS s4) a b m n3 n4 im _ _ _ _ _ _ _ _), seq_nx e4, st5 _ (encS s7) _ S V _ _ (by simp; omega) gs]
  simp [prD]
theorem kd_core (s s1 s2 s3 s4 : D) (n : Int) (M S : List Nat) (P : List D) (y3 y4 y5 y6 y7 y8 : Option D) (n1 : F__law_next [s, .int 5] = .ok (.int n) [s1]) (sm : smallR n) (e : forL (mPut 3) bKd (rangeD 0 n.toNat) [some s1, some (.int 4), some (.lst .own []), none, none, none, none, none, none] = .ok .nx [some s2, some (.int 4), some (.lst .own P), y3, y4, y5, y6, y7, y8])
    (t1 : F__law_title [s2, .str [97, 98, 100, 116], .str [43]] = .ok (.str M) [s3]) (t2 : F__law_title [s3, .str [97, 98, 120, 121], .str [43]] = .ok (.str S) [s4]) :
    F__law_kind [s, .int 4] = .ok (.tup [.str M, .str S, .lst .own P]) [s4] := by
  have el : F__law_kind [s, .int 4] = runF 9 [0] (mSeq (mSet 2 (mLst []))
  (mSeq (mFor (mRange1 (mCall F__law_next [.s 0, .e (mBin addD (mVar 1) (mC (.int 1)))])) (mPut 3) bKd)
  (mRet (mTup [(mCall F__law_title [.s 0, .e (mC (.str [97, 98, 100, 116])), .e (mC (.str [43]))]), (mCall F__law_title [.s 0, .e (mC (.str [97, 98, 120, 121])), .e (mC (.str [43]))]), (mMove 2)])))) [s, .int 4] := rfl
  rw [el]
  generalize bKd = B at *
  simp [n1, sm, e, t1, t2]
def GR : List (List Nat) := [[109, 97, 110, 121], [99, 111, 118, 101, 114]]
theorem kind_drawn (s : Int × Int × Int) : ∃ (s' : Int × Int × Int) (m t : List Nat) (ps : List Pr), KdK m t ps ∧ m ∉ GR ∧ F__law_kind [encS s, .int 4] = .ok (kdD .own m t ps) [encS s'] := by
  have n1 := next_f s 5 (by decide) (by decide)
  have l1 := nx_nn s 5 (by decide) (by decide)
  have u1 := nx_lt s 5 (by decide) (by decide)
  generalize nx s 5 = n at *
  generalize sn s 5 = s1 at *
  let I : Nat → DE → Prop := fun k ρ => ∃ (s' : Int × Int × Int) (ps : List Pr) (y3 y4 y5 y6 : Option D), (∀ p ∈ ps, PrK p) ∧ ps.map (fun p => p.1.head?) = (LT.take k).map some ∧ ps.length = k ∧ ρ = [some (encS s'), some (.int 4), some (.lst .own (ps.map prD)), y3, y4, y5, y6, none, none]
  have hf : ∃ ρ', forL (mPut 3) bKd (rangeD 0 n.toNat) [some (encS s1), some (.int 4), some (.lst .own []), none, none, none, none, none, none] = .ok .nx ρ' ∧ I (rangeD 0 n.toNat).length ρ' := by
    refine forL_inv0 I ⟨s1, [], none, none, none, none, by simp, by simp, rfl, rfl⟩ ?_
    rintro i d ρ hd ⟨s', ps, y3, y4, y5, y6, h1, h2, h3, rfl⟩
    obtain ⟨hi, rfl⟩ := rangeD_get hd
    rw [show (0 : Int) + (i : Int) = ((i : Nat) : Int) by omega]
    obtain ⟨s2, p, z4, z5, z6, g1, g2, e⟩ := bKd_ok s' ps i (by omega) (by omega) (some (.int 4)) y4 y5 y6
    refine ⟨[some (encS s'), some (.int 4), some (.lst .own (ps.map prD)), some (.int (i : Nat)), y4, y5, y6, none, none], rfl, .nx, _, e, Or.inl rfl, s2, ps ++ [p], some (.int (i : Nat)), z4, z5, z6, fun q hq => ?_, ?_, by simp [h3], rfl⟩
    · rcases List.mem_append.1 hq with hq | hq
      · exact h1 q hq
      · rw [List.mem_singleton] at hq; subst hq; exact g1
    · have il : i < LT.length := by simp [LT]; omega
      rw [List.map_append, h2, List.take_succ, List.map_append]
      simp only [List.map_cons, List.map_nil, g2, List.getElem?_eq_getElem il, Option.toList]
  obtain ⟨ρ', e, s2, ps, y3, y4, y5, y6, h1, h2, h3, rfl⟩ := hf
  have ln : (rangeD 0 n.toNat).length = n.toNat := by simp [rangeD]
  rw [ln] at h2 h3
  obtain ⟨s3, M, hM, hMc, t1⟩ := title_drawn s2 [97, 98, 100, 116] [43] (k_KEY_SIGNS ++ [43]) (by simp) (by simp) (by simp) (by decide) (by decide) (by decide)
  obtain ⟨s4, S, hS, _, t2⟩ := title_drawn s3 [97, 98, 120, 121] [43] (k_KEY_SIGNS ++ [43]) (by simp) (by simp) (by simp) (by decide) (by decide) (by decide)
  have nd : (ps.map (·.1)).Nodup := by
    have nl : (ps.map (fun p => p.1.head?)).Nodup := by
      rw [h2]
      have : (LT.map some).Nodup := by decide
      rw [List.map_take]
      exact this.sublist (List.take_sublist _ _)
    have e2 : ps.map (fun p => p.1.head?) = (ps.map (·.1)).map List.head? := by rw [List.map_map]; rfl
    rw [e2] at nl
    exact List.Pairwise.of_map List.head? (fun a b h e => h (by rw [e])) nl
  exact ⟨s4, M, S, ps, ⟨hM, hS, h1, nd, by omega⟩, (fun hg => by
    obtain ⟨c, r, e, hc⟩ := hMc
    simp only [GR, List.mem_cons, List.mem_nil_iff, or_false] at hg
    rcases hg with q | q <;> (rw [e] at q; injection q with q1 _; rw [q1] at hc; revert hc; decide)), kd_core (encS s) (encS s1) (encS s2) (encS s3) (encS s4) n M S (ps.map prD) y3 y4 y5 y6 none none n1 (by unfold smallR; omega) e t1 t2⟩

end K34


namespace K34
open VS L2
/-! ### the quiet copies -/
def Qok {α : Type} (m' m : Cm α) : Prop := ∀ ρ a ρ1, m ρ = .ok a ρ1 → m' ρ = .ok a ρ1
theorem Qok.q {α : Type} (m : Cm α) : Qok (mQ m) m := fun ρ a ρ1 h => by
  show qR (m ρ) = _
  rw [h]; rfl
theorem Qok.seq {a' a b' b : Cm Out} (h1 : Qok a' a) (h2 : Qok b' b) : Qok (mSeq a' b') (mSeq a b) := fun ρ o ρ1 h => by
  rw [mSeq_] at h ⊢
  cases e : a ρ with
  | ok x ρ2 =>
    rw [h1 _ _ _ e]
    rw [e] at h
    cases x with
    | nx => exact h2 _ _ _ h
    | ret d => exact h
    | brk => exact h
    | ct => exact h
  | exc x ρ2 => rw [e] at h; cases h
  | stuck => rw [e] at h; cases h
theorem Qok.iff {c' c : Cm Bool} {a b : Cm Out} (h1 : Qok c' c) : Qok (mIf c' a b) (mIf c a b) := fun ρ o ρ1 h => by
  rw [mIf_] at h ⊢
  cases e : c ρ with
  | ok x ρ2 =>
    rw [h1 _ _ _ e]
    rw [e] at h
    exact h
  | exc x ρ2 => rw [e] at h; cases h
  | stuck => rw [e] at h; cases h
theorem Qok.run {m' m : Cm Out} (h : Qok m' m) {n : Nat} {io : List Nat} {args : List D} {d : D} {ds : List D} (e : runF n io m args = .ok d ds) : runF n io m' args = .ok d ds := by
  unfold runF at e ⊢
  cases q : m (startD n args) with
  | ok x ρ => rw [h _ _ _ q]; rw [q] at e; exact e
  | exc x ρ =>
    rw [q] at e
    simp only [endF] at e
    split at e <;> cases e
  | stuck => rw [q] at e; cases e
theorem kindN_le : Qok m_show_kind__n m_show_kind := .seq (.iff (.q _)) (.seq (.q _) (.q _))
theorem kindN_ok {args : List D} {d : D} {ds : List D} (e : F_show_kind args = .ok d ds) : F_show_kind__n args = .ok d ds := kindN_le.run e
theorem eqs (a b : List Nat) : (Sc.str a).eqB (.str b) = decide (a = b) := by
  show (a == b) = _
  rw [Bool.eq_iff_iff]; simp
theorem gr_in (neg : Bool) (n : List Nat) : inD neg (.str n) (.tup (k_GREATER.map D.sc)) = some (.bl (neg ^^ decide (n ∈ GR))) := by
  have e : ((Sc.str [109, 97, 110, 121]).eqB (.str n) || ((Sc.str [99, 111, 118, 101, 114]).eqB (.str n) || false)) = decide (n ∈ GR) := by
    have a1 : (Sc.str [109, 97, 110, 121]).eqB (.str n) = decide ([109, 97, 110, 121] = n) := eqs _ _
    have a2 : (Sc.str [99, 111, 118, 101, 114]).eqB (.str n) = decide ([99, 111, 118, 101, 114] = n) := eqs _ _
    rw [a1, a2]
    by_cases h1 : [109, 97, 110, 121] = n
    · subst h1; decide
    · by_cases h2 : [99, 111, 118, 101, 114] = n
      · subst h2; decide
      · have : n ∉ GR := by
          simp only [GR, List.mem_cons, List.not_mem_nil, or_false, not_or]
          exact ⟨fun h => h1 h.symm, fun h => h2 h.symm⟩
        simp [h1, h2, this]
  show some (Sc.bl (neg ^^ _)) = _
  rw [show (([.str [109, 97, 110, 121], .str [99, 111, 118, 101, 114]] : List Sc).any fun x => x.eqB (.str n)) = ((Sc.str [109, 97, 110, 121]).eqB (.str n) || ((Sc.str [99, 111, 118, 101, 114]).eqB (.str n) || false)) from rfl, e]
theorem needed_ok : F_needed [.bl true] = .ok .non [] := by simp [F_needed, m_needed]
theorem checked_heads_none : F_checked_heads [.non] = .ok (.lst .own []) [] := by
  simp [F_checked_heads, m_checked_heads]
theorem ck_core (o : Ow) (m s T : List Nat) (P : List D) (fz : P.map D.fz = P) (pu : P.all D.pur = true) (lP : P.length ≤ 1000) (FS : List D → RF) (Z : Cm Out) (e : ∀ o, FS [.tup [.str m, .str s, .lst o P]] = .ok (.str T) []) :
    runF 4 [] (mSeq (mTryX exm_ "NoKind"
  (mDrop (mCall FS [.p 0]))
  Z)
  (mSeq (mAsg (mVar 0) (mTupT [(mPut 1), (mPut 2), (mPut 3)]))
  (mRet (mTup [(mMove 1), (mMove 2), (mNew listD (.v 3))])))) [.tup [.str m, .str s, .lst o P]] = .ok (.tup [.str m, .str s, .lst .own P]) [] := by
  have z1 : P.length ≤ 16777216 := by omega
  cases o <;> simp [-List.all_eq_true, e, fz, z1, pu]
theorem checked_kind_ok (o : Ow) (m s : List Nat) (ps : List Pr) (h : KdK m s ps) : F_checked_kind [kdD o m s ps] = .ok (kdD .own m s ps) [] :=
  (show F_checked_kind [kdD o m s ps] = runF 4 [] m_checked_kind [kdD o m s ps] from rfl).trans (ck_core o m s _ (ps.map prD) (pr_fz ps) (List.all_eq_true.2 (pr_pur ps)) (by have := h.len; simp; omega) F_show_kind__n _ fun o => kindN_ok (show_kind_ok o m s ps h))
def bestWd (l : List Int) : Wd := if canF 0 l = true then .p else if (mkT l).length ≤ (sxT l).length then .m else .s
theorem best_wd (o : Ow) (l : List Int) (h : ∀ x ∈ l, Oct x) (hl : l.length ≤ 1000) : F_best [.lst o (l.map D.int)] = .ok (.str (bestWd l).w) [] := by
  rw [best_ok o l h hl]
  unfold bestWd bestW
  split
  · rfl
  · split <;> rfl
theorem cc_none (o : Ow) (l : List Int) (h : ∀ x ∈ l, Oct x) (hl : l.length ≤ 1000) : F_checked_code [.lst o (l.map D.int), .non] = .ok (.str (bestWd l).w) [] := by
  have b := fun o => best_wd o l h hl
  have e : F_checked_code [.lst o (l.map D.int), .non] = runF 2 [] m_checked_code [.lst o (l.map D.int), .non] := rfl
  rw [e]
  unfold m_checked_code
  have fz := ints_fz l
  generalize l.map D.int = L at *
  generalize (bestWd l).w = W at *
  cases o <;> simp [b, fz]

end K34


namespace K34
open VS L2
def LFN : List String := ["held_kind", "held_octets", "held_code", "held_heads"]
theorem li_core (m s W : List Nat) (P L H : List D) (hd cd : D) (FO FK FC FH : List D → RF) (fL : L.map D.fz = L) (fP : P.map D.fz = P) (puL : L.all D.pur = true) (lL : L.length ≤ 1000) (G : List Sc)
    (o : FO [.lst .shr L] = .ok (.bl true) []) (k : FK [.tup [.str m, .str s, .lst .shr P]] = .ok (.tup [.str m, .str s, .lst .own P]) []) (g : inD true (.str m) (.tup (G.map D.sc)) = some (.bl true))
    (fc : cd.fz = cd) (c : FC [.lst .shr L, cd] = .ok (.str W) []) (fh : hd.fz = hd) (h : FH [hd] = .ok (.lst .own H) []) :
    runF 5 [0] (mSeq (mDrop (mCall F_needed [.e (mCall FO [.p 1])]))
  (mSeq (mIf (mTest (mP2 isNon (.v 2) (.e (mC .non))))
  (mSet 2 (mTup [(mC (.str [116, 101, 120, 116])), (mC (.str [112, 108, 97, 105, 110])), (mLst [])]))
  mNext)
  (mSeq (mSetF 0 "Leaf" "held_kind" (mCall FK [.p 2]))
  (mSeq (mDrop (mCall F_needed [.e (mP2 (inD true) (.e (mIdxF 0 "Leaf" "held_kind" (mC (.int 0)))) (.e (mK G)))]))
  (mSeq (mSetF 0 "Leaf" "held_octets" (mNew listD (.v 1)))
  (mSeq (mSetF 0 "Leaf" "held_code" (mCall FC [.p 1, .p 3]))
  (mSetF 0 "Leaf" "held_heads" (mCall FH [.p 4])))))))) [.obj .own "Leaf" [] [], .lst .shr L, .tup [.str m, .str s, .lst .shr P], cd, hd]
   = .ok .non [.obj .own "Leaf" LFN [.tup [.str m, .str s, .lst .own P], .lst .own L, .str W, .lst .own H]] := by
  have n := needed_ok
  have z : L.length ≤ 16777216 := by omega
  generalize F_needed = FN at *
  have i0 : ∀ o, atI [D.str m, D.str s, D.lst o P] 0 = some (.str m) := fun _ => rfl
  simp [-List.all_eq_true, n, o, fL, fP, k, fIx, i0, g, puL, z, fc, c, fh, h, LFN]
def NPX : Ex := ⟨"NoPart", [], []⟩
/-! ### a leaf refused -/
theorem needed_no : F_needed [.bl false] = .exc NPX [] := by simp [F_needed, m_needed, mRaise, NPX, endF, ioGet]
def lfI (FO FK FC FH : List D → RF) (G : List Sc) : Cm Out := (mSeq (mDrop (mCall F_needed [.e (mCall FO [.p 1])]))
  (mSeq (mIf (mTest (mP2 isNon (.v 2) (.e (mC .non))))
  (mSet 2 (mTup [(mC (.str [116, 101, 120, 116])), (mC (.str [112, 108, 97, 105, 110])), (mLst [])]))
  mNext)
  (mSeq (mSetF 0 "Leaf" "held_kind" (mCall FK [.p 2]))
  (mSeq (mDrop (mCall F_needed [.e (mP2 (inD true) (.e (mIdxF 0 "Leaf" "held_kind" (mC (.int 0)))) (.e (mK G)))]))
  (mSeq (mSetF 0 "Leaf" "held_octets" (mNew listD (.v 1)))
  (mSeq (mSetF 0 "Leaf" "held_code" (mCall FC [.p 1, .p 3]))
  (mSetF 0 "Leaf" "held_heads" (mCall FH [.p 4]))))))))
theorem el_lf (args : List D) : F_Leaf____init__ args = runF 5 [0] (lfI F_is_octets F_checked_kind F_checked_code F_checked_heads k_GREATER) args := rfl
section
variable (m s W : List Nat) (P L H : List D) (o k c h : D) (FO FK FC FH : List D → RF) (G : List Sc) (fo : o.fz = o) (fk : k.fz = k) (fc : c.fz = c) (fh : h.fz = h) (fL : L.map D.fz = L) (fP : P.map D.fz = P) (puL : L.all D.pur = true) (lL : L.length ≤ 1000)
include fL fk in
theorem lx3 (e : FO [.lst .shr L] = .ok (.bl true) []) (nk : isNon k .non = some (.bl false)) (ek : FK [k] = .exc NPX []) : ∃ u, runF 5 [0] (lfI FO FK FC FH G) [.obj .own "Leaf" [] [], .lst .shr L, k, c, h] = .exc NPX [u] := by
  have n := needed_ok
  unfold lfI
  generalize F_needed = FN at *
  refine ⟨.obj .own "Leaf" [] [], ?_⟩
  simp [n, e, fL, fk, nk, ek]
include fL in
theorem lx4 (e : FO [.lst .shr L] = .ok (.bl true) []) (ek : FK [.tup [.str m, .str s, .lst .shr []]] = .ok (.tup [.str m, .str s, .lst .own []]) []) (g : inD true (.str m) (.tup (G.map D.sc)) = some (.bl false)) : ∃ u, runF 5 [0] (lfI FO FK FC FH G) [.obj .own "Leaf" [] [], .lst .shr L, .tup [.str m, .str s, .lst .shr []], c, h] = .exc NPX [u] := by
  have n := needed_ok
  have n' := needed_no
  unfold lfI
  generalize F_needed = FN at *
  have i0 : ∀ o, atI [D.str m, D.str s, D.lst o []] 0 = some (.str m) := fun _ => rfl
  refine ⟨.obj .own "Leaf" ["held_kind"] [.tup [.str m, .str s, .lst .own []]], ?_⟩
  simp [n, n', e, fL, ek, fIx, i0, g]
end
def isFb : RF → Bool
  | .ok (.sc (.bl false)) [] => true
  | _ => false
theorem isFb_ok {r : RF} (h : isFb r = true) : r = .ok (.bl false) [] := by
  unfold isFb at h
  split at h
  · rfl
  · cases h
mutual
theorem pur_fz : ∀ d : D, d.pur = true → d.fz = d
  | .sc _, _ => by simp [D.fz]
  | .lst o xs, h => by
    cases o <;> simp only [D.pur, Bool.and_eq_true, bne_self_eq_false, Bool.false_eq_true, false_and] at h
    all_goals simp only [D.fz, purs_fz xs h.2, reduceCtorEq, if_false]
  | .tup xs, h => by
    simp only [D.pur] at h
    simp only [D.fz, purs_fz xs h]
  | .obj o _ _ xs, h => by
    cases o <;> simp only [D.pur, Bool.and_eq_true, bne_self_eq_false, Bool.false_eq_true, false_and] at h
    all_goals simp only [D.fz, purs_fz xs h.2, reduceCtorEq, if_false]
  | .exn _ _ _, _ => by simp [D.fz]
  | .dct o _ xs, h => by
    cases o <;> simp only [D.pur, Bool.and_eq_true, bne_self_eq_false, Bool.false_eq_true, false_and] at h
    all_goals simp only [D.fz, purs_fz xs h.2, reduceCtorEq, if_false]
theorem purs_fz : ∀ ds : List D, Ds.pur ds = true → Ds.fz ds = ds
  | [], _ => by simp [Ds.fz]
  | d :: ds, h => by
    simp only [Ds.pur, Bool.and_eq_true] at h
    simp only [Ds.fz, pur_fz d h.1, purs_fz ds h.2]
end
theorem fzfz (d : D) : d.fz.fz = d.fz := pur_fz _ (D.fz_pur d)
end K34


namespace K34
open VS L2
/-! ### what is no kind -/
def ikM (FT FP : List D → RF) : Cm Out := (mSeq (mIf (mOr (mNot (mTest (mP1 (isTy .tuple) (.v 0)))) (mOr (mTest (mP2 neD (.e (mP1 lenD (.v 0))) (.e (mC (.int 3))))) (mNot (mTest (mP1 (isTyK .list) (.e (mIdx (.v 0) (mC (.int 2)))))))))
  (mRet (mC (.bl false)))
  mNext)
  (mSeq (mIf (mOr (mNot (mTest (mCall FT [.e (mIdx (.v 0) (mC (.int 0))), .e (mBin addD (mC (.str k_KEY_SIGNS)) (mC (.str [43])))]))) (mNot (mTest (mCall FT [.e (mIdx (.v 0) (mC (.int 1))), .e (mBin addD (mC (.str k_KEY_SIGNS)) (mC (.str [43])))]))))
  (mRet (mC (.bl false)))
  mNext)
  (mSeq (mIf (mNot (mTest (mP1 allD (.e (mLc (mItemsL (mIdx (.v 0) (mC (.int 2)))) (mPut 1) mYes (mCall FP [.p 1]) [1])))))
  (mRet (mC (.bl false)))
  mNext)
  (mRet (mP2 eqD (.e (mDist (mLc (mItemsL (mIdx (.v 0) (mC (.int 2)))) (mPut 1) mYes (mIdx (.v 1) (mC (.int 0))) [1]))) (.e (mP1 lenD (.e (mIdx (.v 0) (mC (.int 2)))))))))))
theorem el_ik (args : List D) : F_is_kind args = runF 2 [] (ikM F_is_title F_is_pair) args := rfl
theorem ks_add : addD (.str k_KEY_SIGNS) (.str [43]) = some (.str (k_KEY_SIGNS ++ [43])) := add_tx _ _ (by decide)
section
variable (a b c d : D) (m s S : List Nat) (P : List D) (FT FP : List D → RF)
theorem ik1 (e : isTy .tuple d = some (.bl false)) : runF 2 [] (ikM FT FP) [d] = .ok (.bl false) [] := by simp [ikM, e]
theorem ik2 (L : List D) (e : L.length ≠ 3) : runF 2 [] (ikM FT FP) [.tup L] = .ok (.bl false) [] := by
  have tt : isTy .tuple (.tup L) = some (.bl true) := rfl
  have n : neD (.int (L.length : Nat)) (.int 3) = some (.bl true) := by
    have : ¬ ((L.length : Int) = 3) := by omega
    simp [this]
  simp [ikM, tt, -neD_, n]
theorem ik3 (fc : c.fz = c) (e : isTyK .list c = some (.bl false)) : runF 2 [] (ikM FT FP) [.tup [a, b, c]] = .ok (.bl false) [] := by
  have tt : isTy .tuple (.tup [a, b, c]) = some (.bl true) := rfl
  have i2 : atI [a, b, c] 2 = some c := rfl
  cases hp : c.pur <;> simp [ikM, tt, i2, hp, fc, e]
theorem ik4 (fa : a.fz = a) (pa : a.pur = true) (hK : k_KEY_SIGNS ++ [43] = S) (a1 : addD (.str k_KEY_SIGNS) (.str [43]) = some (.str S)) (fz : P.map D.fz = P) (pP : (D.lst .shr P).pur = true) (t : FT [a, .str S] = .ok (.bl false) []) : runF 2 [] (ikM FT FP) [.tup [a, b, .lst .shr P]] = .ok (.bl false) [] := by
  have tt : isTy .tuple (.tup [a, b, .lst .shr P]) = some (.bl true) := rfl
  have tl : isTyK .list (.lst .shr P) = some (.bl true) := rfl
  have i0 : atI [a, b, D.lst .shr P] 0 = some a := rfl
  have i2 : atI [a, b, D.lst .shr P] 2 = some (.lst .shr P) := rfl
  have fl : (D.lst .shr P).fz = .lst .shr P := pur_fz _ pP
  unfold ikM
  generalize k_KEY_SIGNS = K at *
  simp [tt, tl, i0, i2, pP, fl, fz, pa, fa, -addD_str, a1, t]
theorem ik5 (fb : b.fz = b) (pb : b.pur = true) (hK : k_KEY_SIGNS ++ [43] = S) (a1 : addD (.str k_KEY_SIGNS) (.str [43]) = some (.str S)) (fz : P.map D.fz = P) (pP : (D.lst .shr P).pur = true) (t1 : FT [.str m, .str S] = .ok (.bl true) []) (t : FT [b, .str S] = .ok (.bl false) []) : runF 2 [] (ikM FT FP) [.tup [.str m, b, .lst .shr P]] = .ok (.bl false) [] := by
  have tt : isTy .tuple (.tup [.str m, b, .lst .shr P]) = some (.bl true) := rfl
  have tl : isTyK .list (.lst .shr P) = some (.bl true) := rfl
  have i0 : atI [D.str m, b, D.lst .shr P] 0 = some (.str m) := rfl
  have i1 : atI [D.str m, b, D.lst .shr P] 1 = some b := rfl
  have i2 : atI [D.str m, b, D.lst .shr P] 2 = some (.lst .shr P) := rfl
  have fl : (D.lst .shr P).fz = .lst .shr P := pur_fz _ pP
  unfold ikM
  generalize k_KEY_SIGNS = K at *
  simp [tt, tl, i0, i1, i2, pP, fl, fz, pb, fb, -addD_str, a1, t1, t]
theorem ik6 (B : List D) (hK : k_KEY_SIGNS ++ [43] = S) (a1 : addD (.str k_KEY_SIGNS) (.str [43]) = some (.str S)) (fz : P.map D.fz = P) (pP : (D.lst .shr P).pur = true) (lP : P.length ≤ 100) (zB : B.length ≤ 16777216) (t1 : FT [.str m, .str S] = .ok (.bl true) []) (t2 : FT [.str s, .str S] = .ok (.bl true) [])
    (e1 : ∀ y, lcL (mPut 1) mYes (mCall FP [.p 1]) [1] P [y, none] = .ok B [y, none]) (al : ∀ o, allD (.lst o B) = some (.bl false)) : runF 2 [] (ikM FT FP) [.tup [.str m, .str s, .lst .shr P]] = .ok (.bl false) [] := by
  have tt : isTy .tuple (.tup [.str m, .str s, .lst .shr P]) = some (.bl true) := rfl
  have tl : isTyK .list (.lst .shr P) = some (.bl true) := rfl
  have i0 : atI [D.str m, D.str s, D.lst .shr P] 0 = some (.str m) := rfl
  have i1 : atI [D.str m, D.str s, D.lst .shr P] 1 = some (.str s) := rfl
  have i2 : atI [D.str m, D.str s, D.lst .shr P] 2 = some (.lst .shr P) := rfl
  have fl : (D.lst .shr P).fz = .lst .shr P := pur_fz _ pP
  have zP : P.length ≤ 16777216 := by omega
  unfold ikM
  generalize k_KEY_SIGNS = K at *
  simp [tt, tl, i0, i1, i2, pP, fl, fz, zP, zB, -addD_str, a1, t1, t2, e1, al, saved, wipeD, restD]
theorem ik7 (B N : List D) (ns : List (List Nat)) (hK : k_KEY_SIGNS ++ [43] = S) (a1 : addD (.str k_KEY_SIGNS) (.str [43]) = some (.str S)) (fz : P.map D.fz = P) (pP : (D.lst .shr P).pur = true) (lP : P.length ≤ 100) (zB : B.length ≤ 16777216) (zN : N.length ≤ 16777216) (t1 : FT [.str m, .str S] = .ok (.bl true) []) (t2 : FT [.str s, .str S] = .ok (.bl true) [])
    (e1 : ∀ y, lcL (mPut 1) mYes (mCall FP [.p 1]) [1] P [y, none] = .ok B [y, none]) (al : ∀ o, allD (.lst o B) = some (.bl true)) (e2 : ∀ y, lcL (mPut 1) mYes (mIdx (.v 1) (mC (.int 0))) [1] P [y, none] = .ok N [y, none]) (hN : strL N = some ns) (ln : ns.length ≤ 3000) (dn : dnA [] ns ≠ P.length) : runF 2 [] (ikM FT FP) [.tup [.str m, .str s, .lst .shr P]] = .ok (.bl false) [] := by
  have tt : isTy .tuple (.tup [.str m, .str s, .lst .shr P]) = some (.bl true) := rfl
  have tl : isTyK .list (.lst .shr P) = some (.bl true) := rfl
  have i0 : atI [D.str m, D.str s, D.lst .shr P] 0 = some (.str m) := rfl
  have i1 : atI [D.str m, D.str s, D.lst .shr P] 1 = some (.str s) := rfl
  have i2 : atI [D.str m, D.str s, D.lst .shr P] 2 = some (.lst .shr P) := rfl
  have fl : (D.lst .shr P).fz = .lst .shr P := pur_fz _ pP
  have zP : P.length ≤ 16777216 := by omega
  have q : eqD (.int (dnA [] ns : Nat)) (.int (P.length : Nat)) = some (.bl false) := by
    have : ¬ ((dnA [] ns : Int) = (P.length : Int)) := by omega
    simp [this]
  unfold ikM
  generalize k_KEY_SIGNS = K at *
  simp [tt, tl, i0, i1, i2, pP, fl, fz, zP, zB, zN, -addD_str, a1, t1, t2, e1, al, e2, hN, ln, -eqD_, q, saved, wipeD, restD]
end
theorem dnA_in (z : List Nat) : ∀ (l ys : List (List Nat)), z ∈ ys → z ∈ l → dnA ys l < l.length
  | [], _, _, h => by cases h
  | x :: r, ys, hy, h => by
    have le := dnA_le r (x :: ys)
    unfold dnA
    by_cases e : x = z
    · subst e
      rw [if_pos hy]
      simp only [List.length_cons]; omega
    · have := dnA_in z r (x :: ys) (List.mem_cons_of_mem _ hy) ((List.mem_cons.mp h).resolve_left (fun q => e q.symm))
      simp only [List.length_cons]
      split <;> omega
theorem dnA_two (z : List Nat) (B : List (List Nat)) (hz : z ∈ B) : ∀ (A ys : List (List Nat)), dnA ys (A ++ z :: B) < (A ++ z :: B).length
  | [], ys => by
    have := dnA_in z B (z :: ys) List.mem_cons_self hz
    simp only [List.nil_append, dnA, List.length_cons]
    split <;> omega
  | x :: A, ys => by
    have := dnA_two z B hz A (x :: ys)
    simp only [List.cons_append, dnA, List.length_cons]
    split <;> omega

end K34


namespace K34
open VS L2
/-! ### the kinds spoilt -/
def ZZ : List Nat := [122, 122]
def NTI : List D := [.str [], .str [97, 97, 97, 97, 97, 97, 97, 97, 97, 97, 97, 97, 97, 97, 97, 97, 97, 97, 97, 97, 97], .str [65], .str [97, 66], .str [49, 97], .str [45, 97], .str [97, 95], .str [97, 32, 98], .str [97, 46, 98], .str [97, 61, 98], .str [97, 42, 48], .str [43, 97], .str [97, 10], .non, .int 5, .lst .shr [.str [97]], .tup [.str [97]]]
def NTO : List D := [.str [], .str [97, 97, 97, 97, 97, 97, 97, 97, 97, 97, 97, 97, 97, 97, 97, 97, 97, 97, 97, 97, 97], .str [65], .str [97, 66], .str [49, 97], .str [45, 97], .str [97, 95], .str [97, 32, 98], .str [97, 46, 98], .str [97, 61, 98], .str [97, 42, 48], .str [43, 97], .str [97, 10], .non, .int 5, .lst .own [.str [97]], .tup [.str [97]]]
def APL : D := .str [97, 43]
def NVL : List D := [.non, .str [97, 10], .int 5, .lst .shr [.str [97]], .tup [.str [97]], .bl true]
def NVO : List D := [.non, .str [97, 10], .int 5, .lst .own [.str [97]], .tup [.str [97]], .bl true]
def NPR : List D := [.lst .shr [.str ZZ, .str [97]], .tup [.str ZZ], .tup [.str ZZ, .str [97], .str [98]], .non, .str ZZ, .tup []]
def NPO : List D := [.lst .own [.str [122, 122], .str [97]], .tup [.str [122, 122]], .tup [.str [122, 122], .str [97], .str [98]], .non, .str [122, 122], .tup []]
theorem bad_ti : ∀ d ∈ NTI, F_is_title [d, .str (k_KEY_SIGNS ++ [43])] = .ok (.bl false) [] := fun d hd => isFb_ok (List.all_eq_true.mp (show (NTI.all fun d => isFb (F_is_title [d, .str (k_KEY_SIGNS ++ [43])])) = true by decide +kernel) d hd)
theorem bad_pn : ∀ d ∈ NTI ++ [APL], F_is_pair [.tup [d, .str [98]]] = .ok (.bl false) [] := fun d hd => isFb_ok (List.all_eq_true.mp (show ((NTI ++ [APL]).all fun d => isFb (F_is_pair [.tup [d, .str [98]]])) = true by decide +kernel) d hd)
theorem bad_pv : ∀ d ∈ NVL, F_is_pair [.tup [.str ZZ, d]] = .ok (.bl false) [] := fun d hd => isFb_ok (List.all_eq_true.mp (show (NVL.all fun d => isFb (F_is_pair [.tup [.str ZZ, d]])) = true by decide +kernel) d hd)
theorem bad_pp : ∀ d ∈ NPR, F_is_pair [d] = .ok (.bl false) [] := fun d hd => isFb_ok (List.all_eq_true.mp (show (NPR.all fun d => isFb (F_is_pair [d])) = true by decide +kernel) d hd)
def ntM (FN : List D → RF) : Cm Out := (mSeq (mSet 2 (mLst [(mC (.str [])), (mBin mulD (mC (.str [97])) (mC (.int 21))), (mC (.str [65])), (mC (.str [97, 66])), (mC (.str [49, 97])), (mC (.str [45, 97])), (mC (.str [97, 95])), (mC (.str [97, 32, 98])), (mC (.str [97, 46, 98])), (mC (.str [97, 61, 98])), (mC (.str [97, 42, 48])), (mC (.str [43, 97])), (mC (.str [97, 10])), (mC .non), (mC (.int 5)), (mLst [(mC (.str [97]))]), (mTup [(mC (.str [97]))])]))
  (mRet (mIdx (.e (mBin addD (mMove 2) (mVar 1))) (mCall FN [.s 0, .e (mBin addD (mC (.int 17)) (mP1 lenD (.v 1)))]))))
theorem nt_core (FN : List D → RF) (E E1 d : D) (L : List D) (n : Int) (fL : L.map D.fz = L) (lL : L.length ≤ 9) (n1 : FN [E, .int (17 + (L.length : Nat))] = .ok (.int n) [E1]) (a : atI (NTO ++ L) n = some d) : runF 3 [0] (ntM FN) [E, .lst .shr L] = .ok d [E1] := by
  have m : mulD (.str [97]) (.int 21) = some (.str [97, 97, 97, 97, 97, 97, 97, 97, 97, 97, 97, 97, 97, 97, 97, 97, 97, 97, 97, 97, 97]) := rfl
  have ad : ∀ T : List D, T.length = 17 → addD (.lst .own T) (.lst .shr L) = some (.lst .own (T ++ L)) := fun T hT => by
    rw [addD_lst, if_pos ⟨.inl rfl, .inr rfl, by omega⟩]
  unfold NTO at a
  simp only [List.cons_append, List.nil_append] at a
  simp [ntM, -mulD_str, m, fL, n1, -addD_lst, ad, a]
def lbM (FN NT : List D → RF) : Cm Out := (mSeq (mAsg (mVar 1) (mTupT [(mPut 2), (mPut 3), (mPut 4)]))
  (mSeq (mSet 5 (mCall FN [.s 0, .e (mBin addD (mP1 lenD (.v 4)) (mC (.int 1)))]))
  (mSeq (mSet 6 (mCall FN [.s 0, .e (mC (.int 8))]))
  (mSeq (mIf (mTest (mP2 eqD (.v 6) (.e (mC (.int 0)))))
  (mRet (mTup [(mCall NT [.s 0, .e (mLst [])]), (mMove 3), (mMove 4)]))
  mNext)
  (mSeq (mIf (mTest (mP2 eqD (.v 6) (.e (mC (.int 1)))))
  (mRet (mTup [(mMove 2), (mCall NT [.s 0, .e (mLst [])]), (mMove 4)]))
  mNext)
  (mSeq (mIf (mTest (mP2 eqD (.v 6) (.e (mC (.int 2)))))
  (mRet (mTup [(mMove 2), (mMove 3), (mBin addD (mBin addD (mSlc (.v 4) none (some (mVar 5))) (mLst [(mTup [(mCall NT [.s 0, .e (mLst [(mC (.str [97, 43]))])]), (mC (.str [98]))])])) (mSlc (.v 4) (some (mVar 5)) none))]))
  mNext)
  (mSeq (mIf (mTest (mP2 eqD (.v 6) (.e (mC (.int 3)))))
  (mSeq (mSet 7 (mIdx (.e (mLst [(mC .non), (mC (.str [97, 10])), (mC (.int 5)), (mLst [(mC (.str [97]))]), (mTup [(mC (.str [97]))]), (mC (.bl true))])) (mCall FN [.s 0, .e (mC (.int 6))])))
  (mRet (mTup [(mMove 2), (mMove 3), (mBin addD (mBin addD (mSlc (.v 4) none (some (mVar 5))) (mLst [(mTup [(mC (.str [122, 122])), (mMove 7)])])) (mSlc (.v 4) (some (mVar 5)) none))])))
  mNext)
  (mSeq (mIf (mTest (mP2 eqD (.v 6) (.e (mC (.int 4)))))
  (mRet (mTup [(mMove 2), (mMove 3), (mBin addD (mBin addD (mBin addD (mSlc (.v 4) none (some (mVar 5))) (mLst [(mTup [(mC (.str [122, 122])), (mC (.str [97]))])])) (mSlc (.v 4) (some (mVar 5)) none)) (mLst [(mTup [(mC (.str [122, 122])), (mC (.str [98]))])]))]))
  mNext)
  (mSeq (mIf (mTest (mP2 eqD (.v 6) (.e (mC (.int 5)))))
  (mSeq (mSet 8 (mIdx (.e (mLst [(mLst [(mC (.str [122, 122])), (mC (.str [97]))]), (mTup [(mC (.str [122, 122]))]), (mTup [(mC (.str [122, 122])), (mC (.str [97])), (mC (.str [98]))]), (mC .non), (mC (.str [122, 122])), (mTup [])])) (mCall FN [.s 0, .e (mC (.int 6))])))
  (mRet (mTup [(mMove 2), (mMove 3), (mBin addD (mBin addD (mSlc (.v 4) none (some (mVar 5))) (mLst [(mMove 8)])) (mSlc (.v 4) (some (mVar 5)) none))])))
  mNext)
  (mSeq (mSet 9 (mLst [(mLst [(mVar 2), (mVar 3), (mVar 4)]), (mTup [(mVar 2), (mVar 3)]), (mTup [(mVar 2), (mVar 3), (mVar 4), (mVar 4)]), (mTup [(mVar 2), (mVar 3), (mNew tupD (.v 4))]), (mC .non), (mC (.str [97, 47, 98]))]))
  (mRet (mIdx (.e (mBin addD (mMove 9) (mLst [(mTup [(mVar 2), (mVar 3), (mC .non)]), (mTup [(mVar 2), (mVar 3), (mDictP (mMove 4))]), (mTup []), (mVar 2)]))) (mCall FN [.s 0, .e (mC (.int 10))])))))))))))))
theorem ins (A B : List D) (y : D) (h : A.length + B.length ≤ 200) : ∃ AY, addD (.lst .own A) (.lst .own [y]) = some (.lst .own AY) ∧ addD (.lst .own AY) (.lst .own B) = some (.lst .own (A ++ [y] ++ B)) :=
  ⟨A ++ [y], by rw [addD_lst, if_pos ⟨.inl rfl, .inl rfl, by simp; omega⟩], by rw [addD_lst, if_pos ⟨.inl rfl, .inl rfl, by simp; omega⟩]⟩
section
variable (FN NT : List D → RF) (E E1 E2 E3 x : D) (m t : List Nat) (P : List D) (fP : P.map D.fz = P) (at_ : Nat) (lP : P.length ≤ 100) (hp : P.all D.pur = true) (n5 : FN [E, .int ((P.length : Nat) + 1)] = .ok (.int at_) [E1])
include fP lP hp n5
theorem lb0 (n6 : FN [E1, .int 8] = .ok (.int 0) [E2]) (h : NT [E2, .lst .shr []] = .ok x [E3]) : runF 10 [0] (lbM FN NT) [E, .tup [.str m, .str t, .lst .shr P]] = .ok (.tup [x, .str t, .lst .shr P]) [E3] := by
  simp [-List.all_eq_true, lbM, fP, hp, n5, n6, h]
theorem lb1 (n6 : FN [E1, .int 8] = .ok (.int 1) [E2]) (h : NT [E2, .lst .shr []] = .ok x [E3]) : runF 10 [0] (lbM FN NT) [E, .tup [.str m, .str t, .lst .shr P]] = .ok (.tup [.str m, x, .lst .shr P]) [E3] := by
  simp [-List.all_eq_true, lbM, fP, hp, n5, n6, h]
theorem lb2 (A B : List D) (hA : cutL P none (some (at_ : Int)) = A) (hB : cutL P (some (at_ : Int)) none = B) (lA : A.length + B.length ≤ 200) (n6 : FN [E1, .int 8] = .ok (.int 2) [E2]) (h : NT [E2, .lst .shr [APL]] = .ok x [E3]) : runF 10 [0] (lbM FN NT) [E, .tup [.str m, .str t, .lst .shr P]] = .ok (.tup [.str m, .str t, .lst .own (A ++ [.tup [x, .str [98]]] ++ B)]) [E3] := by
  unfold APL at h
  obtain ⟨AY, a1, a2⟩ := ins A B (D.tup [x, D.str [98]]) lA
  generalize A ++ [D.tup [x, D.str [98]]] ++ B = R at *
  simp [-List.all_eq_true, lbM, fP, hp, n5, n6, h, hA, hB, -addD_lst, a1, a2]
theorem lb3 (A B : List D) (j : Int) (hA : cutL P none (some (at_ : Int)) = A) (hB : cutL P (some (at_ : Int)) none = B) (lA : A.length + B.length ≤ 200) (n6 : FN [E1, .int 8] = .ok (.int 3) [E2]) (n7 : FN [E2, .int 6] = .ok (.int j) [E3]) (a : atI NVO j = some x) : runF 10 [0] (lbM FN NT) [E, .tup [.str m, .str t, .lst .shr P]] = .ok (.tup [.str m, .str t, .lst .own (A ++ [.tup [.str ZZ, x]] ++ B)]) [E3] := by
  unfold NVO at a
  unfold ZZ
  obtain ⟨AY, a1, a2⟩ := ins A B (D.tup [D.str [122, 122], x]) lA
  generalize A ++ [D.tup [D.str [122, 122], x]] ++ B = R at *
  simp [-List.all_eq_true, lbM, fP, hp, n5, n6, n7, a, hA, hB, -addD_lst, a1, a2]
theorem lb4 (A B : List D) (hA : cutL P none (some (at_ : Int)) = A) (hB : cutL P (some (at_ : Int)) none = B) (lA : A.length + B.length ≤ 200) (n6 : FN [E1, .int 8] = .ok (.int 4) [E2]) : runF 10 [0] (lbM FN NT) [E, .tup [.str m, .str t, .lst .shr P]] = .ok (.tup [.str m, .str t, .lst .own (A ++ [.tup [.str ZZ, .str [97]]] ++ B ++ [.tup [.str ZZ, .str [98]]])]) [E2] := by
  unfold ZZ
  obtain ⟨AY, a1, a2⟩ := ins A B (D.tup [D.str [122, 122], D.str [97]]) lA
  have lR : (A ++ [D.tup [D.str [122, 122], D.str [97]]] ++ B).length ≤ 300 := by simp; omega
  generalize A ++ [D.tup [D.str [122, 122], D.str [97]]] ++ B = R at *
  have a3 : addD (.lst .own R) (.lst .own [D.tup [D.str [122, 122], D.str [98]]]) = some (.lst .own (R ++ [D.tup [D.str [122, 122], D.str [98]]])) := by rw [addD_lst, if_pos ⟨.inl rfl, .inl rfl, by simp; omega⟩]
  generalize R ++ [D.tup [D.str [122, 122], D.str [98]]] = RR at *
  simp [-List.all_eq_true, lbM, fP, hp, n5, n6, hA, hB, -addD_lst, a1, a2, a3]
theorem lb5 (A B : List D) (j : Int) (hA : cutL P none (some (at_ : Int)) = A) (hB : cutL P (some (at_ : Int)) none = B) (lA : A.length + B.length ≤ 200) (n6 : FN [E1, .int 8] = .ok (.int 5) [E2]) (n7 : FN [E2, .int 6] = .ok (.int j) [E3]) (a : atI NPO j = some x) : runF 10 [0] (lbM FN NT) [E, .tup [.str m, .str t, .lst .shr P]] = .ok (.tup [.str m, .str t, .lst .own (A ++ [x] ++ B)]) [E3] := by
  unfold NPO at a
  obtain ⟨AY, a1, a2⟩ := ins A B (x) lA
  generalize A ++ [x] ++ B = R at *
  simp [-List.all_eq_true, lbM, fP, hp, n5, n6, n7, a, hA, hB, -addD_lst, a1, a2]
def MSC (m t : List Nat) (P : List D) (dc : D) : List D := [.lst .own [.str m, .str t, .lst .shr P], .tup [.str m, .str t], .tup [.str m, .str t, .lst .shr P, .lst .shr P], .tup [.str m, .str t, .tup P], .non, .str [97, 47, 98], .tup [.str m, .str t, .non], .tup [.str m, .str t, dc], .tup [], .str m]
theorem lb6 (ks vs : List Sc) (w j : Int) (hw : w = 6 ∨ w = 7) (hd : prsK P = some (ks, vs)) (nd : ks.Nodup) (n6 : FN [E1, .int 8] = .ok (.int w) [E2]) (n7 : FN [E2, .int 10] = .ok (.int j) [E3]) (a : atI (MSC m t P (.dct .own ks (vs.map D.sc))) j = some x) : runF 10 [0] (lbM FN NT) [E, .tup [.str m, .str t, .lst .shr P]] = .ok x [E3] := by
  unfold MSC at a
  have zP : P.length ≤ 16777216 := by omega
  rcases hw with rfl | rfl <;> simp [-List.all_eq_true, lbM, fP, hp, zP, n5, n6, n7, a, hd, nd]
end

end K34


namespace K34
open VS L2
def titB (S t : List Nat) : Bool := decide (t.length ≤ 20) && (match t with | [] => false | c :: _ => decide (c ∈ k_SMALL)) && t.all fun c => decide (c ∈ S)
theorem titB_ok (S t : List Nat) (h : titB S t = true) : TitK S t := by
  unfold titB at h
  simp only [Bool.and_eq_true, decide_eq_true_eq, List.all_eq_true] at h
  obtain ⟨⟨h1, h2⟩, h3⟩ := h
  cases t with
  | nil => simp at h2
  | cons c r => exact ⟨h1, ⟨c, r, rfl, by simpa using h2⟩, h3⟩
/-! ### the kinds spoilt are none -/
theorem pair_okD (p : Pr) (h : PrK p) : F_is_pair [prD p] = .ok (.bl true) [] := pair_ok p h
theorem lc_mix (xs : List (D × Bool)) (h : ∀ q ∈ xs, q.1.fz = q.1 ∧ F_is_pair [q.1] = .ok (.bl q.2) []) (y : Option D) : lcL (mPut 1) mYes (mCall F_is_pair [.p 1]) [1] (xs.map Prod.fst) [y, none] = .ok (xs.map fun q => D.bl q.2) [y, none] := by
  refine lcL_mapM Prod.fst (fun q => D.bl q.2) xs fun q hq => ⟨[y, some q.1], [y, some q.1], rfl, ?_, rfl⟩
  obtain ⟨h1, h2⟩ := h q hq
  generalize F_is_pair = FP at *
  simp [h1, h2]
theorem all_pur {P : List D} (h : P.map D.fz = P) : (D.lst .shr P).pur = true ∧ P.all D.pur = true := by
  have e : (D.lst .shr P).fz = .lst .shr P := by rw [D.fz]; simp only [Ds.fz_map, h, reduceCtorEq, if_false]
  have p : (D.lst .shr P).pur = true := by rw [← e]; exact D.fz_pur _
  refine ⟨p, ?_⟩
  rw [List.all_eq_true]
  intro x hx
  rw [← h] at hx
  obtain ⟨y, _, rfl⟩ := List.mem_map.mp hx
  exact D.fz_pur y
theorem ik_one (m t : List Nat) (hm : TitK (k_KEY_SIGNS ++ [43]) m) (ht : TitK (k_KEY_SIGNS ++ [43]) t) (A B : List Pr) (hA : ∀ p ∈ A, PrK p) (hB : ∀ p ∈ B, PrK p) (l : A.length + B.length ≤ 20) (x : D) (fx : x.fz = x) (px : F_is_pair [x] = .ok (.bl false) []) : F_is_kind [.tup [.str m, .str t, .lst .shr (A.map prD ++ [x] ++ B.map prD)]] = .ok (.bl false) [] := by
  rw [el_ik]
  let xs : List (D × Bool) := A.map (fun p => (prD p, true)) ++ [(x, false)] ++ B.map (fun p => (prD p, true))
  have e : xs.map Prod.fst = A.map prD ++ [x] ++ B.map prD := by simp only [xs, List.map_append, List.map_map, List.map_cons, List.map_nil]; rfl
  have hx : ∀ q ∈ xs, q.1.fz = q.1 ∧ F_is_pair [q.1] = .ok (.bl q.2) [] := fun q hq => by
    simp only [xs, List.mem_append, List.mem_map, List.mem_singleton] at hq
    rcases hq with (⟨p, hp, rfl⟩ | rfl) | ⟨p, hp, rfl⟩
    · exact ⟨rfl, pair_okD p (hA p hp)⟩
    · exact ⟨fx, px⟩
    · exact ⟨rfl, pair_okD p (hB p hp)⟩
  have fz : (xs.map Prod.fst).map D.fz = xs.map Prod.fst := by
    rw [List.map_map]
    exact List.map_congr_left fun q hq => (hx q hq).1
  have lx : (xs.map Prod.fst).length ≤ 100 := by simp [xs]; omega
  rw [← e]
  refine ik6 m t _ (xs.map Prod.fst) F_is_title F_is_pair (xs.map fun q => D.bl q.2) rfl ks_add fz (all_pur fz).1 lx (by simp at lx ⊢; omega) (title_ok _ _ hm) (title_ok _ _ ht) (fun y => lc_mix xs hx y) fun o => ?_
  have := allD_map o (fun q : D × Bool => q.2) xs
  rw [this]
  simp [xs]
theorem ik_two (m t : List Nat) (hm : TitK (k_KEY_SIGNS ++ [43]) m) (ht : TitK (k_KEY_SIGNS ++ [43]) t) (A B : List Pr) (hA : ∀ p ∈ A, PrK p) (hB : ∀ p ∈ B, PrK p) (l : A.length + B.length ≤ 20) : F_is_kind [.tup [.str m, .str t, .lst .shr (A.map prD ++ [prD (ZZ, [97])] ++ B.map prD ++ [prD (ZZ, [98])])]] = .ok (.bl false) [] := by
  rw [el_ik]
  let ps : List Pr := A ++ [(ZZ, [97])] ++ B ++ [(ZZ, [98])]
  have zz : TitK k_KEY_SIGNS ZZ := titB_ok _ _ (by decide +kernel)
  have e : ps.map prD = A.map prD ++ [prD (ZZ, [97])] ++ B.map prD ++ [prD (ZZ, [98])] := by simp [ps]
  have hp : ∀ p ∈ ps, PrK p := fun p hp => by
    simp only [ps, List.mem_append, List.mem_singleton] at hp
    rcases hp with ((hp | rfl) | hp) | rfl
    · exact hA p hp
    · exact ⟨zz, by decide, by decide, by decide⟩
    · exact hB p hp
    · exact ⟨zz, by decide, by decide, by decide⟩
  have lp : ps.length ≤ 22 := by simp [ps]; omega
  have dn : dnA [] (ps.map (·.1)) < (ps.map (·.1)).length := by
    have := dnA_two ZZ ((B ++ [((ZZ, [98]) : Pr)]).map (·.1)) (List.mem_map.mpr ⟨(ZZ, [98]), by simp, rfl⟩) (A.map (·.1)) []
    simpa [ps] using this
  rw [← e]
  refine ik7 m t _ (ps.map prD) F_is_title F_is_pair (ps.map fun _ => D.bl true) ((ps.map (·.1)).map D.str) (ps.map (·.1)) rfl ks_add (pr_fz ps) (all_pur (pr_fz ps)).1 (by simp; omega) (by simp; omega) (by simp; omega) (title_ok _ _ hm) (title_ok _ _ ht) (fun y => lc_pairs y ps hp) (fun o => ?_) (fun y => lc_names y ps) (strL_map _) (by simp; omega) (by simp at dn ⊢; omega)
  have := allD_map o (fun _ : Pr => true) ps
  rw [this]
  simp

end K34


namespace K34
open VS L2
theorem prsK_prs : ∀ qs : List Pr, prsK (qs.map prD) = some (qs.map fun p => Sc.str p.1, qs.map fun p => Sc.str p.2)
  | [] => rfl
  | p :: r => by
    have ih := prsK_prs r
    have k : keyS (.str p.1) = true := rfl
    simp only [List.map_cons, prD, prsK, k, if_true] at ih ⊢
    rw [prsK_prs r]
    rfl
theorem prs_nd (qs : List Pr) (h : (qs.map (·.1)).Nodup) : (qs.map fun p => Sc.str p.1).Nodup := by
  have e : (qs.map fun p => Sc.str p.1) = (qs.map (·.1)).map Sc.str := by rw [List.map_map]; rfl
  rw [e]
  exact List.pairwise_map.mpr (h.imp fun h e => h (by simpa using e))
/-! ### the kinds spoilt, drawn -/
theorem pick_in {L L' : List D} {n : Int} (h : L.map D.fz = L') (h0 : 0 ≤ n) (h1 : n < L.length) : ∃ d, atI L n = some d ∧ d.fz ∈ L' := by
  obtain ⟨j, rfl⟩ := Int.eq_ofNat_of_zero_le h0
  have hj : j < L.length := by omega
  exact ⟨L[j], atI_nat (List.getElem?_eq_getElem hj), by rw [← h]; exact List.mem_map.mpr ⟨_, List.getElem_mem hj, rfl⟩⟩
theorem notitle (s : Int × Int × Int) (L : List D) (hL : L = [] ∨ L = [APL]) : ∃ s' d, F__law_no_title [encS s, .lst .shr L] = .ok d [encS s'] ∧ d.fz ∈ NTI ++ L := by
  have fL : L.map D.fz = L := by rcases hL with rfl | rfl <;> rfl
  have lL : L.length ≤ 9 := by rcases hL with rfl | rfl <;> decide
  have n1 := next_f s (17 + (L.length : Nat)) (by omega) (by omega)
  obtain ⟨d, a, m⟩ := pick_in (show (NTO ++ L).map D.fz = NTI ++ L by rw [List.map_append, fL]; rfl) (nx_nn s (17 + (L.length : Nat)) (by omega) (by omega)) (by have := nx_lt s (17 + (L.length : Nat)) (by omega) (by omega); simp [NTO]; omega)
  exact ⟨_, d, (show F__law_no_title [encS s, .lst .shr L] = runF 3 [0] (ntM F__law_next) [encS s, .lst .shr L] from rfl).trans (nt_core F__law_next _ _ d L _ fL lL n1 a), m⟩
theorem tup3_fz (a b : D) (l : List D) : (D.tup [a, b, .lst .own l]).fz = .tup [a.fz, b.fz, .lst .shr (l.map D.fz)] := by
  simp only [D.fz, Ds.fz, if_true, Ds.fz_map]
theorem bad_drawn (s : Int × Int × Int) (m t : List Nat) (ps : List Pr) (k : KdK m t ps) : ∃ s' d, F__law_bad [encS s, kdD .shr m t ps] = .ok d [encS s'] ∧ F_is_kind [d.fz] = .ok (.bl false) [] := by
  have el : F__law_bad [encS s, kdD .shr m t ps] = runF 10 [0] (lbM F__law_next F__law_no_title) [encS s, .tup [.str m, .str t, .lst .shr (ps.map prD)]] := rfl
  have fP := pr_fz ps
  have pp := all_pur fP
  have lp := k.len
  have lP : (ps.map prD).length ≤ 100 := by simp; omega
  have l0 : (ps.map prD).length = ps.length := by simp
  have n5 := next_f s (((ps.map prD).length : Nat) + 1) (by omega) (by omega)
  have z0 := nx_nn s (((ps.map prD).length : Nat) + 1) (by omega) (by omega)
  have z1 := nx_lt s (((ps.map prD).length : Nat) + 1) (by omega) (by omega)
  generalize nx s (((ps.map prD).length : Nat) + 1) = v at *
  generalize sn s (((ps.map prD).length : Nat) + 1) = s1 at *
  obtain ⟨i, rfl⟩ := Int.eq_ofNat_of_zero_le z0
  have hA : cutL (ps.map prD) none (some (i : Int)) = (ps.take i).map prD := by rw [cut_take', List.map_take]
  have hB : cutL (ps.map prD) (some (i : Int)) none = (ps.drop i).map prD := by rw [cut_drop', List.map_drop]
  have tA : ∀ p ∈ ps.take i, PrK p := fun p hp => k.pk p (List.mem_of_mem_take hp)
  have tB : ∀ p ∈ ps.drop i, PrK p := fun p hp => k.pk p (List.mem_of_mem_drop hp)
  have ll : (ps.take i).length + (ps.drop i).length ≤ 20 := by simp; omega
  have lA : ((ps.take i).map prD).length + ((ps.drop i).map prD).length ≤ 200 := by simp; omega
  have fA := pr_fz (ps.take i)
  have fB := pr_fz (ps.drop i)
  have n6 := next_f s1 8 (by decide) (by decide)
  have w0 := nx_nn s1 8 (by decide) (by decide)
  have w1 := nx_lt s1 8 (by decide) (by decide)
  generalize nx s1 8 = w at *
  generalize sn s1 8 = s2 at *
  rw [el]
  have w8 : w = 0 ∨ w = 1 ∨ w = 2 ∨ w = 3 ∨ w = 4 ∨ w = 5 ∨ (w = 6 ∨ w = 7) := by omega
  rcases w8 with rfl | rfl | rfl | rfl | rfl | rfl | hw
  · obtain ⟨s3, x, h, hx⟩ := notitle s2 [] (.inl rfl)
    refine ⟨s3, _, lb0 F__law_next F__law_no_title _ _ _ _ x m t _ fP i lP pp.2 n5 n6 h, ?_⟩
    have e : (D.tup [x, .str t, .lst .shr (ps.map prD)]).fz = .tup [x.fz, .str t, .lst .shr (ps.map prD)] := by simp only [D.fz, Ds.fz, reduceCtorEq, if_false, Ds.fz_map, fP]
    rw [e, el_ik]
    exact ik4 _ _ _ _ F_is_title F_is_pair (fzfz x) (D.fz_pur x) rfl ks_add fP pp.1 (bad_ti _ (by simpa using hx))
  · obtain ⟨s3, x, h, hx⟩ := notitle s2 [] (.inl rfl)
    refine ⟨s3, _, lb1 F__law_next F__law_no_title _ _ _ _ x m t _ fP i lP pp.2 n5 n6 h, ?_⟩
    have e : (D.tup [.str m, x, .lst .shr (ps.map prD)]).fz = .tup [.str m, x.fz, .lst .shr (ps.map prD)] := by simp only [D.fz, Ds.fz, reduceCtorEq, if_false, Ds.fz_map, fP]
    rw [e, el_ik]
    exact ik5 _ m _ _ F_is_title F_is_pair (fzfz x) (D.fz_pur x) rfl ks_add fP pp.1 (title_ok _ _ k.m) (bad_ti _ (by simpa using hx))
  · obtain ⟨s3, x, h, hx⟩ := notitle s2 [APL] (.inr rfl)
    refine ⟨s3, _, lb2 F__law_next F__law_no_title _ _ _ _ x m t _ fP i lP pp.2 n5 _ _ hA hB lA n6 h, ?_⟩
    rw [tup3_fz, List.map_append, List.map_append, fA, fB]
    refine ik_one m t k.m k.s _ _ tA tB ll (.tup [x.fz, .str [98]]) ?_ (bad_pn _ hx)
    simp only [D.fz, Ds.fz, fzfz]
  · obtain ⟨x, a, hx⟩ := pick_in (show NVO.map D.fz = NVL from rfl) (nx_nn s2 6 (by decide) (by decide)) (nx_lt s2 6 (by decide) (by decide))
    refine ⟨_, _, lb3 F__law_next F__law_no_title _ _ _ _ x m t _ fP i lP pp.2 n5 _ _ _ hA hB lA n6 (next_f s2 6 (by decide) (by decide)) a, ?_⟩
    rw [tup3_fz, List.map_append, List.map_append, fA, fB]
    refine ik_one m t k.m k.s _ _ tA tB ll (.tup [.str ZZ, x.fz]) ?_ (bad_pv _ hx)
    simp only [D.fz, Ds.fz, fzfz]
  · refine ⟨_, _, lb4 F__law_next F__law_no_title _ _ _ m t _ fP i lP pp.2 n5 _ _ hA hB lA n6, ?_⟩
    rw [tup3_fz, List.map_append, List.map_append, List.map_append, fA, fB]
    exact ik_two m t k.m k.s _ _ tA tB ll
  · obtain ⟨x, a, hx⟩ := pick_in (show NPO.map D.fz = NPR from rfl) (nx_nn s2 6 (by decide) (by decide)) (nx_lt s2 6 (by decide) (by decide))
    refine ⟨_, _, lb5 F__law_next F__law_no_title _ _ _ _ x m t _ fP i lP pp.2 n5 _ _ _ hA hB lA n6 (next_f s2 6 (by decide) (by decide)) a, ?_⟩
    rw [tup3_fz, List.map_append, List.map_append, fA, fB]
    exact ik_one m t k.m k.s _ _ tA tB ll x.fz (fzfz x) (bad_pp _ hx)
  · have n7 := next_f s2 10 (by decide) (by decide)
    have j0 := nx_nn s2 10 (by decide) (by decide)
    have j1 := nx_lt s2 10 (by decide) (by decide)
    generalize nx s2 10 = j at *
    have hd := prsK_prs ps
    have nd := prs_nd ps k.nd
    have ak : (ps.map fun p => Sc.str p.1).all keyS = true := by simp [keyS]
    have fLP : (D.lst .shr (ps.map prD)).fz = .lst .shr (ps.map prD) := by rw [D.fz]; simp only [Ds.fz_map, fP, reduceCtorEq, if_false]
    obtain ⟨x, a⟩ : ∃ x, atI (MSC m t (ps.map prD) (.dct .own (ps.map fun p => Sc.str p.1) ((ps.map fun p => Sc.str p.2).map D.sc))) j = some x := by
      obtain ⟨q, rfl⟩ := Int.eq_ofNat_of_zero_le j0
      exact ⟨_, atI_nat (List.getElem?_eq_getElem (show q < _ by simp [MSC]; omega))⟩
    refine ⟨_, x, lb6 F__law_next F__law_no_title _ _ _ _ x m t _ fP i lP pp.2 n5 _ _ w j hw hd nd n6 n7 a, ?_⟩
    rw [el_ik]
    have j8 : j = 0 ∨ j = 1 ∨ j = 2 ∨ j = 3 ∨ j = 4 ∨ j = 5 ∨ j = 6 ∨ j = 7 ∨ j = 8 ∨ j = 9 := by omega
    rcases j8 with rfl | rfl | rfl | rfl | rfl | rfl | rfl | rfl | rfl | rfl
    · cases a; exact ik1 _ _ _ rfl
    · cases a
      simp only [D.fz, Ds.fz]
      exact ik2 _ _ _ (by simp)
    · cases a
      simp only [D.fz, Ds.fz, reduceCtorEq, if_false]
      exact ik2 _ _ _ (by simp)
    · cases a
      have e : (D.tup [.str m, .str t, .tup (ps.map prD)]).fz = .tup [.str m, .str t, .tup (ps.map prD)] := by simp only [D.fz, Ds.fz, Ds.fz_map, fP]
      rw [e]
      exact ik3 _ _ _ _ _ (by simp only [D.fz, Ds.fz_map, fP]) rfl
    · cases a; exact ik1 _ _ _ rfl
    · cases a; exact ik1 _ _ _ rfl
    · cases a; exact ik3 _ _ _ _ _ rfl rfl
    · cases a
      have fv : ((ps.map fun p => Sc.str p.2).map D.sc).map D.fz = (ps.map fun p => Sc.str p.2).map D.sc := by
        rw [List.map_map]; exact List.map_congr_left fun _ _ => rfl
      have e : (D.tup [.str m, .str t, .dct .own (ps.map fun p => Sc.str p.1) ((ps.map fun p => Sc.str p.2).map D.sc)]).fz = .tup [.str m, .str t, .dct .shr (ps.map fun p => Sc.str p.1) ((ps.map fun p => Sc.str p.2).map D.sc)] := by simp only [D.fz, Ds.fz, if_true, Ds.fz_map, fv]
      rw [e]
      exact ik3 _ _ _ _ _ (by simp only [D.fz, reduceCtorEq, if_false, Ds.fz_map, fv]) (by simp only [isTyK, ak, if_true])
    · cases a; exact ik2 _ _ _ (by decide)
    · cases a; exact ik1 _ _ _ rfl

end K34


namespace K34
open VS L2
/-! ### refusals -/
def NKX : Ex := ⟨"NoKind", ["at"], [.int 0]⟩
def TOLD : D := .str [116, 111, 108, 100]
def KIND0 : D := .tup [.str [107, 105, 110, 100], .int 0]
def PARTW : D := .str [112, 97, 114, 116]
theorem w_told : W__law_word none = .ok TOLD [] := rfl
theorem w_kind : W__law_word (some NKX) = .ok KIND0 [] := rfl
theorem w_part : W__law_word (some NPX) = .ok PARTW [] := rfl
theorem show_no (d : D) (fd : d.fz = d) (e : F_is_kind [d] = .ok (.bl false) []) : F_show_kind [d] = .exc NKX [] := by
  have el : F_show_kind [d] = runF 6 [] m_show_kind [d] := rfl
  rw [el]
  unfold m_show_kind
  generalize F_is_kind = FI at *
  simp [e, fd, mRaiseF, NKX]
theorem shown_no (d : D) (fd : d.fz = d) (e : F_is_kind [d] = .ok (.bl false) []) : F_show_kind__n [d] = .exc NKX [] := by
  have el : F_show_kind__n [d] = runF 6 [] m_show_kind__n [d] := rfl
  rw [el]
  unfold m_show_kind__n
  generalize F_is_kind = FI at *
  simp [e, fd, mRaiseF, NKX]
theorem checked_no (d : D) (fd : d.fz = d) (e : F_is_kind [d] = .ok (.bl false) []) : F_checked_kind [d] = .exc NPX [] := by
  have el : F_checked_kind [d] = runF 4 [] m_checked_kind [d] := rfl
  have s := shown_no d fd e
  have ex : exm_ NKX.cls "NoKind" = some true := by decide
  rw [el]
  unfold m_checked_kind
  generalize F_show_kind__n = FS at *
  generalize NKX = N at *
  simp [s, fd, ex, mRaise, NPX]
theorem oct0 : F_is_octets [.lst .shr []] = .ok (.bl true) [] := rfl
theorem leaf_k (m t : List Nat) (ps : List Pr) (k : KdK m t ps) (hg : m ∉ GR) : ∃ X, F_Leaf____init__ [.obj .own "Leaf" [] [], .lst .shr [], kdD .shr m t ps, .non, .non] = .ok .non [X] := by
  have g := gr_in true m
  rw [decide_eq_false hg] at g
  have c : F_checked_code [.lst .shr [], .non] = .ok (.str (bestWd []).w) [] := cc_none .shr [] (by simp) (by simp)
  exact ⟨_, li_core m t _ (ps.map prD) [] [] .non .non F_is_octets F_checked_kind F_checked_code F_checked_heads rfl (pr_fz ps) rfl (by simp) k_GREATER oct0 (checked_kind_ok .shr m t ps k) g rfl c rfl checked_heads_none⟩
theorem leaf_b (d : D) (fd : d.fz = d) (nd : isNon d .non = some (.bl false)) (e : F_is_kind [d] = .ok (.bl false) []) : ∃ u, F_Leaf____init__ [.obj .own "Leaf" [] [], .lst .shr [], d, .non, .non] = .exc NPX [u] := by
  rw [el_lf]
  exact lx3 [] d .non .non F_is_octets F_checked_kind F_checked_code F_checked_heads k_GREATER fd rfl oct0 nd (checked_no d fd e)
theorem gr_kd (m : List Nat) (h : m ∈ GR) : KdK m [97] [] := by
  have : TitK (k_KEY_SIGNS ++ [43]) m := by
    simp only [GR, List.mem_cons, List.mem_nil_iff, or_false] at h
    rcases h with rfl | rfl <;> exact titB_ok _ _ (by decide +kernel)
  exact ⟨this, titB_ok _ _ (by decide +kernel), by simp, by simp, by simp⟩
theorem leaf_g (m : List Nat) (h : m ∈ GR) : ∃ u, F_Leaf____init__ [.obj .own "Leaf" [] [], .lst .shr [], .tup [.str m, .str [97], .lst .shr []], .non, .non] = .exc NPX [u] := by
  rw [el_lf]
  have g := gr_in true m
  rw [decide_eq_true h] at g
  exact lx4 m [97] [] .non .non F_is_octets F_checked_kind F_checked_code F_checked_heads k_GREATER rfl oct0 (checked_kind_ok .shr m [97] [] (gr_kd m h)) g
section
variable (x0 x1 x2 x3 x4 x5 x6 : Option D) (FK FN FB SK FL : List D → RF) (FW : Option Ex → RF)
theorem KS0 (FS : List D → RF) (o : Ow) (ho : o = .frz ∨ o = .stc ∨ o = .shr) (N : List D) (fN : N.map D.fz = N) (k : Int) (E : D) (e : FS [.lst o N, .int k] = .ok E []) :
    (mSet 2 (mCall FS [.p 0, .p 1])) [some (.lst o N), some (.int k), x2, x3, x4, x5, x6] = .ok .nx [some (.lst o N), some (.int k), some E, x3, x4, x5, x6] := by
  rcases ho with rfl | rfl | rfl <;> simp [fN, e]
theorem KS1 (E E1 K : D) (e : FK [E, .int 4] = .ok K [E1]) :
    (mSet 3 (mCall FK [.s 2, .e (mC (.int 4))])) [x0, x1, some (E), x3, x4, x5, x6] = .ok .nx [x0, x1, some (E1), some (K), x4, x5, x6] := by
  simp [e]
theorem KS2 (K : D) (T : List Nat) (e : reprD K = some (.str T)) :
    (mSet 4 (mP1 reprD (.v 3))) [x0, x1, x2, some (K), x4, x5, x6] = .ok .nx [x0, x1, x2, some (K), some (.str T), x5, x6] := by
  simp [e]
theorem KS3 (E E1 K KS d : D) (f : K.fz = KS) (e : FB [E, KS] = .ok d [E1]) :
    (mSet 5 (mCall FB [.s 2, .p 3])) [x0, x1, some (E), some (K), x4, x5, x6] = .ok .nx [x0, x1, some (E1), some (KS), x4, some (d), x6] := by
  simp [f, e]
theorem KS4 (K : D) (T : List Nat) (f : K.fz = K) (e : SK [K] = .ok (.str T) []) (w : FW none = .ok TOLD []) :
    (mIf (mTest (mP2 neD (.e (mLam FW (mCall SK [.p 3]))) (.e (mC (.str [116, 111, 108, 100])))))
  (mRet (mC (.bl false)))
  mNext) [x0, x1, x2, some (K), x4, x5, x6] = .ok .nx [x0, x1, x2, some (K), x4, x5, x6] := by
  have si : ∀ x : Option D, (x.isSome || x.isNone) = true := fun x => by cases x <;> rfl
  unfold TOLD at w
  simp [mLam, finL, subO, si, f, e, w]
theorem KS5 (K X : D) (f : K.fz = K) (e : FL [.obj .own "Leaf" [] [], .lst .shr [], K, .non, .non] = .ok .non [X]) (w : FW none = .ok TOLD []) :
    (mIf (mTest (mP2 neD (.e (mLam FW (mNewK "Leaf" FL [(0, 0), (2, 0), (1, 0), (1, 1)] [.non, .non] [(mLst [])] [(mVar 3)]))) (.e (mC (.str [116, 111, 108, 100])))))
  (mRet (mC (.bl false)))
  mNext) [x0, x1, x2, some (K), x4, x5, x6] = .ok .nx [x0, x1, x2, some (K), x4, x5, x6] := by
  have si : ∀ x : Option D, (x.isSome || x.isNone) = true := fun x => by cases x <;> rfl
  unfold TOLD at w
  simp [mLam, finL, subO, si, selL, f, e, w]
theorem KS6 (d dS : D) (f : d.fz = dS) (e : SK [dS] = .exc NKX []) (w : FW (some NKX) = .ok KIND0 []) :
    (mIf (mTest (mP2 neD (.e (mLam FW (mCall SK [.p 5]))) (.e (mTup [(mC (.str [107, 105, 110, 100])), (mC (.int 0))]))))
  (mRet (mC (.bl false)))
  mNext) [x0, x1, x2, x3, x4, some (d), x6] = .ok .nx [x0, x1, x2, x3, x4, some (dS), x6] := by
  have si : ∀ x : Option D, (x.isSome || x.isNone) = true := fun x => by cases x <;> rfl
  have nd : ¬ NKX.cls = "dict" := by decide
  have ne : neD KIND0 (.tup [.str [107, 105, 110, 100], .int 0]) = some (.bl false) := by simp [KIND0]
  generalize KIND0 = KO at *
  generalize NKX = N at *
  simp [mLam, finL, subO, si, nd, f, e, w, -neD_, ne]
theorem KS7a (d : D) (n : isntNon d .non = some (.bl false)) :
    (mIf (mAnd (mTest (mP2 isntNon (.v 5) (.e (mC .non)))) (mTest (mP2 neD (.e (mLam FW (mNewK "Leaf" FL [(0, 0), (2, 0), (1, 0), (1, 1)] [.non, .non] [(mLst [])] [(mVar 5)]))) (.e (mC (.str [112, 97, 114, 116]))))))
  (mRet (mC (.bl false)))
  mNext) [x0, x1, x2, x3, x4, some (d), x6] = .ok .nx [x0, x1, x2, x3, x4, some (d), x6] := by
  simp [n]
theorem KS7b (d u : D) (n : isntNon d .non = some (.bl true)) (f : d.fz = d) (e : FL [.obj .own "Leaf" [] [], .lst .shr [], d, .non, .non] = .exc NPX [u]) (w : FW (some NPX) = .ok PARTW []) :
    (mIf (mAnd (mTest (mP2 isntNon (.v 5) (.e (mC .non)))) (mTest (mP2 neD (.e (mLam FW (mNewK "Leaf" FL [(0, 0), (2, 0), (1, 0), (1, 1)] [.non, .non] [(mLst [])] [(mVar 5)]))) (.e (mC (.str [112, 97, 114, 116]))))))
  (mRet (mC (.bl false)))
  mNext) [x0, x1, x2, x3, x4, some (d), x6] = .ok .nx [x0, x1, x2, x3, x4, some (d), x6] := by
  have si : ∀ x : Option D, (x.isSome || x.isNone) = true := fun x => by cases x <;> rfl
  have nd : ¬ NPX.cls = "dict" := by decide
  have ne : neD PARTW (.str [112, 97, 114, 116]) = some (.bl false) := by simp [PARTW]
  generalize PARTW = KO at *
  generalize NPX = N at *
  simp [mLam, finL, subO, si, selL, nd, n, f, e, w, -neD_, ne]
theorem KS8 (E E1 : D) (M : List Nat) (n : Int) (e : FN [E, .int 2] = .ok (.int n) [E1]) (a : atI [D.str [109, 97, 110, 121], D.str [99, 111, 118, 101, 114]] n = some (.str M)) :
    (mSet 6 (mIdx (.e (mLst [(mC (.str [109, 97, 110, 121])), (mC (.str [99, 111, 118, 101, 114]))])) (mCall FN [.s 2, .e (mC (.int 2))]))) [x0, x1, some (E), x3, x4, x5, x6] = .ok .nx [x0, x1, some (E1), x3, x4, x5, some (.str M)] := by
  simp [e, a]
theorem KS9 (K : D) (M T T2 : List Nat) (f : K.fz = K) (e : SK [.tup [.str M, .str [97], .lst .shr []]] = .ok (.str T2) []) (w : FW none = .ok TOLD []) (r : reprD K = some (.str T)) :
    (mIf (mOr (mTest (mP2 neD (.e (mLam FW (mCall SK [.e (mTup [(mVar 6), (mC (.str [97])), (mLst [])])]))) (.e (mC (.str [116, 111, 108, 100]))))) (mTest (mP2 neD (.e (mP1 reprD (.v 3))) (.v 4))))
  (mRet (mC (.bl false)))
  mNext) [x0, x1, x2, some (K), some (.str T), x5, some (.str M)] = .ok .nx [x0, x1, x2, some (K), some (.str T), x5, some (.str M)] := by
  have si : ∀ x : Option D, (x.isSome || x.isNone) = true := fun x => by cases x <;> rfl
  unfold TOLD at w
  simp [mLam, finL, subO, si, f, e, w, r]
theorem KS10 (M : List Nat) (u : D) (e : FL [.obj .own "Leaf" [] [], .lst .shr [], .tup [.str M, .str [97], .lst .shr []], .non, .non] = .exc NPX [u]) (w : FW (some NPX) = .ok PARTW []) :
    (mIf (mTest (mP2 neD (.e (mLam FW (mNewK "Leaf" FL [(0, 0), (2, 0), (1, 0), (1, 1)] [.non, .non] [(mLst [])] [(mTup [(mVar 6), (mC (.str [97])), (mLst [])])]))) (.e (mC (.str [112, 97, 114, 116])))))
  (mRet (mC (.bl false)))
  mNext) [x0, x1, x2, x3, x4, x5, some (.str M)] = .ok .nx [x0, x1, x2, x3, x4, x5, some (.str M)] := by
  have si : ∀ x : Option D, (x.isSome || x.isNone) = true := fun x => by cases x <;> rfl
  have nd : ¬ NPX.cls = "dict" := by decide
  have ne : neD PARTW (.str [112, 97, 114, 116]) = some (.bl false) := by simp [PARTW]
  generalize PARTW = KO at *
  generalize NPX = N at *
  simp [mLam, finL, subO, si, selL, nd, e, w, -neD_, ne]
end
def bL : Cm Out := (mSeq (mSet 2 (mCall F__law_source [.p 0, .p 1]))
  (mSeq (mSet 3 (mCall F__law_kind [.s 2, .e (mC (.int 4))]))
  (mSeq (mSet 4 (mP1 reprD (.v 3)))
  (mSeq (mSet 5 (mCall F__law_bad [.s 2, .p 3]))
  (mSeq (mIf (mTest (mP2 neD (.e (mLam W__law_word (mCall F_show_kind [.p 3]))) (.e (mC (.str [116, 111, 108, 100])))))
  (mRet (mC (.bl false)))
  mNext)
  (mSeq (mIf (mTest (mP2 neD (.e (mLam W__law_word (mNewK "Leaf" F_Leaf____init__ [(0, 0), (2, 0), (1, 0), (1, 1)] [.non, .non] [(mLst [])] [(mVar 3)]))) (.e (mC (.str [116, 111, 108, 100])))))
  (mRet (mC (.bl false)))
  mNext)
  (mSeq (mIf (mTest (mP2 neD (.e (mLam W__law_word (mCall F_show_kind [.p 5]))) (.e (mTup [(mC (.str [107, 105, 110, 100])), (mC (.int 0))]))))
  (mRet (mC (.bl false)))
  mNext)
  (mSeq (mIf (mAnd (mTest (mP2 isntNon (.v 5) (.e (mC .non)))) (mTest (mP2 neD (.e (mLam W__law_word (mNewK "Leaf" F_Leaf____init__ [(0, 0), (2, 0), (1, 0), (1, 1)] [.non, .non] [(mLst [])] [(mVar 5)]))) (.e (mC (.str [112, 97, 114, 116]))))))
  (mRet (mC (.bl false)))
  mNext)
  (mSeq (mSet 6 (mIdx (.e (mLst [(mC (.str [109, 97, 110, 121])), (mC (.str [99, 111, 118, 101, 114]))])) (mCall F__law_next [.s 2, .e (mC (.int 2))])))
  (mSeq (mIf (mOr (mTest (mP2 neD (.e (mLam W__law_word (mCall F_show_kind [.e (mTup [(mVar 6), (mC (.str [97])), (mLst [])])]))) (.e (mC (.str [116, 111, 108, 100]))))) (mTest (mP2 neD (.e (mP1 reprD (.v 3))) (.v 4))))
  (mRet (mC (.bl false)))
  mNext)
  (mIf (mTest (mP2 neD (.e (mLam W__law_word (mNewK "Leaf" F_Leaf____init__ [(0, 0), (2, 0), (1, 0), (1, 1)] [.non, .non] [(mLst [])] [(mTup [(mVar 6), (mC (.str [97])), (mLst [])])]))) (.e (mC (.str [112, 97, 114, 116])))))
  (mRet (mC (.bl false)))
  mNext)))))))))))

end K34


namespace K34
open VS L2
theorem rl_str (t : List Nat) (n : Nat) (h : ∀ c ∈ t, c < 16 ^ 8) (hl : t.length ≤ n) : (PySem.PyData.shown (.str ⟨t.toArray⟩)).length ≤ 10 * n + 2 := by
  have := PySem.StrLaws.reprText_len ⟨t.toArray⟩ (by simpa using h)
  have e : (PySem.Str.length ⟨t.toArray⟩) = t.length := by simp [PySem.Str.length]
  rw [e] at this
  have e2 : PySem.PyData.shown (.str ⟨t.toArray⟩) = PySem.reprText ⟨t.toArray⟩ := by simp [PySem.PyData.shown]
  rw [e2]
  omega
theorem rl_sum (xs : List PySem.PyData) (n : Nat) (h : ∀ x ∈ xs, x.shown.length ≤ n) : ((PySem.PyData.shownAll xs).map (·.length)).sum ≤ n * xs.length ∧ (PySem.PyData.shownAll xs).length = xs.length := by
  induction xs with
  | nil => simp [PySem.PyData.shownAll]
  | cons x xs ih =>
    obtain ⟨i1, i2⟩ := ih fun y hy => h y (by simp [hy])
    have := h x (by simp)
    simp only [PySem.PyData.shownAll, List.map_cons, List.sum_cons, List.length_cons, Nat.mul_add]
    omega
theorem rl_list (xs : List PySem.PyData) (n : Nat) (h : ∀ x ∈ xs, x.shown.length ≤ n) : (PySem.PyData.shown (.list xs)).length ≤ (n + 2) * xs.length + 3 := by
  obtain ⟨h1, h2⟩ := rl_sum xs n h
  have := PySem.listText_len_le (PySem.PyData.shownAll xs)
  simp only [PySem.PyData.shown, Nat.add_mul]
  omega
theorem rl_tup (xs : List PySem.PyData) (n : Nat) (h : ∀ x ∈ xs, x.shown.length ≤ n) : (PySem.PyData.shown (.tuple xs)).length ≤ (n + 2) * xs.length + 3 := by
  obtain ⟨h1, h2⟩ := rl_sum xs n h
  have := PySem.tupleText_len_le (PySem.PyData.shownAll xs)
  simp only [PySem.PyData.shown, Nat.add_mul]
  omega
theorem pd_map : ∀ l : List D, Ds.pd l = l.map D.pd
  | [] => by simp [Ds.pd]
  | x :: l => by simp [Ds.pd, pd_map l]
theorem sa_all : ∀ l : List PySem.PyData, (∀ x ∈ l, x.showable = true) → PySem.PyData.showableAll l = true
  | [], _ => by simp [PySem.PyData.showableAll]
  | x :: l, h => by simp [PySem.PyData.showableAll, h x (by simp), sa_all l fun y hy => h y (by simp [hy])]
theorem rp_str (t : List Nat) (n : Nat) (h : ∀ c ∈ t, c < 127) (hl : t.length ≤ n) : (D.str t).pd.shown.length ≤ 10 * n + 2 ∧ (D.str t).pd.showable = true := by
  constructor
  · exact rl_str t n (fun c hc => by have := h c hc; omega) hl
  · rfl
theorem key_lt : ∀ c ∈ k_KEY_SIGNS ++ [43], c < 127 := by decide
theorem rp_pair (p : Pr) (h : PrK p) : (prD p).pd.shown.length ≤ 10611 ∧ (prD p).pd.showable = true := by
  obtain ⟨a1, a2⟩ := rp_str p.1 20 (fun c hc => key_lt c (List.mem_append_left _ (h.ti.at_ c hc))) h.ti.len
  obtain ⟨b1, b2⟩ := rp_str p.2 530 h.sg h.len
  have e : (prD p).pd = .tuple [(D.str p.1).pd, (D.str p.2).pd] := by simp [prD, D.pd, Ds.pd]
  rw [e]
  generalize (D.str p.1).pd = A at *
  generalize (D.str p.2).pd = B at *
  constructor
  · have := rl_tup [A, B] 5302 (fun x hx => by
      simp only [List.mem_cons, List.not_mem_nil, or_false] at hx
      rcases hx with rfl | rfl <;> omega)
    simp only [List.length_cons, List.length_nil] at this
    omega
  · simp [PySem.PyData.showable, PySem.PyData.showableAll, a2, b2]
def rpT (m s : List Nat) (ps : List Pr) : List Nat := (kdD .own m s ps).pd.shown.cps.toList
theorem rp_ok (o : Ow) (m s : List Nat) (ps : List Pr) (h : KdK m s ps) : reprD (kdD o m s ps) = some (.str (rpT m s ps)) := by
  obtain ⟨a1, a2⟩ := rp_str m 20 (fun c hc => key_lt c (h.m.at_ c hc)) h.m.len
  obtain ⟨b1, b2⟩ := rp_str s 20 (fun c hc => key_lt c (h.s.at_ c hc)) h.s.len
  have e : ∀ o, (kdD o m s ps).pd = .tuple [(D.str m).pd, (D.str s).pd, .list (ps.map fun p => (prD p).pd)] := fun o => by simp [kdD, D.pd, Ds.pd, pd_map, List.map_map, Function.comp_def]
  have ml := rl_list (ps.map fun p => (prD p).pd) 10611 (fun x hx => by
    obtain ⟨p, hp, rfl⟩ := List.mem_map.1 hx
    exact (rp_pair p (h.pk p hp)).1)
  have nl := h.len
  rw [List.length_map] at ml
  have ms : PySem.PyData.showableAll (ps.map fun p => (prD p).pd) = true := sa_all _ fun x hx => by
    obtain ⟨p, hp, rfl⟩ := List.mem_map.1 hx
    exact (rp_pair p (h.pk p hp)).2
  have fl : D.flatN 8 (kdD o m s ps) = true := by
    have : (ps.map prD).all (D.flatN 6) = true := by
      rw [List.all_eq_true]
      intro x hx
      obtain ⟨p, _, rfl⟩ := List.mem_map.1 hx
      rfl
    unfold kdD
    generalize ps.map prD = P at *
    simp [D.flatN, this, -List.all_eq_true]
  unfold reprD rpT
  have ok : reprOk (kdD o m s ps) = true := by
    unfold reprOk
    rw [e, fl]
    generalize (D.str m).pd = A at *
    generalize (D.str s).pd = B at *
    generalize (ps.map fun p => (prD p).pd) = C at *
    have tl := rl_tup [A, B, .list C] 90000 (fun x hx => by
      simp only [List.mem_cons, List.not_mem_nil, or_false] at hx
      rcases hx with rfl | rfl | rfl <;> omega)
    simp only [List.length_cons, List.length_nil] at tl
    simp only [Bool.and_eq_true, decide_eq_true_iff]
    refine ⟨⟨⟨trivial, rfl⟩, ?_⟩, by omega⟩
    simp [PySem.PyData.showable, PySem.PyData.showableAll, a2, b2, ms]
  rw [if_pos ok, e, e]

end K34


namespace K34
open VS L2
/-! ### the law -/
theorem elL (o : Ow) (N : List D) : F_law [.lst o N] = runF 7 [] (mSeq (mFor (mRange1 (mBin maxD (mC (.int 1)) (mBin minD (mC (.int 10)) (mP1 lenD (.v 0))))) (mPut 1) bL) (mRet (mC (.bl true)))) [.lst o N] := rfl
theorem kd_fzO (m s : List Nat) (ps : List Pr) : (kdD .own m s ps).fz = kdD .shr m s ps := by
  simp only [kdD, D.fz, Ds.fz, if_true, Ds.fz_map, pr_fz]
theorem kd_fz1 (m s : List Nat) (ps : List Pr) : (kdD .shr m s ps).fz = kdD .shr m s ps := by
  simp only [kdD, D.fz, Ds.fz, reduceCtorEq, if_false, Ds.fz_map, pr_fz]
theorem gr_at (n : Int) (h0 : 0 ≤ n) (h : n < 2) : ∃ M, M ∈ GR ∧ atI [D.str [109, 97, 110, 121], D.str [99, 111, 118, 101, 114]] n = some (.str M) := by
  obtain rfl | rfl : n = 0 ∨ n = 1 := by omega
  · exact ⟨_, by decide, rfl⟩
  · exact ⟨_, by decide, rfl⟩
theorem non_or (d : D) : isntNon d .non = some (.bl false) ∨ (isntNon d .non = some (.bl true) ∧ isNon d .non = some (.bl false)) := by
  cases d with
  | sc s => cases s <;> first | exact .inl rfl | exact .inr ⟨rfl, rfl⟩
  | _ => exact .inr ⟨rfl, rfl⟩
theorem bL_ok (o : Ow) (ho : o = .frz ∨ o = .stc ∨ o = .shr) (ns : List Int) (k : Nat) (x2 x3 x4 x5 x6 : Option D) : ∃ y2 y3 y4 y5 y6, bL [some (.lst o (ns.map D.int)), some (.int k), x2, x3, x4, x5, x6] = .ok .nx [some (.lst o (ns.map D.int)), some (.int k), y2, y3, y4, y5, y6] := by
  obtain ⟨s, sr⟩ := source_ok o ns k
  obtain ⟨s1, m, t, ps, kk, kg, dk⟩ := kind_drawn s
  obtain ⟨s2, d, db, hd⟩ := bad_drawn s1 m t ps kk
  have r := fun o => rp_ok o m t ps kk
  have sk := show_kind_ok .shr m t ps kk
  obtain ⟨X, lk⟩ := leaf_k m t ps kk kg
  have n6 := next_f s2 2 (by decide) (by decide)
  obtain ⟨M, hM, aM⟩ := gr_at _ (nx_nn s2 2 (by decide) (by decide)) (nx_lt s2 2 (by decide) (by decide))
  have sM := show_kind_ok .shr M [97] [] (gr_kd M hM)
  obtain ⟨uM, lM⟩ := leaf_g M hM
  have fd := fzfz d
  have h0 := KS0 x2 x3 x4 x5 x6 F__law_source o ho (ns.map D.int) (by rw [List.map_map]; rfl) k (encS s) sr
  have h1 := KS1 (some (.lst o (ns.map D.int))) (some (.int k)) x3 x4 x5 x6 F__law_kind (encS s) (encS s1) (kdD .own m t ps) dk
  have h2 := KS2 (some (.lst o (ns.map D.int))) (some (.int k)) (some (encS s1)) x4 x5 x6 (kdD .own m t ps) (rpT m t ps) (r .own)
  have h3 := KS3 (some (.lst o (ns.map D.int))) (some (.int k)) (some (.str (rpT m t ps))) x5 x6 F__law_bad (encS s1) (encS s2) (kdD .own m t ps) (kdD .shr m t ps) d (kd_fzO m t ps) db
  have h4 := KS4 (some (.lst o (ns.map D.int))) (some (.int k)) (some (encS s2)) (some (.str (rpT m t ps))) (some d) x6 F_show_kind W__law_word (kdD .shr m t ps) (kdT m t ps) (kd_fz1 m t ps) sk w_told
  have h5 := KS5 (some (.lst o (ns.map D.int))) (some (.int k)) (some (encS s2)) (some (.str (rpT m t ps))) (some d) x6 F_Leaf____init__ W__law_word (kdD .shr m t ps) X (kd_fz1 m t ps) lk w_told
  have h6 := KS6 (some (.lst o (ns.map D.int))) (some (.int k)) (some (encS s2)) (some (kdD .shr m t ps)) (some (.str (rpT m t ps))) x6 F_show_kind W__law_word d d.fz rfl (show_no d.fz fd hd) w_kind
  have h7 : ∃ B, B = (mIf (mAnd (mTest (mP2 isntNon (.v 5) (.e (mC .non)))) (mTest (mP2 neD (.e (mLam W__law_word (mNewK "Leaf" F_Leaf____init__ [(0, 0), (2, 0), (1, 0), (1, 1)] [.non, .non] [(mLst [])] [(mVar 5)]))) (.e (mC (.str [112, 97, 114, 116])))))) (mRet (mC (.bl false))) mNext) ∧ B [some (.lst o (ns.map D.int)), some (.int k), some (encS s2), some (kdD .shr m t ps), some (.str (rpT m t ps)), some d.fz, x6] = .ok .nx [some (.lst o (ns.map D.int)), some (.int k), some (encS s2), some (kdD .shr m t ps), some (.str (rpT m t ps)), some d.fz, x6] := by
    rcases non_or d.fz with n | ⟨n, n2⟩
    · exact ⟨_, rfl, KS7a (some (.lst o (ns.map D.int))) (some (.int k)) (some (encS s2)) (some (kdD .shr m t ps)) (some (.str (rpT m t ps))) x6 F_Leaf____init__ W__law_word d.fz n⟩
    · obtain ⟨u, lb⟩ := leaf_b d.fz fd n2 hd
      exact ⟨_, rfl, KS7b (some (.lst o (ns.map D.int))) (some (.int k)) (some (encS s2)) (some (kdD .shr m t ps)) (some (.str (rpT m t ps))) x6 F_Leaf____init__ W__law_word d.fz u n fd lb w_part⟩
  obtain ⟨B7, e7, h7⟩ := h7
  subst e7
  have h8 := KS8 (some (.lst o (ns.map D.int))) (some (.int k)) (some (kdD .shr m t ps)) (some (.str (rpT m t ps))) (some d.fz) x6 F__law_next (encS s2) (encS (sn s2 2)) M _ n6 aM
  have h9 := KS9 (some (.lst o (ns.map D.int))) (some (.int k)) (some (encS (sn s2 2))) (some d.fz) F_show_kind W__law_word (kdD .shr m t ps) M (rpT m t ps) _ (kd_fz1 m t ps) sM w_told (r .shr)
  have h10 := KS10 (some (.lst o (ns.map D.int))) (some (.int k)) (some (encS (sn s2 2))) (some (kdD .shr m t ps)) (some (.str (rpT m t ps))) (some d.fz) F_Leaf____init__ W__law_word M uM lM w_part
  have hh := (seq_nx h0).trans <| (seq_nx h1).trans <| (seq_nx h2).trans <| (seq_nx h3).trans <| (seq_nx h4).trans <| (seq_nx h5).trans <| (seq_nx h6).trans <| (seq_nx h7).trans <| (seq_nx h8).trans <| (seq_nx h9).trans h10
  exact ⟨_, _, _, _, _, hh⟩
theorem law_true : ∀ (o : Ow) (ns : List Int), o = .frz ∨ o = .stc ∨ o = .shr → ns.length ≤ 63 → F_law [.lst o (ns.map D.int)] = .ok (.bl true) [] := by
  intro o ns ho hn
  rw [elL]
  obtain ⟨n, hn1⟩ := Int.eq_ofNat_of_zero_le (show 0 ≤ max 1 (min 10 (ns.length : Int)) by omega)
  have hs : smallR (n : Int) := by unfold smallR; omega
  let I : Nat → DE → Prop := fun k ρ => ∃ (x1 x2 x3 x4 x5 x6 : Option D), ρ = [some (.lst o (ns.map D.int)), x1, x2, x3, x4, x5, x6]
  have hf : ∃ ρ', forL (mPut 1) bL (rangeD 0 n) [some (.lst o (ns.map D.int)), none, none, none, none, none, none] = .ok .nx ρ' ∧ I (rangeD 0 n).length ρ' := by
    refine forL_inv0 I ⟨_, _, _, _, _, _, rfl⟩ ?_
    rintro i d ρ hd ⟨x1, x2, x3, x4, x5, x6, rfl⟩
    obtain ⟨hi, rfl⟩ := rangeD_get hd
    obtain ⟨y2, y3, y4, y5, y6, e⟩ := bL_ok o ho ns i x2 x3 x4 x5 x6
    rw [show (0 : Int) + (i : Int) = ((i : Nat) : Int) by omega]
    exact ⟨_, rfl, .nx, _, e, Or.inl rfl, _, _, _, _, _, _, rfl⟩
  obtain ⟨ρ', e, x1, x2, x3, x4, x5, x6, rfl⟩ := hf
  generalize bL = B at *
  rcases ho with rfl | rfl | rfl <;> simp [hn1, hs, e]

end K34


namespace K34
open PySem PySem.Spec PyProof.Rows L2 VS
theorem run_j {A B C D E F : Type} (o : Option A) (f : A → B) (g : A → C) (h : A → (D × E) × F) {a : B} {b : C} {c1 : D} {c2 : E} {c3 : F} (h1 : o.map (fun s => (f s, g s)) = some (a, b)) (h2 : o.map (fun s => (h s).1.1) = some c1) (h3 : o.map (fun s => (h s).1.2) = some c2) (h4 : o.map (fun s => (h s).2) = some c3) : o.map (fun s => (f s, g s, h s)) = some (a, b, ((c1, c2), c3)) := by
  cases o with
  | none => cases h1
  | some s =>
    simp only [Option.map_some, Option.some.injEq, Prod.mk.injEq] at h1 h2 h3 h4 ⊢
    refine ⟨h1.1, h1.2, ?_⟩
    rw [← h2, ← h3, ← h4]
theorem run (w : World) : HandSHeadRun.RunEq RwR (PySem.W.view RwR.prog [82]) hk ob 8000 names w := fun os => run_j _ _ _ _ (run_a w os) (run_b w os) (run_c w os) (run_d w os)
theorem facts {P : Program} {w : World} {K : PySem.W.Frag} {h : Heap} {mg : Str → Option Value} {f : Addr} (X : K.In h) (G : h.Ns mainGlobals mg) (hfa : mg ("law" : Str) = some (.ref f)) (c : He.SaysD fa fn K) (cx : exB K = true) :
    ∃ (fd : FuncData) (cf : Cfg), (cf.K = K ∧ ∀ p ∈ cf.tb, p.1 ∈ (tf.map (He.cT K)).map Prod.snd) ∧ (∀ (s : Shared) (v : Value), BindsTo s fd ⟨[v], []⟩ [("_law_script", v)]) ∧ ∀ base : Heap, K.In base → base.Ns mainGlobals mg → (∀ p ∈ tf.map (He.cT K), LamX.TabB base mg p.1 p.2) → RunAt callerA P w K mg base f fd ["_law_script"] (spM cf 1 [] F_law) := by
  obtain ⟨fd_Leaf____init__, D_Leaf____init__⟩ := c.def_ 47 (d := d_Leaf____init__) rfl
  obtain ⟨fd__wall, D__wall⟩ := c.def_ 0 (d := d__wall) rfl
  have A__wall : At K mg "_wall" s__wall ["k"] _ fd__wall := ⟨D__wall, He.glo_ok X G (c.fact 0 (f := .glo "_wall") rfl), FunD.bindsN D__wall fun _ _ _ _ _ _ us hl => match us, hl with | [_], _ => rfl⟩
  obtain ⟨fd_is_whole, D_is_whole⟩ := c.def_ 1 (d := d_is_whole) rfl
  have A_is_whole : At K mg "is_whole" s_is_whole ["thing"] _ fd_is_whole := ⟨D_is_whole, He.glo_ok X G (c.fact 1 (f := .glo "is_whole") rfl), FunD.bindsN D_is_whole fun _ _ _ _ _ _ us hl => match us, hl with | [_], _ => rfl⟩
  obtain ⟨fd_is_between, D_is_between⟩ := c.def_ 2 (d := d_is_between) rfl
  have A_is_between : At K mg "is_between" s_is_between ["thing", "least", "most"] _ fd_is_between := ⟨D_is_between, He.glo_ok X G (c.fact 2 (f := .glo "is_between") rfl), FunD.bindsN D_is_between fun _ _ _ _ _ _ us hl => match us, hl with | [_, _, _], _ => rfl⟩
  obtain ⟨fd_is_line, D_is_line⟩ := c.def_ 3 (d := d_is_line) rfl
  have A_is_line : At K mg "is_line" s_is_line ["thing"] _ fd_is_line := ⟨D_is_line, He.glo_ok X G (c.fact 3 (f := .glo "is_line") rfl), FunD.bindsN D_is_line fun _ _ _ _ _ _ us hl => match us, hl with | [_], _ => rfl⟩
  obtain ⟨fd_is_of, D_is_of⟩ := c.def_ 4 (d := d_is_of) rfl
  have A_is_of : At K mg "is_of" s_is_of ["text", "signs"] _ fd_is_of := ⟨D_is_of, He.glo_ok X G (c.fact 4 (f := .glo "is_of") rfl), FunD.bindsN D_is_of fun _ _ _ _ _ _ us hl => match us, hl with | [_, _], _ => rfl⟩
  obtain ⟨fd_is_word, D_is_word⟩ := c.def_ 5 (d := d_is_word) rfl
  have A_is_word : At K mg "is_word" s_is_word ["thing", "words"] _ fd_is_word := ⟨D_is_word, He.glo_ok X G (c.fact 5 (f := .glo "is_word") rfl), FunD.bindsN D_is_word fun _ _ _ _ _ _ us hl => match us, hl with | [_, _], _ => rfl⟩
  obtain ⟨fd_is_name, D_is_name⟩ := c.def_ 6 (d := d_is_name) rfl
  have A_is_name : At K mg "is_name" s_is_name ["thing"] _ fd_is_name := ⟨D_is_name, He.glo_ok X G (c.fact 6 (f := .glo "is_name") rfl), FunD.bindsN D_is_name fun _ _ _ _ _ _ us hl => match us, hl with | [_], _ => rfl⟩
  obtain ⟨fd_is_value, D_is_value⟩ := c.def_ 7 (d := d_is_value) rfl
  have A_is_value : At K mg "is_value" s_is_value ["thing"] _ fd_is_value := ⟨D_is_value, He.glo_ok X G (c.fact 7 (f := .glo "is_value") rfl), FunD.bindsN D_is_value fun _ _ _ _ _ _ us hl => match us, hl with | [_], _ => rfl⟩
  obtain ⟨fd_is_head, D_is_head⟩ := c.def_ 8 (d := d_is_head) rfl
  have A_is_head : At K mg "is_head" s_is_head ["thing"] _ fd_is_head := ⟨D_is_head, He.glo_ok X G (c.fact 8 (f := .glo "is_head") rfl), FunD.bindsN D_is_head fun _ _ _ _ _ _ us hl => match us, hl with | [_], _ => rfl⟩
  obtain ⟨fd_is_octets, D_is_octets⟩ := c.def_ 9 (d := d_is_octets) rfl
  have A_is_octets : At K mg "is_octets" s_is_octets ["thing"] _ fd_is_octets := ⟨D_is_octets, He.glo_ok X G (c.fact 9 (f := .glo "is_octets") rfl), FunD.bindsN D_is_octets fun _ _ _ _ _ _ us hl => match us, hl with | [_], _ => rfl⟩
  obtain ⟨fd_is_atom, D_is_atom⟩ := c.def_ 10 (d := d_is_atom) rfl
  have A_is_atom : At K mg "is_atom" s_is_atom ["text"] _ fd_is_atom := ⟨D_is_atom, He.glo_ok X G (c.fact 10 (f := .glo "is_atom") rfl), FunD.bindsN D_is_atom fun _ _ _ _ _ _ us hl => match us, hl with | [_], _ => rfl⟩
  obtain ⟨fd_quoted_in, D_quoted_in⟩ := c.def_ 11 (d := d_quoted_in) rfl
  have A_quoted_in : At K mg "quoted_in" s_quoted_in ["text"] _ fd_quoted_in := ⟨D_quoted_in, He.glo_ok X G (c.fact 11 (f := .glo "quoted_in") rfl), FunD.bindsN D_quoted_in fun _ _ _ _ _ _ us hl => match us, hl with | [_], _ => rfl⟩
  obtain ⟨fd_is_title, D_is_title⟩ := c.def_ 12 (d := d_is_title) rfl
  have A_is_title : At K mg "is_title" s_is_title ["thing", "signs"] _ fd_is_title := ⟨D_is_title, He.glo_ok X G (c.fact 12 (f := .glo "is_title") rfl), FunD.bindsN D_is_title fun _ _ _ _ _ _ us hl => match us, hl with | [_, _], _ => rfl⟩
  obtain ⟨fd_is_pair, D_is_pair⟩ := c.def_ 13 (d := d_is_pair) rfl
  have A_is_pair : At K mg "is_pair" s_is_pair ["thing"] _ fd_is_pair := ⟨D_is_pair, He.glo_ok X G (c.fact 13 (f := .glo "is_pair") rfl), FunD.bindsN D_is_pair fun _ _ _ _ _ _ us hl => match us, hl with | [_], _ => rfl⟩
  obtain ⟨fd_is_kind, D_is_kind⟩ := c.def_ 14 (d := d_is_kind) rfl
  have A_is_kind : At K mg "is_kind" s_is_kind ["thing"] _ fd_is_kind := ⟨D_is_kind, He.glo_ok X G (c.fact 14 (f := .glo "is_kind") rfl), FunD.bindsN D_is_kind fun _ _ _ _ _ _ us hl => match us, hl with | [_], _ => rfl⟩
  obtain ⟨fd_show_pair, D_show_pair⟩ := c.def_ 15 (d := d_show_pair) rfl
  have A_show_pair : At K mg "show_pair" s_show_pair ["name", "value"] _ fd_show_pair := ⟨D_show_pair, He.glo_ok X G (c.fact 15 (f := .glo "show_pair") rfl), FunD.bindsN D_show_pair fun _ _ _ _ _ _ us hl => match us, hl with | [_, _], _ => rfl⟩
  obtain ⟨fd_show_kind, D_show_kind⟩ := c.def_ 16 (d := d_show_kind) rfl
  have A_show_kind : At K mg "show_kind" s_show_kind ["kind"] _ fd_show_kind := ⟨D_show_kind, He.glo_ok X G (c.fact 16 (f := .glo "show_kind") rfl), FunD.bindsN D_show_kind fun _ _ _ _ _ _ us hl => match us, hl with | [_], _ => rfl⟩
  obtain ⟨fd_sign_of, D_sign_of⟩ := c.def_ 17 (d := d_sign_of) rfl
  have A_sign_of : At K mg "sign_of" s_sign_of ["number"] _ fd_sign_of := ⟨D_sign_of, He.glo_ok X G (c.fact 17 (f := .glo "sign_of") rfl), FunD.bindsN D_sign_of fun _ _ _ _ _ _ us hl => match us, hl with | [_], _ => rfl⟩
  obtain ⟨fd_is_sign, D_is_sign⟩ := c.def_ 18 (d := d_is_sign) rfl
  have A_is_sign : At K mg "is_sign" s_is_sign ["number"] _ fd_is_sign := ⟨D_is_sign, He.glo_ok X G (c.fact 18 (f := .glo "is_sign") rfl), FunD.bindsN D_is_sign fun _ _ _ _ _ _ us hl => match us, hl with | [_], _ => rfl⟩
  obtain ⟨fd_six_bits, D_six_bits⟩ := c.def_ 19 (d := d_six_bits) rfl
  have A_six_bits : At K mg "six_bits" s_six_bits ["octets"] _ fd_six_bits := ⟨D_six_bits, He.glo_ok X G (c.fact 19 (f := .glo "six_bits") rfl), FunD.bindsN D_six_bits fun _ _ _ _ _ _ us hl => match us, hl with | [_], _ => rfl⟩
  obtain ⟨fd_by_sixes, D_by_sixes⟩ := c.def_ 20 (d := d_by_sixes) rfl
  have A_by_sixes : At K mg "by_sixes" s_by_sixes ["octets"] _ fd_by_sixes := ⟨D_by_sixes, He.glo_ok X G (c.fact 20 (f := .glo "by_sixes") rfl), FunD.bindsN D_by_sixes fun _ _ _ _ _ _ us hl => match us, hl with | [_], _ => rfl⟩
  obtain ⟨fd_two_figures, D_two_figures⟩ := c.def_ 21 (d := d_two_figures) rfl
  have A_two_figures : At K mg "two_figures" s_two_figures ["octet"] _ fd_two_figures := ⟨D_two_figures, He.glo_ok X G (c.fact 21 (f := .glo "two_figures") rfl), FunD.bindsN D_two_figures fun _ _ _ _ _ _ us hl => match us, hl with | [_], _ => rfl⟩
  obtain ⟨fd_mark_unit, D_mark_unit⟩ := c.def_ 22 (d := d_mark_unit) rfl
  have A_mark_unit : At K mg "mark_unit" s_mark_unit ["octets", "at"] _ fd_mark_unit := ⟨D_mark_unit, He.glo_ok X G (c.fact 22 (f := .glo "mark_unit") rfl), FunD.bindsN D_mark_unit fun _ _ _ _ _ _ us hl => match us, hl with | [_, _], _ => rfl⟩
  obtain ⟨fd_by_marks, D_by_marks⟩ := c.def_ 23 (d := d_by_marks) rfl
  have A_by_marks : At K mg "by_marks" s_by_marks ["octets"] _ fd_by_marks := ⟨D_by_marks, He.glo_ok X G (c.fact 23 (f := .glo "by_marks") rfl), FunD.bindsN D_by_marks fun _ _ _ _ _ _ us hl => match us, hl with | [_], _ => rfl⟩
  obtain ⟨fd_can_be_plain, D_can_be_plain⟩ := c.def_ 24 (d := d_can_be_plain) rfl
  have A_can_be_plain : At K mg "can_be_plain" s_can_be_plain ["octets"] _ fd_can_be_plain := ⟨D_can_be_plain, He.glo_ok X G (c.fact 24 (f := .glo "can_be_plain") rfl), FunD.bindsN D_can_be_plain fun _ _ _ _ _ _ us hl => match us, hl with | [_], _ => rfl⟩
  obtain ⟨fd_by_plain, D_by_plain⟩ := c.def_ 25 (d := d_by_plain) rfl
  have A_by_plain : At K mg "by_plain" s_by_plain ["octets"] _ fd_by_plain := ⟨D_by_plain, He.glo_ok X G (c.fact 25 (f := .glo "by_plain") rfl), FunD.bindsN D_by_plain fun _ _ _ _ _ _ us hl => match us, hl with | [_], _ => rfl⟩
  obtain ⟨fd_needed_octets, D_needed_octets⟩ := c.def_ 26 (d := d_needed_octets) rfl
  have A_needed_octets : At K mg "needed_octets" s_needed_octets ["thing"] _ fd_needed_octets := ⟨D_needed_octets, He.glo_ok X G (c.fact 26 (f := .glo "needed_octets") rfl), FunD.bindsN D_needed_octets fun _ _ _ _ _ _ us hl => match us, hl with | [_], _ => rfl⟩
  obtain ⟨fd_needed_code, D_needed_code⟩ := c.def_ 27 (d := d_needed_code) rfl
  have A_needed_code : At K mg "needed_code" s_needed_code ["thing"] _ fd_needed_code := ⟨D_needed_code, He.glo_ok X G (c.fact 27 (f := .glo "needed_code") rfl), FunD.bindsN D_needed_code fun _ _ _ _ _ _ us hl => match us, hl with | [_], _ => rfl⟩
  obtain ⟨fd_written_by, D_written_by⟩ := c.def_ 28 (d := d_written_by) rfl
  have A_written_by : At K mg "written_by" s_written_by ["octets", "code"] _ fd_written_by := ⟨D_written_by, He.glo_ok X G (c.fact 28 (f := .glo "written_by") rfl), FunD.bindsN D_written_by fun _ _ _ _ _ _ us hl => match us, hl with | [_, _], _ => rfl⟩
  obtain ⟨fd_best, D_best⟩ := c.def_ 29 (d := d_best) rfl
  have A_best : At K mg "best" s_best ["octets"] _ fd_best := ⟨D_best, He.glo_ok X G (c.fact 29 (f := .glo "best") rfl), FunD.bindsN D_best fun _ _ _ _ _ _ us hl => match us, hl with | [_], _ => rfl⟩
  obtain ⟨fd_fold_places, D_fold_places⟩ := c.def_ 30 (d := d_fold_places) rfl
  have A_fold_places : At K mg "fold_places" s_fold_places ["line", "begin"] _ fd_fold_places := ⟨D_fold_places, He.glo_ok X G (c.fact 30 (f := .glo "fold_places") rfl), FunD.bindsN D_fold_places fun _ _ _ _ _ _ us hl => match us, hl with | [_, _], _ => rfl⟩
  obtain ⟨fd_folded_lines, D_folded_lines⟩ := c.def_ 31 (d := d_folded_lines) rfl
  have A_folded_lines : At K mg "folded_lines" s_folded_lines ["line", "begin"] _ fd_folded_lines := ⟨D_folded_lines, He.glo_ok X G (c.fact 31 (f := .glo "folded_lines") rfl), FunD.bindsN D_folded_lines fun _ _ _ _ _ _ us hl => match us, hl with | [_, _], _ => rfl⟩
  obtain ⟨fd_head_text, D_head_text⟩ := c.def_ 32 (d := d_head_text) rfl
  have A_head_text : At K mg "head_text" s_head_text ["name", "value"] _ fd_head_text := ⟨D_head_text, He.glo_ok X G (c.fact 32 (f := .glo "head_text") rfl), FunD.bindsN D_head_text fun _ _ _ _ _ _ us hl => match us, hl with | [_, _], _ => rfl⟩
  obtain ⟨fd_needed, D_needed⟩ := c.def_ 33 (d := d_needed) rfl
  have A_needed : At K mg "needed" s_needed ["truth"] _ fd_needed := ⟨D_needed, He.glo_ok X G (c.fact 33 (f := .glo "needed") rfl), FunD.bindsN D_needed fun _ _ _ _ _ _ us hl => match us, hl with | [_], _ => rfl⟩
  obtain ⟨fd_checked_heads, D_checked_heads⟩ := c.def_ 34 (d := d_checked_heads) rfl
  have A_checked_heads : At K mg "checked_heads" s_checked_heads ["heads"] _ fd_checked_heads := ⟨D_checked_heads, He.glo_ok X G (c.fact 34 (f := .glo "checked_heads") rfl), FunD.bindsN D_checked_heads fun _ _ _ _ _ _ us hl => match us, hl with | [_], _ => rfl⟩
  obtain ⟨fd_checked_kind, D_checked_kind⟩ := c.def_ 35 (d := d_checked_kind) rfl
  have A_checked_kind : At K mg "checked_kind" s_checked_kind ["kind"] _ fd_checked_kind := ⟨D_checked_kind, He.glo_ok X G (c.fact 35 (f := .glo "checked_kind") rfl), FunD.bindsN D_checked_kind fun _ _ _ _ _ _ us hl => match us, hl with | [_], _ => rfl⟩
  obtain ⟨fd_checked_code, D_checked_code⟩ := c.def_ 36 (d := d_checked_code) rfl
  have A_checked_code : At K mg "checked_code" s_checked_code ["octets", "code"] _ fd_checked_code := ⟨D_checked_code, He.glo_ok X G (c.fact 36 (f := .glo "checked_code") rfl), FunD.bindsN D_checked_code fun _ _ _ _ _ _ us hl => match us, hl with | [_, _], _ => rfl⟩
  obtain ⟨fd__law_cell_at, D__law_cell_at⟩ := c.def_ 37 (d := d__law_cell_at) rfl
  have A__law_cell_at : At K mg "_law_cell_at" s__law_cell_at ["_law_script", "_law_k"] _ fd__law_cell_at := ⟨D__law_cell_at, He.glo_ok X G (c.fact 37 (f := .glo "_law_cell_at") rfl), FunD.bindsN D__law_cell_at fun _ _ _ _ _ _ us hl => match us, hl with | [_, _], _ => rfl⟩
  obtain ⟨fd__law_mixed, D__law_mixed⟩ := c.def_ 38 (d := d__law_mixed) rfl
  have A__law_mixed : At K mg "_law_mixed" s__law_mixed ["_law_cell", "_law_k"] _ fd__law_mixed := ⟨D__law_mixed, He.glo_ok X G (c.fact 38 (f := .glo "_law_mixed") rfl), FunD.bindsN D__law_mixed fun _ _ _ _ _ _ us hl => match us, hl with | [_, _], _ => rfl⟩
  obtain ⟨fd__law_source, D__law_source⟩ := c.def_ 39 (d := d__law_source) rfl
  have A__law_source : At K mg "_law_source" s__law_source ["_law_script", "_law_k"] _ fd__law_source := ⟨D__law_source, He.glo_ok X G (c.fact 39 (f := .glo "_law_source") rfl), FunD.bindsN D__law_source fun _ _ _ _ _ _ us hl => match us, hl with | [_, _], _ => rfl⟩
  obtain ⟨fd__law_next, D__law_next⟩ := c.def_ 40 (d := d__law_next) rfl
  have A__law_next : At K mg "_law_next" s__law_next ["_law_source_here", "_law_many"] _ fd__law_next := ⟨D__law_next, He.glo_ok X G (c.fact 40 (f := .glo "_law_next") rfl), FunD.bindsN D__law_next fun _ _ _ _ _ _ us hl => match us, hl with | [_, _], _ => rfl⟩
  obtain ⟨fd__law_signs, D__law_signs⟩ := c.def_ 41 (d := d__law_signs) rfl
  have A__law_signs : At K mg "_law_signs" s__law_signs ["_law_source_here", "_law_signs_here", "_law_many"] _ fd__law_signs := ⟨D__law_signs, He.glo_ok X G (c.fact 41 (f := .glo "_law_signs") rfl), FunD.bindsN D__law_signs fun _ _ _ _ _ _ us hl => match us, hl with | [_, _, _], _ => rfl⟩
  obtain ⟨fd__law_title, D__law_title⟩ := c.def_ 42 (d := d__law_title) rfl
  have A__law_title : At K mg "_law_title" s__law_title ["_law_source_here", "_law_first", "_law_signs_here"] _ fd__law_title := ⟨D__law_title, He.glo_ok X G (c.fact 42 (f := .glo "_law_title") rfl), FunD.bindsN D__law_title fun _ _ _ _ _ _ us hl => match us, hl with | [_, _, _], _ => rfl⟩
  obtain ⟨fd__law_kind, D__law_kind⟩ := c.def_ 43 (d := d__law_kind) rfl
  have A__law_kind : At K mg "_law_kind" s__law_kind ["_law_source_here", "_law_most"] _ fd__law_kind := ⟨D__law_kind, He.glo_ok X G (c.fact 43 (f := .glo "_law_kind") rfl), FunD.bindsN D__law_kind fun _ _ _ _ _ _ us hl => match us, hl with | [_, _], _ => rfl⟩
  obtain ⟨fd__law_no_title, D__law_no_title⟩ := c.def_ 44 (d := d__law_no_title) rfl
  have A__law_no_title : At K mg "_law_no_title" s__law_no_title ["_law_source_here", "_law_signs_here"] _ fd__law_no_title := ⟨D__law_no_title, He.glo_ok X G (c.fact 44 (f := .glo "_law_no_title") rfl), FunD.bindsN D__law_no_title fun _ _ _ _ _ _ us hl => match us, hl with | [_, _], _ => rfl⟩
  obtain ⟨fd__law_bad, D__law_bad⟩ := c.def_ 45 (d := d__law_bad) rfl
  have A__law_bad : At K mg "_law_bad" s__law_bad ["_law_source_here", "_law_given"] _ fd__law_bad := ⟨D__law_bad, He.glo_ok X G (c.fact 45 (f := .glo "_law_bad") rfl), FunD.bindsN D__law_bad fun _ _ _ _ _ _ us hl => match us, hl with | [_, _], _ => rfl⟩
  obtain ⟨fd__law_word, D__law_word⟩ := c.def_ 46 (d := d__law_word) rfl
  have A__law_word : At K mg "_law_word" s__law_word ["_law_ask"] _ fd__law_word := ⟨D__law_word, He.glo_ok X G (c.fact 46 (f := .glo "_law_word") rfl), FunD.bindsN D__law_word fun _ _ _ _ _ _ us hl => match us, hl with | [_], _ => rfl⟩
  obtain ⟨fd_law, D_law⟩ := c.def_ 48 (d := d_law) rfl
  have A_law : At K mg "law" s_law ["_law_script"] _ fd_law := ⟨D_law, He.glo_ok X G (c.fact 47 (f := .glo "law") rfl), FunD.bindsN D_law fun _ _ _ _ _ _ us hl => match us, hl with | [_], _ => rfl⟩
  obtain ⟨fdI_NoCode, DI_NoCode⟩ := c.def_ 49 (d := dI_NoCode) rfl
  obtain ⟨fdI_NoKind, DI_NoKind⟩ := c.def_ 50 (d := dI_NoKind) rfl
  have cx2 : ∀ b ∈ [xtB K (clsOf K) allX dsX, iniB K "NoCode" "at", iniB K "NoKind" "at", tupE K "CODES" k_CODES, tupE K "GREATER" k_GREATER, tupE K "OWN" k_OWN, clsB K "Leaf" ["held_kind", "held_octets", "held_code", "held_heads"] ["__init__", "manner", "octets", "kind", "code", "own_heads", "body_text", "told"], methB K "Leaf" "Part" "heads", methB K "Leaf" "Part" "small_heads", methB K "Leaf" "Part" "text"], b = true := fun b hb => List.all_eq_true.mp cx b hb
  have B_NoCode := iniB_ok (cx2 _ (by simp) : iniB K "NoCode" "at" = true)
  have B_NoKind := iniB_ok (cx2 _ (by simp) : iniB K "NoKind" "at" = true)
  have B_CODES := tupE_ok (cx2 _ (by simp) : tupE K "CODES" k_CODES = true)
  have B_GREATER := tupE_ok (cx2 _ (by simp) : tupE K "GREATER" k_GREATER = true)
  have B_OWN := tupE_ok (cx2 _ (by simp) : tupE K "OWN" k_OWN = true)
  have B_Leaf := clsB_ok (cx2 _ (by simp) : clsB K "Leaf" ["held_kind", "held_octets", "held_code", "held_heads"] ["__init__", "manner", "octets", "kind", "code", "own_heads", "body_text", "told"] = true)
  have A_Leaf____init__ : AtK K (cfgT K tfq) "Leaf" "Leaf.__init__" s_Leaf____init__ kw_Leaf____init__ _ fd_Leaf____init__ := ⟨D_Leaf____init__⟩
  have M_Leaf := B_Leaf.2.2.2 (by decide)
  have T : Tx K mg (cfgT K tfq) :=
    { hK := rfl
      f_all := He.free_ok X G (c.fact 62 (f := .free "all") rfl)
      f_bool := He.free_ok X G (c.fact 63 (f := .free "bool") rfl)
      f_dict := He.free_ok X G (c.fact 64 (f := .free "dict") rfl)
      f_enumerate := He.free_ok X G (c.fact 65 (f := .free "enumerate") rfl)
      f_int := He.free_ok X G (c.fact 66 (f := .free "int") rfl)
      f_isinstance := He.free_ok X G (c.fact 67 (f := .free "isinstance") rfl)
      f_len := He.free_ok X G (c.fact 68 (f := .free "len") rfl)
      f_list := He.free_ok X G (c.fact 69 (f := .free "list") rfl)
      f_max := He.free_ok X G (c.fact 70 (f := .free "max") rfl)
      f_min := He.free_ok X G (c.fact 71 (f := .free "min") rfl)
      f_range := He.free_ok X G (c.fact 72 (f := .free "range") rfl)
      f_repr := He.free_ok X G (c.fact 73 (f := .free "repr") rfl)
      f_set := He.free_ok X G (c.fact 74 (f := .free "set") rfl)
      f_str := He.free_ok X G (c.fact 75 (f := .free "str") rfl)
      f_sum := He.free_ok X G (c.fact 76 (f := .free "sum") rfl)
      f_tuple := He.free_ok X G (c.fact 77 (f := .free "tuple") rfl)
      c_ATOM_SIGNS := He.str_ok X G (c.fact 78 (f := .str "ATOM_SIGNS" ⟨k_ATOM_SIGNS.toArray⟩) rfl)
      c_CODES := ⟨_, He.glo_ok X G (c.fact 59 (f := .glo "CODES") rfl), B_CODES.1⟩
      c_GREATER := ⟨_, He.glo_ok X G (c.fact 60 (f := .glo "GREATER") rfl), B_GREATER.1⟩
      c_KEY_SIGNS := He.str_ok X G (c.fact 79 (f := .str "KEY_SIGNS" ⟨k_KEY_SIGNS.toArray⟩) rfl)
      c_LETTERS := He.str_ok X G (c.fact 80 (f := .str "LETTERS" ⟨k_LETTERS.toArray⟩) rfl)
      c_MOST_OF_LINE := He.int_ok X G (c.fact 81 (f := .int "MOST_OF_LINE" 72) rfl)
      c_MOST_OF_NAME := He.int_ok X G (c.fact 82 (f := .int "MOST_OF_NAME" 30) rfl)
      c_MOST_OF_TITLE := He.int_ok X G (c.fact 83 (f := .int "MOST_OF_TITLE" 20) rfl)
      c_NAME_SIGNS := He.str_ok X G (c.fact 84 (f := .str "NAME_SIGNS" ⟨k_NAME_SIGNS.toArray⟩) rfl)
      c_OWN := ⟨_, He.glo_ok X G (c.fact 61 (f := .glo "OWN") rfl), B_OWN.1⟩
      c_PIECE := He.int_ok X G (c.fact 85 (f := .int "PIECE" 40) rfl)
      c_SIGNS := He.str_ok X G (c.fact 86 (f := .str "SIGNS" ⟨k_SIGNS.toArray⟩) rfl)
      c_SIX := He.str_ok X G (c.fact 87 (f := .str "SIX" ⟨k_SIX.toArray⟩) rfl)
      c_SIXTEEN := He.str_ok X G (c.fact 88 (f := .str "SIXTEEN" ⟨k_SIXTEEN.toArray⟩) rfl)
      c_SMALL := He.str_ok X G (c.fact 89 (f := .str "SMALL" ⟨k_SMALL.toArray⟩) rfl)
      c_WIDTH := He.int_ok X G (c.fact 90 (f := .int "WIDTH" 72) rfl)
      cl_Leaf := B_Leaf.1
      na_Leaf := B_Leaf.2.1
      gC_Leaf := He.glo_ok X G (c.fact 48 (f := .glo "Leaf") rfl)
      xt := xtB_ok (cx2 _ (by simp) : xtB K (clsOf K) allX dsX = true)
      g_LetterError := He.glo_ok X G (c.fact 49 (f := .glo "LetterError") rfl)
      g_NoAddress := He.glo_ok X G (c.fact 50 (f := .glo "NoAddress") rfl)
      g_NoCode := He.glo_ok X G (c.fact 51 (f := .glo "NoCode") rfl)
      g_NoHead := He.glo_ok X G (c.fact 52 (f := .glo "NoHead") rfl)
      g_NoKind := He.glo_ok X G (c.fact 53 (f := .glo "NoKind") rfl)
      g_NoOctets := He.glo_ok X G (c.fact 54 (f := .glo "NoOctets") rfl)
      g_NoPart := He.glo_ok X G (c.fact 55 (f := .glo "NoPart") rfl)
      g_NoWords := He.glo_ok X G (c.fact 56 (f := .glo "NoWords") rfl)
      x_NoOctets := He.exc_ok (c.fact 57 (f := .exc "NoOctets") rfl)
      x_NoPart := He.exc_ok (c.fact 58 (f := .exc "NoPart") rfl)
    }
  have e := hfa.symm.trans A_law.g
  cases e
  refine ⟨fd_law, (cfgT K tfq), ⟨rfl, fun p hp => by
    rw [List.map_map]
    obtain ⟨z, hz, rfl⟩ := List.mem_map.mp hp
    exact List.mem_map.mpr ⟨z.1, (by simp only [tfq, List.mem_cons, List.not_mem_nil, or_false] at hz; rcases hz with rfl <;> simp [tf]), rfl⟩⟩, fun s v => FunD.bindsA (ps := ["_law_script"]) D_law (fun _ _ _ _ _ _ us hl => match us, hl with | [_], _ => rfl) s [v] rfl, fun base _ _ TBs => ?_⟩
  have TB_law : LamX.TabB base mg (He.cT K ("law", none)).1 (He.cT K ("law", none)).2 := TBs _ (List.mem_map.mpr ⟨("law", none), by simp [tf], rfl⟩)
  have MT_law : ((He.cT K ("law", none)).2, (("law" : Str) ++ (".<locals>." : Str)) ++ ("<lambda>" : Str)) ∈ (cfgT K tfq).tb := List.mem_map.mpr ⟨(("law", none), (("law" : Str) ++ (".<locals>." : Str)) ++ ("<lambda>" : Str)), by simp [tfq], rfl⟩
  have HU_law : ∀ p ∈ (cfgT K tfq).tb, p.1 = (He.cT K ("law", none)).2 → p.2 = (("law" : Str) ++ (".<locals>." : Str)) ++ ("<lambda>" : Str) := by
    intro p hp e
    obtain ⟨z, hz, rfl⟩ := List.mem_map.mp hp
    simp only [tfq, List.mem_cons, List.not_mem_nil, or_false] at hz
    rcases hz with rfl
    · rfl
  have I_NoCode : XIni P w K mg base (cfgT K tfq) "NoCode" "at" _ fdI_NoCode := {
      T := B_NoCode.1
      no := B_NoCode.2.1
      iC := B_NoCode.2.2.1
      tI := B_NoCode.2.2.2
      g := He.glo_ok X G (c.fact 51 (f := .glo "NoCode") rfl)
      F := init_ok DI_NoCode scI_NoCode fun _ _ _ _ _ _ => pss_one (ps_ost (pv 0) (pv 2))
      b1 := FunD.binds1 (ps := ["self", "why", "at"]) DI_NoCode 2 0 (by simp [He.DefD.dvs, dI_NoCode]) rfl fun _ _ _ _ _ _ _ us its hu hi => match us, hu, its, hi with | [_, _], _, [_], _ => ⟨_, rfl, rfl⟩
      b2 := by
        obtain ⟨ds, hv, hb⟩ := FunD.binds1 (ps := ["self", "why", "at"]) DI_NoCode 3 1 (by simp [He.DefD.dvs, dI_NoCode]) rfl fun _ _ _ _ _ _ _ us its hu hi => match us, hu, its, hi with | [_, _, _], _, [_], _ => ⟨_, rfl, rfl⟩
        cases hv
        exact hb }
  have I_NoKind : XIni P w K mg base (cfgT K tfq) "NoKind" "at" _ fdI_NoKind := {
      T := B_NoKind.1
      no := B_NoKind.2.1
      iC := B_NoKind.2.2.1
      tI := B_NoKind.2.2.2
      g := He.glo_ok X G (c.fact 53 (f := .glo "NoKind") rfl)
      F := init_ok DI_NoKind scI_NoKind fun _ _ _ _ _ _ => pss_one (ps_ost (pv 0) (pv 2))
      b1 := FunD.binds1 (ps := ["self", "why", "at"]) DI_NoKind 2 0 (by simp [He.DefD.dvs, dI_NoKind]) rfl fun _ _ _ _ _ _ _ us its hu hi => match us, hu, its, hi with | [_, _], _, [_], _ => ⟨_, rfl, rfl⟩
      b2 := by
        obtain ⟨ds, hv, hb⟩ := FunD.binds1 (ps := ["self", "why", "at"]) DI_NoKind 3 1 (by simp [He.DefD.dvs, dI_NoKind]) rfl fun _ _ _ _ _ _ _ us its hu hi => match us, hu, its, hi with | [_, _, _], _, [_], _ => ⟨_, rfl, rfl⟩
        cases hv
        exact hb }
  have G__wall : FnOk P w K mg base (L2.CX P w) 1 _ fd__wall ["k"] (spM (cfgT K tfq) 1 [] F__wall) := ok__wall T A__wall 
  have G_is_whole : FnOk P w K mg base (L2.CX P w) 1 _ fd_is_whole ["thing"] (spM (cfgT K tfq) 1 [] F_is_whole) := ok_is_whole T A_is_whole 
  have G_is_between : FnOk P w K mg base (L2.CX P w) 2 _ fd_is_between ["thing", "least", "most"] (spM (cfgT K tfq) 3 [] F_is_between) := ok_is_between T A_is_between A_is_whole G_is_whole
  have G_is_line : FnOk P w K mg base (L2.CX P w) 1 _ fd_is_line ["thing"] (spM (cfgT K tfq) 1 [] F_is_line) := ok_is_line T A_is_line 
  have G_is_of : FnOk P w K mg base (L2.CX P w) 1 _ fd_is_of ["text", "signs"] (spM (cfgT K tfq) 2 [] F_is_of) := ok_is_of T A_is_of 
  have G_is_word : FnOk P w K mg base (L2.CX P w) 1 _ fd_is_word ["thing", "words"] (spM (cfgT K tfq) 2 [] F_is_word) := ok_is_word T A_is_word 
  have G_is_name : FnOk P w K mg base (L2.CX P w) 2 _ fd_is_name ["thing"] (spM (cfgT K tfq) 1 [] F_is_name) := ok_is_name T A_is_name A_is_of G_is_of
  have G_is_value : FnOk P w K mg base (L2.CX P w) 2 _ fd_is_value ["thing"] (spM (cfgT K tfq) 1 [] F_is_value) := ok_is_value T A_is_value A_is_line G_is_line
  have G_is_head : FnOk P w K mg base (L2.CX P w) 3 _ fd_is_head ["thing"] (spM (cfgT K tfq) 1 [] F_is_head) := ok_is_head T A_is_head A_is_name G_is_name A_is_value G_is_value
  have G_is_octets : FnOk P w K mg base (L2.CX P w) 3 _ fd_is_octets ["thing"] (spM (cfgT K tfq) 1 [] F_is_octets) := ok_is_octets T A_is_octets A_is_between G_is_between
  have G_is_atom : FnOk P w K mg base (L2.CX P w) 2 _ fd_is_atom ["text"] (spM (cfgT K tfq) 1 [] F_is_atom) := ok_is_atom T A_is_atom A_is_of G_is_of
  have G_quoted_in : FnOk P w K mg base (L2.CX P w) 3 _ fd_quoted_in ["text"] (spM (cfgT K tfq) 1 [] F_quoted_in) := ok_quoted_in T A_quoted_in A_is_atom G_is_atom
  have G_is_title : FnOk P w K mg base (L2.CX P w) 2 _ fd_is_title ["thing", "signs"] (spM (cfgT K tfq) 2 [] F_is_title) := ok_is_title T A_is_title A_is_of G_is_of
  have G_is_pair : FnOk P w K mg base (L2.CX P w) 3 _ fd_is_pair ["thing"] (spM (cfgT K tfq) 1 [] F_is_pair) := ok_is_pair T A_is_pair A_is_title G_is_title A_is_line G_is_line
  have G_is_kind : FnOk P w K mg base (L2.CX P w) 4 _ fd_is_kind ["thing"] (spM (cfgT K tfq) 1 [] F_is_kind) := ok_is_kind T A_is_kind A_is_title G_is_title A_is_pair G_is_pair
  have G_show_pair : FnOk P w K mg base (L2.CX P w) 4 _ fd_show_pair ["name", "value"] (spM (cfgT K tfq) 2 [] F_show_pair) := ok_show_pair T A_show_pair A_quoted_in G_quoted_in
  have G_show_kind : FnOk P w K mg base (L2.CX P w) 5 _ fd_show_kind ["kind"] (spM (cfgT K tfq) 1 [] F_show_kind) := ok_show_kind T A_show_kind I_NoKind A_is_kind G_is_kind A_show_pair G_show_pair
  have G_show_kind__n : FnOk P w K mg base (L2N.CX P w) 5 _ fd_show_kind ["kind"] (spM (cfgT K tfq) 1 [] F_show_kind__n) := ok_show_kind__n T A_show_kind I_NoKind A_is_kind G_is_kind A_show_pair G_show_pair
  have G_sign_of : FnOk P w K mg base (L2.CX P w) 1 _ fd_sign_of ["number"] (spM (cfgT K tfq) 1 [] F_sign_of) := ok_sign_of T A_sign_of 
  have G_is_sign : FnOk P w K mg base (L2.CX P w) 1 _ fd_is_sign ["number"] (spM (cfgT K tfq) 1 [] F_is_sign) := ok_is_sign T A_is_sign 
  have G_six_bits : FnOk P w K mg base (L2.CX P w) 1 _ fd_six_bits ["octets"] (spM (cfgT K tfq) 1 [] F_six_bits) := ok_six_bits T A_six_bits 
  have G_by_sixes : FnOk P w K mg base (L2.CX P w) 2 _ fd_by_sixes ["octets"] (spM (cfgT K tfq) 1 [] F_by_sixes) := ok_by_sixes T A_by_sixes A_six_bits G_six_bits
  have G_two_figures : FnOk P w K mg base (L2.CX P w) 1 _ fd_two_figures ["octet"] (spM (cfgT K tfq) 1 [] F_two_figures) := ok_two_figures T A_two_figures 
  have G_mark_unit : FnOk P w K mg base (L2.CX P w) 2 _ fd_mark_unit ["octets", "at"] (spM (cfgT K tfq) 2 [] F_mark_unit) := ok_mark_unit T A_mark_unit A_two_figures G_two_figures A_is_sign G_is_sign A_sign_of G_sign_of
  have G_by_marks : FnOk P w K mg base (L2.CX P w) 3 _ fd_by_marks ["octets"] (spM (cfgT K tfq) 1 [] F_by_marks) := ok_by_marks T A_by_marks A_mark_unit G_mark_unit
  have G_can_be_plain : FnOk P w K mg base (L2.CX P w) 2 _ fd_can_be_plain ["octets"] (spM (cfgT K tfq) 1 [] F_can_be_plain) := ok_can_be_plain T A_can_be_plain A_is_sign G_is_sign
  have G_by_plain : FnOk P w K mg base (L2.CX P w) 2 _ fd_by_plain ["octets"] (spM (cfgT K tfq) 1 [] F_by_plain) := ok_by_plain T A_by_plain A_sign_of G_sign_of
  have G_needed_octets : FnOk P w K mg base (L2.CX P w) 4 _ fd_needed_octets ["thing"] (spM (cfgT K tfq) 1 [] F_needed_octets) := ok_needed_octets T A_needed_octets A_is_octets G_is_octets
  have G_needed_code : FnOk P w K mg base (L2.CX P w) 3 _ fd_needed_code ["thing"] (spM (cfgT K tfq) 1 [] F_needed_code) := ok_needed_code T A_needed_code I_NoCode A_is_word G_is_word
  have G_written_by : FnOk P w K mg base (L2.CX P w) 5 _ fd_written_by ["octets", "code"] (spM (cfgT K tfq) 2 [] F_written_by) := ok_written_by T A_written_by I_NoCode A_needed_octets G_needed_octets A_needed_code G_needed_code A_by_plain G_by_plain A_by_sixes G_by_sixes A_by_marks G_by_marks A_can_be_plain G_can_be_plain
  have G_written_by__n : FnOk P w K mg base (L2N.CX P w) 5 _ fd_written_by ["octets", "code"] (spM (cfgT K tfq) 2 [] F_written_by__n) := ok_written_by__n T A_written_by I_NoCode A_needed_octets G_needed_octets A_needed_code G_needed_code A_by_plain G_by_plain A_by_sixes G_by_sixes A_by_marks G_by_marks A_can_be_plain G_can_be_plain
  have G_best : FnOk P w K mg base (L2.CX P w) 5 _ fd_best ["octets"] (spM (cfgT K tfq) 1 [] F_best) := ok_best T A_best A_needed_octets G_needed_octets A_can_be_plain G_can_be_plain A_by_marks G_by_marks A_by_sixes G_by_sixes
  have G_fold_places : FnOk P w K mg base (L2.CX P w) 1 _ fd_fold_places ["line", "begin"] (spM (cfgT K tfq) 2 [] F_fold_places) := ok_fold_places T A_fold_places 
  have G_folded_lines : FnOk P w K mg base (L2.CX P w) 2 _ fd_folded_lines ["line", "begin"] (spM (cfgT K tfq) 2 [] F_folded_lines) := ok_folded_lines T A_folded_lines A_fold_places G_fold_places
  have G_head_text : FnOk P w K mg base (L2.CX P w) 3 _ fd_head_text ["name", "value"] (spM (cfgT K tfq) 2 [] F_head_text) := ok_head_text T A_head_text A_folded_lines G_folded_lines
  have G_needed : FnOk P w K mg base (L2.CX P w) 1 _ fd_needed ["truth"] (spM (cfgT K tfq) 1 [] F_needed) := ok_needed T A_needed 
  have G_checked_heads : FnOk P w K mg base (L2.CX P w) 4 _ fd_checked_heads ["heads"] (spM (cfgT K tfq) 1 [] F_checked_heads) := ok_checked_heads T A_checked_heads A_needed G_needed A_is_head G_is_head
  have G_checked_kind : FnOk P w K mg base (L2.CX P w) 6 _ fd_checked_kind ["kind"] (spM (cfgT K tfq) 1 [] F_checked_kind) := ok_checked_kind T A_checked_kind A_show_kind G_show_kind__n
  have G_checked_code : FnOk P w K mg base (L2.CX P w) 6 _ fd_checked_code ["octets", "code"] (spM (cfgT K tfq) 2 [] F_checked_code) := ok_checked_code T A_checked_code A_needed G_needed A_best G_best A_is_word G_is_word A_written_by G_written_by__n
  have G__law_cell_at : FnOk P w K mg base (L2.CX P w) 1 _ fd__law_cell_at ["_law_script", "_law_k"] (spM (cfgT K tfq) 2 [] F__law_cell_at) := ok__law_cell_at T A__law_cell_at 
  have G__law_mixed : FnOk P w K mg base (L2.CX P w) 1 _ fd__law_mixed ["_law_cell", "_law_k"] (spM (cfgT K tfq) 2 [] F__law_mixed) := ok__law_mixed T A__law_mixed 
  have G__law_source : FnOk P w K mg base (L2.CX P w) 2 _ fd__law_source ["_law_script", "_law_k"] (spM (cfgT K tfq) 2 [] F__law_source) := ok__law_source T A__law_source A__law_mixed G__law_mixed A__law_cell_at G__law_cell_at
  have G__law_next : FnOk P w K mg base (L2.CX P w) 2 _ fd__law_next ["_law_source_here", "_law_many"] (spM (cfgT K tfq) 2 [0] F__law_next) := ok__law_next T A__law_next A__law_mixed G__law_mixed
  have G__law_signs : FnOk P w K mg base (L2.CX P w) 3 _ fd__law_signs ["_law_source_here", "_law_signs_here", "_law_many"] (spM (cfgT K tfq) 3 [0] F__law_signs) := ok__law_signs T A__law_signs A__law_next G__law_next
  have G__law_title : FnOk P w K mg base (L2.CX P w) 4 _ fd__law_title ["_law_source_here", "_law_first", "_law_signs_here"] (spM (cfgT K tfq) 3 [0] F__law_title) := ok__law_title T A__law_title A__law_next G__law_next A__law_signs G__law_signs
  have G__law_kind : FnOk P w K mg base (L2.CX P w) 5 _ fd__law_kind ["_law_source_here", "_law_most"] (spM (cfgT K tfq) 2 [0] F__law_kind) := ok__law_kind T A__law_kind A__law_next G__law_next A__law_title G__law_title A__law_signs G__law_signs
  have G__law_no_title : FnOk P w K mg base (L2.CX P w) 3 _ fd__law_no_title ["_law_source_here", "_law_signs_here"] (spM (cfgT K tfq) 2 [0] F__law_no_title) := ok__law_no_title T A__law_no_title A__law_next G__law_next
  have G__law_bad : FnOk P w K mg base (L2.CX P w) 4 _ fd__law_bad ["_law_source_here", "_law_given"] (spM (cfgT K tfq) 2 [0] F__law_bad) := ok__law_bad T A__law_bad A__law_next G__law_next A__law_no_title G__law_no_title
  have G_Leaf____init__ : FnOk P w K mg base (L2.CX P w) 7 _ fd_Leaf____init__ ["self", "octets", "kind", "code", "heads"] (spM (cfgT K tfq) 5 [0] F_Leaf____init__) := ok_Leaf____init__ T A_Leaf____init__ A_needed G_needed A_checked_kind G_checked_kind A_checked_code G_checked_code A_checked_heads G_checked_heads A_is_octets G_is_octets
  have G_law : RunAt callerA P w K mg base _ fd_law ["_law_script"] (spM (cfgT K tfq) 1 [] F_law) := ok_law T A_law TB_law MT_law HU_law M_Leaf A__law_source G__law_source A__law_kind G__law_kind A__law_bad G__law_bad A__law_word A__law_next G__law_next A_Leaf____init__ G_Leaf____init__ A_show_kind G_show_kind
  exact G_law

end K34
open PySem PySem.W PySem.Calls PyProof.Rows
theorem PySem.Challenge.cw_foldletter_k34_what_are_no_kinds_holds : PySem.Challenge.rw_foldletter_k34_what_are_no_kinds.Holds := by
  w_on; o_law
  refine HandSHeadRun.head_any (r := OpenLaw.row PySem.Challenge.rw_foldletter_k34_what_are_no_kinds) (q := view (OpenLaw.row PySem.Challenge.rw_foldletter_k34_what_are_no_kinds).prog [82]) (H := K34.hk) (ob := K34.ob) (M := 8000) (loose := K34.names) (d := HandSHeadRun.topDef (OpenLaw.row PySem.Challenge.rw_foldletter_k34_what_are_no_kinds).prog 82) (kwd := []) K34.ob_eq
    (by kernel_rfl) (fun s => by kernel_rfl) K34.run (by kernel_rfl) (by kernel_rfl) (by kernel_rfl) (by rfl) (by first | assumption | decide +kernel) (by decide +kernel) ⟨rfl, rfl, rfl, rfl, rfl, by decide +kernel⟩ ?hw ?hc
  case hw => w_witness2
  case hc =>
    refine VS.walk_ofTA (l := PySem.Challenge.rw_foldletter_k34_what_are_no_kinds) (n := 63) (x := "_law_script") rfl (by decide) (by kernel_rfl) ?F
    intro w mg fa h Y G hmg0
    obtain ⟨K, KX, c⟩ := Y
    have hmg : mg ("law" : PySem.Str) = some (.ref fa) := by
      have e : (HandSHeadRun.topDef (OpenLaw.row PySem.Challenge.rw_foldletter_k34_what_are_no_kinds).prog 82).name = ("law" : PySem.Str) := by kernel_rfl
      rw [← e]
      exact hmg0
    obtain ⟨fd, cf, hcf, hb, hF⟩ := K34.facts (P := (PySem.Challenge.rw_foldletter_k34_what_are_no_kinds).prog) (w := w) KX G hmg c.t c.more
    exact ⟨K, fd, cf, K34.F_law, (K34.tf.map (He.cT K)), KX, hcf, (fun p hp => by obtain ⟨z, hz, rfl⟩ := List.mem_map.mp hp; exact c.empty z hz), (fun p hp => by obtain ⟨z, hz, rfl⟩ := List.mem_map.mp hp; exact c.out z hz), (fun p hp => by obtain ⟨z, hz, rfl⟩ := List.mem_map.mp hp; exact c.hd z hz), hb, K34.law_true, hF⟩
