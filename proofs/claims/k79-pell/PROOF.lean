import PyProof.Rows.All
import Wide.All
import OpenK.AllK
import Wide.FinOn
import HandS.ForMost
import HandS.Gcd
import HandS.IsInst
import HandS.Style
import HandS.NoneIn
import HandS.WideBits
import Flt.RightSqrt
import KE.KMathG
import KE.KStateDown
import HandS.ExcIs
import HandS.ExcInit
import HandS.ExcOwn
import HandS.WordsExc
import HandS.Head0
import HandS.Head1
import HandS.Head2
import HandS.Head3
import HandS.HeadEnd
import HandS.HeadHook1
import PySem.Challenge.RW_fewfounders_k79_pell_whole
set_option Elab.async false
set_option linter.all false
set_option maxRecDepth 100000
set_option autoImplicit false
set_option maxHeartbeats 4000000
namespace K79
open PySem PySem.Spec PyProof.Rows L2
def topS (i : Nat) : Stmt := PySem.Challenge.pw_fewfounders_k79_pell_whole.main.body.getD i (.Pass ⟨0, 0, 0, 0⟩)
abbrev s_law_digits : Stmt := topS 41
abbrev n_law_digits : List Str := ["cell", "sizes", "row", "rest", "size", "seed", "k", "twice"]
theorem sc_law_digits : FnScope n_law_digits ["cell", "sizes"] (defScope s_law_digits) := ⟨rfl, rfl, rfl, by decide +kernel, rfl, by decide +kernel, by decide +kernel⟩
abbrev s_law_root : Stmt := topS 42
abbrev n_law_root : List Str := ["number", "guess", "k", "better"]
theorem sc_law_root : FnScope n_law_root ["number"] (defScope s_law_root) := ⟨rfl, rfl, rfl, by decide +kernel, rfl, by decide +kernel, by decide +kernel⟩
abbrev s_law_fitting : Stmt := topS 54
abbrev n_law_fitting : List Str := ["number", "odd", "rest"]
theorem sc_law_fitting : FnScope n_law_fitting ["number", "odd"] (defScope s_law_fitting) := ⟨rfl, rfl, rfl, by decide +kernel, rfl, by decide +kernel, by decide +kernel⟩
abbrev s_law_number_with_pair : Stmt := topS 55
abbrev n_law_number_with_pair : List Str := ["cell", "row", "n", "near", "sizes"]
theorem sc_law_number_with_pair : FnScope n_law_number_with_pair ["cell"] (defScope s_law_number_with_pair) := ⟨rfl, rfl, rfl, by decide +kernel, rfl, by decide +kernel, by decide +kernel⟩
abbrev s_law_number_without : Stmt := topS 56
abbrev n_law_number_without : List Str := ["cell", "row"]
theorem sc_law_number_without : FnScope n_law_number_without ["cell"] (defScope s_law_number_without) := ⟨rfl, rfl, rfl, by decide +kernel, rfl, by decide +kernel, by decide +kernel⟩
abbrev s_pell : Stmt := topS 36
abbrev n_pell : List Str := ["number", "s", "p", "q", "t", "older_t", "u", "older_u", "a"]
theorem sc_pell : FnScope n_pell ["number"] (defScope s_pell) := ⟨rfl, rfl, rfl, by decide +kernel, rfl, by decide +kernel, by decide +kernel⟩
abbrev s_law_asked : Stmt := topS 51
abbrev n_law_asked : List Str := ["number", "e", "named"]
theorem sc_law_asked : FnScope n_law_asked ["number"] (defScope s_law_asked) := ⟨rfl, rfl, rfl, by decide +kernel, rfl, by decide +kernel, by decide +kernel⟩
abbrev s_law_cell : Stmt := topS 40
abbrev n_law_cell : List Str := ["script", "k", "seed", "cell"]
theorem sc_law_cell : FnScope n_law_cell ["script", "k"] (defScope s_law_cell) := ⟨rfl, rfl, rfl, by decide +kernel, rfl, by decide +kernel, by decide +kernel⟩
abbrev s_law_whole : Stmt := topS 38
abbrev n_law_whole : List Str := ["value"]
theorem sc_law_whole : FnScope n_law_whole ["value"] (defScope s_law_whole) := ⟨rfl, rfl, rfl, by decide +kernel, rfl, by decide +kernel, by decide +kernel⟩
abbrev s_law_is_row : Stmt := topS 39
abbrev n_law_is_row : List Str := ["value", "many", "number"]
theorem sc_law_is_row : FnScope n_law_is_row ["value", "many"] (defScope s_law_is_row) := ⟨rfl, rfl, rfl, by decide +kernel, rfl, by decide +kernel, by decide +kernel⟩
abbrev s_law_root_from : Stmt := topS 43
abbrev n_law_root_from : List Str := ["number", "guess", "k", "better"]
theorem sc_law_root_from : FnScope n_law_root_from ["number", "guess"] (defScope s_law_root_from) := ⟨rfl, rfl, rfl, by decide +kernel, rfl, by decide +kernel, by decide +kernel⟩
abbrev s_law_none_counted : Stmt := topS 50
abbrev n_law_none_counted : List Str := ["number", "root", "most", "guess", "u", "square"]
theorem sc_law_none_counted : FnScope n_law_none_counted ["number", "root", "most"] (defScope s_law_none_counted) := ⟨rfl, rfl, rfl, by decide +kernel, rfl, by decide +kernel, by decide +kernel⟩
abbrev s_law_prime : Stmt := topS 45
abbrev n_law_prime : List Str := ["k", "j"]
theorem sc_law_prime : FnScope n_law_prime ["k"] (defScope s_law_prime) := ⟨rfl, rfl, rfl, by decide +kernel, rfl, by decide +kernel, by decide +kernel⟩
abbrev s_law_power : Stmt := topS 46
abbrev n_law_power : List Str := ["factor", "many", "result", "rest", "j"]
theorem sc_law_power : FnScope n_law_power ["factor", "many"] (defScope s_law_power) := ⟨rfl, rfl, rfl, by decide +kernel, rfl, by decide +kernel, by decide +kernel⟩
abbrev s_law_deep_root : Stmt := topS 47
abbrev n_law_deep_root : List Str := ["number", "k", "guess", "j", "better"]
theorem sc_law_deep_root : FnScope n_law_deep_root ["number", "k"] (defScope s_law_deep_root) := ⟨rfl, rfl, rfl, by decide +kernel, rfl, by decide +kernel, by decide +kernel⟩
abbrev s_law_power_trace : Stmt := topS 44
abbrev n_law_power_trace : List Str := ["trace", "k", "bits", "rest", "j", "low", "high", "mixed"]
theorem sc_law_power_trace : FnScope n_law_power_trace ["trace", "k"] (defScope s_law_power_trace) := ⟨rfl, rfl, rfl, by decide +kernel, rfl, by decide +kernel, by decide +kernel⟩
abbrev s_law_is_power : Stmt := topS 48
abbrev n_law_is_power : List Str := ["number", "t", "k", "trace", "square"]
theorem sc_law_is_power : FnScope n_law_is_power ["number", "t", "k"] (defScope s_law_is_power) := ⟨rfl, rfl, rfl, by decide +kernel, rfl, by decide +kernel, by decide +kernel⟩
abbrev s_law_no_power : Stmt := topS 49
abbrev n_law_no_power : List Str := ["number", "t", "least", "k"]
theorem sc_law_no_power : FnScope n_law_no_power ["number", "t"] (defScope s_law_no_power) := ⟨rfl, rfl, rfl, by decide +kernel, rfl, by decide +kernel, by decide +kernel⟩
abbrev s_law_least : Stmt := topS 52
abbrev n_law_least : List Str := ["number", "root", "told", "most"]
theorem sc_law_least : FnScope n_law_least ["number", "root", "told"] (defScope s_law_least) := ⟨rfl, rfl, rfl, by decide +kernel, rfl, by decide +kernel, by decide +kernel⟩
abbrev s_law_right : Stmt := topS 53
abbrev n_law_right : List Str := ["number", "answer", "root"]
theorem sc_law_right : FnScope n_law_right ["number", "answer"] (defScope s_law_right) := ⟨rfl, rfl, rfl, by decide +kernel, rfl, by decide +kernel, by decide +kernel⟩
abbrev s_law : Stmt := topS 57
abbrev n_law : List Str := ["script", "number", "other", "digits", "third", "first", "again"]
theorem sc_law : FnScope n_law ["script"] (defScope s_law) := ⟨rfl, rfl, rfl, by decide +kernel, rfl, by decide +kernel, by decide +kernel⟩
def clsBody : Stmt → List Stmt
  | .ClassDef (body := b) .. => b
  | _ => []
abbrev s_init : Stmt := (clsBody (topS 26)).getD 0 (.Pass ⟨0, 0, 0, 0⟩)
theorem sc_init : FnScope ["self", "number"] ["self", "number"] (defScope s_init) := ⟨rfl, rfl, rfl, by decide +kernel, rfl, by decide +kernel, by decide +kernel⟩
def others1 : List PySem.Str := ["NoInverse", "ZeroBottom", "BadForm", "NotOneMinus", "NotNegative", "NotPositive", "NotNull", "NoMirror"]
def others2 : List PySem.Str := ["TooDeep", "BadStart", "BadRay", "NotInLand", "OffSide", "BadWord", "NotKeeper", "NotHome"]
def others3 : List PySem.Str := ["NoRest", "BadClaim", "TooManyRests", "MovesRest", "EndlessChamber", "BadStep", "NotIdle", "NoCycle"]
def others4 : List PySem.Str := ["BadText", "BadWorth", "BadModulus", "BadPart", "BadQuestion", "NothingToUndo", "NothingToRedo"]
def others : List PySem.Str := others1 ++ (others2 ++ (others3 ++ others4))

def fd_d_law_digits : He.FnD := ⟨("_law_digits", none), "_law_digits", "_law_digits", defArgs s_law_digits, defBody s_law_digits, defScope s_law_digits⟩
def fd_d_law_root : He.FnD := ⟨("_law_root", none), "_law_root", "_law_root", defArgs s_law_root, defBody s_law_root, defScope s_law_root⟩
def fd_d_law_fitting : He.FnD := ⟨("_law_fitting", none), "_law_fitting", "_law_fitting", defArgs s_law_fitting, defBody s_law_fitting, defScope s_law_fitting⟩
def fd_d_law_number_with_pair : He.FnD := ⟨("_law_number_with_pair", none), "_law_number_with_pair", "_law_number_with_pair", defArgs s_law_number_with_pair, defBody s_law_number_with_pair, defScope s_law_number_with_pair⟩
def fd_d_law_number_without : He.FnD := ⟨("_law_number_without", none), "_law_number_without", "_law_number_without", defArgs s_law_number_without, defBody s_law_number_without, defScope s_law_number_without⟩
def fd_d_pell : He.FnD := ⟨("pell", none), "pell", "pell", defArgs s_pell, defBody s_pell, defScope s_pell⟩
def fd_d_law_asked : He.FnD := ⟨("_law_asked", none), "_law_asked", "_law_asked", defArgs s_law_asked, defBody s_law_asked, defScope s_law_asked⟩
def fd_d_law_cell : He.FnD := ⟨("_law_cell", none), "_law_cell", "_law_cell", defArgs s_law_cell, defBody s_law_cell, defScope s_law_cell⟩
def fd_d_law_whole : He.FnD := ⟨("_law_whole", none), "_law_whole", "_law_whole", defArgs s_law_whole, defBody s_law_whole, defScope s_law_whole⟩
def fd_d_law_is_row : He.FnD := ⟨("_law_is_row", none), "_law_is_row", "_law_is_row", defArgs s_law_is_row, defBody s_law_is_row, defScope s_law_is_row⟩
def fd_d_law_root_from : He.FnD := ⟨("_law_root_from", none), "_law_root_from", "_law_root_from", defArgs s_law_root_from, defBody s_law_root_from, defScope s_law_root_from⟩
def fd_d_law_none_counted : He.FnD := ⟨("_law_none_counted", none), "_law_none_counted", "_law_none_counted", defArgs s_law_none_counted, defBody s_law_none_counted, defScope s_law_none_counted⟩
def fd_d_law_prime : He.FnD := ⟨("_law_prime", none), "_law_prime", "_law_prime", defArgs s_law_prime, defBody s_law_prime, defScope s_law_prime⟩
def fd_d_law_power : He.FnD := ⟨("_law_power", none), "_law_power", "_law_power", defArgs s_law_power, defBody s_law_power, defScope s_law_power⟩
def fd_d_law_deep_root : He.FnD := ⟨("_law_deep_root", none), "_law_deep_root", "_law_deep_root", defArgs s_law_deep_root, defBody s_law_deep_root, defScope s_law_deep_root⟩
def fd_d_law_power_trace : He.FnD := ⟨("_law_power_trace", none), "_law_power_trace", "_law_power_trace", defArgs s_law_power_trace, defBody s_law_power_trace, defScope s_law_power_trace⟩
def fd_d_law_is_power : He.FnD := ⟨("_law_is_power", none), "_law_is_power", "_law_is_power", defArgs s_law_is_power, defBody s_law_is_power, defScope s_law_is_power⟩
def fd_d_law_no_power : He.FnD := ⟨("_law_no_power", none), "_law_no_power", "_law_no_power", defArgs s_law_no_power, defBody s_law_no_power, defScope s_law_no_power⟩
def fd_d_law_least : He.FnD := ⟨("_law_least", none), "_law_least", "_law_least", defArgs s_law_least, defBody s_law_least, defScope s_law_least⟩
def fd_d_law_right : He.FnD := ⟨("_law_right", none), "_law_right", "_law_right", defArgs s_law_right, defBody s_law_right, defScope s_law_right⟩
def fd_d_law : He.FnD := ⟨("law", none), "law", "law", defArgs s_law, defBody s_law, defScope s_law⟩
def fd_init : He.FnD := ⟨("NotPell", some "__init__"), "__init__", "NotPell.__init__", defArgs s_init, defBody s_init, defScope s_init⟩
def fnL : List He.FnD := [fd_d_law_digits, fd_d_law_root, fd_d_law_fitting, fd_d_law_number_with_pair, fd_d_law_number_without, fd_d_pell, fd_d_law_asked, fd_d_law_cell, fd_d_law_whole, fd_d_law_is_row, fd_d_law_root_from, fd_d_law_none_counted, fd_d_law_prime, fd_d_law_power, fd_d_law_deep_root, fd_d_law_power_trace, fd_d_law_is_power, fd_d_law_no_power, fd_d_law_least, fd_d_law_right, fd_d_law, fd_init]
def fa1 : List He.Fa := [.glo "_law_digits", .keep "_law_digits", .glo "_law_root", .keep "_law_root", .glo "_law_fitting", .keep "_law_fitting", .glo "_law_number_with_pair", .keep "_law_number_with_pair", .glo "_law_number_without", .keep "_law_number_without", .glo "pell", .keep "pell", .glo "_law_asked", .keep "_law_asked", .glo "_law_cell", .keep "_law_cell"]
def fa2 : List He.Fa := [.glo "_law_whole", .keep "_law_whole", .glo "_law_is_row", .keep "_law_is_row", .glo "_law_root_from", .keep "_law_root_from", .glo "_law_none_counted", .keep "_law_none_counted", .glo "_law_prime", .keep "_law_prime", .glo "_law_power", .keep "_law_power", .glo "_law_deep_root", .keep "_law_deep_root", .glo "_law_power_trace", .keep "_law_power_trace"]
def fa3 : List He.Fa := [.glo "_law_is_power", .keep "_law_is_power", .glo "_law_no_power", .keep "_law_no_power", .glo "_law_least", .keep "_law_least", .glo "_law_right", .keep "_law_right", .glo "law", .keep "law", .free "bool", .free "int", .free "isinstance", .free "len", .free "min", .free "range"]
def fa4 : List He.Fa := [.free "tuple", .free "ValueError", .glo "FewError", .glo "NotPell", .keep "NotPell"]
def faO : List He.Fa := others.map He.Fa.glo
def faL : List He.Fa := (fa1 ++ (fa2 ++ (fa3 ++ (fa4 ++ faO))))
def excB (K : PySem.W.Frag) (C : Addr) : Bool := match K.lookup C with
  | some ⟨.type t, _, .cls cd, sl⟩ => (match cd.mro, sl.toList with
    | .ref C' :: bm, [_, _, _, _, some (.builtin n), _] => decide (t = "type") && (decide (C' = C) && (decide (n = "ValueError.__new__") && (cd.hasDict && (!cd.hasDel && PySem.HandSPX.refsVE bm))))
    | _, _ => false)
  | _ => false
def ex (K : PySem.W.Frag) : Bool :=
  excB K (He.ga K "NotPell") && (decide (PySem.W.findIn K (.ref (He.ga K "NotPell")) "__setattr__" = some (some (.builtin "object.__setattr__"))) && (decide (PySem.W.subIn K (.ref (He.ga K "NotPell")) (.type "BaseException") = some true) &&
  (decide (PySem.W.typeIn K (.ref (He.ga K "NotPell")) = some (.type "type")) && (decide (PySem.W.findIn K (.ref (He.ga K "NotPell")) "__init__" = some (some (.ref (He.ma K (He.ga K "NotPell") "__init__")))) &&
  (decide (PySem.W.typeIn K (.ref (He.ma K (He.ga K "NotPell") "__init__")) = some (.type "function")) && (decide (PySem.W.findIn K (.ref (He.ga K "NotPell")) "number" = some none) && (PySem.W.keepIn K (.ref (He.ma K (He.ga K "NotPell") "__init__")) &&
  (decide (PySem.W.findIn K (.ref (He.ga K "NotPell")) "__getattribute__" = some (some (.builtin "BaseException.__getattribute__"))) && (decide (PySem.W.findIn K (.ref (He.ga K "NotPell")) "__getattr__" = some none) && (PySem.W.hasDictIn K (He.ga K "NotPell") &&
  (decide (PySem.W.findIn K (.ref (He.ga K "NotPell")) "__class__" = some (some (.builtin "object.__class__"))) && (decide (PySem.W.specialIn K (.builtin "object.__class__") "__get__" = some (some (.builtin "getset_descriptor.__get__"))) && (decide (PySem.W.takesIn K (.builtin "object.__class__") = some true) &&
  (decide (PySem.W.mroIn K (He.ga K "NotPell") (.type "object") = some true) && (decide (PySem.W.exmOne K (.ref (He.ga K "NotPell")) (.ref (He.ga K "FewError")) = some true) && (decide (PySem.W.kitOne K (.ref (He.ga K "NotPell")) (.ref (He.ga K "NotPell")) = some true) &&
  (decide (PySem.W.kitOne K (.ref (He.ga K "NotPell")) (.type "ValueError") = some true) && (decide (PySem.W.kitAny K (.ref (He.ga K "NotPell")) (others.map fun x => .ref (He.ga K x)) = some false) && decide (PySem.W.nsIn K mainGlobals "isqrt" = some (some (.builtin "math.isqrt")))))))))))))))))))))
def obsM (n : Nat) (g : Addr → Option Obj) : Bool × He.Al := (ex (He.frG g (He.asG g n)), He.obsG n faL fnL g)
def hookM : PySem.W.Hook where
  α := Bool × He.Al
  obs := fun s => obsM 5 s.heap.get?
  val := fun _ => (true, He.valE fnL)
  says := fun _ h => ∃ K : PySem.W.Frag, K.In h ∧ ex K = true ∧ He.SaysE faL fnL K
  of := fun _ _ e => ⟨_, He.frG_in, congrArg Prod.fst e, congrArg Prod.snd e⟩
  keeps := fun _ _ _ ⟨K, i, a, b⟩ k => ⟨K, i.keeps k, a, b⟩
def obM (s : PySem.W.SharedT) : Bool × He.Al := obsM 5 (HandSHeadRun.getT s)
abbrev RR : PySem.W.OpenRow := PySem.W.OpenLaw.row PySem.Challenge.rw_fewfounders_k79_pell_whole
def names1 : List PySem.Str := ["FewError", "NoInverse", "ZeroBottom", "BadForm", "NotOneMinus", "NotNegative", "NotPositive", "NotNull", "NoMirror", "TooDeep", "BadStart", "BadRay", "NotInLand", "OffSide"]
def names2 : List PySem.Str := ["BadWord", "NotKeeper", "NotHome", "NoRest", "BadClaim", "TooManyRests", "MovesRest", "EndlessChamber", "BadStep", "NotIdle", "NotPell", "NoCycle", "BadText", "BadWorth"]
def names3 : List PySem.Str := ["BadModulus", "BadPart", "BadQuestion", "NothingToUndo", "NothingToRedo", "pell", "_law_whole", "_law_is_row", "_law_cell", "_law_digits", "_law_root", "_law_root_from", "_law_power_trace", "_law_prime"]
def names4 : List PySem.Str := ["_law_power", "_law_deep_root", "_law_is_power", "_law_no_power", "_law_none_counted", "_law_asked", "_law_least", "_law_right", "_law_fitting", "_law_number_with_pair", "_law_number_without"]
def names : List PySem.Str := (names1 ++ (names2 ++ (names3 ++ names4)))
theorem run (w : World) : HandSHeadRun.RunEqI RR (PySem.W.view RR.prog [0, 57]) hookM obM 60000 names w := by
  unfold HandSHeadRun.RunEqI
  kernel_rfl
end K79
/-! PD: programs over pure data. A layer of my own over the hand layer: values are read as data, heaps only grow. -/
namespace PD
open PySem L2

abbrev D := PyData

/-! ### heaps that grow -/
structure Grow (S H S' H' : Hp) : Prop where
  hh : Same H H'
  ss : Same S S'
  sh : Same S' H'
  fr : ∀ a, S' a ≠ none → S a ≠ none ∨ H a = none
theorem Grow.refl {S H : Hp} (h : Same S H) : Grow S H S H := ⟨Same.refl H, Same.refl S, h, fun _ q => .inl q⟩
theorem Grow.trans {S H S' H' S'' H'' : Hp} (g : Grow S H S' H') (g' : Grow S' H' S'' H'') : Grow S H S'' H'' :=
  ⟨g.hh.trans g'.hh, g.ss.trans g'.ss, g'.sh, fun a h => by
    rcases g'.fr a h with q | q
    · exact g.fr a q
    · exact .inr (g.hh.free q)⟩
theorem Grow.new {S H : Hp} {p : Addr} {o : HO} (h : Same S H) (hp : H p = none) : Grow S H (upd S p o) (upd H p o) := by
  have hs : S p = none := h.free hp
  refine ⟨fun b z e => ?_, fun b z e => ?_, fun b z e => ?_, fun a q => ?_⟩
  · rw [upd_ne (ne_of_none e hp)]; exact e
  · rw [upd_ne (ne_of_none e hs)]; exact e
  · by_cases hb : b = p
    · subst hb; rw [upd_same] at e ⊢; exact e
    · rw [upd_ne hb] at e ⊢; exact h b z e
  · by_cases hb : a = p
    · subst hb; exact .inr hp
    · rw [upd_ne hb] at q; exact .inl q
/-- a new object that S does not hold -/
theorem Grow.hid {S H : Hp} {p : Addr} {o : HO} (h : Same S H) (hp : H p = none) : Grow S H S (upd H p o) := by
  refine ⟨fun b z e => ?_, Same.refl S, fun b z e => ?_, fun a q => .inl q⟩
  · rw [upd_ne (ne_of_none e hp)]; exact e
  · have e2 := h b z e
    rw [upd_ne (ne_of_none e2 hp)]; exact e2

theorem seqT_same {K : PySem.W.Frag} {H H' : Hp} {a : Addr} {xs : List V} (e : Same H H') (h : SqT K H a xs) : SqT K H' a xs := by
  rcases h with (h | ⟨o, h⟩) | h
  · exact .inl (.inl (e _ _ h))
  · exact .inl (.inr ⟨o, e _ _ h⟩)
  · exact .inr h
mutual
theorem dp_mono {K : PySem.W.Frag} {S S' : Hp} (e : Same S S') : ∀ (d : D) (v : V), Dp K S v d → Dp K S' v d
  | .none, _, h => by cases h; exact .non
  | .bool b, _, h => by cases h; exact .bl b
  | .int i, _, h => by cases h; exact .int i
  | .str x, _, h => by cases h; exact .str x
  | .list ds, _, h => by
    cases h with
    | lst hs ha => exact .lst (e.seq hs) (dpa_mono e ds _ ha)
  | .tuple ds, _, h => by
    cases h with
    | tup hs ha => exact .tup (seqT_same e hs) (dpa_mono e ds _ ha)
  | .dict _, _, h => by cases h
theorem dpa_mono {K : PySem.W.Frag} {S S' : Hp} (e : Same S S') : ∀ (ds : List D) (vs : List V), DpAll K S vs ds → DpAll K S' vs ds
  | [], _, h => by cases h; exact .nil
  | d :: ds, _, h => by
    cases h with
    | cons h1 h2 => exact .cons (dp_mono e d _ h1) (dpa_mono e ds _ h2)
end
theorem dpa_len {K : PySem.W.Frag} {S : Hp} : ∀ {ds : List D} {vs : List V}, DpAll K S vs ds → vs.length = ds.length
  | [], _, h => by cases h; rfl
  | d :: ds, _, h => by
    cases h with
    | cons h1 h2 => rw [List.length_cons, List.length_cons, dpa_len h2]
theorem dpa_get {K : PySem.W.Frag} {S : Hp} : ∀ {ds : List D} {vs : List V} {i : Nat} {d : D}, DpAll K S vs ds → ds[i]? = some d → ∃ v, vs[i]? = some v ∧ Dp K S v d
  | [], _, i, d, h, e => by simp at e
  | d :: ds, _, 0, d', h, e => by
    cases h with
    | cons h1 h2 =>
      have e' : d = d' := by simpa using e
      subst e'
      exact ⟨_, rfl, h1⟩
  | d :: ds, _, i + 1, d', h, e => by
    cases h with
    | cons h1 h2 => exact dpa_get (i := i) h2 (by simpa using e)
theorem dpa_get' {K : PySem.W.Frag} {S : Hp} : ∀ {ds : List D} {vs : List V} {i : Nat} {v : V}, DpAll K S vs ds → vs[i]? = some v → ∃ d, ds[i]? = some d ∧ Dp K S v d
  | [], _, i, d, h, e => by cases h; simp at e
  | d :: ds, _, 0, v, h, e => by
    cases h with
    | cons h1 h2 =>
      simp only [List.getElem?_cons_zero, Option.some.injEq] at e
      subst e
      exact ⟨_, rfl, h1⟩
  | d :: ds, _, i + 1, v, h, e => by
    cases h with
    | cons h1 h2 =>
      simp only [List.getElem?_cons_succ] at e
      obtain ⟨d', e', h'⟩ := dpa_get' (i := i) h2 e
      exact ⟨d', by simpa using e', h'⟩
theorem dpa_app {K : PySem.W.Frag} {S : Hp} : ∀ {ds es : List D} {vs ws : List V}, DpAll K S vs ds → DpAll K S ws es → DpAll K S (vs ++ ws) (ds ++ es)
  | [], _, _, _, h, h' => by cases h; exact h'
  | d :: ds, _, _, _, h, h' => by
    cases h with
    | cons h1 h2 => exact .cons h1 (dpa_app h2 h')
theorem dpa_one {K : PySem.W.Frag} {S : Hp} {v : V} {d : D} (h : Dp K S v d) : DpAll K S [v] [d] := .cons h .nil
theorem dpa_set {K : PySem.W.Frag} {S : Hp} : ∀ {ds : List D} {vs : List V} {v : V} {d : D} (j : Nat), DpAll K S vs ds → Dp K S v d → DpAll K S (vs.set j v) (ds.set j d)
  | [], _, _, _, _, h, _ => by cases h; exact .nil
  | d :: ds, _, _, _, 0, h, h' => by
    cases h with
    | cons h1 h2 => exact .cons h' h2
  | d :: ds, _, _, _, j + 1, h, h' => by
    cases h with
    | cons h1 h2 => exact .cons h1 (dpa_set j h2 h')
theorem dpa_drop {K : PySem.W.Frag} {S : Hp} : ∀ {ds : List D} {vs : List V} (n : Nat), DpAll K S vs ds → DpAll K S (vs.drop n) (ds.drop n)
  | _, _, 0, h => h
  | [], _, n + 1, h => by cases h; exact .nil
  | d :: ds, _, n + 1, h => by
    cases h with
    | cons h1 h2 => exact dpa_drop n h2
theorem dpa_take {K : PySem.W.Frag} {S : Hp} : ∀ {ds : List D} {vs : List V} (n : Nat), DpAll K S vs ds → DpAll K S (vs.take n) (ds.take n)
  | _, _, 0, h => .nil
  | [], _, n + 1, h => by cases h; exact .nil
  | d :: ds, _, n + 1, h => by
    cases h with
    | cons h1 h2 => exact .cons h1 (dpa_take n h2)
theorem dp_int {K : PySem.W.Frag} {S : Hp} {v : V} {i : Int} (h : Dp K S v (.int i)) : v = .int i := by cases h; rfl
theorem dp_bl {K : PySem.W.Frag} {S : Hp} {v : V} {b : Bool} (h : Dp K S v (.bool b)) : v = .bl b := by cases h; rfl
theorem dp_str {K : PySem.W.Frag} {S : Hp} {v : V} {b : Str} (h : Dp K S v (.str b)) : v = .str b := by cases h; rfl
theorem dp_non {K : PySem.W.Frag} {S : Hp} {v : V} (h : Dp K S v .none) : v = .non := by cases h; rfl
theorem dp_list {K : PySem.W.Frag} {S : Hp} {v : V} {ds : List D} (h : Dp K S v (.list ds)) : ∃ p vs, v = .ref p ∧ SqL K S p vs ∧ DpAll K S vs ds := by
  cases h with | lst hs ha => exact ⟨_, _, rfl, hs, ha⟩
theorem dp_tup {K : PySem.W.Frag} {S : Hp} {v : V} {ds : List D} (h : Dp K S v (.tuple ds)) : ∃ p vs, v = .ref p ∧ SqT K S p vs ∧ DpAll K S vs ds := by
  cases h with | tup hs ha => exact ⟨_, _, rfl, hs, ha⟩
/-- data without an object -/
def flat : D → Bool
  | .none => true | .bool _ => true | .int _ => true | .str _ => true | _ => false
theorem dp_flat {K : PySem.W.Frag} {S S' : Hp} {v : V} {d : D} (hf : flat d = true) (h : Dp K S v d) : Dp K S' v d := by
  cases d with
  | none => cases h; exact .non
  | bool b => cases h; exact .bl b
  | int i => cases h; exact .int i
  | str x => cases h; exact .str x
  | _ => exact absurd hf Bool.false_ne_true

/-! ### the state of a def -/
inductive Cell where
  | dat (d : D)
  | own (ds : List D)
abbrev Env := List (Option Cell)
/-- the cell at a slot -/
def lk : Env → Nat → Option Cell
  | [], _ => none
  | c :: _, 0 => c
  | _ :: Γ, n + 1 => lk Γ n
def put : Env → Nat → Option Cell → Env
  | [], _, _ => []
  | _ :: Γ, 0, c => c :: Γ
  | x :: Γ, n + 1, c => x :: put Γ n c
theorem put_len : ∀ (Γ : Env) (i : Nat) (c : Option Cell), (put Γ i c).length = Γ.length
  | [], _, _ => rfl
  | _ :: _, 0, _ => rfl
  | _ :: Γ, i + 1, c => by show (put Γ i c).length + 1 = Γ.length + 1; rw [put_len Γ i c]
theorem lk_put_ne : ∀ (Γ : Env) (i j : Nat) (c : Option Cell), j ≠ i → lk (put Γ i c) j = lk Γ j
  | [], _, _, _, _ => rfl
  | _ :: _, 0, 0, _, h => absurd rfl h
  | _ :: _, 0, j + 1, _, _ => rfl
  | _ :: _, i + 1, 0, _, _ => rfl
  | _ :: Γ, i + 1, j + 1, c, h => lk_put_ne Γ i j c (fun e => h (by rw [e]))
theorem lk_put_same : ∀ (Γ : Env) (i : Nat) (c : Option Cell), i < Γ.length → lk (put Γ i c) i = c
  | [], _, _, h => absurd h (Nat.not_lt_zero _)
  | _ :: _, 0, _, _ => rfl
  | _ :: Γ, i + 1, c, h => lk_put_same Γ i c (Nat.lt_of_succ_lt_succ h)
theorem lk_put_same' : ∀ (Γ : Env) (i : Nat) (c : Option Cell), lk (put Γ i c) i = c ∨ lk (put Γ i c) i = none
  | [], _, _ => .inr rfl
  | _ :: _, 0, _ => .inl rfl
  | _ :: Γ, i + 1, c => lk_put_same' Γ i c
theorem lk_lt : ∀ (Γ : Env) (i : Nat) (c : Cell), lk Γ i = some c → i < Γ.length
  | [], _, _, h => by cases h
  | _ :: _, 0, _, _ => Nat.succ_pos _
  | _ :: Γ, i + 1, c, h => Nat.succ_lt_succ (lk_lt Γ i c h)

structure Rel (K : PySem.W.Frag) (H0 S0 : Hp) (Γ : Env) (S : Hp) (σ : St) (H : Hp) : Prop where
  len : Γ.length = σ.length
  s0 : Same S0 S
  sh : Same S H
  h0 : Same H0 H
  fr : ∀ a, S a ≠ none → S0 a ≠ none ∨ H0 a = none
  dat : ∀ i d, lk Γ i = some (.dat d) → ∃ v, σ[i]? = some (some v) ∧ Dp K S v d
  own : ∀ i ds, lk Γ i = some (.own ds) → ∃ p vs, σ[i]? = some (some (.ref p)) ∧ H p = some (.lst vs) ∧ DpAll K S vs ds ∧ S p = none ∧ H0 p = none ∧
    ∀ j es, lk Γ j = some (.own es) → σ[j]? = some (some (.ref p)) → j = i
section
variable {K : PySem.W.Frag} {H0 S0 S H S' H' : Hp} {Γ : Env} {σ : St}
theorem Rel.grow (r : Rel K H0 S0 Γ S σ H) (g : Grow S H S' H') : Rel K H0 S0 Γ S' σ H' := by
  refine ⟨r.len, r.s0.trans g.ss, g.sh, r.h0.trans g.hh, fun a q => ?_, fun i d e => ?_, fun i ds e => ?_⟩
  · rcases g.fr a q with z | z
    · exact r.fr a z
    · exact .inr (r.h0.free z)
  · obtain ⟨v, h1, h2⟩ := r.dat i d e
    exact ⟨v, h1, dp_mono g.ss _ _ h2⟩
  · obtain ⟨p, vs, h1, h2, h3, h4, h5, h6⟩ := r.own i ds e
    refine ⟨p, vs, h1, g.hh _ _ h2, dpa_mono g.ss _ _ h3, ?_, h5, h6⟩
    cases q : S' p with
    | none => rfl
    | some o =>
      rcases g.fr p (by rw [q]; exact fun z => nomatch z) with z | z
      · exact absurd h4 z
      · rw [h2] at z; cases z
/-- a slot gets data -/
theorem Rel.setD (r : Rel K H0 S0 Γ S σ H) (i : Nat) {v : V} {d : D} (h : Dp K S v d) : Rel K H0 S0 (put Γ i (some (.dat d))) S (σ.set i (some v)) H := by
  refine ⟨by rw [put_len, List.length_set]; exact r.len, r.s0, r.sh, r.h0, r.fr, fun j d' e => ?_, fun j ds e => ?_⟩
  · by_cases hj : j = i
    · subst hj
      have hl := lk_lt _ _ _ e
      rw [put_len] at hl
      rw [lk_put_same _ _ _ hl] at e
      cases e
      exact ⟨v, List.getElem?_set_self (by rw [← r.len]; exact hl), h⟩
    · rw [lk_put_ne _ _ _ _ hj] at e
      rw [List.getElem?_set_ne (Ne.symm hj)]
      exact r.dat j d' e
  · have hj : j ≠ i := fun z => by
      subst z
      rcases lk_put_same' Γ j (some (.dat d)) with z | z <;> rw [z] at e <;> cases e
    rw [lk_put_ne _ _ _ _ hj] at e
    obtain ⟨p, vs, h1, h2, h3, h4, h5, h6⟩ := r.own j ds e
    refine ⟨p, vs, by rw [List.getElem?_set_ne (Ne.symm hj)]; exact h1, h2, h3, h4, h5, fun k es e1 e2 => ?_⟩
    have hk : k ≠ i := fun z => by
      subst z
      rcases lk_put_same' Γ k (some (.dat d)) with z | z <;> rw [z] at e1 <;> cases e1
    rw [lk_put_ne _ _ _ _ hk] at e1
    rw [List.getElem?_set_ne (Ne.symm hk)] at e2
    exact h6 k es e1 e2
/-- a slot is forgotten -/
theorem Rel.drop (r : Rel K H0 S0 Γ S σ H) (i : Nat) : Rel K H0 S0 (put Γ i none) S σ H := by
  refine ⟨by rw [put_len]; exact r.len, r.s0, r.sh, r.h0, r.fr, fun j d' e => ?_, fun j ds e => ?_⟩
  · have hj : j ≠ i := fun z => by
      subst z
      rcases lk_put_same' Γ j none with z | z <;> rw [z] at e <;> cases e
    rw [lk_put_ne _ _ _ _ hj] at e
    exact r.dat j d' e
  · have hj : j ≠ i := fun z => by
      subst z
      rcases lk_put_same' Γ j none with z | z <;> rw [z] at e <;> cases e
    rw [lk_put_ne _ _ _ _ hj] at e
    obtain ⟨p, vs, h1, h2, h3, h4, h5, h6⟩ := r.own j ds e
    refine ⟨p, vs, h1, h2, h3, h4, h5, fun k es e1 e2 => ?_⟩
    have hk : k ≠ i := fun z => by
      subst z
      rcases lk_put_same' Γ k none with z | z <;> rw [z] at e1 <;> cases e1
    rw [lk_put_ne _ _ _ _ hk] at e1
    exact h6 k es e1 e2
theorem Rel.dropSet (r : Rel K H0 S0 Γ S σ H) (i : Nat) (o : Option V) : Rel K H0 S0 (put Γ i none) S (σ.set i o) H := by
  have r' := r.drop i
  refine ⟨by rw [r'.len, List.length_set], r.s0, r.sh, r.h0, r.fr, fun j d' e => ?_, fun j ds e => ?_⟩
  · have hj : j ≠ i := fun z => by
      subst z
      rcases lk_put_same' Γ j none with z | z <;> rw [z] at e <;> cases e
    rw [List.getElem?_set_ne (Ne.symm hj)]
    exact r'.dat j d' e
  · have hj : j ≠ i := fun z => by
      subst z
      rcases lk_put_same' Γ j none with z | z <;> rw [z] at e <;> cases e
    obtain ⟨p, vs, h1, h2, h3, h4, h5, h6⟩ := r'.own j ds e
    refine ⟨p, vs, by rw [List.getElem?_set_ne (Ne.symm hj)]; exact h1, h2, h3, h4, h5, fun k es e1 e2 => ?_⟩
    have hk : k ≠ i := fun z => by
      subst z
      rcases lk_put_same' Γ k none with z | z <;> rw [z] at e1 <;> cases e1
    rw [List.getElem?_set_ne (Ne.symm hk)] at e2
    exact h6 k es e1 e2
/-- a slot gets a new list of its own -/
theorem Rel.setO (r : Rel K H0 S0 Γ S σ H) (i : Nat) {p : Addr} {vs : List V} {ds : List D} (hp : H p = none) (h : DpAll K S vs ds) :
    Rel K H0 S0 (put Γ i (some (.own ds))) S (σ.set i (some (.ref p))) (upd H p (.lst vs)) := by
  have g : Grow S H S (upd H p (.lst vs)) := Grow.hid r.sh hp
  have r1 := r.grow g
  refine ⟨by rw [put_len, List.length_set]; exact r.len, r1.s0, r1.sh, r1.h0, r1.fr, fun j d' e => ?_, fun j es e => ?_⟩
  · have hj : j ≠ i := fun z => by
      subst z
      rcases lk_put_same' Γ j (some (.own ds)) with z | z <;> rw [z] at e <;> cases e
    rw [lk_put_ne _ _ _ _ hj] at e
    rw [List.getElem?_set_ne (Ne.symm hj)]
    exact r1.dat j d' e
  · by_cases hj : j = i
    · subst hj
      have hl := lk_lt _ _ _ e
      rw [put_len] at hl
      rw [lk_put_same _ _ _ hl] at e
      cases e
      refine ⟨p, vs, List.getElem?_set_self (by rw [← r.len]; exact hl), upd_same, h, r.sh.free hp, r.h0.free hp, fun k es e1 e2 => ?_⟩
      by_cases hk : k = j
      · exact hk
      · rw [lk_put_ne _ _ _ _ hk] at e1
        rw [List.getElem?_set_ne (Ne.symm hk)] at e2
        obtain ⟨q, ws, g1, g2, _⟩ := r.own k es e1
        rw [g1] at e2
        cases e2
        rw [hp] at g2
        cases g2
    · rw [lk_put_ne _ _ _ _ hj] at e
      obtain ⟨q, ws, h1, h2, h3, h4, h5, h6⟩ := r.own j es e
      have hq : q ≠ p := ne_of_none h2 hp
      refine ⟨q, ws, by rw [List.getElem?_set_ne (Ne.symm hj)]; exact h1, by rw [upd_ne hq]; exact h2, h3, h4, h5, fun k es' e1 e2 => ?_⟩
      by_cases hk : k = i
      · subst hk
        rw [List.getElem?_set_self (by have := lk_lt _ _ _ e1; rw [put_len] at this; rw [← r.len]; exact this)] at e2
        cases e2
        exact absurd rfl hq
      · rw [lk_put_ne _ _ _ _ hk] at e1
        rw [List.getElem?_set_ne (Ne.symm hk)] at e2
        exact h6 k es' e1 e2
/-- an own list is changed -/
theorem Rel.updO (r : Rel K H0 S0 Γ S σ H) {i : Nat} {p : Addr} {vs : List V} {ds es : List D} (hi : lk Γ i = some (.own es)) (hp : σ[i]? = some (some (.ref p))) (h : DpAll K S vs ds) :
    Rel K H0 S0 (put Γ i (some (.own ds))) S σ (upd H p (.lst vs)) := by
  obtain ⟨p', vs', h1, h2, h3, h4, h5, h6⟩ := r.own i es hi
  rw [hp] at h1
  cases h1
  have hl := lk_lt _ _ _ hi
  refine ⟨by rw [put_len]; exact r.len, r.s0, fun b z e => ?_, fun b z e => ?_, r.fr, fun j d' e => ?_, fun j es' e => ?_⟩
  · rw [upd_ne (ne_of_none e h4)]; exact r.sh b z e
  · rw [upd_ne (ne_of_none e h5)]; exact r.h0 b z e
  · have hj : j ≠ i := fun z => by
      subst z
      rw [lk_put_same _ _ _ hl] at e
      cases e
    rw [lk_put_ne _ _ _ _ hj] at e
    exact r.dat j d' e
  · by_cases hj : j = i
    · subst hj
      rw [lk_put_same _ _ _ hl] at e
      cases e
      refine ⟨p, vs, hp, upd_same, h, h4, h5, fun k es1 e1 e2 => ?_⟩
      by_cases hk : k = j
      · exact hk
      · rw [lk_put_ne _ _ _ _ hk] at e1
        exact h6 k es1 e1 e2
    · rw [lk_put_ne _ _ _ _ hj] at e
      obtain ⟨q, ws, g1, g2, g3, g4, g5, g6⟩ := r.own j es' e
      have hq : q ≠ p := fun z => by
        subst z
        exact hj (h6 j es' e g1)
      refine ⟨q, ws, g1, by rw [upd_ne hq]; exact g2, g3, g4, g5, fun k es1 e1 e2 => ?_⟩
      by_cases hk : k = i
      · subst hk
        rw [hp] at e2
        cases e2
        exact absurd rfl hq
      · rw [lk_put_ne _ _ _ _ hk] at e1
        exact g6 k es1 e1 e2
/-- an own list becomes data -/
theorem Rel.freeze (r : Rel K H0 S0 Γ S σ H) {i : Nat} {ds : List D} (hi : lk Γ i = some (.own ds)) : ∃ S', Rel K H0 S0 (put Γ i (some (.dat (.list ds)))) S' σ H := by
  obtain ⟨p, vs, h1, h2, h3, h4, h5, h6⟩ := r.own i ds hi
  have hl := lk_lt _ _ _ hi
  have ss : Same S (upd S p (.lst vs)) := fun b z e => by rw [upd_ne (ne_of_none e h4)]; exact e
  refine ⟨upd S p (.lst vs), by rw [put_len]; exact r.len, r.s0.trans ss, fun b z e => ?_, r.h0, fun a q => ?_, fun j d' e => ?_, fun j es e => ?_⟩
  · by_cases hb : b = p
    · subst hb; rw [upd_same] at e; rw [h2]; exact e
    · rw [upd_ne hb] at e; exact r.sh b z e
  · by_cases hb : a = p
    · subst hb; exact .inr h5
    · rw [upd_ne hb] at q; exact r.fr a q
  · by_cases hj : j = i
    · subst hj
      rw [lk_put_same _ _ _ hl] at e
      cases e
      exact ⟨.ref p, h1, .lst (.of upd_same) (dpa_mono ss _ _ h3)⟩
    · rw [lk_put_ne _ _ _ _ hj] at e
      obtain ⟨v, g1, g2⟩ := r.dat j d' e
      exact ⟨v, g1, dp_mono ss _ _ g2⟩
  · have hj : j ≠ i := fun z => by
      subst z
      rw [lk_put_same _ _ _ hl] at e
      cases e
    rw [lk_put_ne _ _ _ _ hj] at e
    obtain ⟨q, ws, g1, g2, g3, g4, g5, g6⟩ := r.own j es e
    have hq : q ≠ p := fun z => by
      subst z
      exact hj (h6 j es e g1)
    refine ⟨q, ws, g1, g2, dpa_mono ss _ _ g3, by rw [upd_ne hq]; exact g4, g5, fun k es1 e1 e2 => ?_⟩
    have hk : k ≠ i := fun z => by
      subst z
      rw [lk_put_same _ _ _ hl] at e1
      cases e1
    rw [lk_put_ne _ _ _ _ hk] at e1
    exact g6 k es1 e1 e2
end
end PD
namespace PD
open PySem L2

/-! ### transformers over data -/
abbrev DTE := Env → (D → Prop) → Prop
abbrev DTL := Env → (List D → Prop) → Prop
abbrev DTT := Env → (Bool → Prop) → Prop
structure DEnds where
  nx : Env → Prop
  rt : D → Prop
  bk : Env → Prop := fun _ => False
  ct : Env → Prop := fun _ => False
abbrev DTS := DEnds → Env → Prop

section
variable (K : PySem.W.Frag)
/-- data, or a list of the def's own that is looked at -/
def View (S H : Hp) (v : V) (x : D) : Prop := Dp K S v x ∨ ∃ p vs ds, v = .ref p ∧ x = .list ds ∧ H p = some (.lst vs) ∧ DpAll K S vs ds
def SimE (t : TE) (d : DTE) : Prop := ∀ (H0 S0 : Hp) (Γ : Env) (S : Hp) (σ : L2.St) (H : Hp) (Q : D → Prop) (R : VK), Rel K H0 S0 Γ S σ H → d Γ Q →
  (∀ v x S' H', Grow S H S' H' → Dp K S' v x → Q x → R v H') → t σ H R
def SimV (t : TE) (d : DTE) : Prop := ∀ (H0 S0 : Hp) (Γ : Env) (S : Hp) (σ : L2.St) (H : Hp) (Q : D → Prop) (R : VK), Rel K H0 S0 Γ S σ H → d Γ Q →
  (∀ v x S' H', Grow S H S' H' → View K S' H' v x → Q x → R v H') → t σ H R
/-- a new list -/
def SimL (t : TE) (d : DTL) : Prop := ∀ (H0 S0 : Hp) (Γ : Env) (S : Hp) (σ : L2.St) (H : Hp) (Q : List D → Prop) (R : VK), Rel K H0 S0 Γ S σ H → d Γ Q →
  (∀ p vs xs S' H', Grow S H S' H' → H' p = none → DpAll K S' vs xs → Q xs → R (.ref p) (upd H' p (.lst vs))) → t σ H R
def SimA (t : TA) (d : DTL) : Prop := ∀ (H0 S0 : Hp) (Γ : Env) (S : Hp) (σ : L2.St) (H : Hp) (Q : List D → Prop) (R : List V → Hp → Prop), Rel K H0 S0 Γ S σ H → d Γ Q →
  (∀ vs xs S' H', Grow S H S' H' → DpAll K S' vs xs → Q xs → R vs H') → t σ H R
inductive Views (S H : Hp) : List V → List D → Prop where
  | nil : Views S H [] []
  | cons {v : V} {vs : List V} {x : D} {xs : List D} : View K S H v x → Views S H vs xs → Views S H (v :: vs) (x :: xs)
def SimVA (t : TA) (d : DTL) : Prop := ∀ (H0 S0 : Hp) (Γ : Env) (S : Hp) (σ : L2.St) (H : Hp) (Q : List D → Prop) (R : List V → Hp → Prop), Rel K H0 S0 Γ S σ H → d Γ Q →
  (∀ vs xs S' H', Grow S H S' H' → Views K S' H' vs xs → Q xs → R vs H') → t σ H R
def SimT (t : TT) (d : DTT) : Prop := ∀ (H0 S0 : Hp) (Γ : Env) (S : Hp) (σ : L2.St) (H : Hp) (Q : Bool → Prop) (R : Bool → Hp → Prop), Rel K H0 S0 Γ S σ H → d Γ Q →
  (∀ b S' H', Grow S H S' H' → Q b → R b H') → t σ H R
/-- the ends agree -/
structure EndsOk (H0 S0 : Hp) (E : DEnds) (T : Ends) : Prop where
  nx : ∀ Γ S σ H, Rel K H0 S0 Γ S σ H → E.nx Γ → T.nx σ H
  bk : ∀ Γ S σ H, Rel K H0 S0 Γ S σ H → E.bk Γ → T.bk σ H
  ct : ∀ Γ S σ H, Rel K H0 S0 Γ S σ H → E.ct Γ → T.ct σ H
  rt : ∀ v x S H, Grow S0 H0 S H → Dp K S v x → E.rt x → T.rt v H
def SimS (t : TS) (d : DTS) : Prop := ∀ (H0 S0 : Hp) (Γ : Env) (S : Hp) (σ : L2.St) (H : Hp) (E : DEnds) (T : Ends), Rel K H0 S0 Γ S σ H → d E Γ → EndsOk K H0 S0 E T → t T σ H
end
theorem Rel.all {K : PySem.W.Frag} {H0 S0 S H : Hp} {Γ : Env} {σ : L2.St} (r : Rel K H0 S0 Γ S σ H) : Grow S0 H0 S H := ⟨r.h0, r.s0, r.sh, r.fr⟩
theorem View.grow {K : PySem.W.Frag} {S H S' H' : Hp} {v : V} {x : D} (h : View K S H v x) (g : Grow S H S' H') : View K S' H' v x := by
  rcases h with h | ⟨p, vs, ds, h1, h2, h3, h4⟩
  · exact .inl (dp_mono g.ss _ _ h)
  · exact .inr ⟨p, vs, ds, h1, h2, g.hh _ _ h3, dpa_mono g.ss _ _ h4⟩
theorem View.list {K : PySem.W.Frag} {S H : Hp} {v : V} {ds : List D} (h : View K S H v (.list ds)) (e : Same S H) : ∃ p vs, v = .ref p ∧ SqL K H p vs ∧ DpAll K S vs ds := by
  rcases h with h | ⟨p, vs, ds', h1, h2, h3, h4⟩
  · obtain ⟨p, vs, h1, h2, h3⟩ := dp_list h
    exact ⟨p, vs, h1, e.seq h2, h3⟩
  · cases h2
    exact ⟨p, vs, h1, .of h3, h4⟩
theorem View.dat {K : PySem.W.Frag} {S H : Hp} {v : V} {x : D} (h : View K S H v x) (hx : ∀ ds, x ≠ .list ds) : Dp K S v x := by
  rcases h with h | ⟨p, vs, ds', h1, h2, h3, h4⟩
  · exact h
  · exact absurd h2 (hx _)
theorem Views.grow {K : PySem.W.Frag} {S H S' H' : Hp} {vs : List V} {xs : List D} (h : Views K S H vs xs) (g : Grow S H S' H') : Views K S' H' vs xs := by
  induction h with
  | nil => exact .nil
  | cons h1 _ ih => exact .cons (h1.grow g) ih
theorem Views.of {K : PySem.W.Frag} {S H : Hp} : ∀ {xs : List D} {vs : List V}, DpAll K S vs xs → Views K S H vs xs
  | [], _, h => by cases h; exact .nil
  | x :: xs, _, h => by
    cases h with
    | cons h1 h2 => exact .cons (.inl h1) (Views.of h2)

/-! ### judgements -/
section
variable (X : Cx)
structure DE (e : Expr) (t : TE) (d : DTE) : Prop where
  p : PE X e t
  s : SimE X.K t d
structure DV (e : Expr) (t : TE) (d : DTE) : Prop where
  p : PE X e t
  s : SimV X.K t d
structure DL (e : Expr) (t : TE) (d : DTL) : Prop where
  p : PE X e t
  s : SimL X.K t d
structure DA (es : List Expr) (t : TA) (d : DTL) : Prop where
  p : PA X es t
  s : SimA X.K t d
structure DVA (es : List Expr) (t : TA) (d : DTL) : Prop where
  p : PA X es t
  s : SimVA X.K t d
structure DT (e : Expr) (t : TT) (d : DTT) : Prop where
  p : PT X e t
  s : SimT X.K t d
structure DW (e : Expr) (t : TT) (d : DTT) : Prop where
  p : PW X e t
  s : SimT X.K t d
structure DS (st : Stmt) (t : TS) (d : DTS) : Prop where
  p : PS X st t
  s : SimS X.K t d
structure DSs (sts : List Stmt) (t : TS) (d : DTS) : Prop where
  p : PSs X sts t
  s : SimS X.K t d
/-- an operation on values; over data b -/
structure OpD (f : Value → Value → Sem Value) (r : R2) (b : D → D → (D → Prop) → Prop) : Prop where
  p : OpR X f r
  s : ∀ (S H : Hp) (v w : V) (x y : D) (Q : D → Prop) (R : VK), Same S H → Dp X.K S v x → Dp X.K S w y → b x y Q → (∀ u z S' H', Grow S H S' H' → Dp X.K S' u z → Q z → R u H') → r v w H R
structure UnD (f : Value → Sem Value) (r : V → Hp → VK → Prop) (b : D → (D → Prop) → Prop) : Prop where
  p : UnR X f r
  s : ∀ (S H : Hp) (v : V) (x : D) (Q : D → Prop) (R : VK), Same S H → Dp X.K S v x → b x Q → (∀ u z S' H', Grow S H S' H' → Dp X.K S' u z → Q z → R u H') → r v H R
/-- a built-in's call on values; views may be handed -/
structure CallD (f : Value) (r : List V → Hp → VK → Prop) (b : List D → (D → Prop) → Prop) : Prop where
  p : CallR X f r
  s : ∀ (S H : Hp) (vs : List V) (xs : List D) (Q : D → Prop) (R : VK), Same S H → Views X.K S H vs xs → b xs Q → (∀ u z S' H', Grow S H S' H' → Dp X.K S' u z → Q z → R u H') → r vs H R
end

section
variable {X : Cx} {a b c e : Expr} {es : List Expr} {ta tb tc : TE} {da db dc : DTE} {pos : Pos}
theorem DE.v (h : DE X e ta da) : DV X e ta da := ⟨h.p, fun H0 S0 Γ S σ H Q R r q k => h.s H0 S0 Γ S σ H Q R r q fun v x S' H' g dp qx => k v x S' H' g (.inl dp) qx⟩

/-! ### names, constants -/
def dVar (i : Nat) : DTE := fun Γ Q => match lk Γ i with
  | some (.dat x) => Q x
  | _ => False
theorem sim_var {K : PySem.W.Frag} (i : Nat) : SimE K (tVar i) (dVar i) := by
  intro H0 S0 Γ S σ H Q R r q k
  unfold dVar at q
  split at q
  · rename_i x hx
    obtain ⟨v, h1, h2⟩ := r.dat i x hx
    exact ⟨v, h1, k v x S H (.refl r.sh) h2 q⟩
  · exact q.elim
theorem de_var (i : Nat) {x : Str} (hN : X.N[i]? = some x := by rfl) (hv : Vis X.env.scope x := by first | exact Or.inl rfl | exact Or.inr (Or.inl rfl) | exact Or.inr (Or.inr rfl)) (hd : (x == ("__debug__" : Str)) = false := by decide)
    (hcd : (x == ("__classdict__" : Str)) = false := by decide) : DE X (.Name x pos) (tVar i) (dVar i) := ⟨pe_var hN hv hd hcd, sim_var i⟩
/-- a name that is looked at: data or an own list -/
def dLook (i : Nat) : DTE := fun Γ Q => match lk Γ i with
  | some (.dat x) => Q x
  | some (.own ds) => Q (.list ds)
  | _ => False
theorem sim_look {K : PySem.W.Frag} (i : Nat) : SimV K (tVar i) (dLook i) := by
  intro H0 S0 Γ S σ H Q R r q k
  unfold dLook at q
  split at q
  · rename_i x hx
    obtain ⟨v, h1, h2⟩ := r.dat i x hx
    exact ⟨v, h1, k v x S H (.refl r.sh) (.inl h2) q⟩
  · rename_i ds hx
    obtain ⟨p, vs, h1, h2, h3, h4, h5, h6⟩ := r.own i ds hx
    exact ⟨.ref p, h1, k (.ref p) (.list ds) S H (.refl r.sh) (.inr ⟨p, vs, ds, rfl, rfl, h2, h3⟩) q⟩
  · exact q.elim
theorem dv_var (i : Nat) {x : Str} (hN : X.N[i]? = some x := by rfl) (hv : Vis X.env.scope x := by first | exact Or.inl rfl | exact Or.inr (Or.inl rfl) | exact Or.inr (Or.inr rfl)) (hd : (x == ("__debug__" : Str)) = false := by decide)
    (hcd : (x == ("__classdict__" : Str)) = false := by decide) : DV X (.Name x pos) (tVar i) (dLook i) := ⟨pe_var hN hv hd hcd, sim_look i⟩
def dC (x : D) : DTE := fun _ Q => Q x
theorem sim_c {K : PySem.W.Frag} {v : V} {x : D} (h : ∀ S, Dp K S v x) : SimE K (tC v) (dC x) := fun H0 S0 Γ S σ H Q R r q k => k v x S H (.refl r.sh) (h S) q
theorem de_int {i : Int} {j : Nat} : DE X (.Constant (.int i) j pos) (tC (.int i)) (dC (.int i)) := ⟨pe_int, sim_c fun _ => .int i⟩
theorem de_bl {i : Bool} {j : Nat} : DE X (.Constant (.bool i) j pos) (tC (.bl i)) (dC (.bool i)) := ⟨pe_bl, sim_c fun _ => .bl i⟩
theorem de_non {j : Nat} : DE X (.Constant .none j pos) (tC .non) (dC .none) := ⟨pe_non, sim_c fun _ => .non⟩
theorem de_str {i : Str} {j : Nat} : DE X (.Constant (.str i) j pos) (tC (.str i)) (dC (.str i)) := ⟨pe_str, sim_c fun _ => .str i⟩

/-! ### operations -/
def dBin (f : D → D → (D → Prop) → Prop) (da db : DTE) : DTE := fun Γ Q => da Γ fun x => db Γ fun y => f x y Q
theorem sim_bin {K : PySem.W.Frag} {r : R2} {f : D → D → (D → Prop) → Prop} (hr : ∀ (S H : Hp) (v w : V) (x y : D) (Q : D → Prop) (R : VK), Same S H → Dp K S v x → Dp K S w y → f x y Q → (∀ u z S' H', Grow S H S' H' → Dp K S' u z → Q z → R u H') → r v w H R)
    (ha : SimE K ta da) (hb : SimE K tb db) : SimE K (tOp r ta tb) (dBin f da db) := by
  intro H0 S0 Γ S σ H Q R r q k
  refine ha H0 S0 Γ S σ H _ _ r q fun v x S1 H1 g1 d1 q1 => ?_
  refine hb H0 S0 Γ S1 σ H1 _ _ (r.grow g1) q1 fun w y S2 H2 g2 d2 q2 => ?_
  exact hr S2 H2 v w x y Q R g2.sh (dp_mono g2.ss _ _ d1) d2 q2 fun u z S' H' g dz qz => k u z S' H' ((g1.trans g2).trans g) dz qz
theorem de_op {op : Operator} {r : R2} {f : D → D → (D → Prop) → Prop} (ho : OpD X (binaryOp op) r f) (ha : DE X a ta da) (hb : DE X b tb db) : DE X (.BinOp a op b pos) (tOp r ta tb) (dBin f da db) := ⟨pe_op ho.p ha.p hb.p, sim_bin ho.s ha.s hb.s⟩
theorem de_cmp {op : CmpOp} {r : R2} {f : D → D → (D → Prop) → Prop} (ho : OpD X (compareOp op) r f) (ha : DE X a ta da) (hb : DE X b tb db) (hm : behindInMarks op b = false := by first | exact L2.nomark _ | with_unfolding_all rfl) :
    DE X (.Compare a [op] [b] pos) (tOp r ta tb) (dBin f da db) := ⟨pe_cmpR ho.p ha.p hb.p hm, sim_bin ho.s ha.s hb.s⟩
def dUn (f : D → (D → Prop) → Prop) (da : DTE) : DTE := fun Γ Q => da Γ fun x => f x Q
theorem de_un {op : UnaryOp} {r : V → Hp → VK → Prop} {f : D → (D → Prop) → Prop} (ho : UnD X (unaryOp op) r f) (ha : DE X a ta da) : DE X (.UnaryOp op a pos) (tUn r ta) (dUn f da) := ⟨pe_un ho.p ha.p, by
  intro H0 S0 Γ S σ H Q R r q k
  refine ha.s H0 S0 Γ S σ H _ _ r q fun v x S1 H1 g1 d1 q1 => ?_
  exact ho.s S1 H1 v x Q R g1.sh d1 q1 fun u z S' H' g dz qz => k u z S' H' (g1.trans g) dz qz⟩

/-! ### tests -/
/-- the truth of data that has one here -/
def truth : D → Bool
  | .bool b => b
  | _ => false
def dTst (d : DTE) : DTT := fun Γ Q => d Γ fun x => match x with
  | .bool c => Q c
  | _ => False
theorem sim_tst {K : PySem.W.Frag} {t : TE} {d : DTE} (h : SimE K t d) : SimT K (tTest t) (dTst d) := by
  intro H0 S0 Γ S σ H Q R r q k
  refine h H0 S0 Γ S σ H _ _ r q fun v x S1 H1 g1 d1 q1 => ?_
  cases x with
  | bool c => exact ⟨c, dp_bl d1, k c S1 H1 g1 q1⟩
  | _ => exact q1.elim
theorem dt_cmp {op : CmpOp} {r : R2} {f : D → D → (D → Prop) → Prop} (ho : OpD X (compareOp op) r f) (ha : DE X a ta da) (hb : DE X b tb db) (hm : behindInMarks op b = false := by first | exact L2.nomark _ | with_unfolding_all rfl) :
    DT X (.Compare a [op] [b] pos) (tTest (tOp r ta tb)) (dTst (dBin f da db)) := ⟨pt_cmpR ho.p ha.p hb.p hm, sim_tst (sim_bin ho.s ha.s hb.s)⟩
theorem dt_val (h : DE X e ta da) (he : ∀ whole, isTrue e X.env whole = (do let v ← whole; standAt e.pos; holding [v] (truthy v)) := by intro _; rfl) : DT X e (tB ta) (dTst da) := ⟨pt_val h.p he, sim_tst h.s⟩
variable {tt tu : TT} {dt du : DTT} {rest : List Expr}
def dAnd (t u : DTT) : DTT := fun Γ Q => t Γ fun c => if c = true then u Γ Q else Q false
def dOr (t u : DTT) : DTT := fun Γ Q => t Γ fun c => if c = true then Q true else u Γ Q
def dNot (t : DTT) : DTT := fun Γ Q => t Γ fun c => Q (!c)
theorem DW.t (h : DW X e tt dt) : DT X e tt dt := ⟨h.p.pt, h.s⟩
theorem dw_and1 (h : DT X a tt dt) : DW X (.BoolOp .And [a] pos) tt dt := ⟨pw_and1 h.p, h.s⟩
theorem dw_or1 (h : DT X a tt dt) : DW X (.BoolOp .Or [a] pos) tt dt := ⟨pw_or1 h.p, h.s⟩
theorem dw_and (ha : DT X a tt dt) (hb : DW X (.BoolOp .And (b :: rest) pos) tu du) : DW X (.BoolOp .And (a :: b :: rest) pos) (tAnd tt tu) (dAnd dt du) := ⟨pw_and ha.p hb.p, by
  intro H0 S0 Γ S σ H Q R r q k
  refine ha.s H0 S0 Γ S σ H _ _ r q fun c S1 H1 g1 q1 => ?_
  cases c with
  | true => exact hb.s H0 S0 Γ S1 σ H1 _ _ (r.grow g1) q1 fun b S2 H2 g2 q2 => k b S2 H2 (g1.trans g2) q2
  | false => exact k false S1 H1 g1 q1⟩
theorem dw_or (ha : DT X a tt dt) (hb : DW X (.BoolOp .Or (b :: rest) pos) tu du) : DW X (.BoolOp .Or (a :: b :: rest) pos) (tOr tt tu) (dOr dt du) := ⟨pw_or ha.p hb.p, by
  intro H0 S0 Γ S σ H Q R r q k
  refine ha.s H0 S0 Γ S σ H _ _ r q fun c S1 H1 g1 q1 => ?_
  cases c with
  | false => exact hb.s H0 S0 Γ S1 σ H1 _ _ (r.grow g1) q1 fun b S2 H2 g2 q2 => k b S2 H2 (g1.trans g2) q2
  | true => exact k true S1 H1 g1 q1⟩
theorem dt_not (h : DT X a tt dt) : DT X (.UnaryOp .Not a pos) (tNot tt) (dNot dt) := ⟨pt_not h.p, by
  intro H0 S0 Γ S σ H Q R r q k
  exact h.s H0 S0 Γ S σ H _ _ r q fun c S1 H1 g1 q1 => k (!c) S1 H1 g1 q1⟩
/-! and, or, not as values, of bools -/
def dAndV (da db : DTE) : DTE := fun Γ Q => da Γ fun x => match x with
  | .bool true => db Γ Q
  | .bool false => Q (.bool false)
  | _ => False
def dOrV (da db : DTE) : DTE := fun Γ Q => da Γ fun x => match x with
  | .bool true => Q (.bool true)
  | .bool false => db Γ Q
  | _ => False
def dNotV (da : DTE) : DTE := fun Γ Q => da Γ fun x => match x with
  | .bool c => Q (.bool (!c))
  | _ => False
theorem de_one {op : BoolOp} (h : DE X a ta da) : DE X (.BoolOp op [a] pos) ta da := ⟨pe_one h.p, h.s⟩
theorem de_and (ha : DE X a ta da) (hb : DE X (.BoolOp .And (b :: rest) pos) tb db) : DE X (.BoolOp .And (a :: b :: rest) pos) (tAndV ta tb) (dAndV da db) := ⟨pe_and ha.p hb.p, by
  intro H0 S0 Γ S σ H Q R r q k
  refine ha.s H0 S0 Γ S σ H _ _ r q fun v x S1 H1 g1 d1 q1 => ?_
  cases x with
  | bool c =>
    refine ⟨c, dp_bl d1, ?_⟩
    cases c with
    | true => exact hb.s H0 S0 Γ S1 σ H1 _ _ (r.grow g1) q1 fun v y S2 H2 g2 d2 q2 => k v y S2 H2 (g1.trans g2) d2 q2
    | false => exact k _ _ S1 H1 g1 (.bl false) q1
  | _ => exact q1.elim⟩
theorem de_or (ha : DE X a ta da) (hb : DE X (.BoolOp .Or (b :: rest) pos) tb db) : DE X (.BoolOp .Or (a :: b :: rest) pos) (tOrV ta tb) (dOrV da db) := ⟨pe_or ha.p hb.p, by
  intro H0 S0 Γ S σ H Q R r q k
  refine ha.s H0 S0 Γ S σ H _ _ r q fun v x S1 H1 g1 d1 q1 => ?_
  cases x with
  | bool c =>
    refine ⟨c, dp_bl d1, ?_⟩
    cases c with
    | false => exact hb.s H0 S0 Γ S1 σ H1 _ _ (r.grow g1) q1 fun v y S2 H2 g2 d2 q2 => k v y S2 H2 (g1.trans g2) d2 q2
    | true => exact k _ _ S1 H1 g1 (.bl true) q1
  | _ => exact q1.elim⟩
theorem de_not (ha : DE X a ta da) : DE X (.UnaryOp .Not a pos) (tNotV ta) (dNotV da) := ⟨pe_not ha.p, by
  intro H0 S0 Γ S σ H Q R r q k
  refine ha.s H0 S0 Γ S σ H _ _ r q fun v x S1 H1 g1 d1 q1 => ?_
  cases x with
  | bool c => exact ⟨c, dp_bl d1, k _ _ S1 H1 g1 (.bl _) q1⟩
  | _ => exact q1.elim⟩
def dIfE (t : DTT) (da db : DTE) : DTE := fun Γ Q => t Γ fun c => if c = true then da Γ Q else db Γ Q
theorem de_if (hc : DT X c tt dt) (ha : DE X a ta da) (hb : DE X b tb db) : DE X (.IfExp c a b pos) (tIf tt ta tb) (dIfE dt da db) := ⟨pe_ifExp hc.p ha.p hb.p, by
  intro H0 S0 Γ S σ H Q R r q k
  refine hc.s H0 S0 Γ S σ H _ _ r q fun c S1 H1 g1 q1 => ?_
  cases c with
  | true => exact ha.s H0 S0 Γ S1 σ H1 _ _ (r.grow g1) q1 fun v y S2 H2 g2 d2 q2 => k v y S2 H2 (g1.trans g2) d2 q2
  | false => exact hb.s H0 S0 Γ S1 σ H1 _ _ (r.grow g1) q1 fun v y S2 H2 g2 d2 q2 => k v y S2 H2 (g1.trans g2) d2 q2⟩

/-! ### arguments, displays -/
def dNil : DTL := fun _ Q => Q []
def dCons (da : DTE) (dr : DTL) : DTL := fun Γ Q => da Γ fun x => dr Γ fun xs => Q (x :: xs)
variable {tas : TA} {das : DTL}
theorem da_nil : DA X [] tNil dNil := ⟨pa_nil, fun H0 S0 Γ S σ H Q R r q k => k [] [] S H (.refl r.sh) .nil q⟩
theorem da_cons (ha : DE X e ta da) (hr : DA X es tas das) (hs : starEach (e :: es) X.env = (false, eval e X.env) :: starEach es X.env := by rfl) : DA X (e :: es) (tCons ta tas) (dCons da das) := ⟨pa_cons ha.p hr.p hs, by
  intro H0 S0 Γ S σ H Q R r q k
  refine ha.s H0 S0 Γ S σ H _ _ r q fun v x S1 H1 g1 d1 q1 => ?_
  exact hr.s H0 S0 Γ S1 σ H1 _ _ (r.grow g1) q1 fun vs xs S2 H2 g2 d2 q2 => k (v :: vs) (x :: xs) S2 H2 (g1.trans g2) (.cons (dp_mono g2.ss _ _ d1) d2) q2⟩
theorem dva_nil : DVA X [] tNil dNil := ⟨pa_nil, fun H0 S0 Γ S σ H Q R r q k => k [] [] S H (.refl r.sh) .nil q⟩
theorem dva_cons (ha : DV X e ta da) (hr : DVA X es tas das) (hs : starEach (e :: es) X.env = (false, eval e X.env) :: starEach es X.env := by rfl) : DVA X (e :: es) (tCons ta tas) (dCons da das) := ⟨pa_cons ha.p hr.p hs, by
  intro H0 S0 Γ S σ H Q R r q k
  refine ha.s H0 S0 Γ S σ H _ _ r q fun v x S1 H1 g1 d1 q1 => ?_
  exact hr.s H0 S0 Γ S1 σ H1 _ _ (r.grow g1) q1 fun vs xs S2 H2 g2 d2 q2 => k (v :: vs) (x :: xs) S2 H2 (g1.trans g2) (.cons (d1.grow g2) d2) q2⟩
theorem szl {n : Nat} (h : n ≤ 16777216) : n ≤ sizeLine := Nat.le_trans h (by rw [PySem.sizeLine_eq]; exact Nat.le_refl _)
def dTup (das : DTL) : DTE := fun Γ Q => das Γ fun xs => xs.length ≤ 16777216 ∧ Q (.tuple xs)
theorem de_tup {x1 : Nat} (h : DA X es tas das) : DE X (.Tuple es x1 pos) (tTup tas) (dTup das) := ⟨pe_tup h.p, by
  intro H0 S0 Γ S σ H Q R r q k
  refine h.s H0 S0 Γ S σ H _ _ r q fun vs xs S1 H1 g1 d1 ⟨hl, q1⟩ => ⟨szl (by rw [dpa_len d1]; exact hl), fun p hp => ?_⟩
  have g2 : Grow S1 H1 (upd S1 p (.tup vs)) (upd H1 p (.tup vs)) := Grow.new g1.sh hp
  exact k (.ref p) (.tuple xs) _ _ (g1.trans g2) (.tup (.of upd_same) (dpa_mono g2.ss _ _ d1)) q1⟩
def dLst (das : DTL) : DTL := fun Γ Q => das Γ fun xs => xs.length ≤ 16777216 ∧ Q xs
theorem dl_lst (h : DA X es tas das) : DL X (.List es pos) (tLst tas) (dLst das) := ⟨pe_lst h.p, by
  intro H0 S0 Γ S σ H Q R r q k
  exact h.s H0 S0 Γ S σ H _ _ r q fun vs xs S1 H1 g1 d1 ⟨hl, q1⟩ => ⟨szl (by rw [dpa_len d1]; exact hl), fun p hp => k p vs xs S1 H1 g1 hp d1 q1⟩⟩
def dFz (d : DTL) : DTE := fun Γ Q => d Γ fun xs => Q (.list xs)
variable {dl : DTL}
/-- a new list as a value -/
theorem DL.fz (h : DL X e ta dl) : DE X e ta (dFz dl) := ⟨h.p, by
  intro H0 S0 Γ S σ H Q R r q k
  refine h.s H0 S0 Γ S σ H _ _ r q fun p vs xs S1 H1 g1 hp d1 q1 => ?_
  have g2 : Grow S1 H1 (upd S1 p (.lst vs)) (upd H1 p (.lst vs)) := Grow.new g1.sh hp
  exact k (.ref p) (.list xs) _ _ (g1.trans g2) (.lst (.of upd_same) (dpa_mono g2.ss _ _ d1)) q1⟩

/-! ### items -/
def bIx (x y : D) (Q : D → Prop) : Prop := match x, y with
  | .list xs, .int i => ∃ z, atI xs i = some z ∧ Q z
  | .tuple xs, .int i => ∃ z, atI xs i = some z ∧ Q z
  | _, _ => False
theorem dpa_at {K : PySem.W.Frag} {S : Hp} {vs : List V} {xs : List D} {i : Int} {z : D} (h : DpAll K S vs xs) (e : atI xs i = some z) : ∃ v, atI vs i = some v ∧ Dp K S v z := by
  unfold atI at e ⊢
  rw [dpa_len h]
  cases q : ixN xs.length i with
  | none => rw [q] at e; cases e
  | some j =>
    rw [q] at e
    exact dpa_get h e
theorem de_ix (ha : DV X a ta da) (hb : DE X b tb db) (hs : PlainIx b := by exact fun _ _ => rfl) : DE X (.Subscript a b pos) (tOp (rIx X.K) ta tb) (dBin bIx da db) := ⟨pe_ix ix_seq ha.p hb.p hs, by
  intro H0 S0 Γ S σ H Q R r q k
  refine ha.s H0 S0 Γ S σ H _ _ r q fun v x S1 H1 g1 d1 q1 => ?_
  refine hb.s H0 S0 Γ S1 σ H1 _ _ (r.grow g1) q1 fun w y S2 H2 g2 d2 q2 => ?_
  have d1' := d1.grow g2
  unfold bIx at q2
  split at q2
  · rename_i xs i
    obtain ⟨z, e, qz⟩ := q2
    obtain ⟨p, vs, rfl, hq, ha⟩ := d1'.list g2.sh
    obtain ⟨u, hu, dz⟩ := dpa_at ha e
    exact .inl ⟨p, vs, i, u, rfl, dp_int d2, hq, hu, k u z S2 H2 (g1.trans g2) dz qz⟩
  · rename_i xs i
    obtain ⟨z, e, qz⟩ := q2
    obtain ⟨p, vs, rfl, hq, ha⟩ := dp_tup (d1'.dat (fun _ z => by cases z))
    obtain ⟨u, hu, dz⟩ := dpa_at ha e
    exact .inr (.inl ⟨p, vs, i, u, rfl, dp_int d2, seqT_same g2.sh hq, hu, k u z S2 H2 (g1.trans g2) dz qz⟩)
  · exact q2.elim⟩
end
end PD
namespace PD
open PySem L2

/-! ### operations over data -/
section
variable {X : Cx}
/-- an int operation by its rule, with a condition -/
def iOp (C : Int → Int → Prop) (g : Int → Int → Int) (x y : D) (Q : D → Prop) : Prop := match x, y with
  | .int i, .int j => C i j ∧ Q (.int (g i j))
  | _, _ => False
theorem od_int {f : Value → Value → Sem Value} {C : Int → Int → Prop} {g : Int → Int → Int} (h : OpR X f (rI C fun i j => .int (g i j))) : OpD X f (rI C fun i j => .int (g i j)) (iOp C g) := ⟨h, by
  intro S H v w x y Q R e dx dy q k
  unfold iOp at q
  split at q
  · rename_i i j
    exact ⟨i, j, dp_int dx, dp_int dy, q.1, k _ _ S H (.refl e) (.int _) q.2⟩
  · exact q.elim⟩
def iOp0 (g : Int → Int → Int) (x y : D) (Q : D → Prop) : Prop := match x, y with
  | .int i, .int j => Q (.int (g i j))
  | _, _ => False
theorem od_int0 {f : Value → Value → Sem Value} {g : Int → Int → Int} (h : OpR X f (rI0 fun i j => .int (g i j))) : OpD X f (rI0 fun i j => .int (g i j)) (iOp0 g) := ⟨h, by
  intro S H v w x y Q R e dx dy q k
  unfold iOp0 at q
  split at q
  · rename_i i j
    exact ⟨i, j, dp_int dx, dp_int dy, k _ _ S H (.refl e) (.int _) q⟩
  · exact q.elim⟩
def iCmp (g : Int → Int → Bool) (x y : D) (Q : D → Prop) : Prop := match x, y with
  | .int i, .int j => Q (.bool (g i j))
  | _, _ => False
theorem od_cmp {f : Value → Value → Sem Value} {g : Int → Int → Bool} (h : OpR X f (rI0 fun i j => .bl (g i j))) : OpD X f (rI0 fun i j => .bl (g i j)) (iCmp g) := ⟨h, by
  intro S H v w x y Q R e dx dy q k
  unfold iCmp at q
  split at q
  · rename_i i j
    exact ⟨i, j, dp_int dx, dp_int dy, k _ _ S H (.refl e) (.bl _) q⟩
  · exact q.elim⟩
/-- list + list, wherever they stand -/
def rCatL (K : PySem.W.Frag) : R2 := fun x y H Q => ∃ l b xs zs, x = .ref l ∧ y = .ref b ∧ SqL K H l xs ∧ SqL K H b zs ∧ xs.length + zs.length ≤ sizeLine ∧ ∀ p, H p = none → Q (.ref p) (upd H p (.lst (xs ++ zs)))
theorem op_catL : OpR X (binaryOp .Add) (rCatL X.K) := by
  intro pins s σ H x y v u Q I rx ry h
  obtain ⟨l, b, xs, zs, rfl, rfl, hH, hB, hz, q⟩ := h
  cases rx
  cases ry
  obtain ⟨its, r, ⟨⟨cls, dd, data, sl⟩, n, ho, hc, _, hd⟩, hl⟩ := I.list hH
  obtain ⟨its2, r2, ⟨⟨cls2, dd2, data2, sl2⟩, n2, ho2, hc2, _, hd2⟩, hl2⟩ := I.list hB
  simp only at hc hd hc2 hd2
  subst hc hd hc2 hd2
  have e1 := r.length
  have e2 := r2.length
  have e : its.toArray ++ its2.toArray = (its ++ its2).toArray := by simp
  refine PySem.concat_meets ⟨_, ho, rfl⟩ ⟨_, ho2, rfl⟩ PySem.noFill_list_add PySem.seq_list_add PySem.F.slot_list_add PySem.F.entry_list_add (PySem.F.args_list_add_2 _ _) (PyProof.Rows.list_addW l b its.toArray its2.toArray n n2 dd dd2 sl sl2 (by simp only [List.size_toArray]; omega)) ⟨ho, ho2, ?_⟩
  rw [e]
  exact ⟨.ref _, _, I.lnew (t' := s.toks) (r.append r2) (by rw [List.length_append]; omega), rfl, q _ I.fresh⟩
/-- + -/
def bAdd (x y : D) (Q : D → Prop) : Prop := match x, y with
  | .int i, .int j => Q (.int (i + j))
  | .str a, .str b => a.length + b.length ≤ 16777216 ∧ Q (.str (a ++ b))
  | .list xs, .list ys => xs.length + ys.length ≤ 16777216 ∧ Q (.list (xs ++ ys))
  | .tuple xs, .tuple ys => xs ≠ [] ∧ xs.length + ys.length ≤ 16777216 ∧ Q (.tuple (xs ++ ys))
  | _, _ => False
def rAddD (K : PySem.W.Frag) : R2 := fun x y H Q => (rI0 (fun i j => .int (i + j)) x y H Q ∨ ∃ i j, x = .str i ∧ y = .str j ∧ i.length + j.length ≤ sizeLine ∧ Q (.str (i ++ j)) H) ∨ rCatL K x y H Q ∨ rCatT K x y H Q
theorem od_add : OpD X (binaryOp .Add) (rAddD X.K) bAdd := ⟨(op_add.or op_add_str).or (op_catL.or op_catT), by
  intro S H v w x y Q R e dx dy q k
  unfold bAdd at q
  split at q
  · rename_i i j
    exact .inl (.inl ⟨i, j, dp_int dx, dp_int dy, k _ _ S H (.refl e) (.int _) q⟩)
  · rename_i i j
    exact .inl (.inr ⟨i, j, dp_str dx, dp_str dy, szl q.1, k _ _ S H (.refl e) (.str _) q.2⟩)
  · rename_i xs ys
    obtain ⟨p, vs, rfl, h1, h2⟩ := dp_list dx
    obtain ⟨p', vs', rfl, h1', h2'⟩ := dp_list dy
    refine .inr (.inl ⟨p, p', vs, vs', rfl, rfl, e.seq h1, e.seq h1', szl (by rw [dpa_len h2, dpa_len h2']; exact q.1), fun z hz => ?_⟩)
    have g := Grow.new (o := .lst (vs ++ vs')) e hz
    exact k _ _ _ _ g (.lst (.of upd_same) (dpa_mono g.ss _ _ (dpa_app h2 h2'))) q.2
  · rename_i xs ys
    obtain ⟨p, vs, rfl, h1, h2⟩ := dp_tup dx
    obtain ⟨p', vs', rfl, h1', h2'⟩ := dp_tup dy
    have hne : vs ≠ [] := fun z => by
      subst z
      have := dpa_len h2
      exact q.1 (List.length_eq_zero_iff.mp this.symm)
    refine .inr (.inr ⟨p, p', vs, vs', rfl, rfl, seqT_same e h1, seqT_same e h1', hne, szl (by rw [dpa_len h2, dpa_len h2']; exact q.2.1), ?_⟩)
    refine ⟨fun z => ?_, fun _ z hz => ?_⟩
    · subst z
      have h0 : ys = [] := List.length_eq_zero_iff.mp (dpa_len h2').symm
      subst h0
      have q2 := q.2.2
      rw [List.append_nil] at q2
      exact k _ _ S H (.refl e) dx q2
    · have g := Grow.new (o := .tup (vs ++ vs')) e hz
      exact k _ _ _ _ g (.tup (.of upd_same) (dpa_mono g.ss _ _ (dpa_app h2 h2'))) q.2.2
  · exact q.elim⟩

/-! the int operations by name -/
abbrev bSub := iOp0 fun i j => i - j
theorem od_sub : OpD X (binaryOp .Sub) (rI0 fun i j => .int (i - j)) bSub := od_int0 op_sub
/-- at most 2 ^ 27 bits together -/
abbrev bMul := iOp CMulX fun i j => i * j
theorem od_mul : OpD X (binaryOp .Mult) (rI CMulX fun i j => .int (i * j)) bMul := od_int op_mulX
abbrev bDiv := iOp CDiv fun i j => i / j
theorem od_div : OpD X (binaryOp .FloorDiv) (rI CDiv fun i j => .int (i / j)) bDiv := od_int op_fdiv
abbrev bDivN := iOp CDivN fun i j => i.fdiv j
theorem od_divN : OpD X (binaryOp .FloorDiv) (rI CDivN fun i j => .int (i.fdiv j)) bDivN := od_int op_fdivN
abbrev bMod := iOp (fun _ j => 0 < j) fun i j => i % j
theorem od_mod : OpD X (binaryOp .Mod) (rI (fun _ j => 0 < j) fun i j => .int (i % j)) bMod := od_int op_mod
abbrev bPow := iOp CPow fun i j => i ^ j.toNat
theorem od_pow : OpD X (binaryOp .Pow) (rI CPow fun i j => .int (i ^ j.toNat)) bPow := od_int op_pow
abbrev bShl := iOp CShl fun i j => i * 2 ^ j.toNat
theorem od_shl : OpD X (binaryOp .LShift) (rI CShl fun i j => .int (i * 2 ^ j.toNat)) bShl := od_int op_shlW
/-- // by a divisor of any size, where _pylong may be asked -/
def PyOk (X : Cx) : Prop := ∀ (pins : List (Addr × Obj)) (σ : L2.St) (H : Hp) (s : Shared), Inv X pins σ H s → PylongRoom (model X.prog X.w) X.A s
abbrev bDivW := iOp (fun _ j => 0 < j) fun i j => i / j
theorem op_fdivB (hp : PyOk X) : OpR X (binaryOp .FloorDiv) (rI (fun _ j => 0 < j) fun i j => .int (i / j)) := by
  intro pins s σ H x y v u Q I rx ry h
  obtain ⟨i, j, rfl, rfl, hc, q⟩ := h
  obtain ⟨t, rfl⟩ := rx
  obtain ⟨t', rfl⟩ := ry
  have h1 : (0 : Int) < j := hc
  exact PyProof.Rows.floordiv_int (by omega) (by rw [Int.fdiv_eq_ediv_of_nonneg i (by omega)]; exact ⟨.int (i / j), H, I.tok _, ⟨_, rfl⟩, q⟩) (.inr (hp pins σ H s I))
theorem od_divW (hp : PyOk X) : OpD X (binaryOp .FloorDiv) (rI (fun _ j => 0 < j) fun i j => .int (i / j)) bDivW := od_int (op_fdivB hp)
abbrev bLt := iCmp fun i j => decide (i < j)
abbrev bLe := iCmp fun i j => decide (i ≤ j)
abbrev bGt := iCmp fun i j => decide (j < i)
abbrev bGe := iCmp fun i j => decide (j ≤ i)
theorem od_lt : OpD X (compareOp .Lt) (rI0 fun i j => .bl (decide (i < j))) bLt := od_cmp op_lt
theorem od_le : OpD X (compareOp .LtE) (rI0 fun i j => .bl (decide (i ≤ j))) bLe := od_cmp op_le
theorem od_gt : OpD X (compareOp .Gt) (rI0 fun i j => .bl (decide (j < i))) bGt := od_cmp op_gt
theorem od_ge : OpD X (compareOp .GtE) (rI0 fun i j => .bl (decide (j ≤ i))) bGe := od_cmp op_ge
/-- == of data -/
def bEq (x y : D) (Q : D → Prop) : Prop := SeqAt.shaped x = true ∧ SeqAt.shaped y = true ∧ Q (.bool (PyData.eqv x y))
def bNe (x y : D) (Q : D → Prop) : Prop := SeqAt.shaped x = true ∧ SeqAt.shaped y = true ∧ Q (.bool (!PyData.eqv x y))
theorem od_eq (hu : X.A.units + 64 < cLine) : OpD X (compareOp .Eq) (rEqD X.K) bEq := ⟨op_eqD hu, by
  intro S H v w x y Q R e dx dy q k
  exact ⟨x, y, dp_mono e _ _ dx, dp_mono e _ _ dy, q.1, q.2.1, k _ _ S H (.refl e) (.bl _) q.2.2⟩⟩
theorem od_ne (hu : X.A.units + 64 < cLine) : OpD X (compareOp .NotEq) (rNeD X.K) bNe := ⟨op_neD hu, by
  intro S H v w x y Q R e dx dy q k
  exact ⟨x, y, dp_mono e _ _ dx, dp_mono e _ _ dy, q.1, q.2.1, k _ _ S H (.refl e) (.bl _) q.2.2⟩⟩
/-- is None, is of bools -/
def isN : D → Bool
  | .none => true
  | _ => false
def bIs (x y : D) (Q : D → Prop) : Prop := match y with
  | .none => Q (.bool (isN x))
  | .bool b => (match x with
    | .bool a => Q (.bool (decide (a = b)))
    | _ => False)
  | _ => False
def bIsNot (x y : D) (Q : D → Prop) : Prop := match y with
  | .none => Q (.bool (!isN x))
  | .bool b => (match x with
    | .bool a => Q (.bool (!decide (a = b)))
    | _ => False)
  | _ => False
theorem isN_dp {K : PySem.W.Frag} {S : Hp} {v : V} {x : D} (h : Dp K S v x) : decide (v = V.non) = isN x := by
  cases h <;> simp [isN]
def rIsD : R2 := fun x y H Q => (y = .non ∧ Q (.bl (decide (x = .non))) H) ∨ rIsB x y H Q
def rIsNotD : R2 := fun x y H Q => (y = .non ∧ Q (.bl (!decide (x = .non))) H) ∨ rNotB x y H Q
theorem od_is : OpD X (compareOp .Is) rIsD bIs := ⟨op_isN.or op_isBl, by
  intro S H v w x y Q R e dx dy q k
  unfold bIs at q
  split at q
  · exact .inl ⟨dp_non dy, by rw [isN_dp dx]; exact k _ _ S H (.refl e) (.bl _) q⟩
  · split at q
    · exact .inr ⟨_, _, dp_bl dx, dp_bl dy, k _ _ S H (.refl e) (.bl _) q⟩
    · exact q.elim
  · exact q.elim⟩
theorem od_isNot : OpD X (compareOp .IsNot) rIsNotD bIsNot := ⟨op_notN.or op_notBl, by
  intro S H v w x y Q R e dx dy q k
  unfold bIsNot at q
  split at q
  · exact .inl ⟨dp_non dy, by rw [isN_dp dx]; exact k _ _ S H (.refl e) (.bl _) q⟩
  · split at q
    · exact .inr ⟨_, _, dp_bl dx, dp_bl dy, k _ _ S H (.refl e) (.bl _) q⟩
    · exact q.elim
  · exact q.elim⟩
def bNeg (x : D) (Q : D → Prop) : Prop := match x with
  | .int i => Q (.int (-i))
  | _ => False
theorem ud_neg : UnD X (unaryOp .USub) (rU fun i => .int (-i)) bNeg := ⟨un_neg, by
  intro S H v x Q R e dx q k
  unfold bNeg at q
  split at q
  · exact ⟨_, dp_int dx, k _ _ S H (.refl e) (.int _) q⟩
  · exact q.elim⟩

/-! ### built-in calls -/
variable {e : Expr} {es : List Expr} {tas : TA} {das : DTL} {pos p p2 : Pos} {x : Str}
def dCB (f : List D → (D → Prop) → Prop) (das : DTL) : DTE := fun Γ Q => das Γ fun xs => f xs Q
theorem sim_cb {K : PySem.W.Frag} {r : List V → Hp → VK → Prop} {f : List D → (D → Prop) → Prop}
    (hs : ∀ (S H : Hp) (vs : List V) (xs : List D) (Q : D → Prop) (R : VK), Same S H → Views K S H vs xs → f xs Q → (∀ u z S' H', Grow S H S' H' → Dp K S' u z → Q z → R u H') → r vs H R) (ha : SimVA K tas das) :
    SimE K (tCB r tas) (dCB f das) := by
  intro H0 S0 Γ S σ H Q R r q k
  refine ha H0 S0 Γ S σ H _ _ r q fun vs xs S1 H1 g1 d1 q1 => ?_
  exact hs S1 H1 vs xs Q R g1.sh d1 q1 fun u z S' H' g dz qz => k u z S' H' (g1.trans g) dz qz
theorem de_callB {id : String} {r : List V → Hp → VK → Prop} {f : List D → (D → Prop) → Prop} (hc : CallD X (.builtin id) r f) (hg : Gl X x) (hm : X.mg x = none) (hv : bootBuiltins x = some (.builtin id)) (ha : DVA X (e :: es) tas das)
    (hn : x ≠ "__name__" := by decide) (hdb : (x == ("__debug__" : Str)) = false := by decide)
    (he : starEach (e :: es) X.env = (false, eval e X.env) :: starEach es X.env := by rfl) (hpl : (backTo pos (starEach es X.env)).any (·.1) = false := by rfl) :
    DE X (.Call (.Name x p) (e :: es) [] pos) (tCB r tas) (dCB f das) := ⟨pe_callB hc.p hg hm hv ha.p hn hdb he hpl, sim_cb hc.s ha.s⟩
theorem de_callTy {T : String} {r : List V → Hp → VK → Prop} {f : List D → (D → Prop) → Prop} (hc : CallD X (.type T) r f) (hg : Gl X x) (hm : X.mg x = none) (hv : bootBuiltins x = some (.type T)) (ha : DVA X (e :: es) tas das)
    (hn : x ≠ "__name__" := by decide) (hdb : (x == ("__debug__" : Str)) = false := by decide)
    (he : starEach (e :: es) X.env = (false, eval e X.env) :: starEach es X.env := by rfl) (hpl : (backTo pos (starEach es X.env)).any (·.1) = false := by rfl) :
    DE X (.Call (.Name x p) (e :: es) [] pos) (tCB r tas) (dCB f das) := ⟨pe_callTy hc.p hg hm hv ha.p hn hdb he hpl, sim_cb hc.s ha.s⟩
/-- a module's name for a built-in function -/
theorem de_callF {id : String} {r : List V → Hp → VK → Prop} {f : List D → (D → Prop) → Prop} (hc : CallD X (.builtin id) r f) (hg : Gl X x) (hm : X.mg x = some (.builtin id)) (ha : DVA X (e :: es) tas das)
    (hdb : (x == ("__debug__" : Str)) = false := by decide)
    (he : starEach (e :: es) X.env = (false, eval e X.env) :: starEach es X.env := by rfl) (hpl : (backTo pos (starEach es X.env)).any (·.1) = false := by rfl) :
    DE X (.Call (.Name x p) (e :: es) [] pos) (tCB r tas) (dCB f das) := ⟨pe_callBfun hc.p hg hm ha.p hdb he hpl, sim_cb hc.s ha.s⟩
def bLen (xs : List D) (Q : D → Prop) : Prop := match xs with
  | [.list ys] => Q (.int ys.length)
  | [.tuple ys] => Q (.int ys.length)
  | [.str z] => z.length ≤ 16777216 ∧ Q (.int z.length)
  | _ => False
theorem CallR.or {f : Value} {r r' : List V → Hp → VK → Prop} (h : CallR X f r) (h' : CallR X f r') : CallR X f (fun xs H Q => r xs H Q ∨ r' xs H Q) := by
  intro pins s σ H xs us Q I rs q
  rcases q with q | q
  · exact h pins s σ H xs us Q I rs q
  · exact h' pins s σ H xs us Q I rs q
theorem views1 {K : PySem.W.Frag} {S H : Hp} {vs : List V} {x : D} (h : Views K S H vs [x]) : ∃ v, vs = [v] ∧ View K S H v x := by
  cases h with
  | cons h1 h2 => cases h2; exact ⟨_, rfl, h1⟩
theorem views2 {K : PySem.W.Frag} {S H : Hp} {vs : List V} {x y : D} (h : Views K S H vs [x, y]) : ∃ v w, vs = [v, w] ∧ View K S H v x ∧ View K S H w y := by
  cases h with
  | cons h1 h2 =>
    obtain ⟨w, rfl, h3⟩ := views1 h2
    exact ⟨_, _, rfl, h1, h3⟩
theorem View.int {K : PySem.W.Frag} {S H : Hp} {v : V} {i : Int} (h : View K S H v (.int i)) : v = .int i := dp_int (h.dat fun _ z => by cases z)
theorem View.bl {K : PySem.W.Frag} {S H : Hp} {v : V} {i : Bool} (h : View K S H v (.bool i)) : v = .bl i := dp_bl (h.dat fun _ z => by cases z)
theorem View.str {K : PySem.W.Frag} {S H : Hp} {v : V} {i : Str} (h : View K S H v (.str i)) : v = .str i := dp_str (h.dat fun _ z => by cases z)
theorem View.tup {K : PySem.W.Frag} {S H : Hp} {v : V} {ds : List D} (h : View K S H v (.tuple ds)) : ∃ p vs, v = .ref p ∧ SqT K S p vs ∧ DpAll K S vs ds := dp_tup (h.dat fun _ z => by cases z)
def rLenD (K : PySem.W.Frag) : List V → Hp → VK → Prop := fun xs H Q => (∃ p ys, xs = [.ref p] ∧ (SqL K H p ys ∨ SqT K H p ys) ∧ Q (.int ys.length) H) ∨ ∃ z, xs = [.str z] ∧ z.length ≤ sizeLine ∧ Q (.int z.length) H
theorem cd_len : CallD X (.builtin "len") (rLenD X.K) bLen := ⟨CallR.or call_len_seq call_len_str, by
  intro S H vs xs Q R e h q k
  unfold bLen at q
  split at q
  · obtain ⟨v, rfl, hv⟩ := views1 h
    obtain ⟨p, us, rfl, h1, h2⟩ := hv.list e
    exact .inl ⟨p, us, rfl, .inl h1, by rw [dpa_len h2]; exact k _ _ S H (.refl e) (.int _) q⟩
  · obtain ⟨v, rfl, hv⟩ := views1 h
    obtain ⟨p, us, rfl, h1, h2⟩ := hv.tup
    exact .inl ⟨p, us, rfl, .inr (seqT_same e h1), by rw [dpa_len h2]; exact k _ _ S H (.refl e) (.int _) q⟩
  · obtain ⟨v, rfl, hv⟩ := views1 h
    exact .inr ⟨_, by rw [hv.str], szl q.1, k _ _ S H (.refl e) (.int _) q.2⟩
  · exact q.elim⟩
def bInt (xs : List D) (Q : D → Prop) : Prop := match xs with
  | [.int i] => Q (.int i)
  | [.bool b] => Q (.int (if b then 1 else 0))
  | _ => False
theorem cd_int : CallD X (.type "int") (fun xs H Q => (∃ i, xs = [.int i] ∧ Q (.int i) H) ∨ ∃ k, xs = [.bl k] ∧ Q (.int (if k then 1 else 0)) H) bInt := ⟨call_int1, by
  intro S H vs xs Q R e h q k
  unfold bInt at q
  split at q
  · obtain ⟨v, rfl, hv⟩ := views1 h
    exact .inl ⟨_, by rw [hv.int], k _ _ S H (.refl e) (.int _) q⟩
  · obtain ⟨v, rfl, hv⟩ := views1 h
    exact .inr ⟨_, by rw [hv.bl], k _ _ S H (.refl e) (.int _) q⟩
  · exact q.elim⟩
def bAbs (xs : List D) (Q : D → Prop) : Prop := match xs with
  | [.int i] => Q (.int (if i < 0 then -i else i))
  | _ => False
theorem cd_abs : CallD X (.builtin "abs") (fun xs H Q => ∃ i, xs = [.int i] ∧ Q (.int (if i < 0 then -i else i)) H) bAbs := ⟨call_abs, by
  intro S H vs xs Q R e h q k
  unfold bAbs at q
  split at q
  · obtain ⟨v, rfl, hv⟩ := views1 h
    exact ⟨_, by rw [hv.int], k _ _ S H (.refl e) (.int _) q⟩
  · exact q.elim⟩
def bMin2 (xs : List D) (Q : D → Prop) : Prop := match xs with
  | [.int i, .int j] => Q (.int (if j < i then j else i))
  | _ => False
theorem cd_min2 (hc : X.calm = true) : CallD X (.builtin "min") (fun xs H Q => ∃ i j, xs = [.int i, .int j] ∧ Q (.int (if j < i then j else i)) H) bMin2 := ⟨call_min2 hc, by
  intro S H vs xs Q R e h q k
  unfold bMin2 at q
  split at q
  · obtain ⟨v, w, rfl, hv, hw⟩ := views2 h
    exact ⟨_, _, by rw [hv.int, hw.int], k _ _ S H (.refl e) (.int _) q⟩
  · exact q.elim⟩
def bMax2 (xs : List D) (Q : D → Prop) : Prop := match xs with
  | [.int i, .int j] => Q (.int (if j > i then j else i))
  | _ => False
theorem cd_max2 (hc : X.calm = true) : CallD X (.builtin "max") (fun xs H Q => ∃ i j, xs = [.int i, .int j] ∧ Q (.int (if j > i then j else i)) H) bMax2 := ⟨call_max2 hc, by
  intro S H vs xs Q R e h q k
  unfold bMax2 at q
  split at q
  · obtain ⟨v, w, rfl, hv, hw⟩ := views2 h
    exact ⟨_, _, by rw [hv.int, hw.int], k _ _ S H (.refl e) (.int _) q⟩
  · exact q.elim⟩
def bGcd (xs : List D) (Q : D → Prop) : Prop := match xs with
  | [.int i, .int j] => Q (.int ((Nat.gcd i.natAbs j.natAbs : Nat) : Int))
  | _ => False
theorem cd_gcd : CallD X (.builtin "math.gcd") rGcd bGcd := ⟨cr_gcd, by
  intro S H vs xs Q R e h q k
  unfold bGcd at q
  split at q
  · obtain ⟨v, w, rfl, hv, hw⟩ := views2 h
    exact ⟨_, _, by rw [hv.int, hw.int], k _ _ S H (.refl e) (.int _) q⟩
  · exact q.elim⟩
def rIsqrt : List V → Hp → VK → Prop := fun vs H Q => ∃ a : Int, vs = [.int a] ∧ 0 ≤ a ∧ a < 2 ^ 64 ∧ Q (.int ((Float64.isqrt a.toNat : Nat) : Int)) H
theorem cr_isqrt : CallR X (.builtin "math.isqrt") rIsqrt := by
  intro pins s σ H vs us Q I r h
  obtain ⟨a, rfl, h0, h1, q⟩ := h
  obtain ⟨u, rfl, ⟨t, rfl⟩⟩ : ∃ u, us = [u] ∧ RelV (.int a) u := by
    cases r with
    | cons h1 h2 => cases h2; exact ⟨_, rfl, h1⟩
  exact PySem.W.mg_isqrt h0 h1 ⟨.int _, H, I.tok _, ⟨_, rfl⟩, q⟩
/-- the whole root: any r with r r <= a < (r + 1) (r + 1) -/
def bIsqrt (xs : List D) (Q : D → Prop) : Prop := match xs with
  | [.int a] => 0 ≤ a ∧ a < 2 ^ 64 ∧ ∀ r : Int, 0 ≤ r → r * r ≤ a → a < (r + 1) * (r + 1) → Q (.int r)
  | _ => False
theorem cd_isqrt : CallD X (.builtin "math.isqrt") rIsqrt bIsqrt := ⟨cr_isqrt, by
  intro S H vs xs Q R e h q k
  unfold bIsqrt at q
  split at q
  · rename_i a
    obtain ⟨v, rfl, hv⟩ := views1 h
    obtain ⟨h0, h1, q⟩ := q
    refine ⟨a, by rw [hv.int], h0, h1, k _ _ S H (.refl e) (.int _) (q _ (Int.natCast_nonneg _) ?_ ?_)⟩
    · have := (PySem.Float64.isqrt_spec a.toNat).1
      have e2 : ((Float64.isqrt a.toNat * Float64.isqrt a.toNat : Nat) : Int) ≤ (a.toNat : Int) := Int.ofNat_le.mpr this
      rw [Int.natCast_mul] at e2
      omega
    · have := (PySem.Float64.isqrt_spec a.toNat).2
      have e2 : (a.toNat : Int) < (((Float64.isqrt a.toNat + 1) * (Float64.isqrt a.toNat + 1) : Nat) : Int) := Int.ofNat_lt.mpr this
      rw [Int.natCast_mul, Int.natCast_add] at e2
      have e3 : ((1 : Nat) : Int) = 1 := rfl
      rw [e3] at e2
      omega
  · exact q.elim⟩
/-- tuple(xs) -/
def bTuple (xs : List D) (Q : D → Prop) : Prop := match xs with
  | [.list ys] => Q (.tuple ys)
  | [.tuple ys] => Q (.tuple ys)
  | _ => False
theorem cd_tuple : CallD X (.type "tuple") (fun xs H Q => ∃ p ys, xs = [.ref p] ∧ ((SqL X.K H p ys ∧ ∀ l, H l = none → Q (.ref l) (upd H l (.tup ys))) ∨ (SqT X.K H p ys ∧ Q (.ref p) H))) bTuple := ⟨call_tuple_of, by
  intro S H vs xs Q R e h q k
  unfold bTuple at q
  split at q
  · obtain ⟨v, rfl, hv⟩ := views1 h
    obtain ⟨p, us, rfl, h1, h2⟩ := hv.list e
    refine ⟨p, us, rfl, .inl ⟨h1, fun l hl => ?_⟩⟩
    have g := Grow.new (o := .tup us) e hl
    exact k _ _ _ _ g (.tup (.of upd_same) (dpa_mono g.ss _ _ h2)) q
  · obtain ⟨v, rfl, hv⟩ := views1 h
    obtain ⟨p, us, rfl, h1, h2⟩ := hv.tup
    exact ⟨p, us, rfl, .inr ⟨seqT_same e h1, k _ _ S H (.refl e) (.tup h1 h2) q⟩⟩
  · exact q.elim⟩
/-- isinstance(x, T) -/
def tyName : D → String
  | .none => "NoneType" | .bool _ => "bool" | .int _ => "int" | .str _ => "str" | .list _ => "list" | .tuple _ => "tuple" | .dict _ => "dict"
def isT (T : String) (x : D) : Bool := if T = "int" then (tyName x == "int" || tyName x == "bool") else tyName x == T
theorem ty_of {K : PySem.W.Frag} {S H : Hp} {v : V} {x : D} (h : View K S H v x) (e : Same S H) : TyX K H v (.type (tyName x)) := by
  cases x with
  | none => rw [show v = .non from dp_non (h.dat fun _ z => by cases z)]; exact .base .non
  | bool b => rw [h.bl]; exact .base (.bl b)
  | int b => rw [h.int]; exact .base (.int b)
  | str b => rw [h.str]; exact .base (.str b)
  | list ds =>
    obtain ⟨p, us, rfl, (h1 | ⟨o, h1⟩) | ⟨o, its, n, h1, h2, _⟩, _⟩ := h.list e
    · exact .base (.lst h1)
    · exact .base (.frz h1)
    · exact .kList h1 h2
  | tuple ds =>
    obtain ⟨p, us, rfl, (h1 | ⟨o, h1⟩) | ⟨o, its, n, h1, h2, _⟩, _⟩ := h.tup
    · exact .base (.tup (e _ _ h1))
    · exact .fTuple (e _ _ h1)
    · exact .kTuple h1 h2
  | dict ds => exact absurd (h.dat fun _ z => by cases z) (fun z => by cases z)
def KitOk (T : String) : Prop := ∀ x : D, (∀ kvs, x ≠ .dict kvs) → kitB (tyName x) T = some (isT T x)
theorem kit_int : KitOk "int" := fun x hx => by
  cases x with
  | none => show kitB "NoneType" "int" = some false; decide +kernel
  | bool b => show kitB "bool" "int" = some true; decide +kernel
  | int b => show kitB "int" "int" = some true; decide +kernel
  | str b => show kitB "str" "int" = some false; decide +kernel
  | list b => show kitB "list" "int" = some false; decide +kernel
  | tuple b => show kitB "tuple" "int" = some false; decide +kernel
  | dict b => exact absurd rfl (hx b)
theorem kit_bool : KitOk "bool" := fun x hx => by
  cases x with
  | none => show kitB "NoneType" "bool" = some false; decide +kernel
  | bool b => show kitB "bool" "bool" = some true; decide +kernel
  | int b => show kitB "int" "bool" = some false; decide +kernel
  | str b => show kitB "str" "bool" = some false; decide +kernel
  | list b => show kitB "list" "bool" = some false; decide +kernel
  | tuple b => show kitB "tuple" "bool" = some false; decide +kernel
  | dict b => exact absurd rfl (hx b)
theorem kit_tuple : KitOk "tuple" := fun x hx => by
  cases x with
  | none => show kitB "NoneType" "tuple" = some false; decide +kernel
  | bool b => show kitB "bool" "tuple" = some false; decide +kernel
  | int b => show kitB "int" "tuple" = some false; decide +kernel
  | str b => show kitB "str" "tuple" = some false; decide +kernel
  | list b => show kitB "list" "tuple" = some false; decide +kernel
  | tuple b => show kitB "tuple" "tuple" = some true; decide +kernel
  | dict b => exact absurd rfl (hx b)
theorem kit_list : KitOk "list" := fun x hx => by
  cases x with
  | none => show kitB "NoneType" "list" = some false; decide +kernel
  | bool b => show kitB "bool" "list" = some false; decide +kernel
  | int b => show kitB "int" "list" = some false; decide +kernel
  | str b => show kitB "str" "list" = some false; decide +kernel
  | list b => show kitB "list" "list" = some true; decide +kernel
  | tuple b => show kitB "tuple" "list" = some false; decide +kernel
  | dict b => exact absurd rfl (hx b)
theorem kit_str : KitOk "str" := fun x hx => by
  cases x with
  | none => show kitB "NoneType" "str" = some false; decide +kernel
  | bool b => show kitB "bool" "str" = some false; decide +kernel
  | int b => show kitB "int" "str" = some false; decide +kernel
  | str b => show kitB "str" "str" = some true; decide +kernel
  | list b => show kitB "list" "str" = some false; decide +kernel
  | tuple b => show kitB "tuple" "str" = some false; decide +kernel
  | dict b => exact absurd rfl (hx b)
def dIsi (T : String) (da : DTE) : DTE := fun Γ Q => da Γ fun x => Q (.bool (isT T x))
variable {ta : TE} {da : DTE}
theorem de_isi {T : String} {y : Str} (kT : KitOk T) (hg : Gl X "isinstance") (hm : X.mg "isinstance" = none) (hg2 : Gl X y) (hm2 : X.mg y = none) (hv : bootBuiltins y = some (.type T)) (ha : DV X e ta da)
    (hn : y ≠ "__name__" := by decide) (hd : (y == ("__debug__" : Str)) = false := by decide)
    (hs1 : starEach [e, .Name y p2] X.env = (false, eval e X.env) :: starEach [.Name y p2] X.env := by rfl) :
    DE X (.Call (.Name "isinstance" p) [e, .Name y p2] [] pos) (tCB (rIsi X.K) (tCons ta (tCons (tC (.ty T)) tNil))) (dIsi T da) :=
  ⟨pe_callB call_isi hg hm (by decide +kernel) (pa_cons ha.p (pa_cons (pe_bltn hg2 hm2 hv rfl hn hd) pa_nil) hs1) (by decide) (by decide) hs1 (by rfl), by
    intro H0 S0 Γ S σ H Q R r q k
    refine ha.s H0 S0 Γ S σ H _ _ r q fun v x S1 H1 g1 d1 q1 => ?_
    have hx : ∀ kvs, x ≠ .dict kvs := fun kvs z => by
      subst z
      exact absurd (d1.dat fun _ z => by cases z) (fun z => by cases z)
    exact ⟨v, .ty T, _, _, _, rfl, .ty T, ty_of d1 g1.sh, kit_ty (kT x hx), k _ _ S1 H1 g1 (.bl _) q1⟩⟩
/-- x.bit_length() -/
def bBits (x : D) (Q : D → Prop) : Prop := match x with
  | .int i => Q (.int (Builtin.Int.intBits i : Nat))
  | _ => False
theorem de_bits {apos : Pos} (ha : DE X e ta da) (hbase : attributeBase e "bit_length" X.env (eval e X.env) = eval e X.env := by rfl) (hline : (apos.endLine == pos.line) = true := by rfl) :
    DE X (.Call (.Attribute e "bit_length" apos) [] [] pos) (tBits ta) (dUn bBits da) := ⟨pe_bits ha.p hbase hline, by
    intro H0 S0 Γ S σ H Q R r q k
    refine ha.s H0 S0 Γ S σ H _ _ r q fun v x S1 H1 g1 d1 q1 => ?_
    unfold bBits at q1
    split at q1
    · exact ⟨_, dp_int d1, k _ _ S1 H1 g1 (.int _) q1⟩
    · exact q1.elim⟩
end
end PD
namespace PD
open PySem L2

/-! ### promises over data -/
structure Con where
  pre : List D → Prop
  post : List D → D → Prop
def spD (K : PySem.W.Frag) (c : Con) : Sp := fun vs H Q _ => ∃ ds S, Same S H ∧ DpAll K S vs ds ∧ c.pre ds ∧ ∀ v x S' H', Grow S H S' H' → Dp K S' v x → c.post ds x → Q v H'
section
variable {X : Cx} {k : Nat} {f : Addr} {fd : FuncData} {ps : List Str} {c : Con} {x : Str} {p pos : Pos} {e : Expr} {es : List Expr} {tas : TA} {das : DTL}
def dCall (c : Con) (das : DTL) : DTE := fun Γ Q => das Γ fun xs => c.pre xs ∧ ∀ x, c.post xs x → Q x
theorem de_call (F : FnOk X.prog X.w X.K X.mg X.base CX0 k f fd ps (spD X.K c)) (hr : Room k X.A) (hg : Gl X x) (hm : X.mg x = some (.ref f)) (hk : PySem.W.keepIn X.K (.ref f) = true) (hb : Binds X.K fd ps []) (ha : DA X (e :: es) tas das)
    (hdb : (x == ("__debug__" : Str)) = false := by decide) (he : starEach (e :: es) X.env = (false, eval e X.env) :: starEach es X.env := by rfl) (hpl : (backTo pos (starEach es X.env)).any (·.1) = false := by rfl) :
    DE X (.Call (.Name x p) (e :: es) [] pos) (tCall (spD X.K c) [] E0 tas) (dCall c das) := ⟨pe_call F hr hg hm hk hb .nil pass0 ha.p hdb he hpl, by
  intro H0 S0 Γ S σ H Q R r q kk
  refine ha.s H0 S0 Γ S σ H _ _ r q fun vs xs S1 H1 g1 d1 q1 => ?_
  refine ⟨xs, S1, g1.sh, by rw [List.append_nil]; exact d1, q1.1, fun v z S' H' g dz pz => kk v z S' H' (g1.trans g) dz (q1.2 z pz)⟩⟩
theorem de_call0 (F : FnOk X.prog X.w X.K X.mg X.base CX0 k f fd ps (spD X.K c)) (hr : Room k X.A) (hg : Gl X x) (hm : X.mg x = some (.ref f)) (hk : PySem.W.keepIn X.K (.ref f) = true) (hb : Binds X.K fd ps [])
    (hdb : (x == ("__debug__" : Str)) = false := by decide) :
    DE X (.Call (.Name x p) [] [] pos) (tCall (spD X.K c) [] E0 tNil) (dCall c dNil) := ⟨pe_call0 F hr hg hm hk hb .nil pass0 hdb, by
  intro H0 S0 Γ S σ H Q R r q kk
  exact ⟨[], S, r.sh, .nil, q.1, fun v z S' H' g dz pz => kk v z S' H' g dz (q.2 z pz)⟩⟩
theorem views_lend {K : PySem.W.Frag} {S H : Hp} (e : Same S H) {vs : List V} {xs : List D} (h : Views K S H vs xs) : ∃ S', Same S S' ∧ Same S' H ∧ DpAll K S' vs xs := by
  induction h with
  | nil => exact ⟨S, Same.refl S, e, .nil⟩
  | @cons v vs x xs h1 _ ih =>
    obtain ⟨S1, e1, e2, d⟩ := ih
    rcases h1 with h1 | ⟨p, us, ds, rfl, rfl, h3, h4⟩
    · exact ⟨S1, e1, e2, .cons (dp_mono e1 _ _ h1) d⟩
    · have ss : Same S1 (upd S1 p (.lst us)) := fun b o q => by
        by_cases hb : b = p
        · subst hb
          rw [upd_same, ← e2 b o q]; exact h3.symm
        · rw [upd_ne hb]; exact q
      refine ⟨upd S1 p (.lst us), e1.trans ss, fun b o q => ?_, .cons (.lst (.of upd_same) (dpa_mono (e1.trans ss) _ _ h4)) (dpa_mono ss _ _ d)⟩
      by_cases hb : b = p
      · subst hb
        rw [upd_same] at q; rw [h3]; exact q
      · rw [upd_ne hb] at q; exact e2 b o q
/-- own lists may be handed where flat data comes back -/
def dCallF (c : Con) (das : DTL) : DTE := fun Γ Q => das Γ fun xs => c.pre xs ∧ ∀ x, c.post xs x → flat x = true ∧ Q x
theorem de_callV (F : FnOk X.prog X.w X.K X.mg X.base CX0 k f fd ps (spD X.K c)) (hr : Room k X.A) (hg : Gl X x) (hm : X.mg x = some (.ref f)) (hk : PySem.W.keepIn X.K (.ref f) = true) (hb : Binds X.K fd ps []) (ha : DVA X (e :: es) tas das)
    (hdb : (x == ("__debug__" : Str)) = false := by decide) (he : starEach (e :: es) X.env = (false, eval e X.env) :: starEach es X.env := by rfl) (hpl : (backTo pos (starEach es X.env)).any (·.1) = false := by rfl) :
    DE X (.Call (.Name x p) (e :: es) [] pos) (tCall (spD X.K c) [] E0 tas) (dCallF c das) := ⟨pe_call F hr hg hm hk hb .nil pass0 ha.p hdb he hpl, by
  intro H0 S0 Γ S σ H Q R r q kk
  refine ha.s H0 S0 Γ S σ H _ _ r q fun vs xs S1 H1 g1 d1 q1 => ?_
  obtain ⟨S2, e1, e2, d2⟩ := views_lend g1.sh d1
  refine ⟨xs, S2, e2, by rw [List.append_nil]; exact d2, q1.1, fun v z S' H' g dz pz => ?_⟩
  obtain ⟨hf, qz⟩ := q1.2 z pz
  have g2 : Grow S1 H1 S1 H' := ⟨g.hh, Same.refl _, g1.sh.trans g.hh, fun a q => .inl q⟩
  exact kk v z S1 H' (g1.trans g2) (dp_flat hf dz) qz⟩
end

/-! ### statements -/
section
variable {X : Cx} {st : Stmt} {rest : List Stmt} {t u : TS} {d du : DTS} {e a b c i : Expr} {te ta tb ti : TE} {de da db di : DTE} {dl : DTL} {pos : Pos} {tt : TT} {dt : DTT}
def dNext : DTS := fun E Γ => E.nx Γ
def dSeq (d du : DTS) : DTS := fun E Γ => d { nx := du E, rt := E.rt, bk := E.bk, ct := E.ct } Γ
theorem dss_nil : DSs X [] tNext dNext := ⟨pss_nil, fun H0 S0 Γ S σ H E T r q k => k.nx _ _ _ _ r q⟩
theorem dss_one (h : DS X st t d) : DSs X [st] t d := ⟨pss_one h.p, h.s⟩
theorem sim_seq {K : PySem.W.Frag} (h1 : SimS K t d) (h2 : SimS K u du) : SimS K (tSeq t u) (dSeq d du) := by
  intro H0 S0 Γ S σ H E T r q k
  exact h1 H0 S0 Γ S σ H _ _ r q ⟨fun Γ' S' σ' H' r' q' => h2 H0 S0 Γ' S' σ' H' E T r' q' k, k.bk, k.ct, k.rt⟩
theorem dss_cons (h1 : DS X st t d) (h2 : DSs X rest u du) : DSs X (st :: rest) (tSeq t u) (dSeq d du) := ⟨pss_cons h1.p h2.p, sim_seq h1.s h2.s⟩
def dNever : DTS := fun _ _ => False
theorem ds_never : DS X st tNever dNever := ⟨ps_never, fun _ _ _ _ _ _ _ _ _ q _ => q.elim⟩
theorem ds_pass : DS X (.Pass pos) tNext dNext := ⟨ps_pass, fun H0 S0 Γ S σ H E T r q k => k.nx _ _ _ _ r q⟩
def dBreak : DTS := fun E Γ => E.bk Γ
def dCont : DTS := fun E Γ => E.ct Γ
theorem ds_break : DS X (.Break pos) tBreak dBreak := ⟨ps_break, fun H0 S0 Γ S σ H E T r q k => k.bk _ _ _ _ r q⟩
theorem ds_cont : DS X (.Continue pos) tCont dCont := ⟨ps_continue, fun H0 S0 Γ S σ H E T r q k => k.ct _ _ _ _ r q⟩
def dRet (de : DTE) : DTS := fun E Γ => de Γ E.rt
theorem ds_ret (h : DE X e te de) : DS X (.Return (some e) pos) (tRet te) (dRet de) := ⟨ps_ret h.p, fun H0 S0 Γ S σ H E T r q k =>
  h.s H0 S0 Γ S σ H _ _ r q fun v x S' H' g dx qx => k.rt v x S' H' (r.all.trans g) dx qx⟩
def dRetN : DTS := fun E _ => E.rt .none
theorem ds_retN : DS X (.Return none pos) tRetN dRetN := ⟨ps_retN, fun H0 S0 Γ S σ H E T r q k => k.rt .non .none S H r.all .non q⟩
def dIf (dt : DTT) (d du : DTS) : DTS := fun E Γ => dt Γ fun c => if c = true then d E Γ else du E Γ
theorem ds_if {s1 s2 : List Stmt} (hc : DT X c tt dt) (ha : DSs X s1 t d) (hb : DSs X s2 u du) : DS X (.If c s1 s2 pos) (tIfS tt t u) (dIf dt d du) := ⟨ps_if hc.p ha.p hb.p, fun H0 S0 Γ S σ H E T r q k => by
  refine hc.s H0 S0 Γ S σ H _ _ r q fun c S1 H1 g1 q1 => ?_
  cases c with
  | true => exact ha.s H0 S0 Γ S1 σ H1 E T (r.grow g1) q1 k
  | false => exact hb.s H0 S0 Γ S1 σ H1 E T (r.grow g1) q1 k⟩
def dDrop (de : DTE) : DTS := fun E Γ => de Γ fun _ => E.nx Γ
theorem ds_expr (h : DE X e te de) (hs : swapsWith e none pos.line X.env = pure false := by rfl) : DS X (.Expr e pos) (tDrop te) (dDrop de) := ⟨ps_expr h.p hs, fun H0 S0 Γ S σ H E T r q k =>
  h.s H0 S0 Γ S σ H _ _ r q fun v x S' H' g dx qx => k.nx _ _ _ _ (r.grow g) qx⟩
/-- an own list becomes data, between two statements -/
def dFreeze (i : Nat) (d : DTS) : DTS := fun E Γ => match lk Γ i with
  | some (.own ds) => d E (put Γ i (some (.dat (.list ds))))
  | _ => False
theorem dss_freeze {sts : List Stmt} (i : Nat) (h : DSs X sts t d) : DSs X sts t (dFreeze i d) := ⟨h.p, fun H0 S0 Γ S σ H E T r q k => by
  unfold dFreeze at q
  split at q
  · rename_i ds hd
    obtain ⟨S', r'⟩ := r.freeze hd
    exact h.s H0 S0 _ S' σ H E T r' q k
  · exact q.elim⟩

/-! targets -/
abbrev DTG := D → Env → (Env → Prop) → Prop
def SimG (K : PySem.W.Frag) (g : TG) (dg : DTG) : Prop := ∀ (H0 S0 : Hp) (Γ : Env) (S : Hp) (σ : L2.St) (H : Hp) (v : V) (x : D) (Q : Env → Prop) (R : L2.St → Hp → Prop), Rel K H0 S0 Γ S σ H → Dp K S v x → dg x Γ Q →
  (∀ Γ' σ', Rel K H0 S0 Γ' S σ' H → Q Γ' → R σ' H) → g v σ H R
abbrev DTGs := List D → Env → (Env → Prop) → Prop
def SimGs (K : PySem.W.Frag) (g : TGs) (dg : DTGs) : Prop := ∀ (H0 S0 : Hp) (Γ : Env) (S : Hp) (σ : L2.St) (H : Hp) (vs : List V) (xs : List D) (Q : Env → Prop) (R : L2.St → Hp → Prop), Rel K H0 S0 Γ S σ H → DpAll K S vs xs → dg xs Γ Q →
  (∀ Γ' σ', Rel K H0 S0 Γ' S σ' H → Q Γ' → R σ' H) → g vs σ H R
structure DG (X : Cx) (tg : Expr) (g : TG) (dg : DTG) : Prop where
  p : PG X tg g
  s : SimG X.K g dg
structure DGs (X : Cx) (tg : List Expr) (g : TGs) (dg : DTGs) : Prop where
  p : PGs X tg g
  s : SimGs X.K g dg
def dgName (i : Nat) : DTG := fun x Γ Q => Q (put Γ i (some (.dat x)))
theorem dg_name {i : Nat} {x : Str} (hN : X.N.Nodup) (hi : X.N[i]? = some x := by rfl) (hx : Loc X.env.scope x := by first | exact Or.inl rfl | exact Or.inr rfl) (hf : X.fn x = true ∨ X.env.scope.names.lookup x = some .local := by first | exact .inl rfl | exact .inr rfl | assumption) :
    DG X (.Name x pos) (gName i) (dgName i) := ⟨pg_name hN hi hx hf, fun H0 S0 Γ S σ H v x Q R r dx q k => k _ _ (r.setD i dx) q⟩
variable {tg : Expr} {tgs : List Expr} {g : TG} {dg : DTG} {gs : TGs} {dgs : DTGs}
def dgNil : DTGs := fun xs Γ Q => xs = [] ∧ Q Γ
def dgCons (dg : DTG) (dgs : DTGs) : DTGs := fun xs Γ Q => match xs with
  | x :: xs => dg x Γ fun Γ' => dgs xs Γ' Q
  | [] => False
theorem dgs_nil : DGs X [] gNil dgNil := ⟨pgs_nil, fun H0 S0 Γ S σ H vs xs Q R r dx q k => by
  obtain ⟨rfl, q⟩ := q
  cases dx
  exact ⟨rfl, k _ _ r q⟩⟩
theorem dgs_cons (h1 : DG X tg g dg) (h2 : DGs X tgs gs dgs) (hs : (assignEach (tg :: tgs) X.env).map (·.2) = assign tg X.env :: (assignEach tgs X.env).map (·.2) := by rfl) : DGs X (tg :: tgs) (gCons g gs) (dgCons dg dgs) :=
  ⟨pgs_cons h1.p h2.p hs, fun H0 S0 Γ S σ H vs xs Q R r dx q k => by
    cases xs with
    | nil => exact q.elim
    | cons x xs =>
      cases dx with
      | cons d1 d2 =>
        exact ⟨_, _, rfl, h1.s H0 S0 Γ S σ H _ x _ _ r d1 q fun Γ' σ' r' q' => h2.s H0 S0 Γ' S σ' H _ xs Q R r' d2 q' k⟩⟩
def dgTup (n : Nat) (dgs : DTGs) : DTG := fun x Γ Q => match x with
  | .tuple xs => xs.length = n ∧ dgs xs Γ Q
  | _ => False
theorem dg_tup {k n : Nat} (hc : X.calm = true) (h : DGs X tgs gs dgs) (hn : (assignEach tgs X.env).length = n := by rfl) (hst : (assignEach tgs X.env).findIdx? (·.1) = none := by rfl) : DG X (.Tuple tgs k pos) (gTup X.K n gs) (dgTup n dgs) :=
  ⟨pg_tup hc h.p hn hst, fun H0 S0 Γ S σ H v x Q R r dx q k => by
    unfold dgTup at q
    split at q
    · obtain ⟨p, vs, rfl, h1, h2⟩ := dp_tup dx
      exact ⟨p, vs, rfl, seqT_same r.sh h1, by rw [dpa_len h2]; exact q.1, h.s H0 S0 Γ S σ H _ _ Q R r h2 q.2 k⟩
    · exact q.elim⟩
/-- a list or a tuple taken apart -/
def dgSq (n : Nat) (dgs : DTGs) : DTG := fun x Γ Q => match x with
  | .tuple xs => xs.length = n ∧ dgs xs Γ Q
  | .list xs => xs.length = n ∧ dgs xs Γ Q
  | _ => False
theorem pg_or {tg : Expr} {g g' : TG} (h : PG X tg g) (h' : PG X tg g') : PG X tg (fun v σ H Q => g v σ H Q ∨ g' v σ H Q) := ⟨fun pins s σ H v u Q I r q => by
  rcases q with q | q
  · exact h.run pins s σ H v u Q I r q
  · exact h'.run pins s σ H v u Q I r q⟩
theorem dg_sq {k n : Nat} (hc : X.calm = true) (h : DGs X tgs gs dgs) (hn : (assignEach tgs X.env).length = n := by rfl) (hst : (assignEach tgs X.env).findIdx? (·.1) = none := by rfl) :
    DG X (.Tuple tgs k pos) (fun v σ H Q => gTup X.K n gs v σ H Q ∨ gUnl X.K n gs v σ H Q) (dgSq n dgs) :=
  ⟨pg_or (pg_tup hc h.p hn hst) (pg_unl hc h.p hn hst), fun H0 S0 Γ S σ H v x Q R r dx q k => by
    unfold dgSq at q
    split at q
    · obtain ⟨p, vs, rfl, h1, h2⟩ := dp_tup dx
      exact .inl ⟨p, vs, rfl, seqT_same r.sh h1, by rw [dpa_len h2]; exact q.1, h.s H0 S0 Γ S σ H _ _ Q R r h2 q.2 k⟩
    · obtain ⟨p, vs, rfl, h1, h2⟩ := dp_list dx
      exact .inr ⟨p, vs, rfl, r.sh.seq h1, by rw [dpa_len h2]; exact q.1, h.s H0 S0 Γ S σ H _ _ Q R r h2 q.2 k⟩
    · exact q.elim⟩
/-- target = value -/
def dAsg (de : DTE) (dg : DTG) : DTS := fun E Γ => de Γ fun x => dg x Γ E.nx
theorem sim_asg {K : PySem.W.Frag} (he : SimE K te de) (hg : SimG K g dg) : SimS K (tAsg te g) (dAsg de dg) := fun H0 S0 Γ S σ H E T r q k =>
  he H0 S0 Γ S σ H _ _ r q fun v x S' H' g dx qx => hg H0 S0 Γ S' σ H' v x _ _ (r.grow g) dx qx fun Γ' σ' r' q' => k.nx _ _ _ _ r' q'
theorem ds_asg (he : DE X e te de) (hg : DG X tg g dg) (hs : swapsWithSole [tg] e pos.line X.env = pure false := by rfl) (hw : swappedStores [tg] e X.env = pure none := by rfl)
    (h1 : (assignEach [tg] X.env).map (·.2) = [assign tg X.env] := by rfl) : DS X (.Assign [tg] e pos) (tAsg te g) (dAsg de dg) := ⟨ps_asg he.p hg.p hs hw h1, sim_asg he.s hg.s⟩
def dSet (i : Nat) (de : DTE) : DTS := fun E Γ => de Γ fun x => E.nx (put Γ i (some (.dat x)))
theorem ds_set {i : Nat} {x : Str} {pos' : Pos} (hN : X.N.Nodup) (he : DE X e te de) (hi : X.N[i]? = some x := by rfl) (hx : Loc X.env.scope x := by first | exact Or.inl rfl | exact Or.inr rfl) (hs : swapsWith e (some (.Name x pos')) pos.line X.env = pure false := by rfl)
    (hf : X.fn x = true ∨ X.env.scope.names.lookup x = some .local := by first | exact .inl rfl | exact .inr rfl | assumption) : DS X (.Assign [.Name x pos'] e pos) (tAsg te (gName i)) (dSet i de) :=
  ⟨ps_set hN hi hx he.p hs hf, sim_asg (dg := dgName i) he.s fun H0 S0 Γ S σ H v x Q R r dx q k => k _ _ (r.setD i dx) q⟩
/-- a name gets a new list of its own -/
def dSetO (i : Nat) (dl : DTL) : DTS := fun E Γ => dl Γ fun xs => E.nx (put Γ i (some (.own xs)))
theorem sim_setO {K : PySem.W.Frag} {i : Nat} (h : SimL K te dl) : SimS K (tAsg te (gName i)) (dSetO i dl) := fun H0 S0 Γ S σ H E T r q k =>
  h H0 S0 Γ S σ H _ _ r q fun p vs xs S' H' g hp dx qx => k.nx _ _ _ _ ((r.grow g).setO i hp dx) qx
theorem ds_setO {i : Nat} {x : Str} {pos' : Pos} (hN : X.N.Nodup) (he : DL X e te dl) (hi : X.N[i]? = some x := by rfl) (hx : Loc X.env.scope x := by first | exact Or.inl rfl | exact Or.inr rfl) (hs : swapsWith e (some (.Name x pos')) pos.line X.env = pure false := by rfl)
    (hf : X.fn x = true ∨ X.env.scope.names.lookup x = some .local := by first | exact .inl rfl | exact .inr rfl | assumption) : DS X (.Assign [.Name x pos'] e pos) (tAsg te (gName i)) (dSetO i dl) :=
  ⟨ps_set hN hi hx he.p hs hf, sim_setO he.s⟩
/-- x = y, y a list of its own: the list goes to x alone, or becomes data -/
def dMove (i j : Nat) : DTS := fun E Γ => match lk Γ j with
  | some (.own ds) => E.nx (put (put Γ j none) i (some (.own ds))) ∨ E.nx (put (put Γ j (some (.dat (.list ds)))) i (some (.dat (.list ds))))
  | _ => False
theorem sim_move {K : PySem.W.Frag} {i j : Nat} (hij : i ≠ j) : SimS K (tAsg (tVar j) (gName i)) (dMove i j) := fun H0 S0 Γ S σ H E T r q k => by
  unfold dMove at q
  split at q
  · rename_i ds hd
    rcases q with q | q
    · obtain ⟨p, vs, h1, h2, h3, h4, h5, h6⟩ := r.own j ds hd
      refine ⟨.ref p, h1, k.nx _ S _ H ?_ q⟩
      have r1 := r.dropSet j none
      have r2 := r.drop j
      refine ⟨by rw [put_len, put_len, List.length_set]; exact r.len, r.s0, r.sh, r.h0, r.fr, fun l d' e => ?_, fun l es e => ?_⟩
      · have hl : l ≠ i := fun z => by
          subst z
          rcases lk_put_same' (put Γ j none) l (some (.own ds)) with z | z <;> rw [z] at e <;> cases e
        rw [lk_put_ne _ _ _ _ hl] at e
        rw [List.getElem?_set_ne (Ne.symm hl)]
        exact r2.dat l d' e
      · by_cases hl : l = i
        · subst hl
          have hlt := lk_lt _ _ _ e
          rw [lk_put_same _ _ _ (by rw [put_len] at hlt; exact hlt)] at e
          cases e
          rw [put_len, put_len] at hlt
          refine ⟨p, vs, List.getElem?_set_self (by rw [← r.len]; exact hlt), h2, h3, h4, h5, fun m es e1 e2 => ?_⟩
          by_cases hm : m = l
          · exact hm
          · rw [lk_put_ne _ _ _ _ hm] at e1
            have hmj : m ≠ j := fun z => by
              subst z
              rcases lk_put_same' Γ m none with z | z <;> rw [z] at e1 <;> cases e1
            rw [lk_put_ne _ _ _ _ hmj] at e1
            rw [List.getElem?_set_ne (Ne.symm hm)] at e2
            exact absurd (h6 m es e1 e2) hmj
        · rw [lk_put_ne _ _ _ _ hl] at e
          have hlj : l ≠ j := fun z => by
            subst z
            rcases lk_put_same' Γ l none with z | z <;> rw [z] at e <;> cases e
          rw [lk_put_ne _ _ _ _ hlj] at e
          obtain ⟨p', vs', g1, g2, g3, g4, g5, g6⟩ := r.own l es e
          refine ⟨p', vs', by rw [List.getElem?_set_ne (Ne.symm hl)]; exact g1, g2, g3, g4, g5, fun m es' e1 e2 => ?_⟩
          by_cases hm : m = i
          · subst hm
            rw [List.getElem?_set_self (by have := lk_lt _ _ _ e1; rw [put_len, put_len] at this; rw [← r.len]; exact this)] at e2
            cases e2
            exact absurd (h6 l es e g1) hlj
          · rw [lk_put_ne _ _ _ _ hm] at e1
            have hmj : m ≠ j := fun z => by
              subst z
              rcases lk_put_same' Γ m none with z | z <;> rw [z] at e1 <;> cases e1
            rw [lk_put_ne _ _ _ _ hmj] at e1
            rw [List.getElem?_set_ne (Ne.symm hm)] at e2
            exact g6 m es' e1 e2
    · obtain ⟨S', r'⟩ := r.freeze hd
      have hl := lk_lt _ _ _ hd
      obtain ⟨v, h1, h2⟩ := r'.dat j _ (lk_put_same Γ j _ hl)
      exact ⟨v, h1, k.nx _ S' _ H (r'.setD i h2) q⟩
  · exact q.elim
theorem ds_move {i j : Nat} {x y : Str} {pos' pos2 : Pos} (hij : i ≠ j) (hN : X.N.Nodup) (hj : X.N[j]? = some y := by rfl) (hv : Vis X.env.scope y := by first | exact Or.inl rfl | exact Or.inr (Or.inl rfl)) (hi : X.N[i]? = some x := by rfl) (hx : Loc X.env.scope x := by first | exact Or.inl rfl | exact Or.inr rfl)
    (hd : (y == ("__debug__" : Str)) = false := by decide) (hcd : (y == ("__classdict__" : Str)) = false := by decide)
    (hf : X.fn x = true ∨ X.env.scope.names.lookup x = some .local := by first | exact .inl rfl | exact .inr rfl | assumption) : DS X (.Assign [.Name x pos'] (.Name y pos2) pos) (tAsg (tVar j) (gName i)) (dMove i j) :=
  ⟨ps_set hN hi hx (pe_var hj hv hd hcd) rfl hf, sim_move hij⟩
/-- a, b = x, y -/
def dPar (i j : Nat) (das : DTL) : DTS := fun E Γ => das Γ fun xs => match xs with
  | [x, y] => E.nx (put (put Γ i (some (.dat x))) j (some (.dat y)))
  | _ => False
theorem ds_par {i j : Nat} {x y : Str} {tas : TA} {das : DTL} {px py pt : Pos} {kt k2 : Nat} {pt2 : Pos} (hc : X.calm = true) (hN : X.N.Nodup) (hij : i ≠ j) (ha : DA X [a, b] tas das)
    (hi : X.N[i]? = some x := by rfl) (hj : X.N[j]? = some y := by rfl) (hx : X.env.scope.names.lookup x = some .local := by rfl) (hy : X.env.scope.names.lookup y = some .local := by rfl)
    (hw : swappedStores [.Tuple [.Name x px, .Name y py] kt pt] (.Tuple [a, b] k2 pt2) X.env = pure (some [x, y]) := by rfl)
    (hs : swapsWithSole [.Tuple [.Name x px, .Name y py] kt pt] (.Tuple [a, b] k2 pt2) pos.line X.env = pure false := by rfl) :
    DS X (.Assign [.Tuple [.Name x px, .Name y py] kt pt] (.Tuple [a, b] k2 pt2) pos) (tPar i j tas) (dPar i j das) := ⟨ps_par hc hN hi hj hij hx hy ha.p hw hs, fun H0 S0 Γ S σ H E T r q k => by
  refine ha.s H0 S0 Γ S σ H _ _ r q fun vs xs S1 H1 g1 d1 q1 => ?_
  split at q1
  · rename_i x' y'
    cases d1 with
    | cons h1 h2 =>
      cases h2 with
      | cons h2 h3 =>
        cases h3
        exact ⟨_, _, rfl, k.nx _ _ _ _ (((r.grow g1).setD i h1).setD j h2) q1⟩
  · exact q1.elim⟩
def dPar3 (i j l : Nat) (das : DTL) : DTS := fun E Γ => das Γ fun xs => match xs with
  | [x, y, z] => E.nx (put (put (put Γ i (some (.dat x))) j (some (.dat y))) l (some (.dat z)))
  | _ => False
theorem ds_par3 {i j l : Nat} {x y z : Str} {tas : TA} {das : DTL} {px py pz pt : Pos} {kt k2 : Nat} {pt2 : Pos} (hc : X.calm = true) (hN : X.N.Nodup) (hij : i ≠ j) (hil : i ≠ l) (hjl : j ≠ l) (ha : DA X [a, b, c] tas das)
    (hi : X.N[i]? = some x := by rfl) (hj : X.N[j]? = some y := by rfl) (hl : X.N[l]? = some z := by rfl) (hx : X.env.scope.names.lookup x = some .local := by rfl) (hy : X.env.scope.names.lookup y = some .local := by rfl) (hz : X.env.scope.names.lookup z = some .local := by rfl)
    (hw : swappedStores [.Tuple [.Name x px, .Name y py, .Name z pz] kt pt] (.Tuple [a, b, c] k2 pt2) X.env = pure (some [x, y, z]) := by rfl)
    (hs : swapsWithSole [.Tuple [.Name x px, .Name y py, .Name z pz] kt pt] (.Tuple [a, b, c] k2 pt2) pos.line X.env = pure false := by rfl) :
    DS X (.Assign [.Tuple [.Name x px, .Name y py, .Name z pz] kt pt] (.Tuple [a, b, c] k2 pt2) pos) (tPar3 i j l tas) (dPar3 i j l das) := ⟨ps_par3 hc hN hi hj hl hij hil hjl hx hy hz ha.p hw hs, fun H0 S0 Γ S σ H E T r q k => by
  refine ha.s H0 S0 Γ S σ H _ _ r q fun vs xs S1 H1 g1 d1 q1 => ?_
  split at q1
  · rename_i x' y' z'
    cases d1 with
    | cons h1 h2 =>
      cases h2 with
      | cons h2 h3 =>
        cases h3 with
        | cons h3 h4 =>
          cases h4
          exact ⟨_, _, _, rfl, k.nx _ _ _ _ ((((r.grow g1).setD i h1).setD j h2).setD l h3) q1⟩
  · exact q1.elim⟩
/-- xs.append(e), xs a list of the def's own -/
def dApp (i : Nat) (de : DTE) : DTS := fun E Γ => match lk Γ i with
  | some (.own ds) => de Γ fun x => ds.length < 16777216 ∧ E.nx (put Γ i (some (.own (ds ++ [x]))))
  | _ => False
theorem szlt {n : Nat} (h : n < 16777216) : n < sizeLine := Nat.lt_of_lt_of_le h (by rw [PySem.sizeLine_eq]; exact Nat.le_refl _)
theorem sim_app {K : PySem.W.Frag} {i : Nat} (he : SimE K te de) : SimS K (tDrop (tBM K "list" rAppend (tVar i) (tCons te tNil))) (dApp i de) := fun H0 S0 Γ S σ H E T r q k => by
  unfold dApp at q
  split at q
  · rename_i ds hd
    obtain ⟨p, vs, h1, h2, h3, h4, h5, h6⟩ := r.own i ds hd
    refine ⟨.ref p, h1, .inl ⟨rfl, _, .of h2⟩, ?_⟩
    refine he H0 S0 Γ S σ H _ _ r q fun v x S' H' g dx ⟨hl, qx⟩ => ?_
    have h2' := g.hh _ _ h2
    exact ⟨p, vs, v, rfl, rfl, h2', szlt (by rw [dpa_len h3]; exact hl), k.nx _ _ _ _ ((r.grow g).updO hd h1 (dpa_app (dpa_mono g.ss _ _ h3) (dpa_one dx))) qx⟩
  · exact q.elim
theorem ds_app {i : Nat} {x : Str} {p1 p2 p3 : Pos} (he : DE X e te de) (hN : X.N[i]? = some x := by rfl) (hv : Vis X.env.scope x := by first | exact Or.inl rfl | exact Or.inr (Or.inl rfl) | exact Or.inr (Or.inr rfl)) (hd : (x == ("__debug__" : Str)) = false := by decide)
    (hcd : (x == ("__classdict__" : Str)) = false := by decide) (hs1 : starEach [e] X.env = (false, eval e X.env) :: starEach [] X.env := by rfl)
    (hbase : attributeBase (.Name x p1) "append" X.env (eval (.Name x p1) X.env) = eval (.Name x p1) X.env := by rfl)
    (hfew : ((backTo p3 (starEach [e] X.env)).all (fun x => !x.1) && (backToKw p3 (keywordEach [] X.env)).all (fun x => x.1.isSome)
      && decide ([e].length + ([] : List Keyword).length + (if ([] : List Keyword).isEmpty then 0 else 1) < 30)) = true := by rfl)
    (hline : (p2.endLine == p3.line) = true := by rfl) :
    DS X (.Expr (.Call (.Attribute (.Name x p1) "append" p2) [e] [] p3) pos) (tDrop (tBM X.K "list" rAppend (tVar i) (tCons te tNil))) (dApp i de) :=
  ⟨ps_expr (pe_bm PySem.F.plainAttrs_list PySem.F.slot_list_append PySem.F.type_list_append mt_append (pe_var hN hv hd hcd) (pa_cons he.p pa_nil hs1) hbase hfew hline hs1 (by rfl)) (by rfl), sim_app he.s⟩
/-- xs[k] = e, xs a list of the def's own -/
def dPutI (i : Nat) (dk de : DTE) : DTS := fun E Γ => match lk Γ i with
  | some (.own ds) => de Γ fun x => dk Γ fun y => match y with
    | .int k => ∃ j, ixN ds.length k = some j ∧ E.nx (put Γ i (some (.own (ds.set j x))))
    | _ => False
  | _ => False
theorem sim_putI {K : PySem.W.Frag} {i : Nat} (he : SimE K te de) (hi : SimE K ti di) : SimS K (tAsg te (gSub (tVar i) ti rSetL)) (dPutI i di de) := fun H0 S0 Γ S σ H E T r q k => by
  unfold dPutI at q
  split at q
  · rename_i ds hd
    obtain ⟨p, vs, h1, h2, h3, h4, h5, h6⟩ := r.own i ds hd
    refine he H0 S0 Γ S σ H _ _ r q fun v x S' H' g dx qx => ?_
    refine ⟨.ref p, h1, ?_⟩
    refine hi H0 S0 Γ S' σ H' _ _ (r.grow g) qx fun w y S2 H2 g2 dy qy => ?_
    split at qy
    · rename_i kk
      obtain ⟨j, hj, qy⟩ := qy
      have g' := g.trans g2
      exact ⟨p, vs, kk, j, rfl, dp_int dy, g'.hh _ _ h2, by rw [dpa_len h3]; exact hj, k.nx _ _ _ _ ((r.grow g').updO hd h1 (dpa_set j (dpa_mono g'.ss _ _ h3) (dp_mono g2.ss _ _ dx))) qy⟩
    · exact qy.elim
  · exact q.elim
theorem ds_putI {j : Nat} {x : Str} {p1 p2 : Pos} (he : DE X e te de) (hi : DE X i ti di) (hN : X.N[j]? = some x := by rfl) (hv : Vis X.env.scope x := by first | exact Or.inl rfl | exact Or.inr (Or.inl rfl) | exact Or.inr (Or.inr rfl)) (hd : (x == ("__debug__" : Str)) = false := by decide)
    (hcd : (x == ("__classdict__" : Str)) = false := by decide)
    (ha : ∀ v, assign (.Subscript (.Name x p1) i p2) X.env v = (do
      let ov ← holding [v] (eval (.Name x p1) X.env)
      let iv ← holding [v, ov] (eval i X.env)
      standAt p2
      holding [v, ov, iv] (setItem ov iv v)
      release [v, ov, iv] []) := by intro _; rfl)
    (hs : swapsWithSole [.Subscript (.Name x p1) i p2] e pos.line X.env = pure false := by rfl) (hw : swappedStores [.Subscript (.Name x p1) i p2] e X.env = pure none := by rfl)
    (h1 : (assignEach [.Subscript (.Name x p1) i p2] X.env).map (·.2) = [assign (.Subscript (.Name x p1) i p2) X.env] := by rfl) :
    DS X (.Assign [.Subscript (.Name x p1) i p2] e pos) (tAsg te (gSub (tVar j) ti rSetL)) (dPutI j di de) :=
  ⟨ps_asg he.p (pg_sub (pe_var hN hv hd hcd) hi.p set_list ha) hs hw h1, sim_putI he.s hi.s⟩
/-- x op= e -/
def dAug (i : Nat) (f : D → D → (D → Prop) → Prop) (de : DTE) : DTS := fun E Γ => match lk Γ i with
  | some (.dat x) => de Γ fun y => f x y fun z => E.nx (put Γ i (some (.dat z)))
  | _ => False
theorem ds_aug {i : Nat} {x : Str} {pos' : Pos} {op : Operator} {r : R2} {f : D → D → (D → Prop) → Prop} (hN : X.N.Nodup) (ho : OpD X (inplaceOp op) r f) (he : DE X e te de) (hi : X.N[i]? = some x := by rfl) (hx : Loc X.env.scope x := by first | exact Or.inl rfl | exact Or.inr rfl)
    (hf : X.fn x = true ∨ X.env.scope.names.lookup x = some .local := by first | exact .inl rfl | exact .inr rfl | assumption) : DS X (.AugAssign (.Name x pos') op e pos) (tAug i te r) (dAug i f de) :=
  ⟨ps_aug hN hi hx he.p (fun pins s σ H x y v u Q I r1 r2 h => ho.p pins s σ H x y v u Q I r1 r2 h) hf, fun H0 S0 Γ S σ H E T rr q k => by
    unfold dAug at q
    split at q
    · rename_i x hd
      obtain ⟨v, h1, h2⟩ := rr.dat i x hd
      refine ⟨v, h1, ?_⟩
      refine he.s H0 S0 Γ S σ H _ _ rr q fun w y S' H' g dy qy => ?_
      exact ho.s S' H' v w x y _ _ g.sh (dp_mono g.ss _ _ h2) dy qy fun u z S2 H2 g2 dz qz => k.nx _ _ _ _ (((rr.grow g).grow g2).setD i dz) qz
    · exact q.elim⟩

/-! ### loops -/
theorem Rel.rebase {K : PySem.W.Frag} {H0 S0 S H : Hp} {Γ : Env} {σ : L2.St} (r : Rel K H0 S0 Γ S σ H) : Rel K H0 S Γ S σ H := ⟨r.len, Same.refl S, r.sh, r.h0, fun a h => .inl h, r.dat, r.own⟩
theorem Rel.unbase {K : PySem.W.Frag} {H0 S0 S H S' H' : Hp} {Γ Γ' : Env} {σ σ' : L2.St} (r : Rel K H0 S0 Γ S σ H) (r' : Rel K H0 S Γ' S' σ' H') : Rel K H0 S0 Γ' S' σ' H' :=
  ⟨r'.len, r.s0.trans r'.s0, r'.sh, r'.h0, fun a h => by
    rcases r'.fr a h with z | z
    · exact r.fr a z
    · exact .inr z, r'.dat, r'.own⟩
/-- what an iterator gives, as long as S stands -/
def ItS (K : PySem.W.Frag) (J : It) (S : Hp) (xs : List D) : Prop := ∀ S' H', Same S S' → Same S' H' →
  (∀ i, xs.length ≤ i → J.stop i H') ∧ ∀ i x, xs[i]? = some x → J.go i H' ∧ ∀ v H'', J.yld i H' v H'' → H'' = H' ∧ Dp K S' v x
/-- .. as long as the heap grows -/
def ItG (K : PySem.W.Frag) (J : It) (S H : Hp) (xs : List D) : Prop := ∀ S' H', Grow S H S' H' →
  (∀ i, xs.length ≤ i → J.stop i H') ∧ ∀ i x, xs[i]? = some x → J.go i H' ∧ ∀ v H'', J.yld i H' v H'' → H'' = H' ∧ Dp K S' v x
theorem ItS.gr {K : PySem.W.Frag} {J : It} {S H : Hp} {xs : List D} (h : ItS K J S xs) : ItG K J S H xs := fun S' H' g => h S' H' g.ss g.sh
def SimI (K : PySem.W.Frag) (w : TI) (dl : DTL) : Prop := ∀ (H0 S0 : Hp) (Γ : Env) (S : Hp) (σ : L2.St) (H : Hp) (Q : List D → Prop) (R : It → Hp → Prop), Rel K H0 S0 Γ S σ H → dl Γ Q →
  (∀ J xs S' H', Grow S H S' H' → ItS K J S' xs → Q xs → R J H') → w σ H R
def SimJ (K : PySem.W.Frag) (w : TI) (dl : DTL) : Prop := ∀ (H0 S0 : Hp) (Γ : Env) (S : Hp) (σ : L2.St) (H : Hp) (Q : List D → Prop) (R : It → Hp → Prop), Rel K H0 S0 Γ S σ H → dl Γ Q →
  (∀ J xs S' H', Grow S H S' H' → ItG K J S' H' xs → Q xs → R J H') → w σ H R
structure DI (X : Cx) (tg iter : Expr) (w : TI) (dl : DTL) : Prop where
  p : PI X tg iter w
  s : SimI X.K w dl
structure DJ (X : Cx) (tg iter : Expr) (w : TI) (dl : DTL) : Prop where
  p : PI X tg iter w
  s : SimJ X.K w dl
variable {w : TI} {iter : Expr}
theorem DI.j (h : DI X tg iter w dl) : DJ X tg iter w dl := ⟨h.p, fun H0 S0 Γ S σ H Q R r q k => h.s H0 S0 Γ S σ H Q R r q fun J xs S' H' g hi qx => k J xs S' H' g hi.gr qx⟩
/-- a list or a tuple is walked -/
def iSeqD (K : PySem.W.Frag) (tl : TE) : TI := fun σ H R => tl σ H fun x H1 => ∃ a, x = .ref a ∧ (((∃ xs, SqL K H1 a xs) ∧ R (Itl K a) H1) ∨ ((∃ xs, SqT K H1 a xs) ∧ R (Itt K a) H1))
theorem pi_seqD {l : Expr} {tl : TE} (hl : PE X l tl) : PI X tg l (iSeqD X.K tl) := by
  refine ⟨fun pins s σ H R I h => ?_⟩
  refine thn (hl.run pins s σ H _ I h) fun v s1 ⟨x, H1, I1, r1, q1⟩ => ?_
  obtain ⟨a, e, q⟩ := q1
  subst e
  cases r1
  have hb : ∀ b ∈ [s1.heap.objs.size], FpOk X pins H1 b := fun b hb => by
    have e : b = s1.heap.objs.size := by simpa using hb
    subst e
    exact I1.fpOk (Nat.le_refl _) (I1.hok.fresh (Nat.le_refl _))
  rcases q with ⟨⟨xs, hq⟩, q⟩ | ⟨⟨xs, hq⟩, q⟩
  · obtain ⟨its, rv, p, hz⟩ := I1.list hq
    refine wpAny_pyIter_list p.isList ?_
    exact ⟨s1.heap.objs.size, [s1.heap.objs.size], _, _, H1, rfl, I1.kept (t' := s1.toks) fun b o e => Heap.get?_push_of_some _ e, turn_list a _, ⟨_, Heap.get?_push_size _ rfl, rfl, rfl⟩, hb, q⟩
  · obtain ⟨its, rv, p, hz⟩ := I1.tuple hq
    refine wpAny_pyIter_tuple (show s1.heap.IsTuple a its.toArray from p) ?_
    exact ⟨s1.heap.objs.size, [s1.heap.objs.size], _, _, H1, rfl, I1.kept (t' := s1.toks) fun b o e => Heap.get?_push_of_some _ e, turn_tuple a _, ⟨_, Heap.get?_push_size _ rfl, rfl, rfl⟩, hb, q⟩
theorem itl_ok {K : PySem.W.Frag} {S : Hp} {a : Addr} {vs : List V} {xs : List D} (h : ∀ H', SqL K H' a vs → ∀ ys, SqL K H' a ys → ys = vs) (hd : DpAll K S vs xs) : True := True.intro
def dSq (de : DTE) : DTL := fun Γ Q => de Γ fun x => match x with
  | .list xs => Q xs
  | .tuple xs => Q xs
  | _ => False
theorem yl_ok {K : PySem.W.Frag} {S' H' : Hp} {a : Addr} {vs : List V} {xs : List D} (hq : SqL K H' a vs) (hd : DpAll K S' vs xs) :
    (∀ i, xs.length ≤ i → (Itl K a).stop i H') ∧ ∀ i x, xs[i]? = some x → (Itl K a).go i H' ∧ ∀ v H'', (Itl K a).yld i H' v H'' → H'' = H' ∧ Dp K S' v x := by
  refine ⟨fun i hi => ⟨vs, hq, by rw [dpa_len hd]; exact hi⟩, fun i x hx => ?_⟩
  obtain ⟨v, hv, dv⟩ := dpa_get hd hx
  refine ⟨⟨vs, v, hq, hv⟩, fun u H'' ⟨e, hy⟩ => ⟨e, ?_⟩⟩
  have := hy vs hq
  rw [hv] at this
  cases this
  exact dv
theorem yt_ok {K : PySem.W.Frag} {S' H' : Hp} {a : Addr} {vs : List V} {xs : List D} (hq : SqT K H' a vs) (hd : DpAll K S' vs xs) :
    (∀ i, xs.length ≤ i → (Itt K a).stop i H') ∧ ∀ i x, xs[i]? = some x → (Itt K a).go i H' ∧ ∀ v H'', (Itt K a).yld i H' v H'' → H'' = H' ∧ Dp K S' v x := by
  refine ⟨fun i hi => ⟨vs, hq, by rw [dpa_len hd]; exact hi⟩, fun i x hx => ?_⟩
  obtain ⟨v, hv, dv⟩ := dpa_get hd hx
  refine ⟨⟨vs, v, hq, hv⟩, fun u H'' ⟨e, hy⟩ => ⟨e, ?_⟩⟩
  have := hy vs hq
  rw [hv] at this
  cases this
  exact dv
theorem di_seq (h : DE X iter te de) : DI X tg iter (iSeqD X.K te) (dSq de) := ⟨pi_seqD h.p, fun H0 S0 Γ S σ H Q R r q k => by
  refine h.s H0 S0 Γ S σ H _ _ r q fun v x S1 H1 g1 d1 q1 => ?_
  split at q1
  · rename_i xs
    obtain ⟨p, vs, rfl, hq, hd⟩ := dp_list d1
    exact ⟨p, rfl, .inl ⟨⟨vs, g1.sh.seq hq⟩, k _ xs S1 H1 g1 (fun S' H' e e' => yl_ok ((e.trans e').seq hq) (dpa_mono e _ _ hd)) q1⟩⟩
  · rename_i xs
    obtain ⟨p, vs, rfl, hq, hd⟩ := dp_tup d1
    exact ⟨p, rfl, .inr ⟨⟨vs, seqT_same g1.sh hq⟩, k _ xs S1 H1 g1 (fun S' H' e e' => yt_ok (seqT_same (e.trans e') hq) (dpa_mono e _ _ hd)) q1⟩⟩
  · exact q1.elim⟩
theorem dj_view (h : DV X iter te de) : DJ X tg iter (iSeqD X.K te) (dSq de) := ⟨pi_seqD h.p, fun H0 S0 Γ S σ H Q R r q k => by
  refine h.s H0 S0 Γ S σ H _ _ r q fun v x S1 H1 g1 d1 q1 => ?_
  split at q1
  · rename_i xs
    rcases d1 with d1 | ⟨p, vs, ds, rfl, hx, h3, hd⟩
    · obtain ⟨p, vs, rfl, hq, hd⟩ := dp_list d1
      exact ⟨p, rfl, .inl ⟨⟨vs, g1.sh.seq hq⟩, k _ xs S1 H1 g1 (fun S' H' g => yl_ok ((g.ss.trans g.sh).seq hq) (dpa_mono g.ss _ _ hd)) q1⟩⟩
    · cases hx
      exact ⟨p, rfl, .inl ⟨⟨vs, .of h3⟩, k _ xs S1 H1 g1 (fun S' H' g => yl_ok (.of (g.hh _ _ h3)) (dpa_mono g.ss _ _ hd)) q1⟩⟩
  · rename_i xs
    obtain ⟨p, vs, rfl, hq, hd⟩ := d1.tup
    exact ⟨p, rfl, .inr ⟨⟨vs, seqT_same g1.sh hq⟩, k _ xs S1 H1 g1 (fun S' H' g => yt_ok (seqT_same (g.ss.trans g.sh) hq) (dpa_mono g.ss _ _ hd)) q1⟩⟩
  · exact q1.elim⟩
/-- lo, lo + 1, .., n of them -/
def intsD (lo : Int) (n : Nat) : List D := (List.range n).map fun (k : Nat) => .int (lo + (k : Int))
theorem intsD_len (lo : Int) (n : Nat) : (intsD lo n).length = n := by unfold intsD; rw [List.length_map, List.length_range]
theorem intsD_get {lo : Int} {n i : Nat} {x : D} (h : (intsD lo n)[i]? = some x) : i < n ∧ x = .int (lo + i) := by
  unfold intsD at h
  rw [List.getElem?_map] at h
  by_cases hi : i < n
  · rw [List.getElem?_range hi] at h
    exact ⟨hi, (Option.some.inj h).symm⟩
  · rw [List.getElem?_eq_none (by rw [List.length_range]; omega)] at h
    cases h
theorem itr_ok {K : PySem.W.Frag} {S : Hp} (lo : Int) (n : Nat) : ItS K (Itr lo n) S (intsD lo n) := fun S' H' _ _ => by
  refine ⟨fun i hi => by rw [intsD_len] at hi; exact hi, fun i x hx => ?_⟩
  obtain ⟨h1, rfl⟩ := intsD_get hx
  exact ⟨h1, fun v H'' ⟨e, hv⟩ => ⟨e, by rw [hv]; exact .int _⟩⟩
def dRng1 (da : DTE) : DTL := fun Γ Q => da Γ fun x => match x with
  | .int j => j < 2 ^ 62 ∧ -(2 ^ 62) ≤ j ∧ Q (intsD 0 j.toNat)
  | _ => False
theorem di_range1 {p : Pos} (hg : Gl X "range") (hm : X.mg "range" = none) (ha : DE X a ta da) (hs : starEach [a] X.env = [(false, eval a X.env)] := by rfl) : DI X tg (.Call (.Name "range" p) [a] [] pos) (iRng1 (tCons ta tNil)) (dRng1 da) :=
  ⟨pi_range1 hg hm (pa_cons ha.p pa_nil hs) hs, fun H0 S0 Γ S σ H Q R r q k => by
    refine ha.s H0 S0 Γ S σ H _ _ r q fun v x S1 H1 g1 d1 q1 => ?_
    split at q1
    · exact ⟨_, by rw [dp_int d1], q1.2.1, q1.1, k _ _ S1 H1 g1 (itr_ok 0 _) q1.2.2⟩
    · exact q1.elim⟩
def dRng2 (da db : DTE) : DTL := fun Γ Q => da Γ fun x => db Γ fun y => match x, y with
  | .int i, .int j => (-(2 ^ 62) ≤ i ∧ i < 2 ^ 62 ∧ -(2 ^ 62) ≤ j ∧ j < 2 ^ 62) ∧ Q (intsD i (j - i).toNat)
  | _, _ => False
theorem di_range2 {p : Pos} (hg : Gl X "range") (hm : X.mg "range" = none) (ha : DE X a ta da) (hb : DE X b tb db) (hs : starEach [a, b] X.env = [(false, eval a X.env), (false, eval b X.env)] := by rfl) (hs2 : starEach [b] X.env = [(false, eval b X.env)] := by rfl) :
    DI X tg (.Call (.Name "range" p) [a, b] [] pos) (iRng2 (tCons ta (tCons tb tNil))) (dRng2 da db) :=
  ⟨pi_range2 hg hm (pa_cons ha.p (pa_cons hb.p pa_nil hs2) (by rw [hs, hs2])) hs hs2, fun H0 S0 Γ S σ H Q R r q k => by
    refine ha.s H0 S0 Γ S σ H _ _ r q fun v x S1 H1 g1 d1 q1 => ?_
    refine hb.s H0 S0 Γ S1 σ H1 _ _ (r.grow g1) q1 fun u y S2 H2 g2 d2 q2 => ?_
    split at q2
    · exact ⟨_, _, by rw [dp_int d1, dp_int d2], q2.1, k _ _ S2 H2 (g1.trans g2) (itr_ok _ _) q2.2⟩
    · exact q2.elim⟩
def dLoop (dg : DTG) (d : DTS) (E : DEnds) : List D → Env → Prop
  | [], Γ => E.nx Γ
  | x :: xs, Γ => dg x Γ fun Γ' => d { nx := dLoop dg d E xs, rt := E.rt, bk := E.nx, ct := dLoop dg d E xs } Γ'
def dFor (dl : DTL) (dg : DTG) (d : DTS) : DTS := fun E Γ => dl Γ fun xs => dLoop dg d E xs Γ
theorem sim_for {K : PySem.W.Frag} (hi : SimI K w dl) (hg : SimG K g dg) (hb : SimS K t d) : SimS K (tFor w g t) (dFor dl dg d) := fun H0 S0 Γ S σ H E T r q k => by
  refine hi H0 S0 Γ S σ H _ _ r q fun J xs S1 H1 g1 it q1 => ?_
  refine ⟨fun i m σ H => ∃ Γ S, Rel K H0 S0 Γ S σ H ∧ Same S1 S ∧ m = xs.length - i ∧ i ≤ xs.length ∧ dLoop dg d E (xs.drop i) Γ, ⟨_, Γ, S1, r.grow g1, Same.refl _, rfl, Nat.zero_le _, by rw [List.drop_zero]; exact q1⟩, ?_⟩
  rintro i m σ2 H2 ⟨Γ2, S2, r2, ss, rfl, hle, q2⟩
  obtain ⟨st, go⟩ := it S2 H2 ss r2.sh
  by_cases hlt : i < xs.length
  · have hx : xs[i]? = some xs[i] := List.getElem?_eq_getElem hlt
    obtain ⟨h1, h2⟩ := go i _ hx
    rw [List.drop_eq_getElem_cons hlt] at q2
    refine .inr ⟨h1, fun σ' H' => ∃ Γ' S', Rel K H0 S0 Γ' S' σ' H' ∧ Same S1 S' ∧ dLoop dg d E (xs.drop (i + 1)) Γ', fun σ' H' ⟨Γ', S', r', ss', q'⟩ => ⟨xs.length - (i + 1), by omega, Γ', S', r', ss', rfl, by omega, q'⟩, fun v H3 hy => ?_⟩
    obtain ⟨rfl, dv⟩ := h2 v H3 hy
    refine hg H0 S0 Γ2 S2 σ2 H3 v _ _ _ r2 dv q2 fun Γ' σ' r' q' => ?_
    refine hb H0 S2 Γ' S2 σ' H3 _ _ r'.rebase q' ⟨fun Γ S σ H r q => ⟨Γ, S, r2.unbase r, ss.trans r.s0, q⟩, fun Γ S σ H r q => k.nx _ _ _ _ (r2.unbase r) q, fun Γ S σ H r q => ⟨Γ, S, r2.unbase r, ss.trans r.s0, q⟩, fun v x S H gg dx qx => k.rt v x S H ?_ dx qx⟩
    exact ⟨gg.hh, r2.s0.trans gg.ss, gg.sh, fun a h => by
      rcases gg.fr a h with z | z
      · exact r2.fr a z
      · exact .inr z⟩
  · have e : i = xs.length := by omega
    subst e
    rw [List.drop_length] at q2
    exact .inl ⟨st _ (Nat.le_refl _), k.nx _ _ _ _ r2 q2⟩
theorem ds_for {body : List Stmt} (hc : X.calm = true) (hi : DI X tg iter w dl) (hg : DG X tg g dg) (hb : DSs X body t d) (hp : PassesOwn (model X.prog X.w) X.A X.env X.xe := by exact PassesOwn.never) (hs : ∀ x, foldedSetIterable iter X.env x = pure x := by intro _; rfl) :
    DS X (.For tg iter body [] pos) (tFor w g t) (dFor dl dg d) := ⟨ps_for hp hc hi.p hg.p hb.p hs, sim_for hi.s hg.s hb.s⟩
/-- the invariant W with its measure -/
def dWhile (dt : DTT) (d : DTS) : DTS := fun E Γ => ∃ W : Nat → Env → Prop, (∃ m, W m Γ) ∧ ∀ m Γ, W m Γ →
  dt Γ fun b => if b = true then d { nx := fun Γ' => ∃ m', m' < m ∧ W m' Γ', rt := E.rt, bk := E.nx, ct := fun Γ' => ∃ m', m' < m ∧ W m' Γ' } Γ else E.nx Γ
theorem sim_while {K : PySem.W.Frag} (hc : SimT K tt dt) (hb : SimS K t d) : SimS K (tWhile tt t) (dWhile dt d) := fun H0 S0 Γ S σ H E T r q k => by
  obtain ⟨W, ⟨m0, w0⟩, turn⟩ := q
  refine ⟨fun m σ H => ∃ Γ S, Rel K H0 S0 Γ S σ H ∧ W m Γ, ⟨m0, Γ, S, r, w0⟩, ?_⟩
  rintro m σ2 H2 ⟨Γ2, S2, r2, w2⟩
  refine hc H0 S0 Γ2 S2 σ2 H2 _ _ r2 (turn m Γ2 w2) fun b S3 H3 g3 q3 => ?_
  cases b with
  | false => exact k.nx _ _ _ _ (r2.grow g3) q3
  | true =>
    refine ⟨fun σ' H' => ∃ m', m' < m ∧ ∃ Γ S, Rel K H0 S0 Γ S σ' H' ∧ W m' Γ, fun σ' H' h => h, ?_⟩
    exact hb H0 S0 Γ2 S3 σ2 H3 _ _ (r2.grow g3) q3 ⟨fun Γ S σ H r ⟨m', h1, h2⟩ => ⟨m', h1, Γ, S, r, h2⟩, k.nx, fun Γ S σ H r ⟨m', h1, h2⟩ => ⟨m', h1, Γ, S, r, h2⟩, k.rt⟩
theorem ds_while {body : List Stmt} (hc : DT X c tt dt) (hb : DSs X body t d) (hp : PassesOwn (model X.prog X.w) X.A X.env X.xe := by exact PassesOwn.never) : DS X (.While c body [] pos) (tWhile tt t) (dWhile dt d) := ⟨ps_while hp hc.p hb.p, sim_while hc.s hb.s⟩

/-! ### list comprehensions -/
/-- the items, one after another; i: the slot of the comprehension's name -/
def dComp (dg : DTG) (dt : DTT) (de : DTE) (Γ : Env) : List D → List D → (List D → Prop) → Prop
  | [], acc, Q => Q acc
  | x :: xs, acc, Q => dg x Γ fun Γ' => dt Γ' fun b => if b = true then de Γ' fun y => acc.length < 16777216 ∧ dComp dg dt de Γ xs (acc ++ [y]) Q else dComp dg dt de Γ xs acc Q
def wipeD (Γ : Env) : List Nat → Env
  | [] => Γ
  | v :: vs => put (wipeD Γ vs) v none
def dLc (dl : DTL) (dg : DTG) (dt : DTT) (de : DTE) (vs : List Nat) : DTL := fun Γ Q => dl Γ fun xs => dComp dg dt de (wipeD Γ vs) xs [] Q
theorem Rel.wipe {K : PySem.W.Frag} {H0 S0 S H : Hp} {Γ : Env} {σ : L2.St} (r : Rel K H0 S0 Γ S σ H) : ∀ vs : List Nat, Rel K H0 S0 (wipeD Γ vs) S (wipe σ vs) H
  | [] => r
  | v :: vs => (Rel.wipe r vs).dropSet v none
/-- a target of a comprehension stores at its own slots alone -/
def Wipes (g : TG) (vs : List Nat) : Prop := ∀ (v : V) (σ : L2.St) (H : Hp) (R : L2.St → Hp → Prop), g v (wipe σ vs) H R → g v (wipe σ vs) H fun σ2 H2 => wipe σ2 vs = wipe σ vs ∧ R σ2 H2
theorem set_none (σ : L2.St) (i : Nat) (x : Option V) : ((σ.set i none).set i x).set i none = σ.set i none := by rw [List.set_set, List.set_set]
theorem wipes_name (i : Nat) : Wipes (gName i) [i] := fun v σ H R h => by
  refine ⟨?_, h⟩
  show ((σ.set i none).set i (some v)).set i none = σ.set i none
  exact set_none σ i (some v)
theorem sim_lc {K : PySem.W.Frag} {vs : List Nat} (hi : SimJ K w dl) (hg : SimG K g dg) (hw : Wipes g vs) (ht : SimT K tt dt) (he : SimE K te de) : SimL K (tLc w g tt te vs) (dLc dl dg dt de vs) := fun H0 S0 Γ S σ H Q R r q k => by
  refine hi H0 S0 Γ S σ H _ _ r q fun J xs S1 H1 g1 it q1 => ?_
  intro Dd hD
  -- W: S' is what stands of data, H' the heap without the new list
  refine ⟨fun i m H => ∃ S2 H2 us acc, Grow S1 H1 S2 H2 ∧ H2 Dd = none ∧ H = upd H2 Dd (.lst us) ∧ DpAll K S2 us acc ∧ m = xs.length - i ∧ i ≤ xs.length ∧ dComp dg dt de (wipeD Γ vs) (xs.drop i) acc Q,
    ⟨_, S1, H1, [], [], Grow.refl g1.sh, hD, rfl, .nil, rfl, Nat.zero_le _, by rw [List.drop_zero]; exact q1⟩, ?_⟩
  rintro i m H3 ⟨S2, H2, us, acc, g2, hn, rfl, da, rfl, hle, q2⟩
  have gu : Grow S2 H2 S2 (upd H2 Dd (.lst us)) := Grow.hid g2.sh hn
  obtain ⟨st, go⟩ := it S2 _ (g2.trans gu)
  by_cases hlt : i < xs.length
  · have hx : xs[i]? = some xs[i] := List.getElem?_eq_getElem hlt
    obtain ⟨h1, h2⟩ := go i _ hx
    rw [List.drop_eq_getElem_cons hlt] at q2
    refine .inr ⟨h1, fun H' => ∃ S3 H3 us acc, Grow S1 H1 S3 H3 ∧ H3 Dd = none ∧ H' = upd H3 Dd (.lst us) ∧ DpAll K S3 us acc ∧ dComp dg dt de (wipeD Γ vs) (xs.drop (i + 1)) acc Q,
      fun H' ⟨S3, H3, us, acc, a1, a2, a3, a4, a5⟩ => ⟨xs.length - (i + 1), by omega, S3, H3, us, acc, a1, a2, a3, a4, rfl, by omega, a5⟩, fun v H4 hy => ?_⟩
    obtain ⟨rfl, dv⟩ := h2 v H4 hy
    have r3 : Rel K H0 S0 (wipeD Γ vs) S2 (wipe σ vs) (upd H2 Dd (.lst us)) := (((r.grow g1).grow g2).grow gu).wipe vs
    refine hw v σ _ _ ?_
    refine hg H0 S0 _ S2 _ _ v _ _ _ r3 dv q2 fun Γ' σ' r' q' => ?_
    -- behind an evaluation the new list stands as it stood
    have back : ∀ {S5 H5 : Hp}, Grow S2 (upd H2 Dd (.lst us)) S5 H5 → H5 Dd = some (.lst us) ∧ ∃ H6, H6 Dd = none ∧ H5 = upd H6 Dd (.lst us) ∧ Grow S1 H1 S5 H6 ∧ ∀ ys, upd H5 Dd (.lst ys) = upd H6 Dd (.lst ys) := fun {S5 H5} g5 => by
      have e5 : H5 Dd = some (.lst us) := g5.hh _ _ upd_same
      have s5 : S5 Dd = none := by
        cases z : S5 Dd with
        | none => rfl
        | some o =>
          rcases g5.fr Dd (by rw [z]; exact fun z => nomatch z) with y | y
          · exact absurd (g2.sh.free hn) y
          · rw [upd_same] at y; cases y
      refine ⟨e5, fun a => if a = Dd then none else H5 a, if_pos rfl, ?_, ?_, fun ys => ?_⟩
      · funext a
        by_cases ha : a = Dd
        · subst ha; rw [upd_same, e5]
        · rw [upd_ne ha]; exact (if_neg ha).symm
      · refine ⟨fun b o e => ?_, g2.ss.trans g5.ss, fun b o e => ?_, fun a h => ?_⟩
        · have hb : b ≠ Dd := ne_of_none e hD
          show (if b = Dd then none else H5 b) = some o
          rw [if_neg hb]
          exact g5.hh _ _ (by rw [upd_ne hb]; exact g2.hh _ _ e)
        · have hb : b ≠ Dd := ne_of_none e s5
          show (if b = Dd then none else H5 b) = some o
          rw [if_neg hb]
          exact g5.sh _ _ e
        · rcases g5.fr a h with z | z
          · exact g2.fr a z
          · by_cases ha : a = Dd
            · subst ha; rw [upd_same] at z; cases z
            · rw [upd_ne ha] at z
              exact .inr (g2.hh.free z)
      · funext a
        by_cases ha : a = Dd
        · subst ha; rw [upd_same, upd_same]
        · rw [upd_ne ha, upd_ne ha]; exact (if_neg ha).symm
    refine ht H0 S0 Γ' S2 σ' _ _ _ r' q' fun b S5 H5 g5 q5 => ?_
    cases b with
    | false =>
      obtain ⟨_, H6, b1, b2, b3, b4⟩ := back g5
      exact ⟨S5, H6, us, acc, b3, b1, b2, dpa_mono g5.ss _ _ da, q5⟩
    | true =>
      refine he H0 S0 Γ' S5 σ' H5 _ _ (r'.grow g5) q5 fun y x S7 H7 g7 dx ⟨hl, q7⟩ => ?_
      have g57 := g5.trans g7
      obtain ⟨e7, H6, b1, b2, b3, b4⟩ := back g57
      refine ⟨us, e7, szlt (by rw [dpa_len da]; exact hl), S7, H6, us ++ [y], acc ++ [x], b3, b1, b4 _, dpa_app (dpa_mono g57.ss _ _ da) (dpa_one dx), q7⟩
  · have e : i = xs.length := by omega
    subst e
    rw [List.drop_length] at q2
    exact .inl ⟨st _ (Nat.le_refl _), k Dd us acc S2 H2 (g1.trans g2) hn da q2⟩
variable {elt : Expr} {ifs : List Expr} {scope : Scope} {own : List (Str × Nat)}
/-- the reading that data alone give -/
def tSem (K : PySem.W.Frag) (d : DTE) : TE := fun σ H R => ∃ (H0 S0 : Hp) (Γ : Env) (S : Hp) (Q : D → Prop), Rel K H0 S0 Γ S σ H ∧ d Γ Q ∧ ∀ v x S' H', Grow S H S' H' → Dp K S' v x → Q x → R v H'
def tSemT (K : PySem.W.Frag) (d : DTT) : TT := fun σ H R => ∃ (H0 S0 : Hp) (Γ : Env) (S : Hp) (Q : Bool → Prop), Rel K H0 S0 Γ S σ H ∧ d Γ Q ∧ ∀ b S' H', Grow S H S' H' → Q b → R b H'
theorem sim_sem {K : PySem.W.Frag} (d : DTE) : SimE K (tSem K d) d := fun H0 S0 Γ S σ H Q R r q k => ⟨H0, S0, Γ, S, Q, r, q, k⟩
theorem sim_semT {K : PySem.W.Frag} (d : DTT) : SimT K (tSemT K d) d := fun H0 S0 Γ S σ H Q R r q k => ⟨H0, S0, Γ, S, Q, r, q, k⟩
theorem DE.sem {Y : Cx} {e : Expr} {t : TE} {d : DTE} (h : DE Y e t d) : PE Y e (tSem Y.K d) := ⟨fun pins s σ H R I ⟨H0, S0, Γ, S, Q, r, q, k⟩ => h.p.run pins s σ H R I (h.s H0 S0 Γ S σ H Q R r q k)⟩
theorem DT.sem {Y : Cx} {e : Expr} {t : TT} {d : DTT} (h : DT Y e t d) : PT Y e (tSemT Y.K d) := ⟨fun pins s σ H R I ⟨H0, S0, Γ, S, Q, r, q, k⟩ => h.p.run pins s σ H R I (h.s H0 S0 Γ S σ H Q R r q k)⟩
def dYes : DTT := fun _ Q => Q true
theorem sim_yes {K : PySem.W.Frag} : SimT K tYes dYes := fun H0 S0 Γ S σ H Q R r q k => k true S H (.refl r.sh) q
abbrev Blk (X : Cx) (scope : Scope) (s : Shared) (H : Hp) (C : Addr) (cl : List (Str × Addr)) (fp : List Addr) : Cx := X.blk s H scope (PySem.compEnvC scope cl C X.env) fp
theorem dl_lc (hc : X.calm = true) (hN : X.N.Nodup) (own : List (Str × Nat)) (hi : DJ X tg iter w dl) (hw : Wipes g (own.map (·.2)))
    (hg : ∀ (s : Shared) (H : Hp) (C : Addr) (cl : List (Str × Addr)) (fp : List Addr), DG (Blk X scope s H C cl fp) tg g dg)
    (he : ∀ (s : Shared) (H : Hp) (C : Addr) (cl : List (Str × Addr)) (fp : List Addr), ∃ te, DE (Blk X scope s H C cl fp) elt te de)
    (ok : blkC X.N X.env.scope scope own = true := by rfl) (hs : ∀ x, foldedSetIterable iter X.env x = pure x := by intro _; rfl) :
    DL X (.ListComp elt [⟨tg, iter, [], 0⟩] scope pos) (tLc w g tYes (tSem X.K de) (own.map (·.2))) (dLc dl dg dYes de (own.map (·.2))) :=
  ⟨pe_lc hc hN hi.p (blkOk_by ok) (fun s H C cl fp => (hg s H C cl fp).p) (fun _ _ _ _ _ => pts_nil) (fun s H C cl fp => (let ⟨_, h⟩ := he s H C cl fp; h.sem)) hs,
    sim_lc hi.s (hg X.s_0 X.H_0 0 [] []).s hw sim_yes (sim_sem de)⟩
theorem dl_lcIf (hc : X.calm = true) (hN : X.N.Nodup) (own : List (Str × Nat)) (hi : DJ X tg iter w dl) (hw : Wipes g (own.map (·.2)))
    (hg : ∀ (s : Shared) (H : Hp) (C : Addr) (cl : List (Str × Addr)) (fp : List Addr), DG (Blk X scope s H C cl fp) tg g dg)
    (ht : ∀ (s : Shared) (H : Hp) (C : Addr) (cl : List (Str × Addr)) (fp : List Addr), ∃ tt, DT (Blk X scope s H C cl fp) c tt dt)
    (he : ∀ (s : Shared) (H : Hp) (C : Addr) (cl : List (Str × Addr)) (fp : List Addr), ∃ te, DE (Blk X scope s H C cl fp) elt te de)
    (ok : blkC X.N X.env.scope scope own = true := by rfl) (hs : ∀ x, foldedSetIterable iter X.env x = pure x := by intro _; rfl) :
    DL X (.ListComp elt [⟨tg, iter, [c], 0⟩] scope pos) (tLc w g (tSemT X.K dt) (tSem X.K de) (own.map (·.2))) (dLc dl dg dt de (own.map (·.2))) :=
  ⟨pe_lc hc hN hi.p (blkOk_by ok) (fun s H C cl fp => (hg s H C cl fp).p) (fun s H C cl fp => pts_one (let ⟨_, h⟩ := ht s H C cl fp; h.sem)) (fun s H C cl fp => (let ⟨_, h⟩ := he s H C cl fp; h.sem)) hs,
    sim_lc hi.s (hg X.s_0 X.H_0 0 [] []).s hw (sim_semT dt) (sim_sem de)⟩
/-- name = [..] -/
theorem ps_setLcD {i : Nat} {y : Str} {py spos : Pos} (hc : X.calm = true) (hN : X.N.Nodup) (own : List (Str × Nat)) (hi : DJ X tg iter w dl)
    (hg : ∀ (s : Shared) (H : Hp) (C : Addr) (cl : List (Str × Addr)) (fp : List Addr), DG (Blk X scope s H C cl fp) tg g dg)
    (he : ∀ (s : Shared) (H : Hp) (C : Addr) (cl : List (Str × Addr)) (fp : List Addr), ∃ te, DE (Blk X scope s H C cl fp) elt te de)
    (hy : X.N[i]? = some y := by rfl) (hyl : X.env.scope.names.lookup y = some .local := by rfl)
    (hsw : swapsWith (.ListComp elt [⟨tg, iter, [], 0⟩] scope pos) (some (.Name y py)) spos.line X.env = pure true := by exact sw_true rfl rfl rfl (by decide +kernel))
    (ok : blkC X.N X.env.scope scope own = true := by rfl) (hs : ∀ x, foldedSetIterable iter X.env x = pure x := by intro _; rfl) :
    PS X (.Assign [.Name y py] (.ListComp elt [⟨tg, iter, [], 0⟩] scope pos) spos) (tAsg (tLc w g tYes (tSem X.K de) (own.map (·.2))) (gName i)) :=
  ps_setLc hc hN hy hyl hsw hi.p (blkOk_by ok) (fun s H C cl fp => (hg s H C cl fp).p) (fun _ _ _ _ _ => pts_nil) (fun s H C cl fp => (let ⟨_, h⟩ := he s H C cl fp; h.sem)) hs
theorem sim_setFz {K : PySem.W.Frag} {i : Nat} (h : SimL K te dl) : SimS K (tAsg te (gName i)) (dSet i (dFz dl)) := fun H0 S0 Γ S σ H E T r q k =>
  h H0 S0 Γ S σ H _ _ r q fun p vs xs S' H' g hp dx qx => by
    have g2 : Grow S' H' (upd S' p (.lst vs)) (upd H' p (.lst vs)) := Grow.new g.sh hp
    exact k.nx _ _ _ _ (((r.grow g).grow g2).setD i (.lst (.of upd_same) (dpa_mono g2.ss _ _ dx))) qx
/-- the comprehension's list stays the name's own -/
theorem ds_setLcO {i : Nat} {y : Str} {py spos : Pos} (hc : X.calm = true) (hN : X.N.Nodup) (own : List (Str × Nat)) (hi : DJ X tg iter w dl) (hw : Wipes g (own.map (·.2)))
    (hg : ∀ (s : Shared) (H : Hp) (C : Addr) (cl : List (Str × Addr)) (fp : List Addr), DG (Blk X scope s H C cl fp) tg g dg)
    (he : ∀ (s : Shared) (H : Hp) (C : Addr) (cl : List (Str × Addr)) (fp : List Addr), ∃ te, DE (Blk X scope s H C cl fp) elt te de)
    (hy : X.N[i]? = some y := by rfl) (hyl : X.env.scope.names.lookup y = some .local := by rfl)
    (hsw : swapsWith (.ListComp elt [⟨tg, iter, [], 0⟩] scope pos) (some (.Name y py)) spos.line X.env = pure true := by exact sw_true rfl rfl rfl (by decide +kernel))
    (ok : blkC X.N X.env.scope scope own = true := by rfl) (hs : ∀ x, foldedSetIterable iter X.env x = pure x := by intro _; rfl) :
    DS X (.Assign [.Name y py] (.ListComp elt [⟨tg, iter, [], 0⟩] scope pos) spos) (tAsg (tLc w g tYes (tSem X.K de) (own.map (·.2))) (gName i)) (dSetO i (dLc dl dg dYes de (own.map (·.2)))) :=
  ⟨ps_setLcD hc hN own hi hg he hy hyl hsw ok hs, sim_setO (sim_lc hi.s (hg X.s_0 X.H_0 0 [] []).s hw sim_yes (sim_sem de))⟩
/-- .. is data at once -/
theorem ds_setLc {i : Nat} {y : Str} {py spos : Pos} (hc : X.calm = true) (hN : X.N.Nodup) (own : List (Str × Nat)) (hi : DJ X tg iter w dl) (hw : Wipes g (own.map (·.2)))
    (hg : ∀ (s : Shared) (H : Hp) (C : Addr) (cl : List (Str × Addr)) (fp : List Addr), DG (Blk X scope s H C cl fp) tg g dg)
    (he : ∀ (s : Shared) (H : Hp) (C : Addr) (cl : List (Str × Addr)) (fp : List Addr), ∃ te, DE (Blk X scope s H C cl fp) elt te de)
    (hy : X.N[i]? = some y := by rfl) (hyl : X.env.scope.names.lookup y = some .local := by rfl)
    (hsw : swapsWith (.ListComp elt [⟨tg, iter, [], 0⟩] scope pos) (some (.Name y py)) spos.line X.env = pure true := by exact sw_true rfl rfl rfl (by decide +kernel))
    (ok : blkC X.N X.env.scope scope own = true := by rfl) (hs : ∀ x, foldedSetIterable iter X.env x = pure x := by intro _; rfl) :
    DS X (.Assign [.Name y py] (.ListComp elt [⟨tg, iter, [], 0⟩] scope pos) spos) (tAsg (tLc w g tYes (tSem X.K de) (own.map (·.2))) (gName i)) (dSet i (dFz (dLc dl dg dYes de (own.map (·.2))))) :=
  ⟨ps_setLcD hc hN own hi hg he hy hyl hsw ok hs, sim_setFz (sim_lc hi.s (hg X.s_0 X.H_0 0 [] []).s hw sim_yes (sim_sem de))⟩
end

/-! ### a def -/
def startD (n : Nat) (ds : List D) : Env := ds.map (fun d => some (.dat d)) ++ List.replicate (n - ds.length) none
theorem lk_start : ∀ (ds : List D) (m i : Nat) (c : Cell), lk (ds.map (fun d => some (.dat d)) ++ List.replicate m none) i = some c → ∃ d, c = .dat d ∧ ds[i]? = some d
  | [], 0, i, c, h => by cases h
  | [], m + 1, 0, c, h => by cases h
  | [], m + 1, i + 1, c, h => by
    obtain ⟨d, h1, h2⟩ := lk_start [] m i c h
    cases h2
  | d :: ds, m, 0, c, h => by
    cases h
    exact ⟨d, rfl, rfl⟩
  | d :: ds, m, i + 1, c, h => lk_start ds m i c h
theorem rel_start {K : PySem.W.Frag} {H S : Hp} {N : List Str} {vs : List V} {ds : List D} (e : Same S H) (hd : DpAll K S vs ds) : Rel K H S (startD N.length ds) S (L2.start N vs) H := by
  have hl := dpa_len hd
  unfold startD L2.start
  refine ⟨by rw [List.length_append, List.length_append, List.length_map, List.length_map, List.length_replicate, List.length_replicate, hl], Same.refl S, e, Same.refl H, fun a h => .inl h, fun i d h => ?_, fun i es h => ?_⟩
  · obtain ⟨d', h1, h2⟩ := lk_start _ _ _ _ h
    cases h1
    obtain ⟨v, hv, dv⟩ := dpa_get hd h2
    refine ⟨v, ?_, dv⟩
    have hi : i < vs.length := (List.getElem?_eq_some_iff.mp hv).1
    rw [List.getElem?_append_left (by rw [List.length_map]; exact hi), List.getElem?_map, hv]
    rfl
  · obtain ⟨d', h1, h2⟩ := lk_start _ _ _ _ h
    cases h1
theorem fn_okD {P : Program} {w : World} {K : PySem.W.Frag} {mg : Str → Option Value} {base : Heap} {x qual : Str} {st : Stmt} {f : Addr} {fd : FuncData} {N ps : List Str} {k : Nat} {c : Con} {d : DTS}
    (F : Fun K x qual st f fd) (S : FnScope N ps (defScope st)) (hl : ∀ ds, c.pre ds → ds.length = ps.length)
    (hbody : ∀ (cdv : Value) (A : Around) (outer : List PySem.Env) (s : Shared) (H : Hp) (E : XK), Room k (A.deeper (PyProof.Rows.envOfC qual (defScope st) s.heap.objs.size f cdv)) →
      ∃ t, DSs (cxOf CX0 P w K mg base N qual (defScope st) f cdv A outer s H E).nox (defBody st) t d)
    (hw : ∀ ds, c.pre ds → d { nx := fun _ => c.post ds .none, rt := c.post ds } (startD N.length ds)) :
    FnOk P w K mg base CX0 (k + 1) f fd ps (spD K c) := by
  refine F.ok S (fun vs H Q E ⟨ds, S', _, hd, hp, _⟩ => by rw [dpa_len hd]; exact hl ds hp) fun cdv A outer s H vs Q E hr ⟨ds, S', e, hd, hp, q⟩ => ?_
  obtain ⟨t, h⟩ := hbody cdv A outer s H E hr
  refine ⟨t, h.p, ?_⟩
  exact h.s H S' _ S' _ H _ _ (rel_start e hd) (hw ds hp) ⟨fun Γ S σ H r qq => q .non .none S H r.all .non qq, fun _ _ _ _ _ z => z.elim, fun _ _ _ _ _ z => z.elim, fun v x S H g dx px => q v x S H g dx px⟩

/-! ### the module's defs -/
/-- a def of the text stands behind its name -/
def DefAt (K : PySem.W.Frag) (mg : Str → Option Value) (x : Str) (st : Stmt) (ps : List Str) : Prop := ∃ f fd, Fun K x x st f fd ∧ mg x = some (.ref f) ∧ Binds K fd ps []
def Has (P : Program) (w : World) (K : PySem.W.Frag) (mg : Str → Option Value) (base : Heap) (k : Nat) (x : Str) (ps : List Str) (c : Con) : Prop :=
  ∃ f fd, mg x = some (.ref f) ∧ PySem.W.keepIn K (.ref f) = true ∧ Binds K fd ps [] ∧ FnOk P w K mg base CX0 k f fd ps (spD K c)
abbrev XOf (P : Program) (w : World) (K : PySem.W.Frag) (mg : Str → Option Value) (base : Heap) (N : List Str) (x : Str) (st : Stmt) (f : Addr) (cdv : Value) (A : Around) (outer : List PySem.Env) (s : Shared) (H : Hp) (E : XK) : Cx :=
  (cxOf CX0 P w K mg base N x (defScope st) f cdv A outer s H E).nox
theorem has_of {P : Program} {w : World} {K : PySem.W.Frag} {mg : Str → Option Value} {base : Heap} {x : Str} {st : Stmt} {N ps : List Str} {k : Nat} {c : Con} {d : DTS}
    (T : DefAt K mg x st ps) (S : FnScope N ps (defScope st)) (hl : ∀ ds, c.pre ds → ds.length = ps.length)
    (hbody : ∀ (f : Addr) (cdv : Value) (A : Around) (outer : List PySem.Env) (s : Shared) (H : Hp) (E : XK), Room k (XOf P w K mg base N x st f cdv A outer s H E).A →
      ∃ t, DSs (XOf P w K mg base N x st f cdv A outer s H E) (defBody st) t d)
    (hw : ∀ ds, c.pre ds → d { nx := fun _ => c.post ds .none, rt := c.post ds } (startD N.length ds)) : Has P w K mg base (k + 1) x ps c := by
  obtain ⟨f, fd, F, hm, hb⟩ := T
  exact ⟨f, fd, hm, F.kp, hb, fn_okD F S hl (fun cdv A outer s H E hr => hbody f cdv A outer s H E hr) hw⟩
section
variable {X : Cx} {k : Nat} {ps : List Str} {c : Con} {x : Str} {p pos : Pos} {e : Expr} {es : List Expr} {tas : TA} {das : DTL}
theorem de_callH (h : Has X.prog X.w X.K X.mg X.base k x ps c) (hr : Room k X.A) (ha : DA X (e :: es) tas das) (hg : Gl X x := by rfl)
    (hdb : (x == ("__debug__" : Str)) = false := by decide) (he : starEach (e :: es) X.env = (false, eval e X.env) :: starEach es X.env := by rfl) (hpl : (backTo pos (starEach es X.env)).any (·.1) = false := by rfl) :
    DE X (.Call (.Name x p) (e :: es) [] pos) (tCall (spD X.K c) [] E0 tas) (dCall c das) := by
  obtain ⟨f, fd, h1, h2, h3, h4⟩ := h
  exact de_call h4 hr hg h1 h2 h3 ha hdb he hpl
theorem de_callH0 (h : Has X.prog X.w X.K X.mg X.base k x ps c) (hr : Room k X.A) (hg : Gl X x := by rfl)
    (hdb : (x == ("__debug__" : Str)) = false := by decide) : DE X (.Call (.Name x p) [] [] pos) (tCall (spD X.K c) [] E0 tNil) (dCall c dNil) := by
  obtain ⟨f, fd, h1, h2, h3, h4⟩ := h
  exact de_call0 h4 hr hg h1 h2 h3 hdb
theorem de_callHV (h : Has X.prog X.w X.K X.mg X.base k x ps c) (hr : Room k X.A) (ha : DVA X (e :: es) tas das) (hg : Gl X x := by rfl)
    (hdb : (x == ("__debug__" : Str)) = false := by decide) (he : starEach (e :: es) X.env = (false, eval e X.env) :: starEach es X.env := by rfl) (hpl : (backTo pos (starEach es X.env)).any (·.1) = false := by rfl) :
    DE X (.Call (.Name x p) (e :: es) [] pos) (tCall (spD X.K c) [] E0 tas) (dCallF c das) := by
  obtain ⟨f, fd, h1, h2, h3, h4⟩ := h
  exact de_callV h4 hr hg h1 h2 h3 ha hdb he hpl
end
/-- where a def of the text runs, _pylong may be asked -/
theorem pyOk_of {P : Program} {w : World} {K : PySem.W.Frag} {mg : Str → Option Value} {base : Heap} {N : List Str} {x : Str} {st : Stmt} {f : Addr} {cdv : Value} {A : Around} {outer : List PySem.Env} {s : Shared} {H : Hp} {E : XK} {k : Nat}
    (hS : base.NoSeer) (ht : P.given.tree = none) (hr : Room (k + 34) (XOf P w K mg base N x st f cdv A outer s H E).A) (hgen : (defScope st).isGenerator = false) (hco : (defScope st).isCoroutine = false) : PyOk (XOf P w K mg base N x st f cdv A outer s H E) := by
  intro pins σ H' s' I
  refine PySem.PylongRoom.of I.nolimit ?_ ?_
  · have := hr.dp
    have e : Builtin.pylongFrames = 100 := rfl
    rw [e]
    omega
  · exact PySem.SeerAt.of (hS.keeps I.bk) ht I.ok.frames hgen hco rfl rfl
end PD
namespace PD
open PySem L2
theorem shaped_int (i : Int) : SeqAt.shaped (.int i) = true := rfl
theorem shaped_bool (i : Bool) : SeqAt.shaped (.bool i) = true := rfl
theorem shaped_none : SeqAt.shaped .none = true := rfl
theorem eqv_int (i j : Int) : PyData.eqv (.int i) (.int j) = (i == j) := by rw [PyData.eqv]
theorem eqv_bool (i j : Bool) : PyData.eqv (.bool i) (.bool j) = (i == j) := by rw [PyData.eqv]
theorem ex_some {α : Type} {a : α} {p : α → Prop} : (∃ z, some a = some z ∧ p z) = p a := by
  apply propext
  exact ⟨fun ⟨z, h1, h2⟩ => by cases h1; exact h2, fun h => ⟨a, rfl, h⟩⟩
theorem tt_tt : (true = true) = True := eq_self _
theorem ff_tt : (false = true) = False := by decide
theorem tt_ff : (true = false) = False := by decide
theorem ff_ff : (false = false) = True := eq_self _
theorem atI_0 {α : Type} {x0 : α} {xs : List α} : atI (x0 :: xs) 0 = some x0 := atI_nat (j := 0) rfl
theorem atI_1 {α : Type} {x0 x1 : α} {xs : List α} : atI (x0 :: x1 :: xs) 1 = some x1 := atI_nat (j := 1) rfl
theorem atI_2 {α : Type} {x0 x1 x2 : α} {xs : List α} : atI (x0 :: x1 :: x2 :: xs) 2 = some x2 := atI_nat (j := 2) rfl
theorem atI_3 {α : Type} {x0 x1 x2 x3 : α} {xs : List α} : atI (x0 :: x1 :: x2 :: x3 :: xs) 3 = some x3 := atI_nat (j := 3) rfl
theorem atI_4 {α : Type} {x0 x1 x2 x3 x4 : α} {xs : List α} : atI (x0 :: x1 :: x2 :: x3 :: x4 :: xs) 4 = some x4 := atI_nat (j := 4) rfl
theorem atI_5 {α : Type} {x0 x1 x2 x3 x4 x5 : α} {xs : List α} : atI (x0 :: x1 :: x2 :: x3 :: x4 :: x5 :: xs) 5 = some x5 := atI_nat (j := 5) rfl
theorem atI_6 {α : Type} {x0 x1 x2 x3 x4 x5 x6 : α} {xs : List α} : atI (x0 :: x1 :: x2 :: x3 :: x4 :: x5 :: x6 :: xs) 6 = some x6 := atI_nat (j := 6) rfl
theorem atI_7 {α : Type} {x0 x1 x2 x3 x4 x5 x6 x7 : α} {xs : List α} : atI (x0 :: x1 :: x2 :: x3 :: x4 :: x5 :: x6 :: x7 :: xs) 7 = some x7 := atI_nat (j := 7) rfl
theorem atI_8 {α : Type} {x0 x1 x2 x3 x4 x5 x6 x7 x8 : α} {xs : List α} : atI (x0 :: x1 :: x2 :: x3 :: x4 :: x5 :: x6 :: x7 :: x8 :: xs) 8 = some x8 := atI_nat (j := 8) rfl
theorem atI_9 {α : Type} {x0 x1 x2 x3 x4 x5 x6 x7 x8 x9 : α} {xs : List α} : atI (x0 :: x1 :: x2 :: x3 :: x4 :: x5 :: x6 :: x7 :: x8 :: x9 :: xs) 9 = some x9 := atI_nat (j := 9) rfl
theorem atI_10 {α : Type} {x0 x1 x2 x3 x4 x5 x6 x7 x8 x9 x10 : α} {xs : List α} : atI (x0 :: x1 :: x2 :: x3 :: x4 :: x5 :: x6 :: x7 :: x8 :: x9 :: x10 :: xs) 10 = some x10 := atI_nat (j := 10) rfl
theorem atI_11 {α : Type} {x0 x1 x2 x3 x4 x5 x6 x7 x8 x9 x10 x11 : α} {xs : List α} : atI (x0 :: x1 :: x2 :: x3 :: x4 :: x5 :: x6 :: x7 :: x8 :: x9 :: x10 :: x11 :: xs) 11 = some x11 := atI_nat (j := 11) rfl
theorem atI_12 {α : Type} {x0 x1 x2 x3 x4 x5 x6 x7 x8 x9 x10 x11 x12 : α} {xs : List α} : atI (x0 :: x1 :: x2 :: x3 :: x4 :: x5 :: x6 :: x7 :: x8 :: x9 :: x10 :: x11 :: x12 :: xs) 12 = some x12 := atI_nat (j := 12) rfl
theorem atI_13 {α : Type} {x0 x1 x2 x3 x4 x5 x6 x7 x8 x9 x10 x11 x12 x13 : α} {xs : List α} : atI (x0 :: x1 :: x2 :: x3 :: x4 :: x5 :: x6 :: x7 :: x8 :: x9 :: x10 :: x11 :: x12 :: x13 :: xs) 13 = some x13 := atI_nat (j := 13) rfl
theorem atI_14 {α : Type} {x0 x1 x2 x3 x4 x5 x6 x7 x8 x9 x10 x11 x12 x13 x14 : α} {xs : List α} : atI (x0 :: x1 :: x2 :: x3 :: x4 :: x5 :: x6 :: x7 :: x8 :: x9 :: x10 :: x11 :: x12 :: x13 :: x14 :: xs) 14 = some x14 := atI_nat (j := 14) rfl
theorem atI_15 {α : Type} {x0 x1 x2 x3 x4 x5 x6 x7 x8 x9 x10 x11 x12 x13 x14 x15 : α} {xs : List α} : atI (x0 :: x1 :: x2 :: x3 :: x4 :: x5 :: x6 :: x7 :: x8 :: x9 :: x10 :: x11 :: x12 :: x13 :: x14 :: x15 :: xs) 15 = some x15 := atI_nat (j := 15) rfl

theorem fa_int {P : Int → Prop} {Q : D → Prop} : (∀ x, (∃ g, x = .int g ∧ P g) → Q x) = ∀ g, P g → Q (.int g) := propext ⟨fun h g hg => h _ ⟨g, rfl, hg⟩, fun h x ⟨g, e, hg⟩ => by subst e; exact h g hg⟩
theorem fa_int1 {Q : D → Prop} : (∀ x, (∃ g, x = .int g) → Q x) = ∀ g, Q (.int g) := propext ⟨fun h g => h _ ⟨g, rfl⟩, fun h x ⟨g, e⟩ => by subst e; exact h g⟩
theorem fa_bool1 {Q : D → Prop} : (∀ x, (∃ g, x = .bool g) → Q x) = ∀ g, Q (.bool g) := propext ⟨fun h g => h _ ⟨g, rfl⟩, fun h x ⟨g, e⟩ => by subst e; exact h g⟩
/-! ### sizes -/
/-- at most n bits -/
def Bt (i : Int) (n : Nat) : Prop := i.natAbs < 2 ^ n
theorem Bt.mul {i j : Int} {m n : Nat} (h1 : Bt i m) (h2 : Bt j n) : Bt (i * j) (m + n) := by
  unfold Bt at *
  rw [Int.natAbs_mul, Nat.pow_add]
  exact Nat.mul_lt_mul'' h1 h2
theorem Bt.mono {i : Int} {m n : Nat} (h : Bt i m) (hm : m ≤ n) : Bt i n := Nat.lt_of_lt_of_le h (Nat.pow_le_pow_right (by decide) hm)
theorem Bt.add {i j : Int} {m n : Nat} (h1 : Bt i m) (h2 : Bt j n) : Bt (i + j) (max m n + 1) := by
  have h3 : Bt i (max m n) := h1.mono (Nat.le_max_left _ _)
  have h4 : Bt j (max m n) := h2.mono (Nat.le_max_right _ _)
  unfold Bt at *
  rw [Nat.pow_succ]
  generalize 2 ^ max m n = x at *
  omega
theorem Bt.neg {i : Int} {m : Nat} (h1 : Bt i m) : Bt (-i) m := by
  unfold Bt at *
  rw [Int.natAbs_neg]; exact h1
theorem Bt.sub {i j : Int} {m n : Nat} (h1 : Bt i m) (h2 : Bt j n) : Bt (i - j) (max m n + 1) := by
  rw [Int.sub_eq_add_neg]; exact h1.add h2.neg
theorem Bt.small {i : Int} (h : i.natAbs < 1073741824) : Bt i 30 := h
theorem Bt.le {i j : Int} {n : Nat} (h0 : 0 ≤ i) (h : i ≤ j) (hj : Bt j n) : Bt i n := by
  unfold Bt at *
  omega
theorem Bt.bits {i : Int} {n : Nat} (h : Bt i n) : Builtin.Int.intBits i ≤ n := PyProof.Rows.intBits_le h
theorem Bt.of {i : Int} {n : Nat} (h : Builtin.Int.intBits i ≤ n) : Bt i n := by
  refine Bt.mono (m := Builtin.Int.intBits i) ?_ h
  unfold Bt Builtin.Int.intBits
  split
  · rename_i h
    have : i = 0 := by simpa using h
    subst this
    decide
  · exact Nat.lt_log2_self
theorem cm {i j : Int} {m n : Nat} (h1 : Bt i m) (h2 : Bt j n) (h : m + n ≤ 134217728) : CMulX i j := by
  unfold CMulX
  have a := h1.bits
  have b := h2.bits
  omega
theorem intsD_zero (lo : Int) : intsD lo 0 = [] := rfl
theorem intsD_succ (lo : Int) (n : Nat) : intsD lo (n + 1) = .int lo :: intsD (lo + 1) n := by
  unfold intsD
  rw [List.range_succ_eq_map, List.map_cons, List.map_map]
  congr 1
  · show PyData.int (lo + ((0 : Nat) : Int)) = _
    rw [show ((0 : Nat) : Int) = 0 from rfl, Int.add_zero]
  · refine List.map_congr_left fun k _ => ?_
    show PyData.int (lo + ((k + 1 : Nat) : Int)) = PyData.int (lo + 1 + (k : Int))
    congr 1
    rw [Int.natCast_add]
    have : ((1 : Nat) : Int) = 1 := rfl
    omega
theorem bt_pow {s : Int} {b : Nat} (h0 : 0 ≤ s) (h : s ≤ 2 ^ b) (m : Nat) : s ^ m ≤ 2 ^ (m * b) := by
  induction m with
  | zero => rw [Nat.zero_mul, Int.pow_zero, Int.pow_zero]; exact Int.le_refl _
  | succ m ih =>
    rw [Int.pow_succ, Nat.succ_mul, Int.pow_add]
    exact Int.mul_le_mul ih h h0 (Int.pow_nonneg (by decide))
theorem bt_two (n : Nat) : Bt (2 ^ n) (n + 1) := by
  unfold Bt
  have e : ((2 : Int) ^ n).natAbs = 2 ^ n := by rw [Int.natAbs_pow]; rfl
  rw [e]
  exact Nat.pow_lt_pow_right (by decide) (by omega)
theorem bt_le2 {i : Int} {n : Nat} (h0 : 0 ≤ i) (h : i ≤ 2 ^ n) : Bt i (n + 1) := Bt.le h0 h (bt_two n)
end PD
/-! the law's own end: from the promise over data to the walk's goal; the promise may use that sys was not made -/
namespace PD
open PySem PySem.Spec PyProof.Rows L2
theorem dp_ints {K : PySem.W.Frag} {S : Hp} : ∀ ns : List Int, DpAll K S (ns.map V.int) (ns.map PyData.int)
  | [] => .nil
  | n :: ns => .cons (.int n) (dp_ints ns)
section hidden
variable {h : Heap} {H : Hp} {a : Addr} {w : Array Value}
/-- at most the script is hidden: every other object stays -/
theorem stays (ha : h.get? a = some { cls := .type "list", data := .seq w }) (hA : ∀ b, H b ≠ none → b = a) {b : Addr} {o : Obj}
    (e : h.get? b = some o) (d : o ≠ { cls := .type "list", data := .seq w }) : (hidT h H).get? b = some o := by
  refine hidT_get e (Classical.byContradiction fun q => d ?_)
  have eb := hA b q
  rw [eb, ha] at e
  exact (Option.some.inj e).symm
theorem stays_ns (ha : h.get? a = some { cls := .type "list", data := .seq w }) (hA : ∀ b, H b ≠ none → b = a) {b : Addr} {m : Str → Option Value} (N : h.Ns b m) :
    (hidT h H).Ns b m := by
  obtain ⟨o, es, ep, e, d, r⟩ := N
  refine ⟨o, es, ep, stays ha hA e (fun z => ?_), d, r⟩
  rw [z] at d
  cases d
theorem stays_seer (ha : h.get? a = some { cls := .type "list", data := .seq w }) (hA : ∀ b, H b ≠ none → b = a) (N : h.NoSeer) : (hidT h H).NoSeer := by
  obtain ⟨⟨m1, a1, b1⟩, ⟨m2, a2, b2⟩, ⟨m3, a3, b3⟩, ⟨m4, bm, ob, a4, b4, c4, d4, e4⟩⟩ := N
  refine ⟨⟨m1, stays_ns ha hA a1, b1⟩, ⟨m2, stays_ns ha hA a2, b2⟩, ⟨m3, stays_ns ha hA a3, b3⟩, ⟨m4, bm, ob, stays_ns ha hA a4, b4, stays ha hA c4 (fun z => ?_), d4, e4⟩⟩
  rw [z] at e4
  cases e4
end hidden
/-- the law's call, at one abstract heap that holds at most the script -/
theorem data_call {P : Program} {w : World} {K : PySem.W.Frag} {mg mb : Str → Option Value} {k : Nat} {fa a : Addr} {x : Str} {c : Con} {s₁ : Shared} {us : List Value} {ns : List Int} {H : Hp}
    (KX : K.In s₁.heap) (hns : s₁.heap.Ns mainGlobals mg) (hb : s₁.heap.Ns builtinsNs mb) (hbb : ∀ y : Str, y ≠ "__name__" → mb y = bootBuiltins y) (hlim : s₁.heap.NoLimit) (hseer : s₁.heap.NoSeer) (hgen : s₁.gens = #[])
    (ha : s₁.heap.get? a = some { cls := .type "list", data := .seq us.toArray }) (hr : Room k callerA)
    (F : ∀ base : Heap, K.In base → base.Ns mainGlobals mg → base.NoSeer → ∃ fd : FuncData, (∀ (s : Shared) (u : Value), K.In s.heap → BindsTo s fd ⟨[u], []⟩ [(x, u)]) ∧ FnOk P w K mg base CX0 k fa fd [x] (spD K c))
    (hc : c.pre [.list (ns.map PyData.int)]) (hp : ∀ z, c.post [.list (ns.map PyData.int)] z → z = .bool true)
    (only : ∀ b, H b = none ∨ ∃ o xs, H b = some (.frz o (.lst xs))) (hS : SqL K H a (ns.map V.int)) (hok : HOk P w H s₁.heap) (hA : ∀ b, H b ≠ none → b = a) (hK : H a ≠ none → K.lookup a = none) :
    codeAny (model P w) callerA (.call (.ref fa) ⟨[.ref a], []⟩) (fun r s' => r = .ok (.ret (.bool true)) ∧ OldK s₁.heap s'.heap ∧ s'.os = s₁.os ∧ AllBare s'.gens) s₁ := by
  have inB : K.In (hidT s₁.heap H) := fun b o e => by
    refine hidT_get (KX b o e) (Classical.byContradiction fun q => ?_)
    have eb := hA b q
    rw [eb] at q e
    rw [hK q] at e
    cases e
  have nsB := stays_ns (H := H) ha hA hns
  have sB := stays_seer (H := H) ha hA hseer
  have mods : Mod K mg (hidT s₁.heap H) := by
    obtain ⟨mc, l1, l2⟩ := hlim
    exact ⟨inB, nsB, ⟨mb, stays_ns ha hA hb, hbb⟩, ⟨mc, stays_ns ha hA l1, l2⟩⟩
  obtain ⟨fd, bd, ok⟩ := F _ inB nsB sB
  have env : Env0 P w K mg (hidT s₁.heap H) callerA [] s₁ H := by
    constructor
    · rfl
    · exact mods
    · intro b o e
      exact of_hidT e
    · rw [hidT_size]
      exact Nat.le_refl _
    · trivial
    · intro b hb
      cases hb
    · exact hok
    · exact .of_eq hgen
  have start : spD K c [.ref a] H (fun v _ => v = .bl true) fun _ _ _ => False := by
    refine ⟨[.list (ns.map PyData.int)], H, Same.refl H, .cons (.lst hS (dp_ints ns)) .nil, hc, fun v z S' H' g d p => ?_⟩
    have ez := hp z p
    subst ez
    exact dp_bl d
  refine codeAny_mono (ok.run callerA [] s₁ H ⟨[.ref a], []⟩ [.ref a] [.ref a] _ _ hr env (bd s₁ (.ref a) KX) (.cons rfl .nil) start) fun r s' got => ?_
  cases r with
  | error e => exact False.elim got
  | ok fl =>
    cases fl with
    | next => exact False.elim got
    | brk => exact False.elim got
    | cont => exact False.elim got
    | ret u =>
      obtain ⟨v, H', eos, bare, un, hok', rv, ev⟩ := got
      have ev : v = .bl true := ev
      rw [ev] at rv
      have eu : u = Value.bool true := rv
      rw [eu]
      refine ⟨rfl, OldK.of_keep fun b o e => ?_, eos, bare⟩
      rcases only b with z | ⟨ob, xs, z⟩
      · refine un.keep b o e z (fun m => ?_) (by simp)
        cases m
      · have after := hok' b _ (un.frzs b ob _ z)
        have before := hok b _ z
        have eo : o = ob := Option.some.inj (e.symm.trans before.1)
        rw [eo]
        exact after.1
theorem data_walk {l : PySem.W.OpenLaw} {n k : Nat} {q : Program} {loose : List Str} {XP : (Str → Option Value) → Heap → Prop} {YP : World → Heap → Prop} {d : DefRec} {K : Params → PySem.W.Frag} {x : Str} (c : Con)
    (hn : l.most = some n) (hn2 : n ≤ sizeLine) (hdf : d.params.defaults = []) (hr : Room k callerA) (hi : importsNone q = true)
    (hY : ∀ (w : World) (h : Heap), YP w h → (K w.params).In h)
    (F : ∀ (w : World) (mg : Str → Option Value) (fa : Addr) (base : Heap), (K w.params).In base → base.Ns mainGlobals mg → base.NoSeer → mg d.name = some (.ref fa) →
      ∃ fd : FuncData, (∀ (s : Shared) (u : Value), (K w.params).In s.heap → BindsTo s fd ⟨[u], []⟩ [(x, u)]) ∧ FnOk l.prog w (K w.params) mg base CX0 k fa fd [x] (spD (K w.params) c))
    (hc : ∀ ns : List Int, ns.length ≤ n → c.pre [.list (ns.map PyData.int)]) (hp : ∀ ds z, c.post ds z → z = .bool true) :
    PySem.W.WalkO q loose XP YP l.row.toRowW d [] (fun f vs => PySem.call f vs) := by
  refine Att.attach_call hn hdf fun w s₀ s₁ mg mb fa o pm cd doc a us ns G Y ho hd hcd hmg hobj hints hlen hg => ?_
  have KX := hY w _ Y
  have go := fun H => data_call (P := l.prog) (w := w) (c := c) (fa := fa) (x := x) (ns := ns) (H := H) KX G.T.g G.T.b G.T.builtins G.T.nolimit (G.T.seer hi) hg hobj hr
    (fun base h1 h2 h3 => F w mg fa base h1 h2 h3 hmg) (hc ns hlen) (hp _)
  have rv := vals_ints hints
  have el := hints.length
  have small : ns.length ≤ sizeLine := Nat.le_trans hlen hn2
  by_cases hk : (K w.params).lookup a = none
  · refine go (fun b => if b = a then some (.frz { cls := .type "list", data := .seq us.toArray } (.lst (ns.map V.int))) else none) (fun b => ?_) (.inl (.inr ⟨_, if_pos rfl⟩)) (fun b u z => ?_) (fun b z => Classical.byContradiction fun nb => z (if_neg nb)) (fun _ => hk)
    · by_cases e : b = a
      · exact .inr ⟨_, _, if_pos e⟩
      · exact .inl (if_neg e)
    · by_cases e : b = a
      · have z2 := (if_pos e).symm.trans z
        have z3 := Option.some.inj z2
        rw [← z3, e]
        exact ⟨hobj, by rw [List.length_map]; exact small, us, _, rv, hobj⟩
      · have z2 := (if_neg e).symm.trans z
        cases z2
  · obtain ⟨o2, eo⟩ : ∃ o2, (K w.params).lookup a = some o2 := by
      cases z : (K w.params).lookup a with
      | none => exact absurd z hk
      | some o2 => exact ⟨o2, rfl⟩
    have e3 := KX a o2 eo
    rw [hobj] at e3
    have e4 := Option.some.inj e3
    rw [← e4] at eo
    refine go (fun _ => none) (fun _ => .inl rfl) (.inr ⟨_, us.toArray, _, eo, rfl, rfl, rfl, ?_, ?_⟩) (fun b u z => ?_) (fun b z => absurd rfl z) (fun z => absurd rfl z)
    · rw [List.size_toArray, el]
      exact small
    · simpa using rv
    · have z2 : (none : Option HO) = some u := z
      cases z2
end PD
/-! the law's end where the written part is told by a Hook (the part K is not named ahead) -/
namespace PD
open PySem PySem.Spec PyProof.Rows L2
theorem data_walkE {l : PySem.W.OpenLaw} {n k : Nat} {q : Program} {loose : List Str} {XP : (Str → Option Value) → Heap → Prop} {YP : World → Heap → Prop} {d : DefRec} {x : Str} (c : Con)
    (hn : l.most = some n) (hn2 : n ≤ sizeLine) (hdf : d.params.defaults = []) (hr : Room k callerA) (hi : importsNone q = true)
    (F : ∀ (w : World) (mg : Str → Option Value) (fa : Addr) (h : Heap), YP w h → h.Ns mainGlobals mg → mg d.name = some (.ref fa) → ∃ K : PySem.W.Frag, K.In h ∧
      ∀ base : Heap, K.In base → base.Ns mainGlobals mg → base.NoSeer → ∃ fd : FuncData, (∀ (s : Shared) (u : Value), K.In s.heap → BindsTo s fd ⟨[u], []⟩ [(x, u)]) ∧ FnOk l.prog w K mg base CX0 k fa fd [x] (spD K c))
    (hc : ∀ ns : List Int, ns.length ≤ n → c.pre [.list (ns.map PyData.int)]) (hp : ∀ ds z, c.post ds z → z = .bool true) :
    PySem.W.WalkO q loose XP YP l.row.toRowW d [] (fun f vs => PySem.call f vs) := by
  refine Att.attach_call hn hdf fun w s₀ s₁ mg mb fa o pm cd doc a us ns G Y ho hd hcd hmg hobj hints hlen hg => ?_
  obtain ⟨K, KX, F2⟩ := F w mg fa _ Y G.T.g hmg
  have go := fun H => data_call (P := l.prog) (w := w) (c := c) (fa := fa) (x := x) (ns := ns) (H := H) KX G.T.g G.T.b G.T.builtins G.T.nolimit (G.T.seer hi) hg hobj hr F2 (hc ns hlen) (hp _)
  have rv := vals_ints hints
  have el := hints.length
  have small : ns.length ≤ sizeLine := Nat.le_trans hlen hn2
  cases hk : K.lookup a with
  | none =>
    refine go (fun b => if b = a then some (.frz { cls := .type "list", data := .seq us.toArray } (.lst (ns.map V.int))) else none) (fun b => ?_) (.inl (.inr ⟨_, if_pos rfl⟩)) (fun b u z => ?_) (fun b z => Classical.byContradiction fun nb => z (if_neg nb)) (fun _ => hk)
    · by_cases e : b = a
      · exact .inr ⟨_, _, if_pos e⟩
      · exact .inl (if_neg e)
    · by_cases e : b = a
      · have z3 := Option.some.inj ((if_pos e).symm.trans z)
        rw [← z3, e]
        exact ⟨hobj, by rw [List.length_map]; exact small, us, _, rv, hobj⟩
      · cases (if_neg e).symm.trans z
  | some o2 =>
    have e3 := KX a o2 hk
    rw [hobj] at e3
    rw [← Option.some.inj e3] at hk
    refine go (fun _ => none) (fun _ => .inl rfl) (.inr ⟨_, us.toArray, _, hk, rfl, rfl, rfl, ?_, ?_⟩) (fun b u z => ?_) (fun b z => absurd rfl z) (fun z => absurd rfl z)
    · rw [List.size_toArray, el]
      exact small
    · simpa using rv
    · cases (show (none : Option HO) = some u from z)
end PD
/-! the least pair of t t - D u u = 4, by the steps of a continued fraction: plain mathematics -/
namespace Pell

structure PS where
  p : Int
  q : Int
  r : Int
  t : Int
  v : Int
  u : Int
  w : Int
  e : Int

def step (s : Int) (x : PS) : PS :=
  let a := (x.p + s) / x.q
  let p1 := a * x.q - x.p
  ⟨p1, x.r + a * (x.p - p1), x.q, a * x.t + x.v, x.t, a * x.u + x.w, x.u, -x.e⟩
def st0 (D : Int) : PS := ⟨D % 2, 2, (D - (D % 2) * (D % 2)) / 2, 2, -(D % 2), 0, 1, 1⟩
def st (D s : Int) : Nat → PS
  | 0 => st0 D
  | n + 1 => step s (st D s n)

/-- a number that has a pair, with its whole root -/
structure Num (D s : Int) : Prop where
  lo : s * s < D
  hi : D < (s + 1) * (s + 1)
  s2 : 2 ≤ s
  m4 : D % 4 = 0 ∨ D % 4 = 1

structure Inv (D s : Int) (x : PS) : Prop where
  e : x.e = 1 ∨ x.e = -1
  qr : x.q * x.r = D - x.p * x.p
  n1 : x.t * x.t - D * x.u * x.u = 2 * x.e * x.q
  n2 : x.t * x.v - D * x.u * x.w = -2 * x.e * x.p
  n3 : x.v * x.v - D * x.w * x.w = -2 * x.e * x.r
  dt : x.t * x.w - x.v * x.u = 2 * x.e
  q2 : x.q % 2 = 0
  r2 : x.r % 2 = 0
  q0 : 0 < x.q
  r0 : 0 < x.r
  p0 : 0 ≤ x.p
  ps : x.p ≤ s
  qp : x.q ≤ x.p + s
  pt : (x.t - D * x.u) % 2 = 0
  pv : (x.v - D * x.w) % 2 = 0
  pd : (x.p - D) % 2 = 0
structure Red (s : Int) (x : PS) : Prop where
  pos : 0 < x.p
  lt : s < x.p + x.q

theorem sq_mod4 (D : Int) (h : D % 4 = 0 ∨ D % 4 = 1) : (D - (D % 2) * (D % 2)) % 4 = 0 := by
  have h2 : D % 2 = 0 ∨ D % 2 = 1 := by omega
  rcases h2 with h2 | h2 <;> rw [h2] <;> omega

theorem inv0 {D s : Int} (N : Num D s) : Inv D s (st0 D) := by
  have h4 := sq_mod4 D N.m4
  have h2 : D % 2 = 0 ∨ D % 2 = 1 := by omega
  have hD : 4 < D := by
    have := N.lo
    have := N.s2
    have : 2 * 2 ≤ s * s := Int.mul_le_mul N.s2 N.s2 (by omega) (by omega)
    omega
  have s2 := N.s2
  refine ⟨.inl rfl, ?_, ?_, ?_, ?_, ?_, ?_, ?_, ?_, ?_, ?_, ?_, ?_, ?_, ?_, ?_⟩ <;> (rcases h2 with h2 | h2 <;> rw [h2] at h4 <;> simp only [st0, h2] <;> omega)

theorem parity_pq {D p q r : Int} (h : q * r = D - p * p) (hq : q % 2 = 0) (hr : r % 2 = 0) : (D - p * p) % 4 = 0 := by
  obtain ⟨a, rfl⟩ : ∃ a, q = 2 * a := ⟨q / 2, by omega⟩
  obtain ⟨b, rfl⟩ : ∃ b, r = 2 * b := ⟨r / 2, by omega⟩
  have : D - p * p = 4 * (a * b) := by grind
  omega

theorem inv_step {D s : Int} (N : Num D s) {x : PS} (I : Inv D s x) : Inv D s (step s x) ∧ Red s (step s x) := by
  obtain ⟨p, q, r, t, v, u, w, e⟩ := x
  obtain ⟨he, qr, n1, n2, n3, dt, q2, r2, q0, r0, p0, ps, qp, pt, pv, pd⟩ := I
  simp only at he qr n1 n2 n3 dt q2 r2 q0 r0 p0 ps qp pt pv pd
  have lo := N.lo
  have hi := N.hi
  have s2 := N.s2
  -- the quotient
  generalize ha : (p + s) / q = a
  have a1 : a * q ≤ p + s := by rw [← ha]; exact Int.ediv_mul_le _ (by omega)
  have a2 : p + s < (a + 1) * q := by rw [← ha]; exact Int.lt_ediv_add_one_mul_self _ q0
  have a3 : 1 ≤ a := by
    rw [← ha]
    exact (Int.le_ediv_iff_mul_le q0).mpr (by omega)
  have a2' : p + s < a * q + q := by grind
  generalize hp1 : a * q - p = p1
  have p1s : p1 ≤ s := by omega
  have p1q : s < p1 + q := by omega
  have p1n : -s ≤ p1 := by omega
  generalize hq1 : r + a * (p - p1) = q1
  have qr1 : q * q1 = D - p1 * p1 := by grind
  -- q1 above 0
  have sq : p1 * p1 ≤ s * s := by
    have h1 : (s - p1) * (s + p1) ≥ 0 := Int.mul_nonneg (by omega) (by omega)
    grind
  have q1pos : 0 < q1 := by
    apply Int.pos_of_mul_pos_right (a := q) ?_ (by omega)
    omega
  have aq : q ≤ a * q := by
    have := Int.mul_le_mul_of_nonneg_right a3 (show 0 ≤ q by omega)
    omega
  have h5 : q1 ≤ s + p1 := by
    by_cases h : q1 ≤ s + p1
    · exact h
    · exfalso
      have h3 : s - p1 + 1 ≤ q := by omega
      have h5 : s + p1 + 1 ≤ q1 := by omega
      have := Int.mul_le_mul h3 h5 (by omega) (by omega)
      grind
  have h6 : s < p1 + q1 := by
    by_cases h : s < p1 + q1
    · exact h
    · exfalso
      have h3 : q ≤ s + p1 := by omega
      have h4 : q1 ≤ s - p1 := by omega
      have := Int.mul_le_mul h3 h4 (by omega) (by omega)
      grind
  have p1pos : 0 < p1 := by omega
  have e2 : -e = 1 ∨ -e = -1 := by omega
  have par : (p1 - p) % 2 = 0 := by
    obtain ⟨b, rfl⟩ : ∃ b, q = 2 * b := ⟨q / 2, by omega⟩
    have : p1 = 2 * (a * b) - p := by grind
    omega
  have q1e : q1 % 2 = 0 := by
    obtain ⟨b, hb⟩ : ∃ b, p - p1 = 2 * b := ⟨(p - p1) / 2, by omega⟩
    have : q1 = r + 2 * (a * b) := by grind
    omega
  show Inv D s ⟨(p + s) / q * q - p, r + (p + s) / q * (p - ((p + s) / q * q - p)), q, (p + s) / q * t + v, t, (p + s) / q * u + w, u, -e⟩ ∧ Red s ⟨(p + s) / q * q - p, r + (p + s) / q * (p - ((p + s) / q * q - p)), q, (p + s) / q * t + v, t, (p + s) / q * u + w, u, -e⟩
  rw [ha, hp1, hq1]
  refine ⟨⟨e2, ?_, ?_, ?_, ?_, ?_, q1e, q2, q1pos, q0, by show 0 ≤ p1; omega, p1s, by show q1 ≤ p1 + s; omega, ?_, pt, ?_⟩, ⟨p1pos, h6⟩⟩
  · show q1 * q = D - p1 * p1
    grind
  · show (a * t + v) * (a * t + v) - D * (a * u + w) * (a * u + w) = 2 * (-e) * q1
    grind
  · show (a * t + v) * t - D * (a * u + w) * u = -2 * (-e) * p1
    grind
  · show t * t - D * u * u = -2 * (-e) * q
    grind
  · show (a * t + v) * u - t * (a * u + w) = 2 * (-e)
    grind
  · show (a * t + v - D * (a * u + w)) % 2 = 0
    obtain ⟨b, hb⟩ : ∃ b, t - D * u = 2 * b := ⟨(t - D * u) / 2, by omega⟩
    obtain ⟨c, hc⟩ : ∃ c, v - D * w = 2 * c := ⟨(v - D * w) / 2, by omega⟩
    have : a * t + v - D * (a * u + w) = 2 * (a * b + c) := by grind
    omega
  · show (p1 - D) % 2 = 0
    omega

theorem inv_n {D s : Int} (N : Num D s) : ∀ n, Inv D s (st D s n)
  | 0 => inv0 N
  | n + 1 => (inv_step N (inv_n N n)).1
theorem red_n {D s : Int} (N : Num D s) (n : Nat) : Red s (st D s (n + 1)) := (inv_step N (inv_n N n)).2
theorem st_q (D s : Int) (n : Nat) : (st D s (n + 1)).r = (st D s n).q := rfl
theorem st_a1 {D s : Int} (N : Num D s) (n : Nat) : 1 ≤ ((st D s n).p + s) / (st D s n).q := by
  have I := inv_n N n
  exact (Int.le_ediv_iff_mul_le I.q0).mpr (by have := I.qp; omega)

/-! the sizes grow -/
theorem st_u (D s : Int) (n : Nat) : (st D s (n + 1)).u = ((st D s n).p + s) / (st D s n).q * (st D s n).u + (st D s n).w := rfl
theorem st_t (D s : Int) (n : Nat) : (st D s (n + 1)).t = ((st D s n).p + s) / (st D s n).q * (st D s n).t + (st D s n).v := rfl
theorem st_w (D s : Int) (n : Nat) : (st D s (n + 1)).w = (st D s n).u := rfl
theorem st_v (D s : Int) (n : Nat) : (st D s (n + 1)).v = (st D s n).t := rfl
theorem st_e (D s : Int) (n : Nat) : (st D s (n + 1)).e = -(st D s n).e := rfl
structure Gr (x y : PS) : Prop where
  u0 : 0 ≤ x.u
  uu : x.u ≤ y.u
  u1 : 0 < y.u
  t0 : 0 < x.t
  t1 : 0 < y.t
theorem grow_n {D s : Int} (N : Num D s) : ∀ n, Gr (st D s n) (st D s (n + 1))
  | 0 => by
    have h := st_a1 N 0
    have h2 : D % 2 = 0 ∨ D % 2 = 1 := by omega
    have e1 := st_u D s 0
    have e2 := st_t D s 0
    generalize ((st D s 0).p + s) / (st D s 0).q = a at h e1 e2
    have e3 : (st D s 0).u = 0 := rfl
    have e4 : (st D s 0).w = 1 := rfl
    have e5 : (st D s 0).t = 2 := rfl
    have e6 : (st D s 0).v = -(D % 2) := rfl
    rw [e3, e4] at e1
    rw [e5, e6] at e2
    exact ⟨by omega, by omega, by omega, by omega, by omega⟩
  | n + 1 => by
    have ⟨h1, h2, h3, h4, h5⟩ := grow_n N n
    have h := st_a1 N (n + 1)
    have e1 := st_u D s (n + 1)
    have e2 := st_t D s (n + 1)
    rw [st_w] at e1
    rw [st_v] at e2
    generalize ((st D s (n + 1)).p + s) / (st D s (n + 1)).q = a at h e1 e2
    have m1 := Int.mul_le_mul_of_nonneg_right h (show 0 ≤ (st D s (n + 1)).u by omega)
    have m2 := Int.mul_le_mul_of_nonneg_right h (show 0 ≤ (st D s (n + 1)).t by omega)
    exact ⟨by omega, by omega, by omega, by omega, by omega⟩
theorem tmono {D s : Int} (N : Num D s) (n : Nat) : (st D s (n + 1)).t ≤ (st D s (n + 2)).t := by
  have g := grow_n N n
  have g1 := grow_n N (n + 1)
  have h := st_a1 N (n + 1)
  have e2 := st_t D s (n + 1)
  rw [st_v] at e2
  generalize ((st D s (n + 1)).p + s) / (st D s (n + 1)).q = a at h e2
  have m2 := Int.mul_le_mul_of_nonneg_right h (show 0 ≤ (st D s (n + 1)).t from Int.le_of_lt g.t1)
  have := g.t0
  have := g1.t1
  rw [show n + 1 + 1 = n + 2 from rfl] at *
  omega
theorem tmono' {D s : Int} (N : Num D s) (m : Nat) : ∀ k, (st D s (m + 1)).t ≤ (st D s (m + 1 + k)).t
  | 0 => Int.le_refl _
  | k + 1 => Int.le_trans (tmono' N m k) (by have := tmono N (m + k); rw [show m + k + 1 = m + 1 + k by omega, show m + k + 2 = m + 1 + (k + 1) by omega] at this; exact this)

/-! every pair is met on the way -/
def Stop (x : PS) : Prop := x.e = 1 ∧ x.q = 2
instance (x : PS) : Decidable (Stop x) := inferInstanceAs (Decidable (_ ∧ _))
/-- the pair as a sum of two neighbours, by Euclid's steps -/
structure Eu (D : Int) (x : PS) (X Y a b : Int) : Prop where
  hx : X = a * x.t + b * x.v
  hy : Y = a * x.u + b * x.w
theorem id1 (D t u v w a b : Int) : (a * t + b * v) * (a * t + b * v) - D * (a * u + b * w) * (a * u + b * w) = a * a * (t * t - D * u * u) + 2 * a * b * (t * v - D * u * w) + b * b * (v * v - D * w * w) := by grind
theorem id2 (e q p r a b : Int) : a * a * (2 * e * q) + 2 * a * b * (-2 * e * p) + b * b * (-2 * e * r) = 2 * (e * (q * a * a - 2 * p * a * b - r * b * b)) := by grind
theorem id3 (A t v a b : Int) : b * (A * t + v) + (a - A * b) * t = a * t + b * v := by grind
theorem id4 (q p r a b : Int) : (q * a - p * b) * (q * a - p * b) = q * (q * a * a - 2 * p * a * b - r * b * b) + (q * r + p * p) * b * b := by grind
theorem id5 (D p b q q1 : Int) (h : q * q1 = D - p * p) : p * b * (p * b) = D * b * b - q * (q1 * (b * b)) := by
  have h1 : q * (q1 * (b * b)) = (q * q1) * (b * b) := by grind
  rw [h1, h]
  grind
theorem id6 (A q p b : Int) : q * (A * b) = (A * q - p) * b + p * b := by grind
theorem id7 (z : Int) : (z + 1) * (z + 1) = z * z + 2 * z + 1 := by grind
theorem eu_form {D s : Int} {x : PS} (I : Inv D s x) {X Y a b : Int} (h : Eu D x X Y a b) (hn : X * X - D * Y * Y = 4) : x.e * (x.q * a * a - 2 * x.p * a * b - x.r * b * b) = 2 := by
  have key := id1 D x.t x.u x.v x.w a b
  rw [← h.hx, ← h.hy, I.n1, I.n2, I.n3, id2, hn] at key
  omega
theorem eu_step {D s : Int} (N : Num D s) {x : PS} (I : Inv D s x) {X Y a b : Int} (h : Eu D x X Y a b) (hn : X * X - D * Y * Y = 4) (ha : 0 ≤ a) (hb : 0 < b) (hz : 0 < x.q * a - x.p * b) :
    Eu D (step s x) X Y b (a - (x.p + s) / x.q * b) ∧ 0 ≤ a - (x.p + s) / x.q * b := by
  have hf := eu_form I h hn
  have I1 := (inv_step N I).1
  obtain ⟨A, hA⟩ : ∃ A, A = (x.p + s) / x.q := ⟨_, rfl⟩
  have e1 : (step s x).q = x.r + A * (x.p - (A * x.q - x.p)) := by rw [hA]; rfl
  have e2 : (step s x).p = A * x.q - x.p := by rw [hA]; rfl
  have e3 : (step s x).t = A * x.t + x.v := by rw [hA]; rfl
  have e4 : (step s x).u = A * x.u + x.w := by rw [hA]; rfl
  have e5 : (step s x).v = x.t := rfl
  have e6 : (step s x).w = x.u := rfl
  have e7 : (step s x).r = x.q := rfl
  rw [← hA]
  refine ⟨⟨by rw [e3, e5, id3]; exact h.hx, by rw [e4, e6, id3]; exact h.hy⟩, ?_⟩
  have q12 := I1.q2
  have q10 := I1.q0
  have qr1 := I1.qr
  have p10 := I1.p0
  rw [e7, Int.mul_comm] at qr1
  generalize (step s x).p = p1 at *
  generalize (step s x).q = q1 at *
  have q0 := I.q0
  -- z z = D b b + 2 e q
  have zz : (x.q * a - x.p * b) * (x.q * a - x.p * b) = D * b * b + 2 * x.e * x.q := by
    have h2 : x.q * a * a - 2 * x.p * a * b - x.r * b * b = 2 * x.e := by
      rcases I.e with h | h <;> rw [h] at hf ⊢ <;> omega
    rw [id4 _ _ x.r, h2, I.qr, Int.sub_add_cancel, Int.mul_comm x.q (2 * x.e)]
    omega
  have hzz : x.q * a = (x.q * a - x.p * b) + x.p * b := by omega
  generalize x.q * a - x.p * b = z at *
  -- z is at least p1 b
  have key : p1 * b ≤ z := by
    by_cases hc : p1 * b ≤ z
    · exact hc
    · exfalso
      have h1 : z + 1 ≤ p1 * b := by omega
      have h2 := Int.mul_le_mul h1 h1 (by omega) (by omega)
      have h4 : 1 ≤ b * b := by
        have := Int.mul_le_mul (show 1 ≤ b by omega) (show 1 ≤ b by omega) (by omega) (by omega)
        omega
      have h3 : 2 * (b * b) ≤ q1 * (b * b) := Int.mul_le_mul_of_nonneg_right (show 2 ≤ q1 by omega) (by omega)
      have h5 : x.q * 2 ≤ x.q * (q1 * (b * b)) := Int.mul_le_mul_of_nonneg_left (by omega) (by omega)
      have h7 : 2 * x.e * x.q ≥ -2 * x.q := by rcases I.e with h | h <;> rw [h] <;> omega
      rw [id7, id5 D p1 b x.q q1 qr1, zz] at h2
      omega
  -- so a is at least A b
  have h8 : x.q * (A * b) ≤ x.q * a := by
    rw [id6 A x.q x.p b, ← e2]
    omega
  have := Int.le_of_mul_le_mul_left h8 (by omega)
  omega
theorem eu_pos {D s : Int} {x : PS} (I : Inv D s x) (R : Red s x) {X Y a b : Int} (h : Eu D x X Y a b) (hn : X * X - D * Y * Y = 4) (ha : 0 < a) (hb : 0 < b) : 0 < x.q * a - x.p * b := by
  by_cases hz : 0 < x.q * a - x.p * b
  · exact hz
  · exfalso
    have hf := eu_form I h hn
    have e1 : x.q * a * a - 2 * x.p * a * b - x.r * b * b = a * (x.q * a - x.p * b) - x.p * (a * b) - x.r * (b * b) := by grind
    rw [e1] at hf
    have h1 : a * (x.q * a - x.p * b) ≤ 0 := Int.mul_nonpos_of_nonneg_of_nonpos (by omega) (by omega)
    have h2 : 1 ≤ a * b := Int.mul_pos ha hb
    have h3 : 1 ≤ b * b := Int.mul_pos hb hb
    have h4 := Int.mul_le_mul (show 1 ≤ x.p from R.pos) h2 (by omega) (by have := R.pos; omega)
    have r2 : 2 ≤ x.r := by have := I.r0; have := I.r2; omega
    have h5 := Int.mul_le_mul r2 h3 (by omega) (by omega)
    have h6 : a * (x.q * a - x.p * b) - x.p * (a * b) - x.r * (b * b) ≤ -3 := by omega
    generalize a * (x.q * a - x.p * b) - x.p * (a * b) - x.r * (b * b) = z at *
    rcases I.e with h | h <;> rw [h] at hf <;> omega
theorem eu_end {D s : Int} (N : Num D s) {X Y : Int} (hn : X * X - D * Y * Y = 4) : ∀ (m n : Nat) (a b : Int), a + b ≤ m → Eu D (st D s (n + 1)) X Y a b → 0 < a → 0 ≤ b →
    ∃ k, n + 1 ≤ k ∧ ∃ c, 0 < c ∧ X = c * (st D s k).t ∧ Y = c * (st D s k).u
  | 0, n, a, b, h1, _, h3, h4 => by omega
  | m + 1, n, a, b, h1, h2, h3, h4 => by
    by_cases hb : b = 0
    · subst hb
      exact ⟨n + 1, Nat.le_refl _, a, h3, by have := h2.hx; omega, by have := h2.hy; omega⟩
    · have hb : 0 < b := by omega
      have I := inv_n N (n + 1)
      have hz := eu_pos I (red_n N n) h2 hn h3 hb
      obtain ⟨h5, h6⟩ := eu_step N I h2 hn (by omega) hb hz
      have hA := st_a1 N (n + 1)
      have h7 := Int.mul_le_mul_of_nonneg_right hA (show 0 ≤ b by omega)
      obtain ⟨k, hk, r⟩ := eu_end N hn m (n + 1) b _ (by omega) h5 hb h6
      exact ⟨k, by omega, r⟩
theorem sq_par (X : Int) : ∃ c, X * X = X + 2 * c := by
  have h : X % 2 = 0 ∨ X % 2 = 1 := by omega
  rcases h with h | h
  · obtain ⟨x, rfl⟩ : ∃ x, X = 2 * x := ⟨X / 2, by omega⟩
    exact ⟨2 * (x * x) - x, by grind⟩
  · obtain ⟨x, rfl⟩ : ∃ x, X = 2 * x + 1 := ⟨X / 2, by omega⟩
    exact ⟨2 * (x * x) + x, by grind⟩
theorem met {D s : Int} (N : Num D s) {X Y : Int} (hn : X * X - D * Y * Y = 4) (hX : 0 < X) (hY : 0 < Y) : ∃ k, 1 ≤ k ∧ Stop (st D s k) ∧ X = (st D s k).t ∧ Y = (st D s k).u := by
  -- the first pair of numbers
  have hev : (X + D % 2 * Y) % 2 = 0 := by
    obtain ⟨c, hc⟩ := sq_par X
    obtain ⟨d, hd⟩ := sq_par Y
    obtain ⟨f, hf⟩ : ∃ f, D = D % 2 + 2 * f := ⟨D / 2, by omega⟩
    generalize D % 2 = m at *
    have : X + m * Y = 2 * (2 - c + D * d + m * Y + f * Y) := by
      have h1 : D * Y * Y = D * Y + 2 * (D * d) := by
        have : D * Y * Y = D * (Y * Y) := by grind
        rw [this, hd]; grind
      have h2 : D * Y = m * Y + 2 * (f * Y) := by rw [hf]; grind
      omega
    omega
  have h2 : 0 ≤ D % 2 := by omega
  have hmY := Int.mul_nonneg h2 (show 0 ≤ Y by omega)
  have E0 : Eu D (st D s 0) X Y ((X + D % 2 * Y) / 2) Y := ⟨by show X = (X + D % 2 * Y) / 2 * 2 + Y * -(D % 2); rw [Int.mul_neg, Int.mul_comm Y]; omega, by show Y = (X + D % 2 * Y) / 2 * 0 + Y * 1; omega⟩
  have hz : 0 < (st D s 0).q * ((X + D % 2 * Y) / 2) - (st D s 0).p * Y := by
    show 0 < 2 * ((X + D % 2 * Y) / 2) - D % 2 * Y
    omega
  obtain ⟨h5, h6⟩ := eu_step N (inv_n N 0) E0 hn (by omega) hY hz
  obtain ⟨k, hk, c, hc, e1, e2⟩ := eu_end N hn _ 0 Y _ (Int.self_le_toNat _) h5 hY h6
  have I := inv_n N k
  have n1 := I.n1
  have key : c * c * ((st D s k).e * (st D s k).q) = 2 := by
    have h1 : X * X - D * Y * Y = c * c * ((st D s k).t * (st D s k).t - D * (st D s k).u * (st D s k).u) := by rw [e1, e2]; grind
    rw [hn, n1] at h1
    have h3 : c * c * (2 * (st D s k).e * (st D s k).q) = 2 * (c * c * ((st D s k).e * (st D s k).q)) := by grind
    omega
  have hcc : 1 ≤ c * c := Int.mul_pos hc hc
  have hq : 2 ≤ (st D s k).q := by have := I.q0; have := I.q2; omega
  have he : (st D s k).e = 1 := by
    rcases I.e with h | h
    · exact h
    · exfalso
      rw [h] at key
      have := Int.mul_le_mul hcc hq (by omega) (by omega)
      have h4 : c * c * (-1 * (st D s k).q) = -(c * c * (st D s k).q) := by grind
      omega
  rw [he, Int.one_mul] at key
  have hc1 : c = 1 := by
    by_cases h : c = 1
    · exact h
    · exfalso
      have h1 : 2 ≤ c := by omega
      have h2 := Int.mul_le_mul h1 h1 (by omega) (by omega)
      have h3 := Int.mul_le_mul h2 hq (by omega) (by omega)
      omega
  subst hc1
  exact ⟨k, hk, ⟨he, by omega⟩, by omega, by omega⟩
/-- the least pair -/
structure Least (D t u : Int) : Prop where
  t0 : 0 < t
  u0 : 0 < u
  eq : t * t - D * u * u = 4
  min : ∀ X Y : Int, 0 < X → 0 < Y → X * X - D * Y * Y = 4 → t ≤ X
theorem least {D s : Int} (N : Num D s) {K : Nat} (hK : 1 ≤ K) (hs : Stop (st D s K)) (hm : ∀ k, 1 ≤ k → k < K → ¬ Stop (st D s k)) : Least D (st D s K).t (st D s K).u := by
  obtain ⟨J, rfl⟩ : ∃ J, K = J + 1 := ⟨K - 1, by omega⟩
  have g := grow_n N J
  refine ⟨g.t1, g.u1, ?_, fun X Y hX hY hn => ?_⟩
  · rw [(inv_n N (J + 1)).n1, hs.1, hs.2]; rfl
  · obtain ⟨k, hk, hsk, e1, e2⟩ := met N hn hX hY
    have : J + 1 ≤ k := by
      by_cases h : J + 1 ≤ k
      · exact h
      · exact absurd hsk (hm k hk (by omega))
    rw [e1]
    have := tmono' N J (k - (J + 1))
    rw [show J + 1 + (k - (J + 1)) = k by omega] at this
    exact this
/-! the states on the way are unlike -/
def key (x : PS) : Nat × Nat × Nat := (x.p.toNat / 2, x.q.toNat / 2, if x.e = 1 then 0 else 1)
theorem key_inj {D s : Int} {x y : PS} (I : Inv D s x) (J : Inv D s y) (h : key x = key y) : x.p = y.p ∧ x.q = y.q ∧ x.e = y.e := by
  unfold key at h
  simp only [Prod.mk.injEq] at h
  obtain ⟨h1, h2, h3⟩ := h
  have a1 := I.p0
  have a2 := J.p0
  have a3 := I.q0
  have a4 := J.q0
  have a5 := I.pd
  have a6 := J.pd
  have a7 := I.q2
  have a8 := J.q2
  refine ⟨by omega, by omega, ?_⟩
  rcases I.e with e1 | e1 <;> rcases J.e with e2 | e2 <;> rw [e1, e2] at h3 ⊢ <;> simp at h3
/-- the next state tells the one before -/
theorem back {D s : Int} {x y : PS} (I : Inv D s x) (J : Inv D s y) (Rx : s < x.p + x.q) (Ry : s < y.p + y.q) (Ix : Inv D s (step s x)) (h1 : (step s x).p = (step s y).p) (h2 : (step s x).q = (step s y).q) (h3 : (step s x).e = (step s y).e) (Iy : Inv D s (step s y)) :
    x.p = y.p ∧ x.q = y.q ∧ x.e = y.e := by
  have q1 := Ix.qr
  have q2 := Iy.qr
  have q0 := Ix.q0
  rw [h2, h1] at q1
  rw [h2] at q0
  have e1 : (step s x).r = x.q := rfl
  have e2 : (step s y).r = y.q := rfl
  rw [e1] at q1
  rw [e2] at q2
  have hq : x.q = y.q := by
    have : (step s y).q * x.q = (step s y).q * y.q := by omega
    exact Int.eq_of_mul_eq_mul_left (by omega) this
  refine ⟨?_, hq, by have : -x.e = -y.e := h3; omega⟩
  have p1 : (step s x).p = (x.p + s) / x.q * x.q - x.p := rfl
  have p2 : (step s y).p = (y.p + s) / y.q * y.q - y.p := rfl
  rw [p1, p2, hq] at h1
  rw [hq] at Rx
  have hqp := J.q0
  have := I.ps
  have := J.ps
  generalize (x.p + s) / y.q = A at *
  generalize (y.p + s) / y.q = B at *
  have h4 : (A - B) * y.q = x.p - y.p := by rw [Int.sub_mul]; omega
  have h5 : A = B := by
    by_cases h : A = B
    · exact h
    · exfalso
      by_cases hlt : 0 < A - B
      · have := Int.mul_le_mul_of_nonneg_right (show 1 ≤ A - B by omega) (show 0 ≤ y.q by omega)
        omega
      · have := Int.mul_le_mul_of_nonneg_right (show A - B ≤ -1 by omega) (show 0 ≤ y.q by omega)
        omega
  rw [h5] at h1
  omega
theorem back_n {D s : Int} (N : Num D s) : ∀ i j : Nat, key (st D s (i + 1)) = key (st D s (i + 1 + (j + 1))) → Stop (st D s (j + 1))
  | 0, j, h => by
    have I := inv_n N (0 + 1)
    have J := inv_n N (0 + 1 + (j + 1))
    obtain ⟨h1, h2, h3⟩ := key_inj I J h
    have q1 := I.qr
    have q2 := J.qr
    have e1 : (st D s (0 + 1)).r = 2 := rfl
    have e2 : (st D s (0 + 1 + (j + 1))).r = (st D s (j + 1)).q := by rw [show 0 + 1 + (j + 1) = (j + 1) + 1 by omega]; rfl
    have e3 : (st D s (0 + 1)).e = -1 := rfl
    have e4 : (st D s (0 + 1 + (j + 1))).e = -(st D s (j + 1)).e := by rw [show 0 + 1 + (j + 1) = (j + 1) + 1 by omega]; rfl
    have q0 := J.q0
    rw [e1, h2, h1] at q1
    rw [e2] at q2
    refine ⟨by rw [e3, e4] at h3; omega, ?_⟩
    have : (st D s (0 + 1 + (j + 1))).q * (st D s (j + 1)).q = (st D s (0 + 1 + (j + 1))).q * 2 := by omega
    exact Int.eq_of_mul_eq_mul_left (by omega) this
  | i + 1, j, h => by
    refine back_n N i j ?_
    have e : i + 1 + 1 + (j + 1) = (i + 1 + (j + 1)) + 1 := by omega
    rw [e] at h
    have I := inv_n N (i + 1)
    have J := inv_n N (i + 1 + (j + 1))
    obtain ⟨h1, h2, h3⟩ := key_inj (inv_n N (i + 1 + 1)) (inv_n N (i + 1 + (j + 1) + 1)) h
    have R1 := (red_n N i).lt
    have R2 := (red_n N (i + (j + 1))).lt
    rw [show i + (j + 1) + 1 = i + 1 + (j + 1) by omega] at R2
    obtain ⟨a, b, c⟩ := back I J R1 R2 (inv_step N I).1 h1 h2 h3 (inv_step N J).1
    unfold key
    rw [a, b, c]
theorem unlike {D s : Int} (N : Num D s) {n : Nat} (hn : ∀ k, 1 ≤ k → k < n → ¬ Stop (st D s k)) : ((List.range n).map fun i => key (st D s (i + 1))).Nodup := by
  unfold List.Nodup
  rw [List.pairwise_map]
  refine List.Pairwise.imp_of_mem ?_ List.pairwise_lt_range
  intro i j hi hj hij e
  rw [List.mem_range] at hi hj
  have e2 : j + 1 = i + 1 + ((j - i - 1) + 1) := by omega
  rw [e2] at e
  exact hn _ (by omega) (by omega) (back_n N i (j - i - 1) e)
/-! sums -/
theorem sum_cut {α : Type} (f : α → Nat) (a : α) (xs ys : List α) : ((xs ++ a :: ys).map f).sum = f a + ((xs ++ ys).map f).sum := by
  rw [List.map_append, List.map_cons, List.sum_append, List.sum_cons, List.map_append, List.sum_append]
  omega
theorem sum_sub {α : Type} (f : α → Nat) : ∀ (l B : List α), l.Nodup → (∀ x ∈ l, x ∈ B) → (l.map f).sum ≤ (B.map f).sum
  | [], B, _, _ => Nat.zero_le _
  | a :: l, B, hn, hs => by
    obtain ⟨xs, ys, rfl⟩ := List.append_of_mem (hs a (List.mem_cons_self ..))
    rw [sum_cut, List.map_cons, List.sum_cons]
    obtain ⟨h1, h2⟩ := List.nodup_cons.mp hn
    refine Nat.add_le_add_left (sum_sub f l (xs ++ ys) h2 fun x hx => ?_) _
    have := hs x (List.mem_cons_of_mem _ hx)
    rw [List.mem_append, List.mem_cons] at this
    rw [List.mem_append]
    rcases this with h | h | h
    · exact .inl h
    · subst h; exact absurd hx h1
    · exact .inr h
def lg (n : Nat) : Nat := n.log2 + 1
def S (n : Nat) : Nat → Nat
  | 0 => 0
  | m + 1 => S n m + lg (n / (m + 1))
theorem lg_half {n : Nat} (h : 2 ≤ n) : lg n = lg (n / 2) + 1 := by
  unfold lg
  rw [Nat.log2_def n, if_pos h]
theorem S_low (n : Nat) : ∀ m, m ≤ n / 2 → S n m = m + S (n / 2) m
  | 0, _ => rfl
  | m + 1, h => by
    have ih := S_low n m (by omega)
    show S n m + lg (n / (m + 1)) = m + 1 + (S (n / 2) m + lg (n / 2 / (m + 1)))
    have h2 : 2 ≤ n / (m + 1) := (Nat.le_div_iff_mul_le (by omega)).mpr (by omega)
    rw [ih, lg_half h2, Nat.div_div_eq_div_mul, Nat.div_div_eq_div_mul, Nat.mul_comm 2]
    omega
theorem S_high (n : Nat) : ∀ k, n / 2 + k ≤ n → S n (n / 2 + k) = S n (n / 2) + k
  | 0, _ => rfl
  | k + 1, h => by
    have ih := S_high n k (by omega)
    show S n (n / 2 + k) + lg (n / (n / 2 + k + 1)) = S n (n / 2) + (k + 1)
    have h1 : n / (n / 2 + k + 1) = 1 := by
      refine Nat.div_eq_of_lt_le ?_ ?_ <;> omega
    rw [ih, h1]
    show S n (n / 2) + k + 1 = _
    omega
theorem S_le : ∀ n, S n n ≤ 2 * n
  | 0 => Nat.le_refl _
  | n + 1 => by
    have ih := S_le ((n + 1) / 2)
    have h1 := S_high (n + 1) (n + 1 - (n + 1) / 2) (by omega)
    have h2 := S_low (n + 1) ((n + 1) / 2) (Nat.le_refl _)
    rw [show (n + 1) / 2 + (n + 1 - (n + 1) / 2) = n + 1 by omega] at h1
    rw [h1, h2]
    omega
decreasing_by omega
def box (I J : Nat) : List (Nat × Nat × Nat) := (List.range I).flatMap fun i => (List.range J).flatMap fun j => [(i, j + 1, 0), (i, j + 1, 1)]
theorem box_mem {I J i j b : Nat} (h1 : i < I) (h2 : j < J) (hb : b = 0 ∨ b = 1) : (i, j + 1, b) ∈ box I J := by
  unfold box
  refine List.mem_flatMap.mpr ⟨i, List.mem_range.mpr h1, List.mem_flatMap.mpr ⟨j, List.mem_range.mpr h2, ?_⟩⟩
  rcases hb with rfl | rfl <;> simp
theorem row_sum (n i : Nat) : ∀ J, (((List.range J).flatMap fun j => [(i, j + 1, 0), (i, j + 1, 1)]).map fun (x : Nat × Nat × Nat) => lg (n / x.2.1)).sum = 2 * S n J
  | 0 => rfl
  | J + 1 => by
    rw [List.range_succ, List.flatMap_append, List.map_append, List.sum_append, row_sum n i J]
    show 2 * S n J + ((([J].flatMap fun j => [(i, j + 1, 0), (i, j + 1, 1)]).map fun (x : Nat × Nat × Nat) => lg (n / x.2.1)).sum) = 2 * (S n J + lg (n / (J + 1)))
    simp only [List.flatMap_cons, List.flatMap_nil, List.append_nil, List.map_cons, List.map_nil, List.sum_cons, List.sum_nil]
    omega
theorem box_sum (n J : Nat) : ∀ I, ((box I J).map fun (x : Nat × Nat × Nat) => lg (n / x.2.1)).sum = I * (2 * S n J)
  | 0 => by rw [Nat.zero_mul]; rfl
  | I + 1 => by
    have ih := box_sum n J I
    unfold box at ih ⊢
    rw [List.range_succ, List.flatMap_append, List.map_append, List.sum_append, ih, List.flatMap_cons, List.flatMap_nil, List.append_nil, row_sum n I J, Nat.add_mul I 1, Nat.one_mul]
/-! the end is met, and the sizes -/
def wt (s : Int) (x : PS) : Nat := lg (s.toNat / (key x).2.1)
def W (D s : Int) (n : Nat) : Nat := ((List.range n).map fun i => wt s (st D s (i + 1))).sum
theorem W_succ (D s : Int) (n : Nat) : W D s (n + 1) = W D s n + wt s (st D s (n + 1)) := by
  unfold W
  rw [List.range_succ, List.map_append, List.sum_append]
  rfl
def Tot (s : Int) : Nat := (s.toNat / 2 + 1) * (2 * S s.toNat s.toNat)
theorem W_le {D s : Int} (N : Num D s) {n : Nat} (hn : ∀ k, 1 ≤ k → k < n → ¬ Stop (st D s k)) : W D s n ≤ Tot s := by
  have h := sum_sub (fun (x : Nat × Nat × Nat) => lg (s.toNat / x.2.1)) _ (box (s.toNat / 2 + 1) s.toNat) (unlike N hn) fun x hx => by
    obtain ⟨i, _, rfl⟩ := List.mem_map.mp hx
    have I := inv_n N (i + 1)
    have a1 := I.p0
    have a2 := I.ps
    have a3 := I.q0
    have a4 := I.qp
    have a5 := I.q2
    unfold key
    obtain ⟨j, hj⟩ : ∃ j, (st D s (i + 1)).q.toNat / 2 = j + 1 := ⟨(st D s (i + 1)).q.toNat / 2 - 1, by omega⟩
    rw [hj]
    refine box_mem (by omega) (by omega) ?_
    split
    · exact .inl rfl
    · exact .inr rfl
  rw [box_sum, List.map_map] at h
  exact h
theorem W_ge (D s : Int) : ∀ n, n ≤ W D s n
  | 0 => Nat.zero_le _
  | n + 1 => by
    have := W_ge D s n
    rw [W_succ]
    have : 1 ≤ wt s (st D s (n + 1)) := by unfold wt lg; omega
    omega
theorem first {P : Nat → Prop} [DecidablePred P] : ∀ k, P k → ∃ K, P K ∧ ∀ j, j < K → ¬ P j := by
  intro k
  induction k using Nat.strongRecOn with
  | _ k ih =>
    intro h
    by_cases h2 : ∃ j, j < k ∧ P j
    · obtain ⟨j, h3, h4⟩ := h2
      exact ih j h3 h4
    · exact ⟨k, h, fun j hj hp => h2 ⟨j, hj, hp⟩⟩
theorem stops {D s : Int} (N : Num D s) : ∃ K, 1 ≤ K ∧ Stop (st D s K) ∧ ∀ k, 1 ≤ k → k < K → ¬ Stop (st D s k) := by
  by_cases h : ∃ k, 1 ≤ k ∧ Stop (st D s k)
  · obtain ⟨k, h1, h2⟩ := h
    obtain ⟨K, hK, hm⟩ := first (P := fun k => 1 ≤ k ∧ Stop (st D s k)) k ⟨h1, h2⟩
    exact ⟨K, hK.1, hK.2, fun j h3 h4 h5 => hm j h4 ⟨h3, h5⟩⟩
  · exfalso
    have h1 := W_le N (n := Tot s + 1) fun k hk _ hs => h ⟨k, hk, hs⟩
    have := W_ge D s (Tot s + 1)
    omega
theorem a_lt {D s : Int} (N : Num D s) (n : Nat) : ((st D s n).p + s) / (st D s n).q + 1 ≤ 2 ^ wt s (st D s n) := by
  have I := inv_n N n
  have a1 := I.p0
  have a2 := I.ps
  have a3 := I.q0
  have a5 := I.q2
  have s2 := N.s2
  unfold wt key lg
  show _ ≤ (2 : Int) ^ (Nat.log2 (s.toNat / ((st D s n).q.toNat / 2)) + 1)
  have h1 : ((st D s n).p + s) / (st D s n).q ≤ ((s.toNat / ((st D s n).q.toNat / 2) : Nat) : Int) := by
    obtain ⟨j, hj⟩ : ∃ j : Nat, (st D s n).q = 2 * (j : Int) := ⟨((st D s n).q / 2).toNat, by omega⟩
    have e1 : (st D s n).q.toNat / 2 = j := by omega
    rw [e1, hj]
    refine Int.le_trans (Int.ediv_le_ediv (by omega) (show (st D s n).p + s ≤ 2 * s by omega)) ?_
    rw [Int.mul_ediv_mul_of_pos _ _ (by omega), Int.natCast_ediv]
    have : ((s.toNat : Nat) : Int) = s := by omega
    rw [this]
    exact Int.le_refl _
  have h2 := Nat.lt_log2_self (n := s.toNat / ((st D s n).q.toNat / 2))
  have h3 : ((s.toNat / ((st D s n).q.toNat / 2) : Nat) : Int) < ((2 ^ (Nat.log2 (s.toNat / ((st D s n).q.toNat / 2)) + 1) : Nat) : Int) := Int.ofNat_lt.mpr h2
  rw [Int.natCast_pow] at h3
  have h4 : ((2 : Nat) : Int) = 2 := rfl
  rw [h4] at h3
  omega
theorem u_le {D s : Int} (N : Num D s) : ∀ n, (st D s (n + 1)).u ≤ 2 ^ W D s n
  | 0 => by
    have e1 := st_u D s 0
    have e3 : (st D s 0).u = 0 := rfl
    have e4 : (st D s 0).w = 1 := rfl
    rw [e3, e4, Int.mul_zero] at e1
    have : W D s 0 = 0 := rfl
    rw [e1, this]
    decide
  | n + 1 => by
    have ih := u_le N n
    have g := grow_n N n
    have g1 := grow_n N (n + 1)
    have h := a_lt N (n + 1)
    have e1 := st_u D s (n + 1)
    rw [st_w] at e1
    rw [e1, W_succ, Int.pow_add]
    have h1 : ((st D s (n + 1)).p + s) / (st D s (n + 1)).q * (st D s (n + 1)).u + (st D s n).u ≤ (((st D s (n + 1)).p + s) / (st D s (n + 1)).q + 1) * (st D s (n + 1)).u := by
      rw [Int.add_mul, Int.one_mul]
      have := g.uu
      omega
    refine Int.le_trans h1 ?_
    rw [Int.mul_comm]
    have hA := st_a1 N (n + 1)
    exact Int.mul_le_mul ih h (by omega) (Int.le_of_lt (Int.pow_pos (by decide)))
theorem Tot_le {s : Int} (h : 0 ≤ s) : (Tot s : Int) ≤ 2 * s * (s + 2) := by
  unfold Tot
  have h1 := S_le s.toNat
  generalize hn : s.toNat = n at *
  have hs : s = (n : Int) := by omega
  subst hs
  have h2 : (n / 2 + 1) * (2 * S n n) ≤ (n / 2 + 1) * (2 * (2 * n)) := Nat.mul_le_mul_left _ (by omega)
  have h3 : (n / 2 + 1) * (2 * (2 * n)) ≤ 2 * n * (n + 2) := by
    have : (n / 2 + 1) * (2 * (2 * n)) = 2 * n * (2 * (n / 2 + 1)) := by grind
    rw [this]
    exact Nat.mul_le_mul_left _ (by omega)
  have h4 : (n / 2 + 1) * (2 * S n n) ≤ 2 * n * (n + 2) := Nat.le_trans h2 h3
  exact_mod_cast h4
/-- what the program's loop comes to -/
theorem pell {D s : Int} (N : Num D s) : ∃ K, 1 ≤ K ∧ Stop (st D s K) ∧ (∀ k, 1 ≤ k → k < K → ¬ Stop (st D s k)) ∧ Least D (st D s K).t (st D s K).u ∧ (st D s K).u ≤ 2 ^ Tot s ∧ ∀ k, k ≤ K → (st D s k).u ≤ 2 ^ Tot s := by
  obtain ⟨K, h1, h2, h3⟩ := stops N
  have key : ∀ k, k ≤ K → (st D s k).u ≤ 2 ^ Tot s := fun k hk => by
    cases k with
    | zero =>
      show (0 : Int) ≤ 2 ^ Tot s
      exact Int.le_of_lt (Int.pow_pos (by decide))
    | succ k =>
      refine Int.le_trans (u_le N k) ?_
      have := W_le N (n := k) fun j h4 h5 => h3 j h4 (by omega)
      have h6 : (2 : Nat) ^ W D s k ≤ 2 ^ Tot s := Nat.pow_le_pow_right (by decide) this
      exact_mod_cast h6
  exact ⟨K, h1, h2, h3, least N h1 h2 h3, key K (Nat.le_refl _), key⟩
theorem st_t_le {D s : Int} (N : Num D s) (n : Nat) : (st D s n).t ≤ (s + 1) * ((st D s n).u + 2) := by
  have I := inv_n N n
  have g := grow_n N n
  have n1 := I.n1
  have h1 := I.qp
  have h2 := I.ps
  have h3 := I.q0
  have hi := N.hi
  have s2 := N.s2
  have u0 := g.u0
  generalize (st D s n).t = t at *
  generalize (st D s n).u = u at *
  by_cases h : t ≤ (s + 1) * (u + 2)
  · exact h
  · exfalso
    have h4 : (s + 1) * (u + 2) ≤ t := by omega
    have h5 : 0 ≤ (s + 1) * (u + 2) := Int.mul_nonneg (by omega) (by omega)
    have h6 := Int.mul_le_mul h4 h4 h5 (by omega)
    have h7 : (s + 1) * (u + 2) * ((s + 1) * (u + 2)) = (s + 1) * (s + 1) * (u * u) + 4 * ((s + 1) * (s + 1)) * u + 4 * ((s + 1) * (s + 1)) := by grind
    have h8 : D * u * u ≤ (s + 1) * (s + 1) * (u * u) := by
      rw [Int.mul_assoc]
      exact Int.mul_le_mul_of_nonneg_right (by omega) (Int.mul_nonneg u0 u0)
    have h9 : 0 ≤ 4 * ((s + 1) * (s + 1)) * u := Int.mul_nonneg (Int.mul_nonneg (by omega) (Int.mul_nonneg (by omega) (by omega))) u0
    have h10 : 2 * (st D s n).e * (st D s n).q ≤ 2 * (st D s n).q := by rcases I.e with h | h <;> rw [h] <;> omega
    have h11 : 3 * (s + 1) ≤ (s + 1) * (s + 1) := Int.mul_le_mul_of_nonneg_right (by omega) (by omega)
    omega
theorem st_u_pos {D s : Int} (N : Num D s) : ∀ n, 1 ≤ n → 0 < (st D s n).u
  | n + 1, _ => (grow_n N n).u1
theorem stop_of {D s : Int} (N : Num D s) {n : Nat} (h : (st D s n).t * (st D s n).t - D * (st D s n).u * (st D s n).u = 4) : Stop (st D s n) := by
  have I := inv_n N n
  rw [I.n1] at h
  have h3 := I.q0
  unfold Stop
  rcases I.e with e | e <;> rw [e] at h ⊢ <;> omega
theorem of_stop {D s : Int} (N : Num D s) {n : Nat} (h : Stop (st D s n)) : (st D s n).t * (st D s n).t - D * (st D s n).u * (st D s n).u = 4 := by
  rw [(inv_n N n).n1, h.1, h.2]; rfl
theorem root_unique {D r s : Int} (h0 : 0 ≤ r) (h1 : r * r ≤ D) (h2 : D < (r + 1) * (r + 1)) (g0 : 0 ≤ s) (g1 : s * s ≤ D) (g2 : D < (s + 1) * (s + 1)) : r = s := by
  by_cases h : r < s
  · have := Int.mul_le_mul (show r + 1 ≤ s by omega) (show r + 1 ≤ s by omega) (by omega) (by omega)
    omega
  · by_cases h' : s < r
    · have := Int.mul_le_mul (show s + 1 ≤ r by omega) (show s + 1 ≤ r by omega) (by omega) (by omega)
      omega
    · omega
theorem sq_lt {a b : Int} (h0 : 0 ≤ b) (h : a * a ≤ b * b) : a ≤ b := by
  by_cases h1 : a ≤ b
  · exact h1
  · have := Int.mul_le_mul (show b + 1 ≤ a by omega) (show b + 1 ≤ a by omega) (by omega) (by omega)
    have e : (b + 1) * (b + 1) = b * b + 2 * b + 1 := by grind
    omega
end Pell
namespace K79
open PySem L2 PD
/-! the text -/
/-- what the top has left -/
structure Txt (K : PySem.W.Frag) (mg : Str → Option Value) : Prop where
  b_bool : mg "bool" = none
  b_int : mg "int" = none
  b_isinstance : mg "isinstance" = none
  b_len : mg "len" = none
  b_min : mg "min" = none
  b_range : mg "range" = none
  b_tuple : mg "tuple" = none
  f_isqrt : mg "isqrt" = some (.builtin "math.isqrt")
  d_law_digits : DefAt K mg "_law_digits" s_law_digits ["cell", "sizes"]
  d_law_root : DefAt K mg "_law_root" s_law_root ["number"]
  d_law_fitting : DefAt K mg "_law_fitting" s_law_fitting ["number", "odd"]
  d_law_number_with_pair : DefAt K mg "_law_number_with_pair" s_law_number_with_pair ["cell"]
  d_law_number_without : DefAt K mg "_law_number_without" s_law_number_without ["cell"]
  d_pell : DefAt K mg "pell" s_pell ["number"]
  d_law_asked : DefAt K mg "_law_asked" s_law_asked ["number"]
  d_law_cell : DefAt K mg "_law_cell" s_law_cell ["script", "k"]
  d_law_whole : DefAt K mg "_law_whole" s_law_whole ["value"]
  d_law_is_row : DefAt K mg "_law_is_row" s_law_is_row ["value", "many"]
  d_law_root_from : DefAt K mg "_law_root_from" s_law_root_from ["number", "guess"]
  d_law_none_counted : DefAt K mg "_law_none_counted" s_law_none_counted ["number", "root", "most"]
  d_law_prime : DefAt K mg "_law_prime" s_law_prime ["k"]
  d_law_power : DefAt K mg "_law_power" s_law_power ["factor", "many"]
  d_law_deep_root : DefAt K mg "_law_deep_root" s_law_deep_root ["number", "k"]
  d_law_power_trace : DefAt K mg "_law_power_trace" s_law_power_trace ["trace", "k"]
  d_law_is_power : DefAt K mg "_law_is_power" s_law_is_power ["number", "t", "k"]
  d_law_no_power : DefAt K mg "_law_no_power" s_law_no_power ["number", "t"]
  d_law_least : DefAt K mg "_law_least" s_law_least ["number", "root", "told"]
  d_law_right : DefAt K mg "_law_right" s_law_right ["number", "answer"]
  d_law : DefAt K mg "law" s_law ["script"]
/-! ### contracts of the law's helpers -/
abbrev iL (ns : List Int) : List D := ns.map PyData.int
def bitsN (n : Int) : Nat := Builtin.Int.intBits n
/-- Newton's steps, as the law's loops make them -/
def newton : Nat → Int → Int → Int
  | 0, _, g => g
  | k + 1, n, g => if (g + n / g) / 2 ≥ g then g else newton k n ((g + n / g) / 2)
def rootL (n : Int) : Int := if n < 1 then 0 else newton 100000 n (2 ^ (((bitsN n : Nat) + 1 : Int) / 2).toNat)
/-- digits d of sizes s: 0 ≤ d < s, one by one -/
inductive Digs : List Int → List Int → Prop where
  | nil : Digs [] []
  | cons {d s : Int} {ds ss : List Int} : 0 ≤ d → d < s → Digs ds ss → Digs (d :: ds) (s :: ss)
def c_law_whole : Con := ⟨fun ds => match ds with | [_] => True | _ => False, fun ds x => match ds with
  | [.int _] => x = .bool true
  | _ => ∃ b, x = .bool b⟩
def c_law_is_row : Con := ⟨fun ds => match ds with | [.tuple [.int _, .int _], .int m] => m = 2 | _ => False, fun _ x => x = .bool true⟩
def c_law_cell : Con := ⟨fun ds => match ds with | [.list xs, .int k] => (∃ ns : List Int, xs = iL ns ∧ ns.length ≤ 63) ∧ 0 ≤ k ∧ k ≤ 100 | _ => False, fun _ x => ∃ i : Int, x = .int i⟩
def c_law_digits : Con := ⟨fun ds => match ds with | [.int _, .list xs] => ∃ ss : List Int, xs = iL ss ∧ ss.length ≤ 100 ∧ ∀ s ∈ ss, 0 < s ∧ s < 10000000 | _ => False,
  fun ds x => match ds with | [.int _, .list xs] => ∃ es : List Int, x = .list (iL es) ∧ ∀ ss : List Int, xs = iL ss → Digs es ss | _ => True⟩
def c_law_root : Con := ⟨fun ds => match ds with | [.int n] => bitsN n ≤ 2 ^ 25 | _ => False, fun ds x => match ds with | [.int n] => x = .int (rootL n) | _ => True⟩
/-- the law's second root: any number from 1 to the guess -/
def c_law_root_from : Con := ⟨fun ds => match ds with | [.int n, .int g] => 1 ≤ n ∧ 0 < g | _ => False, fun ds x => match ds with | [.int _, .int g] => ∃ r : Int, x = .int r ∧ 0 < r ∧ r ≤ g | _ => True⟩
/-- T below s, its k-th power's trace above -/
def c_law_power_trace : Con := ⟨fun ds => match ds with | [.int s, .int k] => 2 ≤ s ∧ 2 ≤ k ∧ k < 2 ^ 60 ∧ ∃ b : Nat, s ≤ 2 ^ b ∧ (k + 2) * b ≤ 2 ^ 26 | _ => False, fun ds x => match ds with | [.int s, .int k] => ∃ r : Int, x = .int r ∧ (3 ≤ s → s < r) | _ => True⟩
def c_law_prime : Con := ⟨fun ds => match ds with | [.int k] => 2 ≤ k ∧ k < 2 ^ 60 | _ => False, fun _ x => ∃ b, x = .bool b⟩
def c_law_power : Con := ⟨fun ds => match ds with | [.int f, .int m] => 1 ≤ f ∧ 1 ≤ m ∧ m < 2 ^ 60 ∧ ∃ b : Nat, f ≤ 2 ^ b ∧ m * b ≤ 2 ^ 25 | _ => False, fun ds x => match ds with | [.int f, .int m] => x = .int (f ^ m.toNat) | _ => True⟩
def c_law_deep_root : Con := ⟨fun ds => match ds with | [.int n, .int k] => 1 ≤ n ∧ 2 ≤ k ∧ bitsN n ≤ 2 ^ 23 ∧ k ≤ (bitsN n : Nat) + 1 | _ => False,
  fun ds x => match ds with | [.int n, .int k] => ∃ g : Int, x = .int g ∧ 1 ≤ g ∧ g ≤ 2 ^ (bitsN n / k.toNat + 1) | _ => True⟩
def c_law_is_power : Con := ⟨fun ds => match ds with | [.int D, .int t, .int k] => (∃ u, Pell.Least D t u) ∧ 1 ≤ D ∧ D < 2 ^ 22 ∧ 3 ≤ t ∧ 2 ≤ k ∧ bitsN t ≤ 2 ^ 22 ∧ k ≤ (bitsN t : Nat) + 1 | _ => False, fun _ x => x = .bool false⟩
def c_law_no_power : Con := ⟨fun ds => match ds with | [.int D, .int t] => (∃ u, Pell.Least D t u) ∧ 1 ≤ D ∧ D < 2 ^ 22 ∧ 3 ≤ t ∧ bitsN t ≤ 2 ^ 22 | _ => False, fun _ x => x = .bool true⟩
def isSq (n : Int) : Prop := ∃ r, r * r = n
/-- a number that has a pair -/
def good (n : Int) : Prop := ¬ isSq n ∧ n % 4 ≤ 1
def c_law_none_counted : Con := ⟨fun ds => match ds with | [.int D, .int r, .int m] => (∃ t u, Pell.Least D t u ∧ m < u) ∧ 0 ≤ m ∧ 1 ≤ D ∧ D ≤ 1000000 ∧ 0 ≤ r ∧ r ≤ 1000 ∧ m ≤ 300 | _ => False, fun _ x => x = .bool true⟩
/-- pell's answer -/
def Told (n : Int) (x : D) : Prop := ∃ t u, x = .tuple [.int t, .int u] ∧ Pell.Least n t u ∧ ∃ s, Pell.Num n s ∧ u ≤ 2 ^ Pell.Tot s
/-- what _law_asked gives -/
def Asked (n : Int) (x : D) : Prop := (good n → ∃ y, x = .list [.bool true, y] ∧ Told n y) ∧ (¬ good n → x = .list [.bool false, .int n])
def c_law_asked : Con := ⟨fun ds => match ds with | [.int n] => 1 ≤ n ∧ n ≤ 1000000 | _ => False, fun ds x => match ds with | [.int n] => Asked n x | _ => True⟩
def c_law_least : Con := ⟨fun ds => match ds with | [.int n, .int r, y] => good n ∧ 1 ≤ n ∧ n ≤ 1000000 ∧ r = rootL n ∧ Told n y | _ => False, fun _ x => x = .bool true⟩
def c_law_right : Con := ⟨fun ds => match ds with | [.int n, x] => 1 ≤ n ∧ n ≤ 1000000 ∧ Asked n x | _ => False, fun _ x => x = .bool true⟩
def c_law_fitting : Con := ⟨fun ds => match ds with | [.int n, .int odd] => -1000 ≤ n ∧ n ≤ 10000000 ∧ 0 ≤ odd ∧ odd ≤ 1 | _ => False, fun _ x => ∃ n : Int, x = .int n ∧ 1 ≤ n ∧ n ≤ 1000000 ∧ good n⟩
def c_law_number_with_pair : Con := ⟨fun ds => match ds with | [.int _] => True | _ => False, fun _ x => ∃ n : Int, x = .int n ∧ 1 ≤ n ∧ n ≤ 1000000 ∧ good n⟩
def c_law_number_without : Con := ⟨fun ds => match ds with | [.int _] => True | _ => False, fun _ x => ∃ n : Int, x = .int n ∧ 1 ≤ n ∧ n ≤ 1000000⟩
def c_law : Con := ⟨fun ds => match ds with | [.list xs] => ∃ ns : List Int, xs = iL ns ∧ ns.length ≤ 63 | _ => False, fun _ x => x = .bool true⟩

def L_law_digits_1 : DTS := (dSeq (dApp 2 (dBin bMod (dCB bInt (dCons (dLook 3) dNil)) (dVar 4))) (dSet 3 (dBin bDiv (dCB bInt (dCons (dLook 3) dNil)) (dVar 4))))
def L_law_digits_2 : DTS := (dSeq (dSet 5 (dBin bMod (dCB bInt (dCons (dBin bAdd (dBin bAdd (dBin bMul (dVar 5) (dC (.int 48271))) (dBin bMul (dC (.int 974711)) (dVar 6))) (dC (.int 12345))) dNil)) (dC (.int 2147483647)))) (dSeq (dSet 7 (dBin bMod (dCB bInt (dCons (dBin bMul (dVar 5) (dBin bAdd (dBin bDiv (dVar 5) (dC (.int 65537))) (dC (.int 3)))) dNil)) (dC (.int 2147483629)))) (dApp 2 (dBin bMod (dBin bDiv (dVar 7) (dC (.int 19))) (dBin bIx (dLook 1) (dVar 6))))))
def P_law_digits : DTS := (dSeq (dSetO 2 (dLst dNil)) (dSeq (dSet 3 (dCB bInt (dCons (dLook 0) dNil))) (dSeq (dIf (dTst (dBin bGe (dVar 3) (dBin bPow (dC (.int 10)) (dC (.int 18))))) (dSeq (dSet 3 (dBin bSub (dVar 3) (dBin bPow (dC (.int 10)) (dC (.int 18))))) (dSeq (dFor (dSq (dVar 1)) (dgName 4) L_law_digits_1) (dFreeze 2 (dRet (dVar 2))))) dNext) (dSeq (dSet 5 (dBin bMod (dCB bInt (dCons (dLook 3) dNil)) (dC (.int 2147483629)))) (dSeq (dFor (dRng1 (dCB bLen (dCons (dLook 1) dNil))) (dgName 6) L_law_digits_2) (dFreeze 2 (dRet (dVar 2))))))))
theorem h_law_digits {P : Program} {w : World} {K : PySem.W.Frag} {mg : Str → Option Value} {base : Heap} (T : Txt K mg) (hw : ∀ ds, c_law_digits.pre ds → P_law_digits { nx := fun _ => c_law_digits.post ds .none, rt := c_law_digits.post ds } (startD n_law_digits.length ds)) (hl : ∀ ds, c_law_digits.pre ds → ds.length = 2) :
    Has P w K mg base 1 "_law_digits" ["cell", "sizes"] c_law_digits :=
  has_of (k := 0) T.d_law_digits sc_law_digits hl (fun f cdv A outer s H E hr =>
    have hu := hr.units
    ⟨_, (dss_cons (ds_setO (i := 2) sc_law_digits.nd (dl_lst da_nil)) (dss_cons (ds_set (i := 3) sc_law_digits.nd (de_callTy cd_int rfl T.b_int (by decide +kernel) (dva_cons (dv_var 0) dva_nil))) (dss_cons (ds_if (dt_cmp od_ge (de_var 3) (de_op od_pow de_int de_int)) (dss_cons (ds_set (i := 3) sc_law_digits.nd (de_op od_sub (de_var 3) (de_op od_pow de_int de_int))) (dss_cons (ds_for rfl (di_seq (de_var 1)) (dg_name (i := 4) sc_law_digits.nd) (dss_cons (ds_app (i := 2) (de_op od_mod (de_callTy cd_int rfl T.b_int (by decide +kernel) (dva_cons (dv_var 3) dva_nil)) (de_var 4))) (dss_one (ds_set (i := 3) sc_law_digits.nd (de_op od_div (de_callTy cd_int rfl T.b_int (by decide +kernel) (dva_cons (dv_var 3) dva_nil)) (de_var 4)))))) (dss_freeze 2 (dss_one (ds_ret (de_var 2)))))) dss_nil) (dss_cons (ds_set (i := 5) sc_law_digits.nd (de_op od_mod (de_callTy cd_int rfl T.b_int (by decide +kernel) (dva_cons (dv_var 3) dva_nil)) de_int)) (dss_cons (ds_for rfl (di_range1 rfl T.b_range (de_callB cd_len rfl T.b_len (by decide +kernel) (dva_cons (dv_var 1) dva_nil))) (dg_name (i := 6) sc_law_digits.nd) (dss_cons (ds_set (i := 5) sc_law_digits.nd (de_op od_mod (de_callTy cd_int rfl T.b_int (by decide +kernel) (dva_cons (DE.v (de_op od_add (de_op od_add (de_op od_mul (de_var 5) de_int) (de_op od_mul de_int (de_var 6))) de_int)) dva_nil)) de_int)) (dss_cons (ds_set (i := 7) sc_law_digits.nd (de_op od_mod (de_callTy cd_int rfl T.b_int (by decide +kernel) (dva_cons (DE.v (de_op od_mul (de_var 5) (de_op od_add (de_op od_div (de_var 5) de_int) de_int))) dva_nil)) de_int)) (dss_one (ds_app (i := 2) (de_op od_mod (de_op od_div (de_var 7) de_int) (de_ix (dv_var 1) (de_var 6)))))))) (dss_freeze 2 (dss_one (ds_ret (de_var 2)))))))))⟩) hw
def L_law_root_1 : DTS := (dSeq (dSet 3 (dBin bDivW (dBin bAdd (dVar 1) (dBin bDivW (dVar 0) (dVar 1))) (dC (.int 2)))) (dSeq (dIf (dTst (dBin bGe (dVar 3) (dVar 1))) (dRet (dVar 1)) dNext) (dSet 1 (dVar 3))))
def P_law_root : DTS := (dSeq (dIf (dTst (dBin bLt (dVar 0) (dC (.int 1)))) (dRet (dC (.int 0))) dNext) (dSeq (dSet 1 (dBin bShl (dC (.int 1)) (dBin bDivW (dBin bAdd (dUn bBits (dVar 0)) (dC (.int 1))) (dC (.int 2))))) (dSeq (dFor (dRng1 (dC (.int 100000))) (dgName 2) L_law_root_1) (dRet (dVar 1)))))
theorem h_law_root {P : Program} {w : World} {K : PySem.W.Frag} {mg : Str → Option Value} {base : Heap} (T : Txt K mg) (hS : base.NoSeer) (hP : P.given.tree = none) (hw : ∀ ds, c_law_root.pre ds → P_law_root { nx := fun _ => c_law_root.post ds .none, rt := c_law_root.post ds } (startD n_law_root.length ds)) (hl : ∀ ds, c_law_root.pre ds → ds.length = 1) :
    Has P w K mg base 35 "_law_root" ["number"] c_law_root :=
  has_of (k := 34) T.d_law_root sc_law_root hl (fun f cdv A outer s H E hr =>
    have hu := hr.units
    have hp := pyOk_of (k := 0) (N := n_law_root) (st := s_law_root) hS hP hr rfl rfl
    ⟨_, (dss_cons (ds_if (dt_cmp od_lt (de_var 0) de_int) (dss_one (ds_ret de_int)) dss_nil) (dss_cons (ds_set (i := 1) sc_law_root.nd (de_op od_shl de_int (de_op (od_divW hp) (de_op od_add (de_bits (de_var 0)) de_int) de_int))) (dss_cons (ds_for rfl (di_range1 rfl T.b_range de_int) (dg_name (i := 2) sc_law_root.nd) (dss_cons (ds_set (i := 3) sc_law_root.nd (de_op (od_divW hp) (de_op od_add (de_var 1) (de_op (od_divW hp) (de_var 0) (de_var 1))) de_int)) (dss_cons (ds_if (dt_cmp od_ge (de_var 3) (de_var 1)) (dss_one (ds_ret (de_var 1))) dss_nil) (dss_one (ds_set (i := 1) sc_law_root.nd (de_var 3)))))) (dss_one (ds_ret (de_var 1))))))⟩) hw
def P_law_fitting : DTS := (dSeq (dSet 2 (dBin bMod (dCB bInt (dCons (dLook 0) dNil)) (dC (.int 4)))) (dSeq (dIf (dTst (dBin bGt (dVar 2) (dC (.int 1)))) (dSet 0 (dBin bAdd (dBin bSub (dVar 0) (dVar 2)) (dVar 1))) dNext) (dSeq (dIf (dTst (dBin bLt (dVar 0) (dC (.int 5)))) (dSet 0 (dC (.int 5))) dNext) (dSeq (dIf (dTst (dBin bEq (dBin bMul (dCall c_law_root (dCons (dVar 0) dNil)) (dCall c_law_root (dCons (dVar 0) dNil))) (dVar 0))) (dSet 0 (dBin bAdd (dVar 0) (dC (.int 4)))) dNext) (dSeq (dIf (dTst (dBin bGt (dVar 0) (dBin bPow (dC (.int 10)) (dC (.int 6))))) (dSet 0 (dC (.int 999996))) dNext) (dRet (dVar 0)))))))
theorem h_law_fitting {P : Program} {w : World} {K : PySem.W.Frag} {mg : Str → Option Value} {base : Heap} (T : Txt K mg) (h_law_root : Has P w K mg base 35 "_law_root" ["number"] c_law_root) (hw : ∀ ds, c_law_fitting.pre ds → P_law_fitting { nx := fun _ => c_law_fitting.post ds .none, rt := c_law_fitting.post ds } (startD n_law_fitting.length ds)) (hl : ∀ ds, c_law_fitting.pre ds → ds.length = 2) :
    Has P w K mg base 36 "_law_fitting" ["number", "odd"] c_law_fitting :=
  has_of (k := 35) T.d_law_fitting sc_law_fitting hl (fun f cdv A outer s H E hr =>
    have hu := hr.units
    ⟨_, (dss_cons (ds_set (i := 2) sc_law_fitting.nd (de_op od_mod (de_callTy cd_int rfl T.b_int (by decide +kernel) (dva_cons (dv_var 0) dva_nil)) de_int)) (dss_cons (ds_if (dt_cmp od_gt (de_var 2) de_int) (dss_one (ds_set (i := 0) sc_law_fitting.nd (de_op od_add (de_op od_sub (de_var 0) (de_var 2)) (de_var 1)))) dss_nil) (dss_cons (ds_if (dt_cmp od_lt (de_var 0) de_int) (dss_one (ds_set (i := 0) sc_law_fitting.nd de_int)) dss_nil) (dss_cons (ds_if (dt_cmp (od_eq hu) (de_op od_mul (de_callH h_law_root (hr.mono (by decide)) (da_cons (de_var 0) da_nil)) (de_callH h_law_root (hr.mono (by decide)) (da_cons (de_var 0) da_nil))) (de_var 0)) (dss_one (ds_set (i := 0) sc_law_fitting.nd (de_op od_add (de_var 0) de_int))) dss_nil) (dss_cons (ds_if (dt_cmp od_gt (de_var 0) (de_op od_pow de_int de_int)) (dss_one (ds_set (i := 0) sc_law_fitting.nd de_int)) dss_nil) (dss_one (ds_ret (de_var 0))))))))⟩) hw
def P_law_number_with_pair : DTS := (dSeq (dSet 1 (dCall c_law_digits (dCons (dVar 0) (dCons (dFz (dLst (dCons (dC (.int 10)) (dCons (dC (.int 2)) (dCons (dC (.int 200)) (dCons (dC (.int 10000)) (dCons (dC (.int 1000000)) (dCons (dC (.int 997)) (dCons (dC (.int 30)) (dCons (dC (.int 1000)) (dCons (dC (.int 9)) dNil))))))))))) dNil)))) (dSeq (dSet 2 (dBin bAdd (dC (.int 3)) (dBin bIx (dLook 1) (dC (.int 5))))) (dSeq (dSet 3 (dBin bSub (dBin bAdd (dBin bMul (dBin bSub (dVar 2) (dC (.int 2))) (dBin bSub (dVar 2) (dC (.int 2)))) (dBin bIx (dLook 1) (dC (.int 8)))) (dC (.int 4)))) (dSeq (dSet 4 (dFz (dLst (dCons (dBin bAdd (dC (.int 1)) (dBin bIx (dLook 1) (dC (.int 2)))) (dCons (dBin bAdd (dC (.int 1)) (dBin bIx (dLook 1) (dC (.int 2)))) (dCons (dBin bAdd (dC (.int 1)) (dBin bIx (dLook 1) (dC (.int 2)))) (dCons (dBin bAdd (dC (.int 1)) (dBin bIx (dLook 1) (dC (.int 3)))) (dCons (dBin bAdd (dC (.int 1)) (dBin bIx (dLook 1) (dC (.int 3)))) (dCons (dBin bAdd (dC (.int 1)) (dBin bIx (dLook 1) (dC (.int 4)))) dNil))))))))) (dSeq (dSet 4 (dBin bAdd (dVar 4) (dFz (dLst (dCons (dBin bSub (dBin bMul (dVar 2) (dVar 2)) (dC (.int 4))) (dCons (dBin bAdd (dBin bMul (dBin bSub (dVar 2) (dC (.int 2))) (dBin bSub (dVar 2) (dC (.int 2)))) (dC (.int 4))) (dCons (dBin bMul (dBin bMul (dBin bAdd (dC (.int 2)) (dBin bIx (dLook 1) (dC (.int 6)))) (dBin bAdd (dC (.int 2)) (dBin bIx (dLook 1) (dC (.int 6))))) (dBin bAdd (dC (.int 1)) (dBin bIx (dLook 1) (dC (.int 7))))) (dCons (dVar 3) dNil)))))))) (dRet (dCall c_law_fitting (dCons (dBin bIx (dLook 4) (dBin bIx (dLook 1) (dC (.int 0)))) (dCons (dBin bIx (dLook 1) (dC (.int 1))) dNil)))))))))
theorem h_law_number_with_pair {P : Program} {w : World} {K : PySem.W.Frag} {mg : Str → Option Value} {base : Heap} (T : Txt K mg) (h_law_digits : Has P w K mg base 1 "_law_digits" ["cell", "sizes"] c_law_digits) (h_law_fitting : Has P w K mg base 36 "_law_fitting" ["number", "odd"] c_law_fitting) (hw : ∀ ds, c_law_number_with_pair.pre ds → P_law_number_with_pair { nx := fun _ => c_law_number_with_pair.post ds .none, rt := c_law_number_with_pair.post ds } (startD n_law_number_with_pair.length ds)) (hl : ∀ ds, c_law_number_with_pair.pre ds → ds.length = 1) :
    Has P w K mg base 37 "_law_number_with_pair" ["cell"] c_law_number_with_pair :=
  has_of (k := 36) T.d_law_number_with_pair sc_law_number_with_pair hl (fun f cdv A outer s H E hr =>
    have hu := hr.units
    ⟨_, (dss_cons (ds_set (i := 1) sc_law_number_with_pair.nd (de_callH h_law_digits (hr.mono (by decide)) (da_cons (de_var 0) (da_cons (DL.fz (dl_lst (da_cons de_int (da_cons de_int (da_cons de_int (da_cons de_int (da_cons de_int (da_cons de_int (da_cons de_int (da_cons de_int (da_cons de_int da_nil))))))))))) da_nil)))) (dss_cons (ds_set (i := 2) sc_law_number_with_pair.nd (de_op od_add de_int (de_ix (dv_var 1) de_int))) (dss_cons (ds_set (i := 3) sc_law_number_with_pair.nd (de_op od_sub (de_op od_add (de_op od_mul (de_op od_sub (de_var 2) de_int) (de_op od_sub (de_var 2) de_int)) (de_ix (dv_var 1) de_int)) de_int)) (dss_cons (ds_set (i := 4) sc_law_number_with_pair.nd (DL.fz (dl_lst (da_cons (de_op od_add de_int (de_ix (dv_var 1) de_int)) (da_cons (de_op od_add de_int (de_ix (dv_var 1) de_int)) (da_cons (de_op od_add de_int (de_ix (dv_var 1) de_int)) (da_cons (de_op od_add de_int (de_ix (dv_var 1) de_int)) (da_cons (de_op od_add de_int (de_ix (dv_var 1) de_int)) (da_cons (de_op od_add de_int (de_ix (dv_var 1) de_int)) da_nil))))))))) (dss_cons (ds_set (i := 4) sc_law_number_with_pair.nd (de_op od_add (de_var 4) (DL.fz (dl_lst (da_cons (de_op od_sub (de_op od_mul (de_var 2) (de_var 2)) de_int) (da_cons (de_op od_add (de_op od_mul (de_op od_sub (de_var 2) de_int) (de_op od_sub (de_var 2) de_int)) de_int) (da_cons (de_op od_mul (de_op od_mul (de_op od_add de_int (de_ix (dv_var 1) de_int)) (de_op od_add de_int (de_ix (dv_var 1) de_int))) (de_op od_add de_int (de_ix (dv_var 1) de_int))) (da_cons (de_var 3) da_nil)))))))) (dss_one (ds_ret (de_callH h_law_fitting (hr.mono (by decide)) (da_cons (de_ix (dv_var 4) (de_ix (dv_var 1) de_int)) (da_cons (de_ix (dv_var 1) de_int) da_nil))))))))))⟩) hw
def P_law_number_without : DTS := (dSeq (dSet 1 (dCall c_law_digits (dCons (dVar 0) (dCons (dFz (dLst (dCons (dC (.int 3)) (dCons (dC (.int 1000)) (dCons (dC (.int 250000)) (dCons (dC (.int 50)) (dCons (dC (.int 2)) dNil))))))) dNil)))) (dRet (dBin bIx (dFz (dLst (dCons (dBin bMul (dBin bAdd (dC (.int 1)) (dBin bIx (dLook 1) (dC (.int 1)))) (dBin bAdd (dC (.int 1)) (dBin bIx (dLook 1) (dC (.int 1))))) (dCons (dBin bAdd (dBin bAdd (dBin bMul (dC (.int 4)) (dBin bIx (dLook 1) (dC (.int 2)))) (dC (.int 2))) (dBin bIx (dLook 1) (dC (.int 4)))) (dCons (dBin bAdd (dBin bAdd (dBin bMul (dC (.int 4)) (dBin bIx (dLook 1) (dC (.int 3)))) (dC (.int 2))) (dBin bIx (dLook 1) (dC (.int 4)))) dNil))))) (dBin bIx (dLook 1) (dC (.int 0))))))
theorem h_law_number_without {P : Program} {w : World} {K : PySem.W.Frag} {mg : Str → Option Value} {base : Heap} (T : Txt K mg) (h_law_digits : Has P w K mg base 1 "_law_digits" ["cell", "sizes"] c_law_digits) (hw : ∀ ds, c_law_number_without.pre ds → P_law_number_without { nx := fun _ => c_law_number_without.post ds .none, rt := c_law_number_without.post ds } (startD n_law_number_without.length ds)) (hl : ∀ ds, c_law_number_without.pre ds → ds.length = 1) :
    Has P w K mg base 2 "_law_number_without" ["cell"] c_law_number_without :=
  has_of (k := 1) T.d_law_number_without sc_law_number_without hl (fun f cdv A outer s H E hr =>
    have hu := hr.units
    ⟨_, (dss_cons (ds_set (i := 1) sc_law_number_without.nd (de_callH h_law_digits (hr.mono (by decide)) (da_cons (de_var 0) (da_cons (DL.fz (dl_lst (da_cons de_int (da_cons de_int (da_cons de_int (da_cons de_int (da_cons de_int da_nil))))))) da_nil)))) (dss_one (ds_ret (de_ix (DE.v (DL.fz (dl_lst (da_cons (de_op od_mul (de_op od_add de_int (de_ix (dv_var 1) de_int)) (de_op od_add de_int (de_ix (dv_var 1) de_int))) (da_cons (de_op od_add (de_op od_add (de_op od_mul de_int (de_ix (dv_var 1) de_int)) de_int) (de_ix (dv_var 1) de_int)) (da_cons (de_op od_add (de_op od_add (de_op od_mul de_int (de_ix (dv_var 1) de_int)) de_int) (de_ix (dv_var 1) de_int)) da_nil)))))) (de_ix (dv_var 1) de_int)))))⟩) hw
def L_law_cell_1 : DTS := (dSet 2 (dBin bMod (dCB bInt (dCons (dBin bAdd (dBin bMul (dVar 2) (dC (.int 31))) (dBin bMod (dCB bInt (dCons (dLook 3) dNil)) (dC (.int 1000003)))) dNil)) (dC (.int 1000003))))
def P_law_cell : DTS := (dSeq (dIf (dTst (dBin bLt (dVar 1) (dCB bLen (dCons (dLook 0) dNil)))) (dRet (dBin bIx (dLook 0) (dVar 1))) dNext) (dSeq (dSet 2 (dC (.int 17))) (dSeq (dFor (dSq (dVar 0)) (dgName 3) L_law_cell_1) (dRet (dBin bMod (dCB bInt (dCons (dBin bMul (dBin bMul (dBin bAdd (dVar 2) (dC (.int 7))) (dBin bAdd (dVar 1) (dC (.int 3)))) (dC (.int 69621))) dNil)) (dC (.int 2147483647)))))))
theorem h_law_cell {P : Program} {w : World} {K : PySem.W.Frag} {mg : Str → Option Value} {base : Heap} (T : Txt K mg) (hw : ∀ ds, c_law_cell.pre ds → P_law_cell { nx := fun _ => c_law_cell.post ds .none, rt := c_law_cell.post ds } (startD n_law_cell.length ds)) (hl : ∀ ds, c_law_cell.pre ds → ds.length = 2) :
    Has P w K mg base 1 "_law_cell" ["script", "k"] c_law_cell :=
  has_of (k := 0) T.d_law_cell sc_law_cell hl (fun f cdv A outer s H E hr =>
    have hu := hr.units
    ⟨_, (dss_cons (ds_if (dt_cmp od_lt (de_var 1) (de_callB cd_len rfl T.b_len (by decide +kernel) (dva_cons (dv_var 0) dva_nil))) (dss_one (ds_ret (de_ix (dv_var 0) (de_var 1)))) dss_nil) (dss_cons (ds_set (i := 2) sc_law_cell.nd de_int) (dss_cons (ds_for rfl (di_seq (de_var 0)) (dg_name (i := 3) sc_law_cell.nd) (dss_one (ds_set (i := 2) sc_law_cell.nd (de_op od_mod (de_callTy cd_int rfl T.b_int (by decide +kernel) (dva_cons (DE.v (de_op od_add (de_op od_mul (de_var 2) de_int) (de_op od_mod (de_callTy cd_int rfl T.b_int (by decide +kernel) (dva_cons (dv_var 3) dva_nil)) de_int))) dva_nil)) de_int)))) (dss_one (ds_ret (de_op od_mod (de_callTy cd_int rfl T.b_int (by decide +kernel) (dva_cons (DE.v (de_op od_mul (de_op od_mul (de_op od_add (de_var 2) de_int) (de_op od_add (de_var 1) de_int)) de_int)) dva_nil)) de_int))))))⟩) hw
def P_law_whole : DTS := (dRet (dAndV (dIsi "int" (dLook 0)) (dNotV (dIsi "bool" (dLook 0)))))
theorem h_law_whole {P : Program} {w : World} {K : PySem.W.Frag} {mg : Str → Option Value} {base : Heap} (T : Txt K mg) (hw : ∀ ds, c_law_whole.pre ds → P_law_whole { nx := fun _ => c_law_whole.post ds .none, rt := c_law_whole.post ds } (startD n_law_whole.length ds)) (hl : ∀ ds, c_law_whole.pre ds → ds.length = 1) :
    Has P w K mg base 1 "_law_whole" ["value"] c_law_whole :=
  has_of (k := 0) T.d_law_whole sc_law_whole hl (fun f cdv A outer s H E hr =>
    have hu := hr.units
    ⟨_, (dss_one (ds_ret (de_and (de_isi kit_int rfl T.b_isinstance rfl T.b_int (by decide +kernel) (dv_var 0)) (de_one (de_not (de_isi kit_bool rfl T.b_isinstance rfl T.b_bool (by decide +kernel) (dv_var 0)))))))⟩) hw
def L_law_is_row_1 : DTS := (dIf (dNot (dTst (dCall c_law_whole (dCons (dVar 2) dNil)))) (dRet (dC (.bool false))) dNext)
def P_law_is_row : DTS := (dSeq (dIf (dOr (dNot (dTst (dIsi "tuple" (dLook 0)))) (dTst (dBin bNe (dCB bLen (dCons (dLook 0) dNil)) (dVar 1)))) (dRet (dC (.bool false))) dNext) (dSeq (dFor (dSq (dVar 0)) (dgName 2) L_law_is_row_1) (dRet (dC (.bool true)))))
theorem h_law_is_row {P : Program} {w : World} {K : PySem.W.Frag} {mg : Str → Option Value} {base : Heap} (T : Txt K mg) (h_law_whole : Has P w K mg base 1 "_law_whole" ["value"] c_law_whole) (hw : ∀ ds, c_law_is_row.pre ds → P_law_is_row { nx := fun _ => c_law_is_row.post ds .none, rt := c_law_is_row.post ds } (startD n_law_is_row.length ds)) (hl : ∀ ds, c_law_is_row.pre ds → ds.length = 2) :
    Has P w K mg base 2 "_law_is_row" ["value", "many"] c_law_is_row :=
  has_of (k := 1) T.d_law_is_row sc_law_is_row hl (fun f cdv A outer s H E hr =>
    have hu := hr.units
    ⟨_, (dss_cons (ds_if (DW.t (dw_or (dt_not (dt_val (de_isi kit_tuple rfl T.b_isinstance rfl T.b_tuple (by decide +kernel) (dv_var 0)))) (dw_or1 (dt_cmp (od_ne hu) (de_callB cd_len rfl T.b_len (by decide +kernel) (dva_cons (dv_var 0) dva_nil)) (de_var 1))))) (dss_one (ds_ret de_bl)) dss_nil) (dss_cons (ds_for rfl (di_seq (de_var 0)) (dg_name (i := 2) sc_law_is_row.nd) (dss_one (ds_if (dt_not (dt_val (de_callH h_law_whole (hr.mono (by decide)) (da_cons (de_var 2) da_nil)))) (dss_one (ds_ret de_bl)) dss_nil))) (dss_one (ds_ret de_bl))))⟩) hw
def L_law_root_from_1 : DTS := (dSeq (dSet 3 (dBin bDivW (dBin bAdd (dVar 1) (dBin bDivW (dVar 0) (dVar 1))) (dC (.int 2)))) (dSeq (dIf (dTst (dBin bGe (dVar 3) (dVar 1))) (dRet (dVar 1)) dNext) (dSet 1 (dVar 3))))
def P_law_root_from : DTS := (dSeq (dFor (dRng1 (dC (.int 100000))) (dgName 2) L_law_root_from_1) (dRet (dVar 1)))
theorem h_law_root_from {P : Program} {w : World} {K : PySem.W.Frag} {mg : Str → Option Value} {base : Heap} (T : Txt K mg) (hS : base.NoSeer) (hP : P.given.tree = none) (hw : ∀ ds, c_law_root_from.pre ds → P_law_root_from { nx := fun _ => c_law_root_from.post ds .none, rt := c_law_root_from.post ds } (startD n_law_root_from.length ds)) (hl : ∀ ds, c_law_root_from.pre ds → ds.length = 2) :
    Has P w K mg base 35 "_law_root_from" ["number", "guess"] c_law_root_from :=
  has_of (k := 34) T.d_law_root_from sc_law_root_from hl (fun f cdv A outer s H E hr =>
    have hu := hr.units
    have hp := pyOk_of (k := 0) (N := n_law_root_from) (st := s_law_root_from) hS hP hr rfl rfl
    ⟨_, (dss_cons (ds_for rfl (di_range1 rfl T.b_range de_int) (dg_name (i := 2) sc_law_root_from.nd) (dss_cons (ds_set (i := 3) sc_law_root_from.nd (de_op (od_divW hp) (de_op od_add (de_var 1) (de_op (od_divW hp) (de_var 0) (de_var 1))) de_int)) (dss_cons (ds_if (dt_cmp od_ge (de_var 3) (de_var 1)) (dss_one (ds_ret (de_var 1))) dss_nil) (dss_one (ds_set (i := 1) sc_law_root_from.nd (de_var 3)))))) (dss_one (ds_ret (de_var 1))))⟩) hw
def L_law_none_counted_1 : DTS := (dSeq (dSet 5 (dBin bAdd (dBin bMul (dBin bMul (dVar 0) (dVar 4)) (dVar 4)) (dC (.int 4)))) (dSeq (dSet 3 (dCall c_law_root_from (dCons (dVar 5) (dCons (dBin bAdd (dBin bAdd (dVar 3) (dVar 1)) (dC (.int 2))) dNil)))) (dIf (dTst (dBin bEq (dBin bMul (dVar 3) (dVar 3)) (dVar 5))) (dRet (dC (.bool false))) dNext)))
def P_law_none_counted : DTS := (dSeq (dSet 3 (dC (.int 0))) (dSeq (dFor (dRng2 (dC (.int 1)) (dBin bAdd (dVar 2) (dC (.int 1)))) (dgName 4) L_law_none_counted_1) (dRet (dC (.bool true)))))
theorem h_law_none_counted {P : Program} {w : World} {K : PySem.W.Frag} {mg : Str → Option Value} {base : Heap} (T : Txt K mg) (h_law_root_from : Has P w K mg base 35 "_law_root_from" ["number", "guess"] c_law_root_from) (hw : ∀ ds, c_law_none_counted.pre ds → P_law_none_counted { nx := fun _ => c_law_none_counted.post ds .none, rt := c_law_none_counted.post ds } (startD n_law_none_counted.length ds)) (hl : ∀ ds, c_law_none_counted.pre ds → ds.length = 3) :
    Has P w K mg base 36 "_law_none_counted" ["number", "root", "most"] c_law_none_counted :=
  has_of (k := 35) T.d_law_none_counted sc_law_none_counted hl (fun f cdv A outer s H E hr =>
    have hu := hr.units
    ⟨_, (dss_cons (ds_set (i := 3) sc_law_none_counted.nd de_int) (dss_cons (ds_for rfl (di_range2 rfl T.b_range de_int (de_op od_add (de_var 2) de_int)) (dg_name (i := 4) sc_law_none_counted.nd) (dss_cons (ds_set (i := 5) sc_law_none_counted.nd (de_op od_add (de_op od_mul (de_op od_mul (de_var 0) (de_var 4)) (de_var 4)) de_int)) (dss_cons (ds_set (i := 3) sc_law_none_counted.nd (de_callH h_law_root_from (hr.mono (by decide)) (da_cons (de_var 5) (da_cons (de_op od_add (de_op od_add (de_var 3) (de_var 1)) de_int) da_nil)))) (dss_one (ds_if (dt_cmp (od_eq hu) (de_op od_mul (de_var 3) (de_var 3)) (de_var 5)) (dss_one (ds_ret de_bl)) dss_nil))))) (dss_one (ds_ret de_bl))))⟩) hw
def L_law_prime_1 : DTS := (dSeq (dIf (dTst (dBin bGt (dBin bMul (dVar 1) (dVar 1)) (dVar 0))) (dRet (dC (.bool true))) dNext) (dIf (dTst (dBin bEq (dBin bMod (dCB bInt (dCons (dLook 0) dNil)) (dVar 1)) (dC (.int 0)))) (dRet (dC (.bool false))) dNext))
def P_law_prime : DTS := (dSeq (dFor (dRng2 (dC (.int 2)) (dVar 0)) (dgName 1) L_law_prime_1) (dRet (dC (.bool true))))
theorem h_law_prime {P : Program} {w : World} {K : PySem.W.Frag} {mg : Str → Option Value} {base : Heap} (T : Txt K mg) (hw : ∀ ds, c_law_prime.pre ds → P_law_prime { nx := fun _ => c_law_prime.post ds .none, rt := c_law_prime.post ds } (startD n_law_prime.length ds)) (hl : ∀ ds, c_law_prime.pre ds → ds.length = 1) :
    Has P w K mg base 1 "_law_prime" ["k"] c_law_prime :=
  has_of (k := 0) T.d_law_prime sc_law_prime hl (fun f cdv A outer s H E hr =>
    have hu := hr.units
    ⟨_, (dss_cons (ds_for rfl (di_range2 rfl T.b_range de_int (de_var 0)) (dg_name (i := 1) sc_law_prime.nd) (dss_cons (ds_if (dt_cmp od_gt (de_op od_mul (de_var 1) (de_var 1)) (de_var 0)) (dss_one (ds_ret de_bl)) dss_nil) (dss_one (ds_if (dt_cmp (od_eq hu) (de_op od_mod (de_callTy cd_int rfl T.b_int (by decide +kernel) (dva_cons (dv_var 0) dva_nil)) (de_var 1)) de_int) (dss_one (ds_ret de_bl)) dss_nil)))) (dss_one (ds_ret de_bl)))⟩) hw
def L_law_power_1 : DTS := (dSeq (dIf (dTst (dBin bEq (dBin bMod (dCB bInt (dCons (dLook 3) dNil)) (dC (.int 2))) (dC (.int 1)))) (dSet 2 (dBin bMul (dVar 2) (dVar 0))) dNext) (dSeq (dSet 3 (dBin bDiv (dVar 3) (dC (.int 2)))) (dSeq (dIf (dTst (dBin bEq (dVar 3) (dC (.int 0)))) dBreak dNext) (dSet 0 (dBin bMul (dVar 0) (dVar 0))))))
def P_law_power : DTS := (dSeq (dSet 2 (dVar 0)) (dSeq (dSet 3 (dBin bSub (dVar 1) (dC (.int 1)))) (dSeq (dFor (dRng1 (dC (.int 64))) (dgName 4) L_law_power_1) (dRet (dVar 2)))))
theorem h_law_power {P : Program} {w : World} {K : PySem.W.Frag} {mg : Str → Option Value} {base : Heap} (T : Txt K mg) (hw : ∀ ds, c_law_power.pre ds → P_law_power { nx := fun _ => c_law_power.post ds .none, rt := c_law_power.post ds } (startD n_law_power.length ds)) (hl : ∀ ds, c_law_power.pre ds → ds.length = 2) :
    Has P w K mg base 1 "_law_power" ["factor", "many"] c_law_power :=
  has_of (k := 0) T.d_law_power sc_law_power hl (fun f cdv A outer s H E hr =>
    have hu := hr.units
    ⟨_, (dss_cons (ds_set (i := 2) sc_law_power.nd (de_var 0)) (dss_cons (ds_set (i := 3) sc_law_power.nd (de_op od_sub (de_var 1) de_int)) (dss_cons (ds_for rfl (di_range1 rfl T.b_range de_int) (dg_name (i := 4) sc_law_power.nd) (dss_cons (ds_if (dt_cmp (od_eq hu) (de_op od_mod (de_callTy cd_int rfl T.b_int (by decide +kernel) (dva_cons (dv_var 3) dva_nil)) de_int) de_int) (dss_one (ds_set (i := 2) sc_law_power.nd (de_op od_mul (de_var 2) (de_var 0)))) dss_nil) (dss_cons (ds_set (i := 3) sc_law_power.nd (de_op od_div (de_var 3) de_int)) (dss_cons (ds_if (dt_cmp (od_eq hu) (de_var 3) de_int) (dss_one ds_break) dss_nil) (dss_one (ds_set (i := 0) sc_law_power.nd (de_op od_mul (de_var 0) (de_var 0)))))))) (dss_one (ds_ret (de_var 2))))))⟩) hw
def L_law_deep_root_1 : DTS := (dSeq (dSet 4 (dBin bDivW (dBin bAdd (dBin bMul (dBin bSub (dVar 1) (dC (.int 1))) (dVar 2)) (dBin bDivW (dVar 0) (dCall c_law_power (dCons (dVar 2) (dCons (dBin bSub (dVar 1) (dC (.int 1))) dNil))))) (dVar 1))) (dSeq (dIf (dTst (dBin bGe (dVar 4) (dVar 2))) (dRet (dVar 2)) dNext) (dSet 2 (dVar 4))))
def P_law_deep_root : DTS := (dSeq (dSet 2 (dBin bShl (dC (.int 1)) (dBin bAdd (dBin bDivW (dUn bBits (dVar 0)) (dVar 1)) (dC (.int 1))))) (dSeq (dFor (dRng1 (dC (.int 100000))) (dgName 3) L_law_deep_root_1) (dRet (dVar 2))))
theorem h_law_deep_root {P : Program} {w : World} {K : PySem.W.Frag} {mg : Str → Option Value} {base : Heap} (T : Txt K mg) (h_law_power : Has P w K mg base 1 "_law_power" ["factor", "many"] c_law_power) (hS : base.NoSeer) (hP : P.given.tree = none) (hw : ∀ ds, c_law_deep_root.pre ds → P_law_deep_root { nx := fun _ => c_law_deep_root.post ds .none, rt := c_law_deep_root.post ds } (startD n_law_deep_root.length ds)) (hl : ∀ ds, c_law_deep_root.pre ds → ds.length = 2) :
    Has P w K mg base 36 "_law_deep_root" ["number", "k"] c_law_deep_root :=
  has_of (k := 35) T.d_law_deep_root sc_law_deep_root hl (fun f cdv A outer s H E hr =>
    have hu := hr.units
    have hp := pyOk_of (k := 1) (N := n_law_deep_root) (st := s_law_deep_root) hS hP hr rfl rfl
    ⟨_, (dss_cons (ds_set (i := 2) sc_law_deep_root.nd (de_op od_shl de_int (de_op od_add (de_op (od_divW hp) (de_bits (de_var 0)) (de_var 1)) de_int))) (dss_cons (ds_for rfl (di_range1 rfl T.b_range de_int) (dg_name (i := 3) sc_law_deep_root.nd) (dss_cons (ds_set (i := 4) sc_law_deep_root.nd (de_op (od_divW hp) (de_op od_add (de_op od_mul (de_op od_sub (de_var 1) de_int) (de_var 2)) (de_op (od_divW hp) (de_var 0) (de_callH h_law_power (hr.mono (by decide)) (da_cons (de_var 2) (da_cons (de_op od_sub (de_var 1) de_int) da_nil))))) (de_var 1))) (dss_cons (ds_if (dt_cmp od_ge (de_var 4) (de_var 2)) (dss_one (ds_ret (de_var 2))) dss_nil) (dss_one (ds_set (i := 2) sc_law_deep_root.nd (de_var 4)))))) (dss_one (ds_ret (de_var 2)))))⟩) hw
def L_law_power_trace_1 : DTS := (dSeq (dIf (dTst (dBin bEq (dVar 3) (dC (.int 0)))) dBreak dNext) (dSeq (dApp 2 (dBin bMod (dCB bInt (dCons (dLook 3) dNil)) (dC (.int 2)))) (dSet 3 (dBin bDiv (dVar 3) (dC (.int 2))))))
def L_law_power_trace_2 : DTS := (dSeq (dSet 7 (dBin bSub (dBin bMul (dVar 5) (dVar 6)) (dVar 0))) (dIf (dTst (dBin bEq (dBin bIx (dLook 2) (dBin bSub (dBin bSub (dCB bLen (dCons (dLook 2) dNil)) (dC (.int 1))) (dVar 4))) (dC (.int 1)))) (dSeq (dSet 5 (dVar 7)) (dSet 6 (dBin bSub (dBin bMul (dVar 6) (dVar 6)) (dC (.int 2))))) (dSeq (dSet 6 (dVar 7)) (dSet 5 (dBin bSub (dBin bMul (dVar 5) (dVar 5)) (dC (.int 2)))))))
def P_law_power_trace : DTS := (dSeq (dSetO 2 (dLst dNil)) (dSeq (dSet 3 (dVar 1)) (dSeq (dFor (dRng1 (dC (.int 64))) (dgName 4) L_law_power_trace_1) (dSeq (dSet 5 (dC (.int 2))) (dSeq (dSet 6 (dVar 0)) (dSeq (dFor (dRng1 (dCB bLen (dCons (dLook 2) dNil))) (dgName 4) L_law_power_trace_2) (dRet (dVar 5))))))))
theorem h_law_power_trace {P : Program} {w : World} {K : PySem.W.Frag} {mg : Str → Option Value} {base : Heap} (T : Txt K mg) (hw : ∀ ds, c_law_power_trace.pre ds → P_law_power_trace { nx := fun _ => c_law_power_trace.post ds .none, rt := c_law_power_trace.post ds } (startD n_law_power_trace.length ds)) (hl : ∀ ds, c_law_power_trace.pre ds → ds.length = 2) :
    Has P w K mg base 1 "_law_power_trace" ["trace", "k"] c_law_power_trace :=
  has_of (k := 0) T.d_law_power_trace sc_law_power_trace hl (fun f cdv A outer s H E hr =>
    have hu := hr.units
    ⟨_, (dss_cons (ds_setO (i := 2) sc_law_power_trace.nd (dl_lst da_nil)) (dss_cons (ds_set (i := 3) sc_law_power_trace.nd (de_var 1)) (dss_cons (ds_for rfl (di_range1 rfl T.b_range de_int) (dg_name (i := 4) sc_law_power_trace.nd) (dss_cons (ds_if (dt_cmp (od_eq hu) (de_var 3) de_int) (dss_one ds_break) dss_nil) (dss_cons (ds_app (i := 2) (de_op od_mod (de_callTy cd_int rfl T.b_int (by decide +kernel) (dva_cons (dv_var 3) dva_nil)) de_int)) (dss_one (ds_set (i := 3) sc_law_power_trace.nd (de_op od_div (de_var 3) de_int)))))) (dss_cons (ds_set (i := 5) sc_law_power_trace.nd de_int) (dss_cons (ds_set (i := 6) sc_law_power_trace.nd (de_var 0)) (dss_cons (ds_for rfl (di_range1 rfl T.b_range (de_callB cd_len rfl T.b_len (by decide +kernel) (dva_cons (dv_var 2) dva_nil))) (dg_name (i := 4) sc_law_power_trace.nd) (dss_cons (ds_set (i := 7) sc_law_power_trace.nd (de_op od_sub (de_op od_mul (de_var 5) (de_var 6)) (de_var 0))) (dss_one (ds_if (dt_cmp (od_eq hu) (de_ix (dv_var 2) (de_op od_sub (de_op od_sub (de_callB cd_len rfl T.b_len (by decide +kernel) (dva_cons (dv_var 2) dva_nil)) de_int) (de_var 4))) de_int) (dss_cons (ds_set (i := 5) sc_law_power_trace.nd (de_var 7)) (dss_one (ds_set (i := 6) sc_law_power_trace.nd (de_op od_sub (de_op od_mul (de_var 6) (de_var 6)) de_int)))) (dss_cons (ds_set (i := 6) sc_law_power_trace.nd (de_var 7)) (dss_one (ds_set (i := 5) sc_law_power_trace.nd (de_op od_sub (de_op od_mul (de_var 5) (de_var 5)) de_int)))))))) (dss_one (ds_ret (de_var 5)))))))))⟩) hw
def P_law_is_power : DTS := (dSeq (dSet 3 (dBin bAdd (dCall c_law_deep_root (dCons (dVar 1) (dCons (dVar 2) dNil))) (dC (.int 1)))) (dSeq (dIf (dOr (dTst (dBin bNe (dCall c_law_power_trace (dCons (dVar 3) (dCons (dVar 2) dNil))) (dVar 1))) (dTst (dBin bNe (dBin bMod (dCB bInt (dCons (dBin bSub (dBin bMul (dVar 3) (dVar 3)) (dC (.int 4))) dNil)) (dVar 0)) (dC (.int 0))))) (dRet (dC (.bool false))) dNext) (dSeq (dSet 4 (dBin bDiv (dBin bSub (dBin bMul (dVar 3) (dVar 3)) (dC (.int 4))) (dVar 0))) (dRet (dAndV (dBin bGt (dVar 4) (dC (.int 0))) (dBin bEq (dBin bMul (dCall c_law_root (dCons (dVar 4) dNil)) (dCall c_law_root (dCons (dVar 4) dNil))) (dVar 4)))))))
theorem h_law_is_power {P : Program} {w : World} {K : PySem.W.Frag} {mg : Str → Option Value} {base : Heap} (T : Txt K mg) (h_law_root : Has P w K mg base 35 "_law_root" ["number"] c_law_root) (h_law_power_trace : Has P w K mg base 1 "_law_power_trace" ["trace", "k"] c_law_power_trace) (h_law_deep_root : Has P w K mg base 36 "_law_deep_root" ["number", "k"] c_law_deep_root) (hw : ∀ ds, c_law_is_power.pre ds → P_law_is_power { nx := fun _ => c_law_is_power.post ds .none, rt := c_law_is_power.post ds } (startD n_law_is_power.length ds)) (hl : ∀ ds, c_law_is_power.pre ds → ds.length = 3) :
    Has P w K mg base 37 "_law_is_power" ["number", "t", "k"] c_law_is_power :=
  has_of (k := 36) T.d_law_is_power sc_law_is_power hl (fun f cdv A outer s H E hr =>
    have hu := hr.units
    ⟨_, (dss_cons (ds_set (i := 3) sc_law_is_power.nd (de_op od_add (de_callH h_law_deep_root (hr.mono (by decide)) (da_cons (de_var 1) (da_cons (de_var 2) da_nil))) de_int)) (dss_cons (ds_if (DW.t (dw_or (dt_cmp (od_ne hu) (de_callH h_law_power_trace (hr.mono (by decide)) (da_cons (de_var 3) (da_cons (de_var 2) da_nil))) (de_var 1)) (dw_or1 (dt_cmp (od_ne hu) (de_op od_mod (de_callTy cd_int rfl T.b_int (by decide +kernel) (dva_cons (DE.v (de_op od_sub (de_op od_mul (de_var 3) (de_var 3)) de_int)) dva_nil)) (de_var 0)) de_int)))) (dss_one (ds_ret de_bl)) dss_nil) (dss_cons (ds_set (i := 4) sc_law_is_power.nd (de_op od_div (de_op od_sub (de_op od_mul (de_var 3) (de_var 3)) de_int) (de_var 0))) (dss_one (ds_ret (de_and (de_cmp od_gt (de_var 4) de_int) (de_one (de_cmp (od_eq hu) (de_op od_mul (de_callH h_law_root (hr.mono (by decide)) (da_cons (de_var 4) da_nil)) (de_callH h_law_root (hr.mono (by decide)) (da_cons (de_var 4) da_nil))) (de_var 4)))))))))⟩) hw
def L_law_no_power_1 : DTS := (dIf (dTst (dCall c_law_prime (dCons (dVar 3) dNil))) (dSeq (dIf (dTst (dBin bGt (dCall c_law_power_trace (dCons (dVar 2) (dCons (dVar 3) dNil))) (dVar 1))) (dRet (dC (.bool true))) dNext) (dIf (dTst (dCall c_law_is_power (dCons (dVar 0) (dCons (dVar 1) (dCons (dVar 3) dNil))))) (dRet (dC (.bool false))) dNext)) dNext)
def P_law_no_power : DTS := (dSeq (dSet 2 (dBin bAdd (dCall c_law_root (dCons (dBin bAdd (dVar 0) (dC (.int 3))) dNil)) (dC (.int 1)))) (dSeq (dFor (dRng2 (dC (.int 2)) (dBin bAdd (dUn bBits (dVar 1)) (dC (.int 2)))) (dgName 3) L_law_no_power_1) (dRet (dC (.bool true)))))
theorem h_law_no_power {P : Program} {w : World} {K : PySem.W.Frag} {mg : Str → Option Value} {base : Heap} (T : Txt K mg) (h_law_root : Has P w K mg base 35 "_law_root" ["number"] c_law_root) (h_law_power_trace : Has P w K mg base 1 "_law_power_trace" ["trace", "k"] c_law_power_trace) (h_law_prime : Has P w K mg base 1 "_law_prime" ["k"] c_law_prime) (h_law_is_power : Has P w K mg base 37 "_law_is_power" ["number", "t", "k"] c_law_is_power) (hw : ∀ ds, c_law_no_power.pre ds → P_law_no_power { nx := fun _ => c_law_no_power.post ds .none, rt := c_law_no_power.post ds } (startD n_law_no_power.length ds)) (hl : ∀ ds, c_law_no_power.pre ds → ds.length = 2) :
    Has P w K mg base 38 "_law_no_power" ["number", "t"] c_law_no_power :=
  has_of (k := 37) T.d_law_no_power sc_law_no_power hl (fun f cdv A outer s H E hr =>
    have hu := hr.units
    ⟨_, (dss_cons (ds_set (i := 2) sc_law_no_power.nd (de_op od_add (de_callH h_law_root (hr.mono (by decide)) (da_cons (de_op od_add (de_var 0) de_int) da_nil)) de_int)) (dss_cons (ds_for rfl (di_range2 rfl T.b_range de_int (de_op od_add (de_bits (de_var 1)) de_int)) (dg_name (i := 3) sc_law_no_power.nd) (dss_one (ds_if (dt_val (de_callH h_law_prime (hr.mono (by decide)) (da_cons (de_var 3) da_nil))) (dss_cons (ds_if (dt_cmp od_gt (de_callH h_law_power_trace (hr.mono (by decide)) (da_cons (de_var 2) (da_cons (de_var 3) da_nil))) (de_var 1)) (dss_one (ds_ret de_bl)) dss_nil) (dss_one (ds_if (dt_val (de_callH h_law_is_power (hr.mono (by decide)) (da_cons (de_var 0) (da_cons (de_var 1) (da_cons (de_var 3) da_nil))))) (dss_one (ds_ret de_bl)) dss_nil))) dss_nil))) (dss_one (ds_ret de_bl))))⟩) hw
def P_law_least : DTS := (dSeq (dIf (dOr (dNot (dTst (dCall c_law_is_row (dCons (dVar 2) (dCons (dC (.int 2)) dNil))))) (dOr (dTst (dBin bLt (dBin bIx (dLook 2) (dC (.int 0))) (dC (.int 1)))) (dTst (dBin bLt (dBin bIx (dLook 2) (dC (.int 1))) (dC (.int 1)))))) (dRet (dC (.bool false))) dNext) (dSeq (dSet 3 (dBin bAdd (dBin bMul (dBin bMul (dC (.int 64)) (dBin bAdd (dVar 1) (dC (.int 1)))) (dBin bAdd (dVar 1) (dC (.int 1)))) (dC (.int 64)))) (dSeq (dIf (dOr (dTst (dBin bGt (dUn bBits (dBin bIx (dLook 2) (dC (.int 0)))) (dVar 3))) (dTst (dBin bGt (dUn bBits (dBin bIx (dLook 2) (dC (.int 1)))) (dVar 3)))) (dRet (dC (.bool false))) dNext) (dSeq (dIf (dTst (dBin bNe (dBin bSub (dBin bMul (dBin bIx (dLook 2) (dC (.int 0))) (dBin bIx (dLook 2) (dC (.int 0)))) (dBin bMul (dBin bMul (dVar 0) (dBin bIx (dLook 2) (dC (.int 1)))) (dBin bIx (dLook 2) (dC (.int 1))))) (dC (.int 4)))) (dRet (dC (.bool false))) dNext) (dRet (dAndV (dCall c_law_none_counted (dCons (dVar 0) (dCons (dVar 1) (dCons (dCB bMin2 (dCons (dBin bSub (dBin bIx (dLook 2) (dC (.int 1))) (dC (.int 1))) (dCons (dC (.int 300)) dNil))) dNil)))) (dCall c_law_no_power (dCons (dVar 0) (dCons (dBin bIx (dLook 2) (dC (.int 0))) dNil)))))))))
theorem h_law_least {P : Program} {w : World} {K : PySem.W.Frag} {mg : Str → Option Value} {base : Heap} (T : Txt K mg) (h_law_is_row : Has P w K mg base 2 "_law_is_row" ["value", "many"] c_law_is_row) (h_law_no_power : Has P w K mg base 38 "_law_no_power" ["number", "t"] c_law_no_power) (h_law_none_counted : Has P w K mg base 36 "_law_none_counted" ["number", "root", "most"] c_law_none_counted) (hw : ∀ ds, c_law_least.pre ds → P_law_least { nx := fun _ => c_law_least.post ds .none, rt := c_law_least.post ds } (startD n_law_least.length ds)) (hl : ∀ ds, c_law_least.pre ds → ds.length = 3) :
    Has P w K mg base 39 "_law_least" ["number", "root", "told"] c_law_least :=
  has_of (k := 38) T.d_law_least sc_law_least hl (fun f cdv A outer s H E hr =>
    have hu := hr.units
    ⟨_, (dss_cons (ds_if (DW.t (dw_or (dt_not (dt_val (de_callH h_law_is_row (hr.mono (by decide)) (da_cons (de_var 2) (da_cons de_int da_nil))))) (dw_or (dt_cmp od_lt (de_ix (dv_var 2) de_int) de_int) (dw_or1 (dt_cmp od_lt (de_ix (dv_var 2) de_int) de_int))))) (dss_one (ds_ret de_bl)) dss_nil) (dss_cons (ds_set (i := 3) sc_law_least.nd (de_op od_add (de_op od_mul (de_op od_mul de_int (de_op od_add (de_var 1) de_int)) (de_op od_add (de_var 1) de_int)) de_int)) (dss_cons (ds_if (DW.t (dw_or (dt_cmp od_gt (de_bits (de_ix (dv_var 2) de_int)) (de_var 3)) (dw_or1 (dt_cmp od_gt (de_bits (de_ix (dv_var 2) de_int)) (de_var 3))))) (dss_one (ds_ret de_bl)) dss_nil) (dss_cons (ds_if (dt_cmp (od_ne hu) (de_op od_sub (de_op od_mul (de_ix (dv_var 2) de_int) (de_ix (dv_var 2) de_int)) (de_op od_mul (de_op od_mul (de_var 0) (de_ix (dv_var 2) de_int)) (de_ix (dv_var 2) de_int))) de_int) (dss_one (ds_ret de_bl)) dss_nil) (dss_one (ds_ret (de_and (de_callH h_law_none_counted (hr.mono (by decide)) (da_cons (de_var 0) (da_cons (de_var 1) (da_cons (de_callB (cd_min2 rfl) rfl T.b_min (by decide +kernel) (dva_cons (DE.v (de_op od_sub (de_ix (dv_var 2) de_int) de_int)) (dva_cons (DE.v de_int) dva_nil))) da_nil)))) (de_one (de_callH h_law_no_power (hr.mono (by decide)) (da_cons (de_var 0) (da_cons (de_ix (dv_var 2) de_int) da_nil)))))))))))⟩) hw
def P_law_right : DTS := (dSeq (dSet 2 (dCall c_law_root (dCons (dVar 0) dNil))) (dSeq (dIf (dOr (dTst (dBin bEq (dBin bMul (dVar 2) (dVar 2)) (dVar 0))) (dTst (dBin bGt (dBin bMod (dCB bInt (dCons (dLook 0) dNil)) (dC (.int 4))) (dC (.int 1))))) (dRet (dAndV (dBin bIs (dBin bIx (dLook 1) (dC (.int 0))) (dC (.bool false))) (dAndV (dCall c_law_whole (dCons (dBin bIx (dLook 1) (dC (.int 1))) dNil)) (dBin bEq (dBin bIx (dLook 1) (dC (.int 1))) (dVar 0))))) dNext) (dRet (dAndV (dBin bIs (dBin bIx (dLook 1) (dC (.int 0))) (dC (.bool true))) (dCall c_law_least (dCons (dVar 0) (dCons (dVar 2) (dCons (dBin bIx (dLook 1) (dC (.int 1))) dNil))))))))
theorem h_law_right {P : Program} {w : World} {K : PySem.W.Frag} {mg : Str → Option Value} {base : Heap} (T : Txt K mg) (h_law_whole : Has P w K mg base 1 "_law_whole" ["value"] c_law_whole) (h_law_root : Has P w K mg base 35 "_law_root" ["number"] c_law_root) (h_law_least : Has P w K mg base 39 "_law_least" ["number", "root", "told"] c_law_least) (hw : ∀ ds, c_law_right.pre ds → P_law_right { nx := fun _ => c_law_right.post ds .none, rt := c_law_right.post ds } (startD n_law_right.length ds)) (hl : ∀ ds, c_law_right.pre ds → ds.length = 2) :
    Has P w K mg base 40 "_law_right" ["number", "answer"] c_law_right :=
  has_of (k := 39) T.d_law_right sc_law_right hl (fun f cdv A outer s H E hr =>
    have hu := hr.units
    ⟨_, (dss_cons (ds_set (i := 2) sc_law_right.nd (de_callH h_law_root (hr.mono (by decide)) (da_cons (de_var 0) da_nil))) (dss_cons (ds_if (DW.t (dw_or (dt_cmp (od_eq hu) (de_op od_mul (de_var 2) (de_var 2)) (de_var 0)) (dw_or1 (dt_cmp od_gt (de_op od_mod (de_callTy cd_int rfl T.b_int (by decide +kernel) (dva_cons (dv_var 0) dva_nil)) de_int) de_int)))) (dss_one (ds_ret (de_and (de_cmp od_is (de_ix (dv_var 1) de_int) de_bl) (de_and (de_callH h_law_whole (hr.mono (by decide)) (da_cons (de_ix (dv_var 1) de_int) da_nil)) (de_one (de_cmp (od_eq hu) (de_ix (dv_var 1) de_int) (de_var 0))))))) dss_nil) (dss_one (ds_ret (de_and (de_cmp od_is (de_ix (dv_var 1) de_int) de_bl) (de_one (de_callH h_law_least (hr.mono (by decide)) (da_cons (de_var 0) (da_cons (de_var 2) (da_cons (de_ix (dv_var 1) de_int) da_nil))))))))))⟩) hw
def P_law : DTS := (dSeq (dSet 1 (dCall c_law_number_with_pair (dCons (dCall c_law_cell (dCons (dVar 0) (dCons (dC (.int 0)) dNil))) dNil))) (dSeq (dSet 2 (dCall c_law_number_without (dCons (dCall c_law_cell (dCons (dVar 0) (dCons (dC (.int 1)) dNil))) dNil))) (dSeq (dSet 3 (dCall c_law_digits (dCons (dCall c_law_cell (dCons (dVar 0) (dCons (dC (.int 2)) dNil))) (dCons (dFz (dLst (dCons (dC (.int 3)) (dCons (dC (.int 60)) (dCons (dC (.int 3000)) (dCons (dC (.int 1000000)) dNil)))))) dNil)))) (dSeq (dSet 4 (dBin bAdd (dC (.int 1)) (dBin bIx (dLook 3) (dBin bAdd (dC (.int 1)) (dBin bIx (dLook 3) (dC (.int 0))))))) (dSeq (dSet 5 (dCall c_law_asked (dCons (dVar 1) dNil))) (dSeq (dIf (dOr (dTst (dBin bIsNot (dBin bIx (dLook 5) (dC (.int 0))) (dC (.bool true)))) (dNot (dTst (dCall c_law_right (dCons (dVar 1) (dCons (dVar 5) dNil)))))) (dRet (dC (.bool false))) dNext) (dSeq (dIf (dOr (dNot (dTst (dCall c_law_right (dCons (dVar 2) (dCons (dCall c_law_asked (dCons (dVar 2) dNil)) dNil))))) (dNot (dTst (dCall c_law_right (dCons (dVar 4) (dCons (dCall c_law_asked (dCons (dVar 4) dNil)) dNil)))))) (dRet (dC (.bool false))) dNext) (dSeq (dSet 6 (dCall c_law_asked (dCons (dVar 1) dNil))) (dRet (dAndV (dBin bIs (dBin bIx (dLook 6) (dC (.int 0))) (dC (.bool true))) (dAndV (dCall c_law_is_row (dCons (dBin bIx (dLook 6) (dC (.int 1))) (dCons (dC (.int 2)) dNil))) (dBin bEq (dBin bIx (dLook 6) (dC (.int 1))) (dBin bIx (dLook 5) (dC (.int 1)))))))))))))))
theorem h_law {P : Program} {w : World} {K : PySem.W.Frag} {mg : Str → Option Value} {base : Heap} (T : Txt K mg) (h_law_is_row : Has P w K mg base 2 "_law_is_row" ["value", "many"] c_law_is_row) (h_law_cell : Has P w K mg base 1 "_law_cell" ["script", "k"] c_law_cell) (h_law_digits : Has P w K mg base 1 "_law_digits" ["cell", "sizes"] c_law_digits) (h_law_asked : Has P w K mg base 6 "_law_asked" ["number"] c_law_asked) (h_law_right : Has P w K mg base 40 "_law_right" ["number", "answer"] c_law_right) (h_law_number_with_pair : Has P w K mg base 37 "_law_number_with_pair" ["cell"] c_law_number_with_pair) (h_law_number_without : Has P w K mg base 2 "_law_number_without" ["cell"] c_law_number_without) (hw : ∀ ds, c_law.pre ds → P_law { nx := fun _ => c_law.post ds .none, rt := c_law.post ds } (startD n_law.length ds)) (hl : ∀ ds, c_law.pre ds → ds.length = 1) :
    Has P w K mg base 41 "law" ["script"] c_law :=
  has_of (k := 40) T.d_law sc_law hl (fun f cdv A outer s H E hr =>
    have hu := hr.units
    ⟨_, (dss_cons (ds_set (i := 1) sc_law.nd (de_callH h_law_number_with_pair (hr.mono (by decide)) (da_cons (de_callH h_law_cell (hr.mono (by decide)) (da_cons (de_var 0) (da_cons de_int da_nil))) da_nil))) (dss_cons (ds_set (i := 2) sc_law.nd (de_callH h_law_number_without (hr.mono (by decide)) (da_cons (de_callH h_law_cell (hr.mono (by decide)) (da_cons (de_var 0) (da_cons de_int da_nil))) da_nil))) (dss_cons (ds_set (i := 3) sc_law.nd (de_callH h_law_digits (hr.mono (by decide)) (da_cons (de_callH h_law_cell (hr.mono (by decide)) (da_cons (de_var 0) (da_cons de_int da_nil))) (da_cons (DL.fz (dl_lst (da_cons de_int (da_cons de_int (da_cons de_int (da_cons de_int da_nil)))))) da_nil)))) (dss_cons (ds_set (i := 4) sc_law.nd (de_op od_add de_int (de_ix (dv_var 3) (de_op od_add de_int (de_ix (dv_var 3) de_int))))) (dss_cons (ds_set (i := 5) sc_law.nd (de_callH h_law_asked (hr.mono (by decide)) (da_cons (de_var 1) da_nil))) (dss_cons (ds_if (DW.t (dw_or (dt_cmp od_isNot (de_ix (dv_var 5) de_int) de_bl) (dw_or1 (dt_not (dt_val (de_callH h_law_right (hr.mono (by decide)) (da_cons (de_var 1) (da_cons (de_var 5) da_nil)))))))) (dss_one (ds_ret de_bl)) dss_nil) (dss_cons (ds_if (DW.t (dw_or (dt_not (dt_val (de_callH h_law_right (hr.mono (by decide)) (da_cons (de_var 2) (da_cons (de_callH h_law_asked (hr.mono (by decide)) (da_cons (de_var 2) da_nil)) da_nil))))) (dw_or1 (dt_not (dt_val (de_callH h_law_right (hr.mono (by decide)) (da_cons (de_var 4) (da_cons (de_callH h_law_asked (hr.mono (by decide)) (da_cons (de_var 4) da_nil)) da_nil)))))))) (dss_one (ds_ret de_bl)) dss_nil) (dss_cons (ds_set (i := 6) sc_law.nd (de_callH h_law_asked (hr.mono (by decide)) (da_cons (de_var 1) da_nil))) (dss_one (ds_ret (de_and (de_cmp od_is (de_ix (dv_var 6) de_int) de_bl) (de_and (de_callH h_law_is_row (hr.mono (by decide)) (da_cons (de_ix (dv_var 6) de_int) (da_cons de_int da_nil))) (de_one (de_cmp (od_eq hu) (de_ix (dv_var 6) de_int) (de_ix (dv_var 5) de_int)))))))))))))))⟩) hw
end K79
namespace K79
open PySem L2 PD
local macro_rules | `(tactic| walk_at "wp") => `(tactic| simp only [dSeq, dIf, dTst, dBin, dUn, dVar, dLook, dC, dRet, dRetN, dNext, dSet, dSetO, dFor, dgName, lk, put, iOp, iOp0, iCmp, bAdd, bSub, bMul, bDiv, bDivN, bDivW, bMod, bPow, bShl, bLt, bLe, bGt, bGe, bEq, bNe, bIs, bIsNot, isN, bNeg, bIx, dCons, dNil, dTup, dLst, dFz, dAnd, dOr, dNot, dAndV, dOrV, dNotV, dIfE, dCB, bLen, bInt, bAbs, bMin2, bMax2, bGcd, bIsqrt, bTuple, bBits, dIsi, dPar, dPar3, dAsg, dgSq, dgTup, dgCons, dgNil, dCall, dCallF, dFreeze, dMove, dRng1, dRng2, dSq, dApp, dPutI, dAug, dNever, dBreak, dCont, dYes, decide_eq_true_eq, Bool.not_eq_true', decide_eq_false_iff_not, ite_self, List.length_cons, List.length_nil, shaped_int, shaped_bool, shaped_none, eqv_int, eqv_bool, beq_iff_eq, bne_iff_ne, flat, ex_some, tt_tt, ff_tt, tt_ff, ff_ff, atI_0, atI_1, atI_2, atI_3, atI_4, atI_5, atI_6, atI_7, atI_8, atI_9, atI_10, atI_11, atI_12, atI_13, atI_14, atI_15, Int.reduceLT, Int.reduceLE, Int.reduceMul, Int.reduceAdd, Int.reduceSub, Int.reduceNeg, Int.reduceToNat, Int.reducePow, Int.reduceEq, Int.reduceMod, Int.reduceDiv, Nat.reduceLT, Nat.reduceLeDiff, Nat.reduceAdd, Nat.reducePow, true_and, and_true, reduceIte, Int.one_mul, Int.mul_one, not_true_eq_false, not_false_eq_true, if_true, if_false, and_self, Bool.false_eq_true, Bool.not_true, Bool.not_false, forall_eq, forall_eq', fa_int, fa_int1, fa_bool1])
local macro_rules | `(tactic| walk_at "bt") => `(tactic| repeat' (first | assumption | exact Bt.small (by decide) | apply Bt.mul | apply Bt.add | apply Bt.sub | apply Bt.neg))
local macro_rules | `(tactic| walk_at "cm1") => `(tactic| (apply cm; (focus (walk_at "bt")); (focus (walk_at "bt")); (focus omega)))
local macro_rules | `(tactic| walk_at "cm") => `(tactic| (repeat' apply And.intro) <;> walk_at "cm1")
local macro_rules | `(tactic| walk_at "lc") => `(tactic| simp only [dLc, dComp, wipeD, put, dgName, dYes, intsD_succ, intsD_zero, dRng1, dRng2, dC, dSq, dLook, lk, Int.reduceAdd, Int.reduceSub, Int.reduceToNat, Int.reduceLT, Int.reduceLE, Int.reduceNeg, Int.reducePow, List.nil_append, List.cons_append, true_and, if_true, List.length_nil, List.length_cons, Nat.reduceAdd, Nat.reduceLT, Nat.reduceLeDiff])
theorem at_iL {ns : List Int} {k : Int} (h0 : 0 ≤ k) (h1 : k < ns.length) : ∃ i, atI (iL ns) k = some (.int i) ∧ ns[k.toNat]? = some i := by
  obtain ⟨j, rfl⟩ := Int.eq_ofNat_of_zero_le h0
  have hj : j < ns.length := by omega
  refine ⟨ns[j], atI_nat (j := j) (by rw [List.getElem?_map, List.getElem?_eq_getElem hj]; rfl), ?_⟩
  show ns[j]? = _
  rw [List.getElem?_eq_getElem hj]
theorem l_law_cell (E : DEnds) (a b : Option Cell) (h : ∀ (seed : Int) y, 0 ≤ seed → seed < 1000003 → E.nx [a, b, some (.dat (.int seed)), y]) : ∀ (ns : List Int) (seed : Int) (y : Option Cell), 0 ≤ seed → seed < 1000003 → dLoop (dgName 3) L_law_cell_1 E (iL ns) [a, b, some (.dat (.int seed)), y]
  | [], seed, y, h0, h1 => h seed y h0 h1
  | n :: ns, seed, y, h0, h1 => by
    simp only [iL, List.map_cons, dLoop, L_law_cell_1]
    walk_at "wp"
    have hs : Bt seed 30 := Bt.small (by omega)
    exact ⟨by walk_at "cm1", l_law_cell E a b h ns _ _ (Int.emod_nonneg _ (by decide)) (Int.emod_lt_of_pos _ (by decide))⟩
theorem w_law_cell : ∀ ds, c_law_cell.pre ds → P_law_cell { nx := fun _ => c_law_cell.post ds .none, rt := c_law_cell.post ds } (startD n_law_cell.length ds) := by
  intro ds h
  unfold c_law_cell at h ⊢
  simp only at h ⊢
  split at h
  · rename_i xs k
    obtain ⟨⟨ns, rfl, hn⟩, hk0, hk⟩ := h
    show P_law_cell _ [some (.dat (.list (iL ns))), some (.dat (.int k)), none, none]
    unfold P_law_cell
    walk_at "wp"
    split
    · rename_i hlt
      rw [List.length_map] at hlt
      obtain ⟨i, hi, _⟩ := at_iL hk0 hlt
      exact ⟨_, hi, _, rfl⟩
    · refine l_law_cell _ _ _ (fun seed y h0 h1 => ?_) ns 17 none (by decide) (by decide)
      walk_at "wp"
      have hs : Bt seed 30 := Bt.small (by omega)
      have hk : Bt k 30 := Bt.small (by omega)
      exact ⟨by walk_at "cm1", by walk_at "cm1", _, rfl⟩
  · exact h.elim
theorem w_law_whole : ∀ ds, c_law_whole.pre ds → P_law_whole { nx := fun _ => c_law_whole.post ds .none, rt := c_law_whole.post ds } (startD n_law_whole.length ds) := by
  intro ds h
  unfold c_law_whole at h ⊢
  simp only at h ⊢
  split at h
  · rename_i d
    show P_law_whole _ [some (.dat d)]
    unfold P_law_whole
    walk_at "wp"
    cases d <;> simp [isT, tyName]
  · exact h.elim
theorem w_law_is_row : ∀ ds, c_law_is_row.pre ds → P_law_is_row { nx := fun _ => c_law_is_row.post ds .none, rt := c_law_is_row.post ds } (startD n_law_is_row.length ds) := by
  intro ds h
  unfold c_law_is_row at h ⊢
  simp only at h ⊢
  split at h
  · rename_i i j m
    subst h
    show P_law_is_row _ [some (.dat (.tuple [.int i, .int j])), some (.dat (.int 2)), none]
    unfold P_law_is_row
    walk_at "wp"
    rw [if_neg (by simp [isT, tyName]), if_neg (by decide)]
    simp only [dLoop, L_law_is_row_1]
    unfold c_law_whole
    walk_at "wp"
  · exact h.elim
theorem at_iL' {ns : List Int} {k : Nat} {i : Int} (h : ns[k]? = some i) : atI (iL ns) (k : Int) = some (.int i) := atI_nat (j := k) (by rw [List.getElem?_map, h]; rfl)
theorem Digs.snoc {es ss : List Int} {d s : Int} (h : Digs es ss) (h0 : 0 ≤ d) (h1 : d < s) : Digs (es ++ [d]) (ss ++ [s]) := by
  induction h with
  | nil => exact .cons h0 h1 .nil
  | cons a b _ ih => exact .cons a b ih
theorem Digs.len {es ss : List Int} (h : Digs es ss) : es.length = ss.length := by
  induction h with
  | nil => rfl
  | cons a b _ ih => rw [List.length_cons, List.length_cons, ih]
theorem iL_snoc (es : List Int) (d : Int) : iL es ++ [.int d] = iL (es ++ [d]) := by simp only [iL, List.map_append, List.map_cons, List.map_nil]
theorem iL_inj : ∀ {a b : List Int}, iL a = iL b → a = b
  | [], [], _ => rfl
  | [], _ :: _, h => by cases h
  | _ :: _, [], h => by cases h
  | x :: a, y :: b, h => by
    simp only [iL, List.map_cons, List.cons.injEq, PyData.int.injEq] at h
    rw [h.1, iL_inj h.2]
theorem l_law_digits_1 (E : DEnds) (a b x y z : Option Cell) (ss : List Int) (hE : ∀ es rest w, Digs es ss → E.nx [a, b, some (.own (iL es)), some (.dat (.int rest)), w, x, y, z]) :
    ∀ (rem done es : List Int) (rest : Int) (w : Option Cell), ss = done ++ rem → ss.length ≤ 100 → (∀ s ∈ ss, 0 < s ∧ s < 10000000) → Digs es done →
      dLoop (dgName 4) L_law_digits_1 E (iL rem) [a, b, some (.own (iL es)), some (.dat (.int rest)), w, x, y, z]
  | [], done, es, rest, w, h1, h2, h3, h4 => by
    rw [List.append_nil] at h1
    subst h1
    exact hE es rest w h4
  | s :: rem, done, es, rest, w, h1, h2, h3, h4 => by
    have hs := h3 s (by rw [h1]; simp)
    have hl := h4.len
    have hl2 : done.length ≤ 100 := by rw [h1, List.length_append] at h2; omega
    simp only [iL, List.map_cons, dLoop, L_law_digits_1]
    walk_at "wp"
    refine ⟨hs.1, by rw [List.length_map]; omega, ⟨hs.1, by omega⟩, ?_⟩
    rw [show List.map PyData.int es ++ [PyData.int (rest % s)] = iL (es ++ [rest % s]) from iL_snoc _ _]
    exact l_law_digits_1 E a b x y z ss hE rem (done ++ [s]) (es ++ [rest % s]) (rest / s) _ (by rw [h1, List.append_assoc]; rfl) h2 h3 (h4.snoc (Int.emod_nonneg _ (by omega)) (Int.emod_lt_of_pos _ hs.1))
theorem l_law_digits_2 (E : DEnds) (a c e : Option Cell) (ss : List Int) (hE : ∀ es seed w z, Digs es ss → E.nx [a, some (.dat (.list (iL ss))), some (.own (iL es)), c, e, some (.dat (.int seed)), w, z]) :
    ∀ (rem done es : List Int) (seed : Int) (w z : Option Cell), ss = done ++ rem → ss.length ≤ 100 → (∀ s ∈ ss, 0 < s ∧ s < 10000000) → Digs es done → 0 ≤ seed → seed < 2147483647 →
      dLoop (dgName 6) L_law_digits_2 E (intsD (done.length : Int) rem.length) [a, some (.dat (.list (iL ss))), some (.own (iL es)), c, e, some (.dat (.int seed)), w, z]
  | [], done, es, seed, w, z, h1, h2, h3, h4, h5, h6 => by
    rw [List.append_nil] at h1
    subst h1
    exact hE es seed w z h4
  | s :: rem, done, es, seed, w, z, h1, h2, h3, h4, h5, h6 => by
    have hs := h3 s (by rw [h1]; simp)
    have hl := h4.len
    have hl2 : done.length ≤ 100 := by rw [h1, List.length_append] at h2; omega
    rw [List.length_cons, intsD_succ]
    simp only [dLoop, L_law_digits_2]
    walk_at "wp"
    have b1 : Bt seed 31 := by show seed.natAbs < 2147483648; omega
    have b2 : Bt (done.length : Int) 30 := Bt.small (by omega)
    have hat : atI (iL ss) (done.length : Int) = some (.int s) := at_iL' (by rw [h1, List.getElem?_append_right (Nat.le_refl _), Nat.sub_self]; rfl)
    rw [hat]
    generalize hX : (seed * 48271 + 974711 * (done.length : Int) + 12345) % 2147483647 = X
    have hX0 : 0 ≤ X := by rw [← hX]; exact Int.emod_nonneg _ (by decide)
    have hX1 : X < 2147483647 := by rw [← hX]; exact Int.emod_lt_of_pos _ (by decide)
    have b3 : Bt X 31 := by show X.natAbs < 2147483648; omega
    have b4 : Bt (X / 65537) 31 := by show (X / 65537).natAbs < 2147483648; omega
    generalize X * (X / 65537 + 3) % 2147483629 / 19 = Y
    refine ⟨by walk_at "cm1", by walk_at "cm1", ⟨by decide, by decide⟩, by walk_at "cm1", ⟨by decide, by decide⟩, ?_⟩
    walk_at "wp"
    refine ⟨hs.1, by rw [List.length_map]; omega, ?_⟩
    rw [show List.map PyData.int es ++ [PyData.int (Y % s)] = iL (es ++ [Y % s]) from iL_snoc _ _]
    have r := l_law_digits_2 E a c e ss hE rem (done ++ [s]) (es ++ [Y % s]) X (some (.dat (.int (done.length : Int)))) (some (.dat (.int (X * (X / 65537 + 3) % 2147483629)))) (by rw [h1, List.append_assoc]; rfl) h2 h3 (h4.snoc (Int.emod_nonneg _ (by omega)) (Int.emod_lt_of_pos _ hs.1)) hX0 hX1
    rw [List.length_append] at r
    exact r
theorem w_law_digits : ∀ ds, c_law_digits.pre ds → P_law_digits { nx := fun _ => c_law_digits.post ds .none, rt := c_law_digits.post ds } (startD n_law_digits.length ds) := by
  intro ds h
  unfold c_law_digits at h ⊢
  simp only at h ⊢
  split at h
  · rename_i c xs
    obtain ⟨ss, rfl, hn, hs⟩ := h
    show P_law_digits _ [some (.dat (.int c)), some (.dat (.list (iL ss))), none, none, none, none, none, none]
    unfold P_law_digits
    walk_at "wp"
    have p10 : CPow 10 18 := ⟨by decide, by decide, by decide⟩
    refine ⟨p10, ?_⟩
    split
    · refine ⟨p10, l_law_digits_1 _ _ _ _ _ _ ss (fun es rest w hd => ?_) ss [] [] _ _ rfl hn hs .nil⟩
      walk_at "wp"
      exact ⟨es, rfl, fun ss' e => by rw [← iL_inj e]; exact hd⟩
    · rw [List.length_map]
      refine ⟨by omega, by omega, ?_⟩
      have e1 : ((ss.length : Nat) : Int).toNat = ss.length := by omega
      rw [e1]
      refine l_law_digits_2 _ _ _ _ ss (fun es rest w z hd => ?_) ss [] [] _ _ _ rfl hn hs .nil (Int.emod_nonneg _ (by decide)) (by have := Int.emod_lt_of_pos c (show (0 : Int) < 2147483629 by decide); omega)
      walk_at "wp"
      exact ⟨es, rfl, fun ss' e => by rw [← iL_inj e]; exact hd⟩
  · exact h.elim
end K79
namespace K79
open PySem L2 PD
local macro_rules | `(tactic| walk_at "wp") => `(tactic| simp only [dSeq, dIf, dTst, dBin, dUn, dVar, dLook, dC, dRet, dRetN, dNext, dSet, dSetO, dFor, dgName, lk, put, iOp, iOp0, iCmp, bAdd, bSub, bMul, bDiv, bDivN, bDivW, bMod, bPow, bShl, bLt, bLe, bGt, bGe, bEq, bNe, bIs, bIsNot, isN, bNeg, bIx, dCons, dNil, dTup, dLst, dFz, dAnd, dOr, dNot, dAndV, dOrV, dNotV, dIfE, dCB, bLen, bInt, bAbs, bMin2, bMax2, bGcd, bIsqrt, bTuple, bBits, dIsi, dPar, dPar3, dAsg, dgSq, dgTup, dgCons, dgNil, dCall, dCallF, dFreeze, dMove, dRng1, dRng2, dSq, dApp, dPutI, dAug, dNever, dBreak, dCont, dYes, decide_eq_true_eq, Bool.not_eq_true', decide_eq_false_iff_not, ite_self, List.length_cons, List.length_nil, shaped_int, shaped_bool, shaped_none, eqv_int, eqv_bool, beq_iff_eq, bne_iff_ne, flat, ex_some, tt_tt, ff_tt, tt_ff, ff_ff, atI_0, atI_1, atI_2, atI_3, atI_4, atI_5, atI_6, atI_7, atI_8, atI_9, atI_10, atI_11, atI_12, atI_13, atI_14, atI_15, Int.reduceLT, Int.reduceLE, Int.reduceMul, Int.reduceAdd, Int.reduceSub, Int.reduceNeg, Int.reduceToNat, Int.reducePow, Int.reduceEq, Int.reduceMod, Int.reduceDiv, Nat.reduceLT, Nat.reduceLeDiff, Nat.reduceAdd, Nat.reducePow, true_and, and_true, reduceIte, Int.one_mul, Int.mul_one, not_true_eq_false, not_false_eq_true, if_true, if_false, and_self, Bool.false_eq_true, Bool.not_true, Bool.not_false, forall_eq, forall_eq', fa_int, fa_int1, fa_bool1])
local macro_rules | `(tactic| walk_at "bt") => `(tactic| repeat' (first | assumption | exact Bt.small (by decide) | apply Bt.mul | apply Bt.add | apply Bt.sub | apply Bt.neg))
local macro_rules | `(tactic| walk_at "cm1") => `(tactic| (apply cm; (focus (walk_at "bt")); (focus (walk_at "bt")); (focus omega)))
local macro_rules | `(tactic| walk_at "cm") => `(tactic| (repeat' apply And.intro) <;> walk_at "cm1")
local macro_rules | `(tactic| walk_at "lc") => `(tactic| simp only [dLc, dComp, wipeD, put, dgName, dYes, intsD_succ, intsD_zero, dRng1, dRng2, dC, dSq, dLook, lk, Int.reduceAdd, Int.reduceSub, Int.reduceToNat, Int.reduceLT, Int.reduceLE, Int.reduceNeg, Int.reducePow, List.nil_append, List.cons_append, true_and, if_true, List.length_nil, List.length_cons, Nat.reduceAdd, Nat.reduceLT, Nat.reduceLeDiff])
theorem newton_step {n g : Int} (hn : 1 ≤ n) (hg : 0 < g) : 0 < (g + n / g) / 2 := by
  have h0 : 0 ≤ n / g := Int.ediv_nonneg (by omega) (by omega)
  by_cases h : g = 1
  · subst h
    rw [Int.ediv_one]
    omega
  · omega
theorem l_law_root (E : DEnds) (n : Int) (hn : 1 ≤ n) (hE : ∀ g y z, E.rt (.int g) → E.nx [some (.dat (.int n)), some (.dat (.int g)), y, z]) : ∀ (xs : List D) (g : Int) (y z : Option Cell), 0 < g → E.rt (.int (newton xs.length n g)) →
    dLoop (dgName 2) L_law_root_1 E xs [some (.dat (.int n)), some (.dat (.int g)), y, z]
  | [], g, y, z, hg, h => hE g y z h
  | x :: xs, g, y, z, hg, h => by
    rw [List.length_cons] at h
    unfold newton at h
    simp only [dLoop, L_law_root_1]
    walk_at "wp"
    refine ⟨hg, ?_⟩
    split
    · rename_i h1
      rw [if_pos h1] at h
      exact h
    · rename_i h1
      rw [if_neg (by exact h1)] at h
      exact l_law_root E n hn hE xs _ _ _ (newton_step hn hg) h
theorem w_law_root : ∀ ds, c_law_root.pre ds → P_law_root { nx := fun _ => c_law_root.post ds .none, rt := c_law_root.post ds } (startD n_law_root.length ds) := by
  intro ds h
  unfold c_law_root at h ⊢
  simp only at h ⊢
  split at h
  · rename_i n
    show P_law_root _ [some (.dat (.int n)), none, none, none]
    unfold P_law_root
    walk_at "wp"
    unfold rootL
    split
    · rfl
    · rename_i hn
      have hb : Builtin.Int.intBits n ≤ 2 ^ 25 := h
      refine ⟨?_, ?_⟩
      · unfold CShl
        refine ⟨by omega, ?_⟩
        have : Builtin.Int.intBits 1 = 1 := by decide
        rw [this]
        omega
      · generalize hN : (100000 : Nat) = N
        refine l_law_root _ n (by omega) (fun g y z hg => ?_) (intsD 0 N) _ none none (Int.pow_pos (by decide)) ?_
        · walk_at "wp"
          exact hg
        · rw [intsD_len]
          rfl
  · exact h.elim
theorem l_law_prime (E : DEnds) (k : Int) (hk : k < 2 ^ 60) (hE : ∀ b, E.rt (.bool b)) (hE2 : ∀ y, E.nx [some (.dat (.int k)), y]) : ∀ (n : Nat) (lo : Int) (y : Option Cell), 2 ≤ lo → lo + n ≤ k →
    dLoop (dgName 1) L_law_prime_1 E (intsD lo n) [some (.dat (.int k)), y]
  | 0, lo, y, h, _ => hE2 y
  | n + 1, lo, y, h, h2 => by
    rw [intsD_succ]
    simp only [dLoop, L_law_prime_1]
    walk_at "wp"
    have hb : Bt lo 61 := by show lo.natAbs < 2305843009213693952; omega
    refine ⟨by walk_at "cm1", ?_⟩
    split
    · exact hE _
    · refine ⟨by omega, ?_⟩
      split
      · exact hE _
      · exact l_law_prime E k hk hE hE2 n (lo + 1) _ (by omega) (by omega)
theorem w_law_prime : ∀ ds, c_law_prime.pre ds → P_law_prime { nx := fun _ => c_law_prime.post ds .none, rt := c_law_prime.post ds } (startD n_law_prime.length ds) := by
  intro ds h
  unfold c_law_prime at h ⊢
  simp only at h ⊢
  split at h
  · rename_i k
    show P_law_prime _ [some (.dat (.int k)), none]
    unfold P_law_prime
    walk_at "wp"
    refine ⟨⟨by omega, by omega⟩, l_law_prime _ k h.2 (fun b => ?_) (fun y => ?_) _ 2 none (by decide) (by omega)⟩
    · exact ⟨b, rfl⟩
    · walk_at "wp"
      exact ⟨true, rfl⟩
  · exact h.elim
theorem pow_half (f : Int) (r : Nat) : f ^ r = f ^ (r % 2) * (f * f) ^ (r / 2) := by
  have e : r = r % 2 + 2 * (r / 2) := by omega
  conv => lhs; rw [e]
  rw [Int.pow_add, Int.pow_mul]
  congr 2
  rw [Int.pow_succ, Int.pow_succ, Int.pow_zero, Int.one_mul]
theorem pow_ge_one {f : Int} (h : 1 ≤ f) (n : Nat) : 1 ≤ f ^ n := Int.pow_pos (by omega)
theorem pow_ge {f : Int} (h : 1 ≤ f) : ∀ {n : Nat}, 1 ≤ n → f ≤ f ^ n
  | n + 1, _ => by
    rw [Int.pow_succ]
    have := Int.mul_le_mul_of_nonneg_right (pow_ge_one h n) (show 0 ≤ f by omega)
    omega
theorem l_law_power (E : DEnds) (m0 : Option Cell) (P : Int) (b : Nat) (hP : P ≤ 2 ^ b) (hb : b ≤ 2 ^ 25) (hE : ∀ f r y, E.nx [f, m0, some (.dat (.int P)), r, y]) : ∀ (xs : List D) (f res : Int) (rest : Nat) (y : Option Cell), 1 ≤ f → 1 ≤ res → rest < 2 ^ xs.length → res * f ^ rest = P →
    dLoop (dgName 4) L_law_power_1 E xs [some (.dat (.int f)), m0, some (.dat (.int res)), some (.dat (.int (rest : Int))), y]
  | [], f, res, rest, y, h1, h2, h3, h4 => by
    have : rest = 0 := by simpa using h3
    subst this
    rw [Int.pow_zero, Int.mul_one] at h4
    rw [h4]
    exact hE _ _ _
  | x :: xs, f, res, rest, y, h1, h2, h3, h4 => by
    simp only [dLoop, L_law_power_1]
    walk_at "wp"
    have hpos := pow_ge_one h1 rest
    have hres : res ≤ P := by
      have := Int.mul_le_mul_of_nonneg_left hpos (show 0 ≤ res by omega)
      omega
    have br : Bt res (b + 1) := bt_le2 (by omega) (by omega)
    have hfP : 1 ≤ rest → f ≤ P := fun hr => by
      have a1 := pow_ge h1 hr
      have a2 := Int.mul_le_mul_of_nonneg_right h2 (show 0 ≤ f ^ rest by omega)
      omega
    have hff : 2 ≤ rest → f * f ≤ P := fun hr => by
      have a1 := pow_half f rest
      have a3 := pow_ge (f := f * f) (Int.mul_pos (by omega) (by omega)) (n := rest / 2) (by omega)
      have a4 := pow_ge_one h1 (rest % 2)
      have a5 := Int.mul_le_mul_of_nonneg_right a4 (show 0 ≤ (f * f) ^ (rest / 2) from Int.pow_nonneg (Int.mul_nonneg (by omega) (by omega)))
      have a2 := Int.mul_le_mul_of_nonneg_right h2 (show 0 ≤ f ^ rest by omega)
      omega
    have hr2 : rest / 2 < 2 ^ xs.length := by
      rw [List.length_cons, Nat.pow_succ] at h3
      omega
    have er : ((rest : Int) / 2) = ((rest / 2 : Nat) : Int) := by omega
    have em : ((rest : Int) % 2) = ((rest % 2 : Nat) : Int) := by omega
    have hk := pow_half f rest
    rw [er, em]
    split
    · rename_i ho
      have ho : rest % 2 = 1 := by omega
      have bf : Bt f (b + 1) := bt_le2 (by omega) (by have := hfP (by omega); omega)
      refine ⟨by walk_at "cm1", ⟨by decide, by decide⟩, ?_⟩
      rw [ho, Int.pow_one] at hk
      split
      · rename_i hz
        have hz : rest / 2 = 0 := by omega
        rw [hz, Int.pow_zero, Int.mul_one] at hk
        rw [hk] at h4
        rw [h4]
        exact hE _ _ _
      · rename_i hz
        have hff := hff (by omega)
        refine ⟨by walk_at "cm1", l_law_power E m0 P b hP hb hE xs (f * f) (res * f) (rest / 2) _ (Int.mul_pos (by omega) (by omega)) (Int.mul_pos (by omega) (by omega)) hr2 ?_⟩
        rw [← h4, hk, Int.mul_assoc]
    · rename_i ho
      have ho : rest % 2 = 0 := by omega
      refine ⟨⟨by decide, by decide⟩, ?_⟩
      rw [ho, Int.pow_zero, Int.one_mul] at hk
      split
      · rename_i hz
        have hz : rest / 2 = 0 := by omega
        rw [hz, Int.pow_zero] at hk
        rw [hk, Int.mul_one] at h4
        rw [h4]
        exact hE _ _ _
      · rename_i hz
        have bf : Bt f (b + 1) := bt_le2 (by omega) (by have := hfP (by omega); omega)
        refine ⟨by walk_at "cm1", l_law_power E m0 P b hP hb hE xs (f * f) res (rest / 2) _ (Int.mul_pos (by omega) (by omega)) h2 hr2 ?_⟩
        rw [← h4, hk]
theorem w_law_power : ∀ ds, c_law_power.pre ds → P_law_power { nx := fun _ => c_law_power.post ds .none, rt := c_law_power.post ds } (startD n_law_power.length ds) := by
  intro ds h
  unfold c_law_power at h ⊢
  simp only at h ⊢
  split at h
  · rename_i f m
    obtain ⟨h1, h2, h3, b, h4, h5⟩ := h
    show P_law_power _ [some (.dat (.int f)), some (.dat (.int m)), none, none, none]
    unfold P_law_power
    walk_at "wp"
    have e : m - 1 = (((m - 1).toNat : Nat) : Int) := by omega
    have hP : f ^ m.toNat ≤ 2 ^ (m.toNat * b) := bt_pow (by omega) h4 _
    have hmb : m.toNat * b ≤ 2 ^ 25 := by
      have : ((m.toNat * b : Nat) : Int) = m * b := by rw [Int.natCast_mul]; congr 1; omega
      omega
    have hl : (m - 1).toNat < 2 ^ 60 := by omega
    rw [e]
    refine l_law_power _ _ (f ^ m.toNat) (m.toNat * b) hP hmb (fun f r y => ?_) (intsD 0 64) f f (m - 1).toNat none h1 h1 ?_ ?_
    · walk_at "wp"
    · rw [intsD_len]
      omega
    · have : m.toNat = (m - 1).toNat + 1 := by omega
      rw [this, Int.pow_succ, Int.mul_comm]
  · exact h.elim
theorem l_law_deep_root (E : DEnds) (n k : Int) (hn : 1 ≤ n) (hk : 2 ≤ k) (b : Nat) (hb : (k - 1) * b ≤ 2 ^ 25) (hkb : k ≤ 2 ^ 24) (hb2 : b ≤ 2 ^ 25) (hE : ∀ g, 1 ≤ g → g ≤ 2 ^ b → E.rt (.int g)) (hE2 : ∀ g y z, 1 ≤ g → g ≤ 2 ^ b → E.nx [some (.dat (.int n)), some (.dat (.int k)), some (.dat (.int g)), y, z]) :
    ∀ (xs : List D) (g : Int) (y z : Option Cell), 1 ≤ g → g ≤ 2 ^ b → dLoop (dgName 3) L_law_deep_root_1 E xs [some (.dat (.int n)), some (.dat (.int k)), some (.dat (.int g)), y, z]
  | [], g, y, z, h1, h2 => hE2 g y z h1 h2
  | x :: xs, g, y, z, h1, h2 => by
    simp only [dLoop, L_law_deep_root_1]
    unfold c_law_power
    walk_at "wp"
    have bg : Bt g (b + 1) := bt_le2 (by omega) h2
    have bk : Bt k 30 := Bt.small (by omega)
    have hp := pow_ge_one h1 (k - 1).toNat
    have hd : 0 ≤ n / g ^ (k - 1).toNat := Int.ediv_nonneg (by omega) (by omega)
    refine ⟨by walk_at "cm1", ⟨h1, by omega, by omega, b, h2, hb⟩, by omega, by omega, ?_⟩
    have hw1 : g = 1 → 1 ≤ n / g ^ (k - 1).toNat := fun e => by rw [e, Int.one_pow, Int.ediv_one]; exact hn
    generalize n / g ^ (k - 1).toNat = w at *
    have key : 1 ≤ ((k - 1) * g + w) / k := by
      refine (Int.le_ediv_iff_mul_le (by omega)).mpr ?_
      by_cases hg1 : g = 1
      · have := hw1 hg1
        rw [hg1, Int.mul_one]
        omega
      · have := Int.mul_le_mul_of_nonneg_left (show 2 ≤ g by omega) (show 0 ≤ k - 1 by omega)
        omega
    split
    · exact hE g h1 h2
    · exact l_law_deep_root E n k hn hk b hb hkb hb2 hE hE2 xs _ _ _ key (by omega)
theorem w_law_deep_root : ∀ ds, c_law_deep_root.pre ds → P_law_deep_root { nx := fun _ => c_law_deep_root.post ds .none, rt := c_law_deep_root.post ds } (startD n_law_deep_root.length ds) := by
  intro ds h
  unfold c_law_deep_root at h ⊢
  simp only at h ⊢
  split at h
  · rename_i n k
    obtain ⟨h1, h2, h3, h4⟩ := h
    unfold bitsN at *
    show P_law_deep_root _ [some (.dat (.int n)), some (.dat (.int k)), none, none, none]
    unfold P_law_deep_root
    walk_at "wp"
    obtain ⟨K, rfl⟩ := Int.eq_ofNat_of_zero_le (show 0 ≤ k by omega)
    generalize Builtin.Int.intBits n = B at *
    have e1 : (B : Int) / (K : Int) = ((B / K : Nat) : Int) := (Int.natCast_ediv B K).symm
    have e3 : ((K : Int)).toNat = K := by omega
    have hq : K * (B / K) ≤ B := Nat.mul_div_le B K
    have hq2 : B / K ≤ B := Nat.div_le_self B K
    rw [e1]
    rw [e3]
    generalize B / K = q at *
    have e2 : ((q : Int) + 1).toNat = q + 1 := by omega
    rw [e2]
    refine ⟨by omega, ?_, ?_⟩
    · unfold CShl
      have : Builtin.Int.intBits 1 = 1 := by decide
      rw [this]
      omega
    · have hb : ((K : Int) - 1) * ((q + 1 : Nat) : Int) ≤ 2 ^ 25 := by
        have a1 : ((K : Int) - 1) * ((q + 1 : Nat) : Int) = ((K * q : Nat) : Int) + K - (q : Int) - 1 := by
          rw [Int.natCast_mul, Int.natCast_add, Int.sub_mul, Int.mul_add]
          have : ((1 : Nat) : Int) = 1 := rfl
          omega
        omega
      generalize hN : (100000 : Nat) = N
      refine l_law_deep_root _ n K h1 h2 (q + 1) hb (by omega) (by omega) (fun g g1 g2 => ?_) (fun g y z g1 g2 => ?_) (intsD 0 N) _ none none (pow_ge_one (by decide) _) (Int.le_refl _)
      · exact ⟨g, rfl, g1, g2⟩
      · walk_at "wp"
        exact ⟨g, rfl, g1, g2⟩
  · exact h.elim
/-! the traces of powers -/
def bl (k : Nat) (i : Nat) : List Int := (List.range i).map fun j => ((k / 2 ^ j % 2 : Nat) : Int)
theorem bl_len (k i : Nat) : (bl k i).length = i := by unfold bl; rw [List.length_map, List.length_range]
theorem bl_snoc (k i : Nat) : bl k (i + 1) = bl k i ++ [((k / 2 ^ i % 2 : Nat) : Int)] := by unfold bl; rw [List.range_succ, List.map_append]; rfl
theorem bl_get {k i j : Nat} (h : j < i) : (bl k i)[j]? = some ((k / 2 ^ j % 2 : Nat) : Int) := by
  unfold bl
  rw [List.getElem?_map, List.getElem?_range h]
  rfl
theorem l_law_power_trace_1 (E : DEnds) (a b x5 x6 x7 : Option Cell) (k : Nat) (hE : ∀ len y, k / 2 ^ len = 0 → (∀ j, j < len → k / 2 ^ j ≠ 0) → len ≤ 64 → E.nx [a, b, some (.own (iL (bl k len))), some (.dat (.int 0)), y, x5, x6, x7]) :
    ∀ (xs : List D) (i : Nat) (y : Option Cell), i + xs.length ≤ 64 → k / 2 ^ i < 2 ^ xs.length → (∀ j, j < i → k / 2 ^ j ≠ 0) →
      dLoop (dgName 4) L_law_power_trace_1 E xs [a, b, some (.own (iL (bl k i))), some (.dat (.int ((k / 2 ^ i : Nat) : Int))), y, x5, x6, x7]
  | [], i, y, h1, h2, h3 => by
    have h0 : k / 2 ^ i = 0 := by simpa using h2
    have := hE i y h0 h3 (by omega)
    rw [h0]
    exact this
  | x :: xs, i, y, h1, h2, h3 => by
    rw [List.length_cons] at h1
    rw [List.length_cons, Nat.pow_succ] at h2
    simp only [dLoop, L_law_power_trace_1]
    walk_at "wp"
    split
    · rename_i h0
      have h0 : k / 2 ^ i = 0 := by omega
      have := hE i (some (.dat x)) h0 h3 (by omega)
      rw [h0]
      exact this
    · rename_i h0
      have h0 : k / 2 ^ i ≠ 0 := by omega
      have e1 : ((k / 2 ^ i : Nat) : Int) / 2 = ((k / 2 ^ (i + 1) : Nat) : Int) := by rw [Nat.pow_succ, ← Nat.div_div_eq_div_mul]; omega
      have e2 : ((k / 2 ^ i : Nat) : Int) % 2 = ((k / 2 ^ i % 2 : Nat) : Int) := by omega
      refine ⟨by rw [List.length_map, bl_len]; omega, ⟨by decide, by decide⟩, ?_⟩
      rw [e1, e2, show List.map PyData.int (bl k i) ++ [PyData.int ((k / 2 ^ i % 2 : Nat) : Int)] = iL (bl k (i + 1)) from by rw [bl_snoc]; simp only [iL, List.map_append, List.map_cons, List.map_nil]]
      refine l_law_power_trace_1 E a b x5 x6 x7 k hE xs (i + 1) _ (by omega) ?_ fun j hj => ?_
      · rw [Nat.pow_succ, ← Nat.div_div_eq_div_mul]; omega
      · by_cases hji : j = i
        · subst hji; exact h0
        · exact h3 j (by omega)
structure PTI (s low high : Int) (m : Nat) : Prop where
  m1 : 1 ≤ m
  l0 : s ≤ low
  h0 : s * s - 2 ≤ high
  l1 : low ≤ s ^ m
  h1 : high ≤ s ^ (m + 1)
  g : 2 ≤ m → 3 ≤ s → s < low
theorem pti_first {s : Int} (h : 2 ≤ s) : PTI s (2 * s - s) (s * s - 2) 1 := by
  refine ⟨Nat.le_refl _, by omega, Int.le_refl _, by rw [Int.pow_one]; omega, ?_, fun h => by omega⟩
  have : s ^ (1 + 1) = s * s := by rw [Int.pow_succ, Int.pow_one]
  omega
theorem pti_sq {s : Int} (hs : 2 ≤ s) : 2 * s ≤ s * s := Int.mul_le_mul_of_nonneg_right hs (by omega)
theorem pti_one {s low high : Int} {m : Nat} (hs : 2 ≤ s) (h : PTI s low high m) : PTI s (low * high - s) (high * high - 2) (2 * m + 1) := by
  obtain ⟨m1, l0, h0, l1, h1, g⟩ := h
  have q := pti_sq hs
  have hh : 2 ≤ high := by omega
  have a1 : low * high ≥ s * (s * s - 2) := Int.mul_le_mul l0 h0 (by omega) (by omega)
  have a2 : s * (s * s - 2) = s * (s * s) - 2 * s := by rw [Int.mul_sub]; omega
  have a3 : s * 4 ≤ s * (s * s) := Int.mul_le_mul_of_nonneg_left (by omega) (by omega)
  have a4 : 2 * high ≤ high * high := Int.mul_le_mul_of_nonneg_right hh (by omega)
  have a5 : low * high ≤ s ^ m * s ^ (m + 1) := Int.mul_le_mul l1 h1 (by omega) (Int.pow_nonneg (by omega))
  have a6 : high * high ≤ s ^ (m + 1) * s ^ (m + 1) := Int.mul_le_mul h1 h1 (by omega) (Int.pow_nonneg (by omega))
  rw [← Int.pow_add] at a5 a6
  rw [show m + (m + 1) = 2 * m + 1 by omega] at a5
  rw [show m + 1 + (m + 1) = 2 * m + 1 + 1 by omega] at a6
  refine ⟨by omega, by omega, by omega, by omega, by omega, fun _ h3 => ?_⟩
  have a7 : s * 9 ≤ s * (s * s) := by
    have : 3 * s ≤ s * s := Int.mul_le_mul_of_nonneg_right h3 (by omega)
    exact Int.mul_le_mul_of_nonneg_left (by omega) (by omega)
  omega
theorem pti_zero {s low high : Int} {m : Nat} (hs : 2 ≤ s) (h : PTI s low high m) : PTI s (low * low - 2) (low * high - s) (2 * m) := by
  obtain ⟨m1, l0, h0, l1, h1, g⟩ := h
  have q := pti_sq hs
  have hh : 2 ≤ high := by omega
  have a1 : low * high ≥ s * (s * s - 2) := Int.mul_le_mul l0 h0 (by omega) (by omega)
  have a2 : s * (s * s - 2) = s * (s * s) - 2 * s := by rw [Int.mul_sub]; omega
  have a3 : 2 * (s * s) ≤ s * (s * s) := Int.mul_le_mul_of_nonneg_right hs (Int.mul_nonneg (by omega) (by omega))
  have a4 : s * s ≤ low * low := Int.mul_le_mul l0 l0 (by omega) (by omega)
  have a5 : low * high ≤ s ^ m * s ^ (m + 1) := Int.mul_le_mul l1 h1 (by omega) (Int.pow_nonneg (by omega))
  have a6 : low * low ≤ s ^ m * s ^ m := Int.mul_le_mul l1 l1 (by omega) (Int.pow_nonneg (by omega))
  rw [← Int.pow_add] at a5 a6
  rw [show m + (m + 1) = 2 * m + 1 by omega] at a5
  rw [show m + m = 2 * m by omega] at a6
  refine ⟨by omega, by omega, ?_, by omega, by omega, fun _ h3 => ?_⟩
  · by_cases h2 : s = 2
    · subst h2; omega
    · have : 3 * (s * s) ≤ s * (s * s) := Int.mul_le_mul_of_nonneg_right (by omega) (Int.mul_nonneg (by omega) (by omega))
      omega
  · have : 3 * s ≤ s * s := Int.mul_le_mul_of_nonneg_right h3 (by omega)
    omega
theorem l_law_power_trace_2 (E : DEnds) (b3 kk : Option Cell) (s : Int) (k len b : Nat) (hs : 2 ≤ s) (hb : s ≤ 2 ^ b) (hkb : (k + 2) * b ≤ 2 ^ 26) (hl : len ≤ 64)
    (hE : ∀ low high y z, PTI s low high k → E.nx [some (.dat (.int s)), kk, some (.own (iL (bl k len))), b3, y, some (.dat (.int low)), some (.dat (.int high)), z]) :
    ∀ (n j : Nat) (low high : Int) (y z : Option Cell), j + n = len → PTI s low high (k / 2 ^ n) →
      dLoop (dgName 4) L_law_power_trace_2 E (intsD (j : Int) n) [some (.dat (.int s)), kk, some (.own (iL (bl k len))), b3, y, some (.dat (.int low)), some (.dat (.int high)), z]
  | 0, j, low, high, y, z, h1, h2 => by
    rw [Nat.pow_zero, Nat.div_one] at h2
    exact hE low high y z h2
  | n + 1, j, low, high, y, z, h1, h2 => by
    rw [intsD_succ]
    simp only [dLoop, L_law_power_trace_2]
    walk_at "wp"
    have hat : atI (iL (bl k len)) ((((iL (bl k len)).length : Nat) : Int) - 1 - (j : Int)) = some (.int ((k / 2 ^ n % 2 : Nat) : Int)) := by
      rw [List.length_map, bl_len]
      have e : ((len : Nat) : Int) - 1 - (j : Int) = ((n : Nat) : Int) := by omega
      rw [e]
      exact atI_nat (by rw [List.getElem?_map, bl_get (by omega)]; rfl)
    rw [hat]
    have hm : k / 2 ^ (n + 1) = k / 2 ^ n / 2 := by rw [Nat.pow_succ, Nat.div_div_eq_div_mul]
    have hmk : k / 2 ^ n ≤ k := Nat.div_le_self _ _
    rw [hm] at h2
    have hM : k / 2 ^ n = 2 * (k / 2 ^ n / 2) + k / 2 ^ n % 2 := by omega
    have hsz : (k / 2 ^ n / 2) * b * 2 ≤ 2 ^ 26 ∧ ((k / 2 ^ n / 2) + 1) * b * 2 ≤ 2 ^ 26 := by
      have a1 : ((k / 2 ^ n / 2) + 1) * 2 * b ≤ (k + 2) * b := Nat.mul_le_mul_right b (by omega)
      have a2 : (k / 2 ^ n / 2) * 2 * b ≤ (k + 2) * b := Nat.mul_le_mul_right b (by omega)
      rw [Nat.mul_right_comm] at a1 a2
      exact ⟨by omega, by omega⟩
    have IH := l_law_power_trace_2 E b3 kk s k len b hs hb hkb hl hE n (j + 1)
    have hr2 : k / 2 ^ n % 2 < 2 := Nat.mod_lt _ (by decide)
    generalize k / 2 ^ n % 2 = r at *
    generalize k / 2 ^ n / 2 = m at *
    generalize k / 2 ^ n = M at *
    obtain ⟨z1, z2⟩ := hsz
    have lb : Bt low (m * b + 1) := bt_le2 (by have := h2.l0; omega) (Int.le_trans h2.l1 (bt_pow (by omega) hb _))
    have q := pti_sq hs
    have hbt : Bt high ((m + 1) * b + 1) := bt_le2 (by have := h2.h0; omega) (Int.le_trans h2.h1 (bt_pow (by omega) hb _))
    generalize m * b = u at *
    generalize (m + 1) * b = v at *
    refine ⟨by walk_at "cm1", ?_⟩
    have hr : r = 0 ∨ r = 1 := by omega
    have ej : (j : Int) + 1 = ((j + 1 : Nat) : Int) := by omega
    rw [ex_some]
    simp only [shaped_int, eqv_int, true_and]
    rcases hr with rfl | rfl
    · rw [if_neg (by decide)]
      refine ⟨by walk_at "cm1", ?_⟩
      rw [ej]
      exact IH _ _ _ _ (by omega) (by rw [hM]; exact pti_zero hs h2)
    · rw [if_pos (by decide)]
      refine ⟨by walk_at "cm1", ?_⟩
      rw [ej]
      exact IH _ _ _ _ (by omega) (by rw [hM]; exact pti_one hs h2)
theorem w_law_power_trace : ∀ ds, c_law_power_trace.pre ds → P_law_power_trace { nx := fun _ => c_law_power_trace.post ds .none, rt := c_law_power_trace.post ds } (startD n_law_power_trace.length ds) := by
  intro ds h
  unfold c_law_power_trace at h ⊢
  simp only at h ⊢
  split at h
  · rename_i s k
    obtain ⟨h1, h2, h3, b, h4, h5⟩ := h
    obtain ⟨k, rfl⟩ := Int.eq_ofNat_of_zero_le (show 0 ≤ k by omega)
    show P_law_power_trace _ [some (.dat (.int s)), some (.dat (.int (k : Int))), none, none, none, none, none, none]
    unfold P_law_power_trace
    walk_at "wp"
    have hkb : (k + 2) * b ≤ 2 ^ 26 := by
      have : (((k + 2) * b : Nat) : Int) = ((k : Int) + 2) * b := by rw [Int.natCast_mul]; rfl
      omega
    have e0 : (k : Int) = ((k / 2 ^ 0 : Nat) : Int) := by rw [Nat.pow_zero, Nat.div_one]
    rw [show (some (Cell.dat (.int (k : Int))) : Option Cell) = some (Cell.dat (.int ((k / 2 ^ 0 : Nat) : Int))) from by rw [← e0]]
    refine l_law_power_trace_1 _ _ _ _ _ _ k (fun len y z1 z2 z3 => ?_) (intsD 0 64) 0 none (by rw [intsD_len]; omega) (by rw [intsD_len, Nat.pow_zero, Nat.div_one]; omega) (fun j hj => by omega)
    walk_at "wp"
    rw [List.length_map, bl_len]
    -- at least two places
    have hl1 : 1 ≤ len := by
      cases len with
      | zero => rw [Nat.pow_zero, Nat.div_one] at z1; omega
      | succ n => omega
    obtain ⟨n, rfl⟩ : ∃ n, len = n + 1 := ⟨len - 1, by omega⟩
    refine ⟨by omega, by omega, ?_⟩
    rw [show (((n + 1 : Nat) : Int)).toNat = n + 1 by omega, intsD_succ]
    simp only [dLoop, L_law_power_trace_2]
    walk_at "wp"
    have hat : atI (iL (bl k (n + 1))) ((((iL (bl k (n + 1))).length : Nat) : Int) - 1 - 0) = some (.int ((k / 2 ^ n % 2 : Nat) : Int)) := by
      rw [List.length_map, bl_len]
      have e : ((n + 1 : Nat) : Int) - 1 - 0 = ((n : Nat) : Int) := by omega
      rw [e]
      exact atI_nat (by rw [List.getElem?_map, bl_get (by omega)]; rfl)
    rw [hat]
    have hn0 := z2 n (by omega)
    have hn1 : k / 2 ^ n = 1 := by
      rw [Nat.pow_succ, ← Nat.div_div_eq_div_mul] at z1
      omega
    rw [hn1]
    have bs : Bt s (b + 1) := bt_le2 (by omega) h4
    have hb3 : b ≤ 2 ^ 24 := by
      have := Nat.mul_le_mul_right b (show 4 ≤ k + 2 by omega)
      omega
    refine ⟨by walk_at "cm1", ?_⟩
    rw [ex_some]
    simp only [shaped_int, eqv_int, true_and]
    rw [if_pos (by decide)]
    refine ⟨by walk_at "cm1", ?_⟩
    have := l_law_power_trace_2 { nx := dRet (dVar 5) { nx := fun _ => ∃ r, PyData.none = PyData.int r ∧ (3 ≤ s → s < r), rt := fun x => ∃ r, x = PyData.int r ∧ (3 ≤ s → s < r) }, rt := fun x => ∃ r, x = PyData.int r ∧ (3 ≤ s → s < r) } (some (.dat (.int 0))) (some (.dat (.int (k : Int)))) s k (n + 1) b h1 h4 hkb z3 (fun low high y z hp => ?_) n 1 (2 * s - s) (s * s - 2) (some (.dat (.int 0))) (some (.dat (.int (2 * s - s)))) (by omega) (by rw [hn1]; exact pti_first h1)
    · rw [Nat.div_one]
      exact this
    · walk_at "wp"
      exact ⟨low, rfl, fun h3' => hp.g (by omega) h3'⟩
  · exact h.elim
theorem newton_bd {n : Int} (hn : 1 ≤ n) : ∀ (k : Nat) (g : Int), 0 < g → 0 < newton k n g ∧ newton k n g ≤ g
  | 0, g, h => ⟨h, Int.le_refl _⟩
  | k + 1, g, h => by
    unfold newton
    split
    · exact ⟨h, Int.le_refl _⟩
    · rename_i h1
      have := newton_bd hn k _ (newton_step hn h)
      exact ⟨this.1, by omega⟩
theorem rootL_bd {n : Int} (hn : 1 ≤ n) {b : Nat} (hb : bitsN n ≤ b) : 1 ≤ rootL n ∧ rootL n ≤ 2 ^ ((b + 1) / 2) := by
  unfold rootL
  rw [if_neg (by omega)]
  have h := newton_bd hn 100000 (2 ^ (((bitsN n : Nat) + 1 : Int) / 2).toNat) (Int.pow_pos (by decide))
  refine ⟨by omega, Int.le_trans h.2 ?_⟩
  have e : (2 : Nat) ^ (((bitsN n : Nat) + 1 : Int) / 2).toNat ≤ 2 ^ ((b + 1) / 2) := Nat.pow_le_pow_right (by decide) (by omega)
  exact_mod_cast e
theorem bits_of {i : Int} {n : Nat} (h : Bt i n) : bitsN i ≤ n := h.bits
theorem w_law_is_power : ∀ ds, c_law_is_power.pre ds → P_law_is_power { nx := fun _ => c_law_is_power.post ds .none, rt := c_law_is_power.post ds } (startD n_law_is_power.length ds) := by
  intro ds h
  unfold c_law_is_power at h ⊢
  simp only at h ⊢
  split at h
  · rename_i D t k
    obtain ⟨⟨u, hL⟩, h1, h2, h3, h4, h5, h6⟩ := h
    show P_law_is_power _ [some (.dat (.int D)), some (.dat (.int t)), some (.dat (.int k)), none, none]
    unfold P_law_is_power
    unfold c_law_deep_root
    walk_at "wp"
    refine ⟨⟨by omega, h4, by omega, h6⟩, fun g ⟨g1, g2⟩ => ?_⟩
    obtain ⟨K, rfl⟩ := Int.eq_ofNat_of_zero_le (show 0 ≤ k by omega)
    rw [show ((K : Int)).toNat = K by omega] at g2
    generalize hB : bitsN t = B at *
    have hq : K * (B / K) ≤ B := Nat.mul_div_le B K
    have hq3 : 2 * (B / K) ≤ K * (B / K) := Nat.mul_le_mul_right _ (by omega)
    generalize B / K = q at *
    have ht2 : g + 1 ≤ 2 ^ (q + 2) := by
      have : (2 : Int) ^ (q + 2) = 2 * 2 ^ (q + 1) := by rw [Int.pow_succ]; omega
      have := pow_ge_one (f := 2) (by decide) (q + 1)
      omega
    have hkb : ((K : Int) + 2) * ((q + 2 : Nat) : Int) ≤ 2 ^ 26 := by
      have : ((K : Int) + 2) * ((q + 2 : Nat) : Int) = ((K * q : Nat) : Int) + 2 * q + 2 * K + 4 := by
        rw [Int.natCast_mul, Int.natCast_add, Int.add_mul, Int.mul_add]
        have : ((2 : Nat) : Int) = 2 := rfl
        omega
      omega
    unfold c_law_power_trace
    walk_at "wp"
    refine ⟨⟨by omega, by omega, by omega, q + 2, ht2, hkb⟩, fun r hr => ?_⟩
    have bt : Bt (g + 1) (q + 2 + 1) := bt_le2 (by omega) ht2
    have hmul : CMulX (g + 1) (g + 1) := by walk_at "cm1"
    split
    · trivial
    · rename_i hrt
      have hrt : r = t := by simpa using hrt
      refine ⟨hmul, by omega, ?_⟩
      split
      · trivial
      · rename_i hmod
        have hmod : ((g + 1) * (g + 1) - 4) % D = 0 := by simpa using hmod
        unfold c_law_root
        walk_at "wp"
        refine ⟨hmul, ⟨by omega, by omega⟩, ?_⟩
        generalize hsq : ((g + 1) * (g + 1) - 4) / D = sq at *
        have hD : (g + 1) * (g + 1) - D * sq = 4 := by
          have := Int.mul_ediv_add_emod ((g + 1) * (g + 1) - 4) D
          rw [hsq] at this
          omega
        by_cases hs0 : 0 < sq
        · rw [decide_eq_true hs0]
          simp only
          have hsD : sq ≤ D * sq := by
            have := Int.mul_le_mul_of_nonneg_right h1 (show 0 ≤ sq by omega)
            omega
          have b1 : Bt sq (q + 2 + 1 + (q + 2 + 1)) := Bt.le (by omega) (show sq ≤ (g + 1) * (g + 1) by omega) (bt.mul bt)
          have b2 := bits_of b1
          have b3 := rootL_bd (show 1 ≤ sq by omega) b2
          have b4 : Bt (rootL sq) ((q + 2 + 1 + (q + 2 + 1) + 1) / 2 + 1) := bt_le2 (by omega) b3.2
          refine ⟨by omega, by omega, by walk_at "cm1", ?_⟩
          rw [PyData.bool.injEq, beq_eq_false_iff_ne]
          intro he
          have hg3 : 3 ≤ g + 1 := by
            by_cases h' : 3 ≤ g + 1
            · exact h'
            · exfalso
              have : g = 1 := by omega
              subst this
              omega
          have hm := hL.min (g + 1) (rootL sq) (by omega) (by omega) (by rw [Int.mul_assoc, he]; exact hD)
          have := hr hg3
          omega
        · rw [decide_eq_false hs0]
          trivial
  · exact h.elim
theorem l_law_no_power (E : DEnds) (D t least : Int) (u : Int) (hL : Pell.Least D t u) (h1 : 1 ≤ D) (h2 : D < 2 ^ 22) (h3 : 3 ≤ t) (B : Nat) (hB : bitsN t = B) (h5 : B ≤ 2 ^ 22) (hl : 2 ≤ least) (hl2 : least ≤ 2 ^ 13) (hE : E.rt (.bool true)) (hE2 : ∀ y, E.nx [some (.dat (.int D)), some (.dat (.int t)), some (.dat (.int least)), y]) :
    ∀ (n : Nat) (lo : Int) (y : Option Cell), 2 ≤ lo → lo + n ≤ B + 2 → dLoop (dgName 3) L_law_no_power_1 E (intsD lo n) [some (.dat (.int D)), some (.dat (.int t)), some (.dat (.int least)), y]
  | 0, lo, y, _, _ => hE2 y
  | n + 1, lo, y, g1, g2 => by
    rw [intsD_succ]
    simp only [dLoop, L_law_no_power_1]
    unfold c_law_prime
    walk_at "wp"
    refine ⟨⟨g1, by omega⟩, fun b => ?_⟩
    have IH := l_law_no_power E D t least u hL h1 h2 h3 B hB h5 hl hl2 hE hE2 n (lo + 1) (some (.dat (.int lo))) (by omega) (by omega)
    split
    · unfold c_law_power_trace
      walk_at "wp"
      refine ⟨⟨hl, g1, by omega, 13, hl2, by omega⟩, fun r hr => ?_⟩
      split
      · exact hE
      · unfold c_law_is_power
        walk_at "wp"
        refine ⟨⟨⟨u, hL⟩, h1, h2, h3, g1, by omega, by omega⟩, ?_⟩
        exact IH
    · exact IH
theorem w_law_no_power : ∀ ds, c_law_no_power.pre ds → P_law_no_power { nx := fun _ => c_law_no_power.post ds .none, rt := c_law_no_power.post ds } (startD n_law_no_power.length ds) := by
  intro ds h
  unfold c_law_no_power at h ⊢
  simp only at h ⊢
  split at h
  · rename_i D t
    obtain ⟨⟨u, hL⟩, h1, h2, h3, h4⟩ := h
    show P_law_no_power _ [some (.dat (.int D)), some (.dat (.int t)), none, none]
    unfold P_law_no_power
    unfold c_law_root
    walk_at "wp"
    have b0 : Bt (D + 3) 23 := by show (D + 3).natAbs < 8388608; omega
    have b1 := bits_of b0
    have b2 := rootL_bd (show 1 ≤ D + 3 by omega) b1
    unfold bitsN at h4
    refine ⟨by omega, ⟨by omega, by omega⟩, ?_⟩
    refine l_law_no_power _ D t _ u hL h1 h2 h3 _ rfl h4 (by omega) (by omega) ?_ (fun y => ?_) _ 2 none (by decide) (by unfold bitsN; omega)
    · rfl
    · walk_at "wp"
  · exact h.elim
theorem isqrt_ex (D : Int) (h : 0 ≤ D) : ∃ s, 0 ≤ s ∧ s * s ≤ D ∧ D < (s + 1) * (s + 1) := by
  obtain ⟨n, rfl⟩ := Int.eq_ofNat_of_zero_le h
  have := PySem.Float64.isqrt_spec n
  refine ⟨(Float64.isqrt n : Nat), Int.natCast_nonneg _, ?_, ?_⟩
  · exact_mod_cast this.1
  · exact_mod_cast this.2
theorem newton_spec {n r : Int} (hn : 1 ≤ n) (h0 : 0 ≤ r) (h1 : r * r ≤ n) (h2 : n < (r + 1) * (r + 1)) : ∀ (k : Nat) (g : Int), 0 < g → r ≤ g → g < k → newton k n g = r
  | 0, g, hg, _, h => by omega
  | k + 1, g, hg, hr, h => by
    unfold newton
    split
    · rename_i hb
      have h3 : g ≤ n / g := by omega
      have h4 := (Int.le_ediv_iff_mul_le hg).mp h3
      by_cases h5 : g ≤ r
      · omega
      · have := Int.mul_le_mul (show r + 1 ≤ g by omega) (show r + 1 ≤ g by omega) (by omega) (by omega)
        omega
    · rename_i hb
      refine newton_spec hn h0 h1 h2 k _ (newton_step hn hg) ?_ (by omega)
      have h3 : 2 * r - g ≤ n / g := by
        refine (Int.le_ediv_iff_mul_le hg).mpr ?_
        have h4 : 0 ≤ (g - r) * (g - r) := Int.mul_nonneg (by omega) (by omega)
        have h5 : (g - r) * (g - r) = g * g - 2 * (r * g) + r * r := by grind
        have h6 : (2 * r - g) * g = 2 * (r * g) - g * g := by grind
        omega
      omega
theorem rootL_spec {n : Int} (h0 : 0 ≤ n) (h1 : n < 2 ^ 24) : 0 ≤ rootL n ∧ rootL n * rootL n ≤ n ∧ n < (rootL n + 1) * (rootL n + 1) := by
  by_cases hn : n < 1
  · have : n = 0 := by omega
    subst this
    decide
  · obtain ⟨r, r0, r1, r2⟩ := isqrt_ex n h0
    have e : rootL n = r := by
      unfold rootL
      rw [if_neg hn]
      have hb : Bt n 24 := by show n.natAbs < 16777216; omega
      have hb2 := bits_of hb
      have hb3 : Bt n (bitsN n) := Bt.of (Nat.le_refl _)
      have e1 : (((bitsN n : Nat) + 1 : Int) / 2).toNat = (bitsN n + 1) / 2 := by omega
      rw [e1]
      refine newton_spec (by omega) r0 r1 r2 _ _ (Int.pow_pos (by decide)) ?_ ?_
      · have hq : (2 : Int) ^ bitsN n ≤ 2 ^ ((bitsN n + 1) / 2) * 2 ^ ((bitsN n + 1) / 2) := by
          rw [← Int.pow_add]
          have : (2 : Nat) ^ bitsN n ≤ 2 ^ ((bitsN n + 1) / 2 + (bitsN n + 1) / 2) := Nat.pow_le_pow_right (by decide) (by omega)
          exact_mod_cast this
        have hn2 : n < 2 ^ bitsN n := by
          have : ((n.natAbs : Nat) : Int) < ((2 ^ bitsN n : Nat) : Int) := Int.ofNat_lt.mpr hb3
          rw [Int.natCast_pow] at this
          have h2 : ((2 : Nat) : Int) = 2 := rfl
          rw [h2] at this
          omega
        exact Pell.sq_lt (Int.pow_nonneg (by decide)) (by omega)
      · have : (2 : Nat) ^ ((bitsN n + 1) / 2) ≤ 2 ^ 12 := Nat.pow_le_pow_right (by decide) (by omega)
        have h3 : ((2 ^ ((bitsN n + 1) / 2) : Nat) : Int) ≤ ((2 ^ 12 : Nat) : Int) := Int.ofNat_le.mpr this
        rw [Int.natCast_pow] at h3
        have h4 : ((2 : Nat) : Int) = 2 := rfl
        rw [h4] at h3
        have h5 : ((2 ^ 12 : Nat) : Int) = 4096 := rfl
        omega
    rw [e]
    exact ⟨r0, r1, r2⟩
theorem num_s {D s : Int} (N : Pell.Num D s) (h : D ≤ 1280000) : s ≤ 1131 := by
  have := N.lo
  by_cases h1 : s ≤ 1131
  · exact h1
  · have := Int.mul_le_mul (show 1132 ≤ s by omega) (show 1132 ≤ s by omega) (by omega) (by omega)
    omega
theorem tot_bd {D s : Int} (N : Pell.Num D s) (h : D ≤ 1280000) : Pell.Tot s ≤ 2562846 := by
  have h1 := num_s N h
  have h2 := Pell.Tot_le (show 0 ≤ s by have := N.s2; omega)
  have := N.s2
  have h3 : 2 * s * (s + 2) ≤ 2 * 1131 * (1131 + 2) := Int.mul_le_mul (by omega) (by omega) (by omega) (by omega)
  omega
theorem t_least {D t u s : Int} (h : Pell.Least D t u) (N : Pell.Num D s) : t ≤ (s + 1) * u + 2 := by
  have := h.u0
  have := N.s2
  have hp : 0 ≤ (s + 1) * u := Int.mul_nonneg (by omega) (by omega)
  refine Pell.sq_lt (by omega) ?_
  have e := h.eq
  have h1 : D * u * u ≤ (s + 1) * u * ((s + 1) * u) := by
    have h2 : (s + 1) * u * ((s + 1) * u) = (s + 1) * (s + 1) * (u * u) := by grind
    rw [h2, Int.mul_assoc]
    exact Int.mul_le_mul_of_nonneg_right (by have := N.hi; omega) (Int.mul_nonneg (by omega) (by omega))
  have h3 : ((s + 1) * u + 2) * ((s + 1) * u + 2) = (s + 1) * u * ((s + 1) * u) + 4 * ((s + 1) * u) + 4 := by grind
  omega
end K79
namespace K79
open PySem L2 PD
local macro_rules | `(tactic| walk_at "wp") => `(tactic| simp only [dSeq, dIf, dTst, dBin, dUn, dVar, dLook, dC, dRet, dRetN, dNext, dSet, dSetO, dFor, dgName, lk, put, iOp, iOp0, iCmp, bAdd, bSub, bMul, bDiv, bDivN, bDivW, bMod, bPow, bShl, bLt, bLe, bGt, bGe, bEq, bNe, bIs, bIsNot, isN, bNeg, bIx, dCons, dNil, dTup, dLst, dFz, dAnd, dOr, dNot, dAndV, dOrV, dNotV, dIfE, dCB, bLen, bInt, bAbs, bMin2, bMax2, bGcd, bIsqrt, bTuple, bBits, dIsi, dPar, dPar3, dAsg, dgSq, dgTup, dgCons, dgNil, dCall, dCallF, dFreeze, dMove, dRng1, dRng2, dSq, dApp, dPutI, dAug, dNever, dBreak, dCont, dYes, decide_eq_true_eq, Bool.not_eq_true', decide_eq_false_iff_not, ite_self, List.length_cons, List.length_nil, shaped_int, shaped_bool, shaped_none, eqv_int, eqv_bool, beq_iff_eq, bne_iff_ne, flat, ex_some, tt_tt, ff_tt, tt_ff, ff_ff, atI_0, atI_1, atI_2, atI_3, atI_4, atI_5, atI_6, atI_7, atI_8, atI_9, atI_10, atI_11, atI_12, atI_13, atI_14, atI_15, Int.reduceLT, Int.reduceLE, Int.reduceMul, Int.reduceAdd, Int.reduceSub, Int.reduceNeg, Int.reduceToNat, Int.reducePow, Int.reduceEq, Int.reduceMod, Int.reduceDiv, Nat.reduceLT, Nat.reduceLeDiff, Nat.reduceAdd, Nat.reducePow, true_and, and_true, reduceIte, Int.one_mul, Int.mul_one, not_true_eq_false, not_false_eq_true, if_true, if_false, and_self, Bool.false_eq_true, Bool.not_true, Bool.not_false, forall_eq, forall_eq', fa_int, fa_int1, fa_bool1])
local macro_rules | `(tactic| walk_at "bt") => `(tactic| repeat' (first | assumption | exact Bt.small (by decide) | apply Bt.mul | apply Bt.add | apply Bt.sub | apply Bt.neg))
local macro_rules | `(tactic| walk_at "cm1") => `(tactic| (apply cm; (focus (walk_at "bt")); (focus (walk_at "bt")); (focus omega)))
local macro_rules | `(tactic| walk_at "cm") => `(tactic| (repeat' apply And.intro) <;> walk_at "cm1")
local macro_rules | `(tactic| walk_at "lc") => `(tactic| simp only [dLc, dComp, wipeD, put, dgName, dYes, intsD_succ, intsD_zero, dRng1, dRng2, dC, dSq, dLook, lk, Int.reduceAdd, Int.reduceSub, Int.reduceToNat, Int.reduceLT, Int.reduceLE, Int.reduceNeg, Int.reducePow, List.nil_append, List.cons_append, true_and, if_true, List.length_nil, List.length_cons, Nat.reduceAdd, Nat.reduceLT, Nat.reduceLeDiff])
theorem bt_of {a : Int} (h : a.natAbs < 1073741824) : Bt a 30 := h
theorem l_law_root_from (E : DEnds) (n g0 : Int) (hn : 1 ≤ n) (hR : ∀ r, 0 < r → r ≤ g0 → E.rt (.int r)) (hE : ∀ g y z, 0 < g → g ≤ g0 → E.nx [some (.dat (.int n)), some (.dat (.int g)), y, z]) : ∀ (xs : List D) (g : Int) (y z : Option Cell), 0 < g → g ≤ g0 →
    dLoop (dgName 2) L_law_root_from_1 E xs [some (.dat (.int n)), some (.dat (.int g)), y, z]
  | [], g, y, z, hg, h => hE g y z hg h
  | x :: xs, g, y, z, hg, h => by
    simp only [dLoop, L_law_root_from_1]
    walk_at "wp"
    refine ⟨hg, ?_⟩
    split
    · exact hR g hg h
    · rename_i h1
      exact l_law_root_from E n g0 hn hR hE xs _ _ _ (newton_step hn hg) (by omega)
theorem w_law_root_from : ∀ ds, c_law_root_from.pre ds → P_law_root_from { nx := fun _ => c_law_root_from.post ds .none, rt := c_law_root_from.post ds } (startD n_law_root_from.length ds) := by
  intro ds h
  unfold c_law_root_from at h ⊢
  simp only at h ⊢
  split at h
  · rename_i n g
    obtain ⟨h1, h2⟩ := h
    show P_law_root_from _ [some (.dat (.int n)), some (.dat (.int g)), none, none]
    unfold P_law_root_from
    walk_at "wp"
    generalize hN : (100000 : Nat) = N
    refine l_law_root_from _ n g h1 (fun r h3 h4 => ?_) (fun g' y z h3 h4 => ?_) (intsD 0 N) _ none none h2 (Int.le_refl _)
    · exact ⟨r, rfl, h3, h4⟩
    · walk_at "wp"
      exact ⟨g', rfl, h3, h4⟩
  · exact h.elim
theorem l_law_none_counted (E : DEnds) (n r m t u : Int) (hL : Pell.Least n t u) (hu : m < u) (h1 : 1 ≤ n) (h2 : n ≤ 1000000) (h3 : 0 ≤ r) (h4 : r ≤ 1000) (h5 : m ≤ 300) (hE : ∀ g y z, E.nx [some (.dat (.int n)), some (.dat (.int r)), some (.dat (.int m)), g, y, z]) : ∀ (N : Nat) (lo g : Int) (y z : Option Cell), lo + N = m + 1 → 1 ≤ lo → 0 ≤ g → g ≤ 2000 * lo →
    dLoop (dgName 4) L_law_none_counted_1 E (intsD lo N) [some (.dat (.int n)), some (.dat (.int r)), some (.dat (.int m)), some (.dat (.int g)), y, z]
  | 0, lo, g, y, z, e, hl, g0, g1 => hE _ y z
  | N + 1, lo, g, y, z, e, hl, g0, g1 => by
    rw [intsD_succ]
    simp only [dLoop, L_law_none_counted_1]
    unfold c_law_root_from
    walk_at "wp"
    have bn : Bt n 30 := Bt.small (by omega)
    have bl : Bt lo 30 := Bt.small (by omega)
    have hp : 0 ≤ n * lo * lo := Int.mul_nonneg (Int.mul_nonneg (by omega) (by omega)) (by omega)
    refine ⟨by walk_at "cm1", by walk_at "cm1", ⟨by omega, by omega⟩, fun g' ⟨q0, q1⟩ => ?_⟩
    have bg : Bt g' 30 := Bt.small (by omega)
    refine ⟨by walk_at "cm1", ?_⟩
    split
    · rename_i he
      exfalso
      have he2 : g' * g' - n * lo * lo = 4 := by omega
      have := hL.min g' lo q0 (by omega) he2
      have hlu : lo ≤ u - 1 := by omega
      have := hL.eq
      have e3 : n * lo * lo < n * u * u := by
        have a1 : lo * lo < u * u := Int.mul_lt_mul (show lo < u by omega) (show lo ≤ u by omega) (by omega) (by omega)
        have a2 := Int.mul_lt_mul_of_pos_left a1 (show 0 < n by omega)
        rw [Int.mul_assoc, Int.mul_assoc]
        exact a2
      have e4 : t * t ≤ g' * g' := Int.mul_le_mul (by assumption) (by assumption) (by have := hL.t0; omega) (by omega)
      omega
    · exact l_law_none_counted E n r m t u hL hu h1 h2 h3 h4 h5 hE N (lo + 1) g' _ _ (by omega) (by omega) (by omega) (by omega)
theorem w_law_none_counted : ∀ ds, c_law_none_counted.pre ds → P_law_none_counted { nx := fun _ => c_law_none_counted.post ds .none, rt := c_law_none_counted.post ds } (startD n_law_none_counted.length ds) := by
  intro ds h
  unfold c_law_none_counted at h ⊢
  simp only at h ⊢
  split at h
  · rename_i n r m
    obtain ⟨⟨t, u, hL, hu⟩, h0, h1, h2, h3, h4, h5⟩ := h
    show P_law_none_counted _ [some (.dat (.int n)), some (.dat (.int r)), some (.dat (.int m)), none, none, none]
    unfold P_law_none_counted
    walk_at "wp"
    refine ⟨⟨by omega, by omega⟩, ?_⟩
    refine l_law_none_counted _ n r m t u hL hu h1 h2 h3 h4 h5 (fun g y z => ?_) _ 1 0 none none (by omega) (by omega) (by omega) (by omega)
    walk_at "wp"
  · exact h.elim
end K79
namespace K79
open PySem L2 PD
local macro_rules | `(tactic| walk_at "wp") => `(tactic| simp only [dSeq, dIf, dTst, dBin, dUn, dVar, dLook, dC, dRet, dRetN, dNext, dSet, dSetO, dFor, dgName, lk, put, iOp, iOp0, iCmp, bAdd, bSub, bMul, bDiv, bDivN, bDivW, bMod, bPow, bShl, bLt, bLe, bGt, bGe, bEq, bNe, bIs, bIsNot, isN, bNeg, bIx, dCons, dNil, dTup, dLst, dFz, dAnd, dOr, dNot, dAndV, dOrV, dNotV, dIfE, dCB, bLen, bInt, bAbs, bMin2, bMax2, bGcd, bIsqrt, bTuple, bBits, dIsi, dPar, dPar3, dAsg, dgSq, dgTup, dgCons, dgNil, dCall, dCallF, dFreeze, dMove, dRng1, dRng2, dSq, dApp, dPutI, dAug, dNever, dBreak, dCont, dYes, decide_eq_true_eq, Bool.not_eq_true', decide_eq_false_iff_not, ite_self, List.length_cons, List.length_nil, shaped_int, shaped_bool, shaped_none, eqv_int, eqv_bool, beq_iff_eq, bne_iff_ne, flat, ex_some, tt_tt, ff_tt, tt_ff, ff_ff, atI_0, atI_1, atI_2, atI_3, atI_4, atI_5, atI_6, atI_7, atI_8, atI_9, atI_10, atI_11, atI_12, atI_13, atI_14, atI_15, Int.reduceLT, Int.reduceLE, Int.reduceMul, Int.reduceAdd, Int.reduceSub, Int.reduceNeg, Int.reduceToNat, Int.reducePow, Int.reduceEq, Int.reduceMod, Int.reduceDiv, Nat.reduceLT, Nat.reduceLeDiff, Nat.reduceAdd, Nat.reducePow, true_and, and_true, reduceIte, Int.one_mul, Int.mul_one, not_true_eq_false, not_false_eq_true, if_true, if_false, and_self, Bool.false_eq_true, Bool.not_true, Bool.not_false, forall_eq, forall_eq', fa_int, fa_int1, fa_bool1])
local macro_rules | `(tactic| walk_at "bt") => `(tactic| repeat' (first | assumption | exact Bt.small (by decide) | apply Bt.mul | apply Bt.add | apply Bt.sub | apply Bt.neg))
local macro_rules | `(tactic| walk_at "cm1") => `(tactic| (apply cm; (focus (walk_at "bt")); (focus (walk_at "bt")); (focus omega)))
local macro_rules | `(tactic| walk_at "cm") => `(tactic| (repeat' apply And.intro) <;> walk_at "cm1")
local macro_rules | `(tactic| walk_at "lc") => `(tactic| simp only [dLc, dComp, wipeD, put, dgName, dYes, intsD_succ, intsD_zero, dRng1, dRng2, dC, dSq, dLook, lk, Int.reduceAdd, Int.reduceSub, Int.reduceToNat, Int.reduceLT, Int.reduceLE, Int.reduceNeg, Int.reducePow, List.nil_append, List.cons_append, true_and, if_true, List.length_nil, List.length_cons, Nat.reduceAdd, Nat.reduceLT, Nat.reduceLeDiff])
def T_fit3 : DTS := (dSeq (dIf (dTst (dBin bGt (dVar 0) (dBin bPow (dC (.int 10)) (dC (.int 6))))) (dSet 0 (dC (.int 999996))) dNext) (dRet (dVar 0)))
def T_fit2 : DTS := (dSeq (dIf (dTst (dBin bEq (dBin bMul (dCall c_law_root (dCons (dVar 0) dNil)) (dCall c_law_root (dCons (dVar 0) dNil))) (dVar 0))) (dSet 0 (dBin bAdd (dVar 0) (dC (.int 4)))) dNext) T_fit3)
def T_fit : DTS := (dSeq (dIf (dTst (dBin bLt (dVar 0) (dC (.int 5)))) (dSet 0 (dC (.int 5))) dNext) T_fit2)
theorem P_fit : P_law_fitting = (dSeq (dSet 2 (dBin bMod (dCB bInt (dCons (dLook 0) dNil)) (dC (.int 4)))) (dSeq (dIf (dTst (dBin bGt (dVar 2) (dC (.int 1)))) (dSet 0 (dBin bAdd (dBin bSub (dVar 0) (dVar 2)) (dVar 1))) dNext) T_fit)) := rfl
theorem good_num {n : Int} (h1 : 1 ≤ n) (h : good n) : ∃ s, Pell.Num n s := by
  obtain ⟨s, h0, h2, h3⟩ := isqrt_ex n (by omega)
  refine ⟨s, ⟨?_, h3, ?_, ?_⟩⟩
  · rcases Int.lt_or_eq_of_le h2 with h | e
    · exact h
    · exact absurd ⟨s, e⟩ h.1
  · by_cases q : 2 ≤ s
    · exact q
    · exfalso
      have e : s = 0 ∨ s = 1 := by omega
      rcases e with rfl | rfl
      · omega
      · have : n = 2 ∨ n = 3 ∨ n = 1 := by omega
        rcases this with rfl | rfl | rfl
        · exact absurd h.2 (by decide)
        · exact absurd h.2 (by decide)
        · exact absurd ⟨1, rfl⟩ h.1
  · have := h.2
    omega
theorem root_sq {n : Int} (h0 : 0 ≤ n) (h1 : n < 2 ^ 24) : rootL n * rootL n = n ↔ isSq n := by
  have sp := rootL_spec h0 h1
  refine ⟨fun h => ⟨_, h⟩, fun ⟨z, hz⟩ => ?_⟩
  have e2 := Pell.root_unique (r := (z.natAbs : Int)) (s := rootL n) (D := n) (by omega) (by rw [Int.natAbs_mul_self']; omega) (by
    have : ((z.natAbs : Int) + 1) * (z.natAbs + 1) = (z.natAbs : Int) * z.natAbs + 2 * z.natAbs + 1 := by grind
    rw [this, Int.natAbs_mul_self']; omega) sp.1 sp.2.1 sp.2.2
  rw [← e2, Int.natAbs_mul_self']
  exact hz
theorem bt_n {n : Int} (h0 : 1 ≤ n) (h1 : n ≤ 1000000) : Bt n 20 := by
  show n.natAbs < 1048576
  omega
theorem w_law_least : ∀ ds, c_law_least.pre ds → P_law_least { nx := fun _ => c_law_least.post ds .none, rt := c_law_least.post ds } (startD n_law_least.length ds) := by
  intro ds h
  unfold c_law_least at h ⊢
  simp only at h ⊢
  split at h
  · rename_i n r y
    obtain ⟨hg, h1, h2, h3, t, u, rfl, hL, s, N, hu⟩ := h
    show P_law_least _ [some (.dat (.int n)), some (.dat (.int r)), some (.dat (.tuple [.int t, .int u])), none]
    have sp := rootL_spec (n := n) (by omega) (by omega)
    have rs : r = s := by
      rw [h3]
      exact Pell.root_unique sp.1 sp.2.1 sp.2.2 (by have := N.s2; omega) (by have := N.lo; omega) N.hi
    have hs := num_s N (by omega)
    have ss2 := N.s2
    have ht := t_least hL N
    have tb := tot_bd N (by omega)
    have hT := Pell.Tot_le (show 0 ≤ s by omega)
    subst rs
    unfold P_law_least
    unfold c_law_is_row c_law_none_counted c_law_no_power
    walk_at "wp"
    have bu : Bt u (Pell.Tot r + 1) := bt_le2 (by have := hL.u0; omega) hu
    have btt : Bt t (max (30 + (Pell.Tot r + 1)) 30 + 1) := Bt.le (by have := hL.t0; omega) ht (Bt.add (Bt.mul (Bt.small (by omega)) bu) (Bt.small (by decide)))
    have c1 := bits_of bu
    have c2 := bits_of btt
    have br : Bt (r + 1) 30 := Bt.small (by omega)
    have bn := bt_n h1 h2
    have slo := N.lo
    have r1000 : r ≤ 1000 := by
      by_cases q : r ≤ 1000
      · exact q
      · have := Int.mul_le_mul (show 1001 ≤ r by omega) (show 1001 ≤ r by omega) (by omega) (by omega)
        omega
    have Tb2 : 2 * r * (r + 2) + 34 ≤ 64 * (r + 1) * (r + 1) + 64 := by
      have e0 : 0 ≤ r * r := Int.mul_nonneg (by omega) (by omega)
      have e1 : 2 * r * (r + 2) = 2 * (r * r) + 4 * r := by grind
      have e2 : 64 * (r + 1) * (r + 1) = 64 * (r * r) + 128 * r + 64 := by grind
      omega
    have t3 : 3 ≤ t := by
      by_cases q : 3 ≤ t
      · exact q
      · exfalso
        have q1 : t * t ≤ 2 * 2 := Int.mul_le_mul (by omega) (by omega) (by have := hL.t0; omega) (by omega)
        have q2 : 0 < n * u * u := Int.mul_pos (Int.mul_pos (by omega) hL.u0) hL.u0
        have := hL.eq
        omega
    unfold bitsN at c1 c2
    rw [if_neg (by have := hL.t0; omega), if_neg (by have := hL.u0; omega)]
    refine ⟨by walk_at "cm1", by walk_at "cm1", ?_⟩
    rw [if_neg (by omega), if_neg (by omega)]
    refine ⟨by walk_at "cm1", by walk_at "cm1", by walk_at "cm1", ?_⟩
    rw [hL.eq, if_neg (by decide)]
    have hu0 := hL.u0
    refine ⟨⟨⟨t, u, hL, ?_⟩, ?_, h1, h2, by omega, r1000, ?_⟩, ⟨u, hL⟩, h1, by omega, t3, ?_⟩
    · split <;> omega
    · split <;> omega
    · split <;> omega
    · unfold bitsN
      omega
  · exact h.elim
theorem w_law_right : ∀ ds, c_law_right.pre ds → P_law_right { nx := fun _ => c_law_right.post ds .none, rt := c_law_right.post ds } (startD n_law_right.length ds) := by
  intro ds h
  unfold c_law_right at h ⊢
  simp only at h ⊢
  split at h
  · rename_i n x
    obtain ⟨h1, h2, hA⟩ := h
    show P_law_right _ [some (.dat (.int n)), some (.dat x), none]
    unfold P_law_right
    unfold c_law_root c_law_whole
    walk_at "wp"
    have sp := rootL_spec (n := n) (by omega) (by omega)
    have hb := bits_of (bt_n h1 h2)
    have rl : rootL n ≤ 1000 := by
      by_cases q : rootL n ≤ 1000
      · exact q
      · have := Int.mul_le_mul (show 1001 ≤ rootL n by omega) (show 1001 ≤ rootL n by omega) (by omega) (by omega)
        omega
    have br : Bt (rootL n) 30 := Bt.small (by omega)
    have rs := root_sq (n := n) (by omega) (by omega)
    by_cases hg : good n
    · obtain ⟨y, rfl, hy⟩ := hA.1 hg
      unfold c_law_least
      walk_at "wp"
      refine ⟨by omega, by walk_at "cm1", ?_⟩
      rw [if_neg (fun e => hg.1 (rs.mp e)), if_neg (by have := hg.2; omega)]
      simp only [decide_true, tt_tt]
      exact ⟨hg, h1, h2, hy⟩
    · have := hA.2 hg
      subst this
      walk_at "wp"
      refine ⟨by omega, by walk_at "cm1", ?_⟩
      have hor : rootL n * rootL n = n ∨ 1 < n % 4 := by
        by_cases q : isSq n
        · exact .inl (rs.mpr q)
        · refine .inr (Classical.byContradiction fun q2 => hg ⟨q, by omega⟩)
      simp only [decide_true, beq_self_eq_true]
      split
      · trivial
      · rename_i q
        rw [if_pos (by rcases hor with h | h; exact absurd h q; exact h)]
        trivial
  · exact h.elim
theorem not_sq {n r : Int} (h0 : 0 ≤ r) (h1 : r * r < n) (h2 : n < (r + 1) * (r + 1)) : ¬ isSq n := fun ⟨z, hz⟩ => by
  have e2 := Pell.root_unique (r := (z.natAbs : Int)) (s := r) (D := n) (by omega) (by rw [Int.natAbs_mul_self']; omega) (by
    have : ((z.natAbs : Int) + 1) * (z.natAbs + 1) = (z.natAbs : Int) * z.natAbs + 2 * z.natAbs + 1 := by grind
    rw [this, Int.natAbs_mul_self']; omega) h0 (by omega) h2
  have e3 := Int.natAbs_mul_self' z
  rw [e2] at e3
  omega
theorem w_law_fitting : ∀ ds, c_law_fitting.pre ds → P_law_fitting { nx := fun _ => c_law_fitting.post ds .none, rt := c_law_fitting.post ds } (startD n_law_fitting.length ds) := by
  intro ds h
  unfold c_law_fitting at h ⊢
  simp only at h ⊢
  split at h
  · rename_i n odd
    obtain ⟨h1, h2, h3, h4⟩ := h
    show P_law_fitting _ [some (.dat (.int n)), some (.dat (.int odd)), none]
    -- behind the residue
    have two : ∀ (m : Int) (y : Option Cell), -2000 ≤ m → m ≤ 10000004 → m % 4 ≤ 1 → T_fit { nx := fun _ => ∃ n : Int, PyData.none = .int n ∧ 1 ≤ n ∧ n ≤ 1000000 ∧ good n, rt := fun x => ∃ n : Int, x = .int n ∧ 1 ≤ n ∧ n ≤ 1000000 ∧ good n } [some (.dat (.int m)), some (.dat (.int odd)), y] := by
      intro m y l1 l2 l3
      have three : ∀ m : Int, 5 ≤ m → m ≤ 10000004 → m % 4 ≤ 1 → T_fit2 { nx := fun _ => ∃ n : Int, PyData.none = .int n ∧ 1 ≤ n ∧ n ≤ 1000000 ∧ good n, rt := fun x => ∃ n : Int, x = .int n ∧ 1 ≤ n ∧ n ≤ 1000000 ∧ good n } [some (.dat (.int m)), some (.dat (.int odd)), y] := by
        intro m l1 l2 l3
        have four : ∀ m : Int, 5 ≤ m → m ≤ 10000008 → good m → T_fit3 { nx := fun _ => ∃ n : Int, PyData.none = .int n ∧ 1 ≤ n ∧ n ≤ 1000000 ∧ good n, rt := fun x => ∃ n : Int, x = .int n ∧ 1 ≤ n ∧ n ≤ 1000000 ∧ good n } [some (.dat (.int m)), some (.dat (.int odd)), y] := by
          intro m l1 l2 l3
          unfold T_fit3
          walk_at "wp"
          refine ⟨⟨by decide, by decide, by decide⟩, ?_⟩
          split
          · exact ⟨_, rfl, by decide, by decide, not_sq (r := 999) (by decide) (by decide) (by decide), by decide⟩
          · exact ⟨_, rfl, by omega, by omega, l3⟩
        unfold T_fit2
        generalize T_fit3 = TT at four ⊢
        unfold c_law_root
        walk_at "wp"
        have b : Bt m 30 := Bt.small (by omega)
        have hb := bits_of b
        have sp := rootL_spec (n := m) (by omega) (by omega)
        have rl : rootL m ≤ 10000 := by
          by_cases q : rootL m ≤ 10000
          · exact q
          · have := Int.mul_le_mul (show 10001 ≤ rootL m by omega) (show 10001 ≤ rootL m by omega) (by omega) (by omega)
            omega
        have br : Bt (rootL m) 30 := Bt.small (by omega)
        have rs := root_sq (n := m) (by omega) (by omega)
        refine ⟨by omega, by omega, by walk_at "cm1", ?_⟩
        split
        · rename_i e
          refine four _ (by omega) (by omega) ⟨not_sq (r := rootL m) sp.1 (by omega) ?_, by omega⟩
          have z3 : 2 ≤ rootL m := by
            by_cases q : 2 ≤ rootL m
            · exact q
            · have : rootL m = 0 ∨ rootL m = 1 := by omega
              rcases this with h | h <;> rw [h] at e <;> omega
          have : (rootL m + 1) * (rootL m + 1) = rootL m * rootL m + 2 * rootL m + 1 := by grind
          omega
        · rename_i e
          exact four _ (by omega) (by omega) ⟨fun q => e (rs.mpr q), l3⟩
      unfold T_fit
      generalize T_fit2 = TT at three ⊢
      walk_at "wp"
      split
      · exact three 5 (by decide) (by decide) (by decide)
      · exact three m (by omega) l2 l3
    rw [P_fit]
    generalize T_fit = TT at two ⊢
    walk_at "wp"
    split
    · exact two _ _ (by omega) (by omega) (by omega)
    · exact two _ _ (by omega) (by omega) (by omega)
  · exact h.elim
end K79
namespace K79
open PySem L2 PD
local macro_rules | `(tactic| walk_at "wp") => `(tactic| simp only [dSeq, dIf, dTst, dBin, dUn, dVar, dLook, dC, dRet, dRetN, dNext, dSet, dSetO, dFor, dgName, lk, put, iOp, iOp0, iCmp, bAdd, bSub, bMul, bDiv, bDivN, bDivW, bMod, bPow, bShl, bLt, bLe, bGt, bGe, bEq, bNe, bIs, bIsNot, isN, bNeg, bIx, dCons, dNil, dTup, dLst, dFz, dAnd, dOr, dNot, dAndV, dOrV, dNotV, dIfE, dCB, bLen, bInt, bAbs, bMin2, bMax2, bGcd, bIsqrt, bTuple, bBits, dIsi, dPar, dPar3, dAsg, dgSq, dgTup, dgCons, dgNil, dCall, dCallF, dFreeze, dMove, dRng1, dRng2, dSq, dApp, dPutI, dAug, dNever, dBreak, dCont, dYes, decide_eq_true_eq, Bool.not_eq_true', decide_eq_false_iff_not, ite_self, List.length_cons, List.length_nil, shaped_int, shaped_bool, shaped_none, eqv_int, eqv_bool, beq_iff_eq, bne_iff_ne, flat, ex_some, tt_tt, ff_tt, tt_ff, ff_ff, atI_0, atI_1, atI_2, atI_3, atI_4, atI_5, atI_6, atI_7, atI_8, atI_9, atI_10, atI_11, atI_12, atI_13, atI_14, atI_15, Int.reduceLT, Int.reduceLE, Int.reduceMul, Int.reduceAdd, Int.reduceSub, Int.reduceNeg, Int.reduceToNat, Int.reducePow, Int.reduceEq, Int.reduceMod, Int.reduceDiv, Nat.reduceLT, Nat.reduceLeDiff, Nat.reduceAdd, Nat.reducePow, true_and, and_true, reduceIte, Int.one_mul, Int.mul_one, not_true_eq_false, not_false_eq_true, if_true, if_false, and_self, Bool.false_eq_true, Bool.not_true, Bool.not_false, forall_eq, forall_eq', fa_int, fa_int1, fa_bool1])
local macro_rules | `(tactic| walk_at "bt") => `(tactic| repeat' (first | assumption | exact Bt.small (by decide) | apply Bt.mul | apply Bt.add | apply Bt.sub | apply Bt.neg))
local macro_rules | `(tactic| walk_at "cm1") => `(tactic| (apply cm; (focus (walk_at "bt")); (focus (walk_at "bt")); (focus omega)))
local macro_rules | `(tactic| walk_at "cm") => `(tactic| (repeat' apply And.intro) <;> walk_at "cm1")
local macro_rules | `(tactic| walk_at "lc") => `(tactic| simp only [dLc, dComp, wipeD, put, dgName, dYes, intsD_succ, intsD_zero, dRng1, dRng2, dC, dSq, dLook, lk, Int.reduceAdd, Int.reduceSub, Int.reduceToNat, Int.reduceLT, Int.reduceLE, Int.reduceNeg, Int.reducePow, List.nil_append, List.cons_append, true_and, if_true, List.length_nil, List.length_cons, Nat.reduceAdd, Nat.reduceLT, Nat.reduceLeDiff])
def T_nw2 : DTS := (dRet (dCall c_law_fitting (dCons (dBin bIx (dLook 4) (dBin bIx (dLook 1) (dC (.int 0)))) (dCons (dBin bIx (dLook 1) (dC (.int 1))) dNil))))
def T_nw1 : DTS := (dSeq (dSet 4 (dBin bAdd (dVar 4) (dFz (dLst (dCons (dBin bSub (dBin bMul (dVar 2) (dVar 2)) (dC (.int 4))) (dCons (dBin bAdd (dBin bMul (dBin bSub (dVar 2) (dC (.int 2))) (dBin bSub (dVar 2) (dC (.int 2)))) (dC (.int 4))) (dCons (dBin bMul (dBin bMul (dBin bAdd (dC (.int 2)) (dBin bIx (dLook 1) (dC (.int 6)))) (dBin bAdd (dC (.int 2)) (dBin bIx (dLook 1) (dC (.int 6))))) (dBin bAdd (dC (.int 1)) (dBin bIx (dLook 1) (dC (.int 7))))) (dCons (dVar 3) dNil)))))))) T_nw2)
def T_nw0 : DTS := (dSeq (dSet 4 (dFz (dLst (dCons (dBin bAdd (dC (.int 1)) (dBin bIx (dLook 1) (dC (.int 2)))) (dCons (dBin bAdd (dC (.int 1)) (dBin bIx (dLook 1) (dC (.int 2)))) (dCons (dBin bAdd (dC (.int 1)) (dBin bIx (dLook 1) (dC (.int 2)))) (dCons (dBin bAdd (dC (.int 1)) (dBin bIx (dLook 1) (dC (.int 3)))) (dCons (dBin bAdd (dC (.int 1)) (dBin bIx (dLook 1) (dC (.int 3)))) (dCons (dBin bAdd (dC (.int 1)) (dBin bIx (dLook 1) (dC (.int 4)))) dNil))))))))) T_nw1)
theorem P_law_number_with_pair_eq : P_law_number_with_pair = (dSeq (dSet 1 (dCall c_law_digits (dCons (dVar 0) (dCons (dFz (dLst (dCons (dC (.int 10)) (dCons (dC (.int 2)) (dCons (dC (.int 200)) (dCons (dC (.int 10000)) (dCons (dC (.int 1000000)) (dCons (dC (.int 997)) (dCons (dC (.int 30)) (dCons (dC (.int 1000)) (dCons (dC (.int 9)) dNil))))))))))) dNil)))) (dSeq (dSet 2 (dBin bAdd (dC (.int 3)) (dBin bIx (dLook 1) (dC (.int 5))))) (dSeq (dSet 3 (dBin bSub (dBin bAdd (dBin bMul (dBin bSub (dVar 2) (dC (.int 2))) (dBin bSub (dVar 2) (dC (.int 2)))) (dBin bIx (dLook 1) (dC (.int 8)))) (dC (.int 4)))) T_nw0))) := rfl
theorem bAdd_ii (i j : Int) (Q : D → Prop) : bAdd (.int i) (.int j) Q = Q (.int (i + j)) := rfl
theorem bAdd_ll (xs ys : List D) (Q : D → Prop) : bAdd (.list xs) (.list ys) Q = (xs.length + ys.length ≤ 16777216 ∧ Q (.list (xs ++ ys))) := rfl
local macro_rules | `(tactic| walk_at "wq") => `(tactic| simp only [dSeq, dIf, dTst, dBin, dUn, dVar, dLook, dC, dRet, dRetN, dNext, dSet, dSetO, dFor, dgName, lk, put, iOp, iOp0, iCmp, bAdd_ii, bAdd_ll, bSub, bMul, bDiv, bDivN, bDivW, bMod, bPow, bShl, bLt, bLe, bGt, bGe, bEq, bNe, bIs, bIsNot, isN, bNeg, bIx, dCons, dNil, dTup, dLst, dFz, dAnd, dOr, dNot, dAndV, dOrV, dNotV, dIfE, dCB, bLen, bInt, bAbs, bMin2, bMax2, bGcd, bIsqrt, bTuple, bBits, dIsi, dPar, dPar3, dAsg, dgSq, dgTup, dgCons, dgNil, dCall, dCallF, dFreeze, dMove, dRng1, dRng2, dSq, dApp, dPutI, dAug, dNever, dBreak, dCont, dYes, decide_eq_true_eq, Bool.not_eq_true', decide_eq_false_iff_not, ite_self, List.length_cons, List.length_nil, shaped_int, shaped_bool, shaped_none, eqv_int, eqv_bool, beq_iff_eq, bne_iff_ne, flat, ex_some, tt_tt, ff_tt, tt_ff, ff_ff, atI_0, atI_1, atI_2, atI_3, atI_4, atI_5, atI_6, atI_7, atI_8, atI_9, atI_10, atI_11, atI_12, atI_13, atI_14, atI_15, Int.reduceLT, Int.reduceLE, Int.reduceMul, Int.reduceAdd, Int.reduceSub, Int.reduceNeg, Int.reduceToNat, Int.reducePow, Int.reduceEq, Int.reduceMod, Int.reduceDiv, Nat.reduceLT, Nat.reduceLeDiff, Nat.reduceAdd, Nat.reducePow, true_and, and_true, reduceIte, Int.one_mul, Int.mul_one, not_true_eq_false, not_false_eq_true, if_true, if_false, and_self, Bool.false_eq_true, Bool.not_true, Bool.not_false, forall_eq, forall_eq', fa_int, fa_int1, fa_bool1])
theorem w_law_number_with_pair : ∀ ds, c_law_number_with_pair.pre ds → P_law_number_with_pair { nx := fun _ => c_law_number_with_pair.post ds .none, rt := c_law_number_with_pair.post ds } (startD n_law_number_with_pair.length ds) := by
  intro ds h
  unfold c_law_number_with_pair at h
  simp only at h
  split at h
  · rename_i c
    show P_law_number_with_pair _ [some (.dat (.int c)), none, none, none, none]
    rw [P_law_number_with_pair_eq]
    unfold c_law_digits
    walk_at "wp"
    refine ⟨⟨[10, 2, 200, 10000, 1000000, 997, 30, 1000, 9], rfl, by decide, by decide⟩, fun x ⟨es, hx, hd⟩ => ?_⟩
    have hd := hd [10, 2, 200, 10000, 1000000, 997, 30, 1000, 9] rfl
    subst hx
    cases hd with | cons a0 b0 hd => cases hd with | cons a1 b1 hd => cases hd with | cons a2 b2 hd => cases hd with | cons a3 b3 hd => cases hd with | cons a4 b4 hd => cases hd with | cons a5 b5 hd => cases hd with | cons a6 b6 hd => cases hd with | cons a7 b7 hd => cases hd with | cons a8 b8 hd => cases hd with | nil =>
    rename_i d0 d1 d2 d3 d4 d5 d6 d7 d8 hx0
    clear hx0
    simp only [iL, List.map_cons, List.map_nil]
    have last : ∀ (y z : Option Cell) (v0 v1 v2 v3 v4 v5 v6 v7 v8 v9 : Int), (∀ v ∈ [v0, v1, v2, v3, v4, v5, v6, v7, v8, v9], -1000 ≤ v ∧ v ≤ 10000000) → T_nw2 { nx := fun _ => c_law_number_with_pair.post [.int c] .none, rt := c_law_number_with_pair.post [.int c] } [some (.dat (.int c)), some (.dat (.list [.int d0, .int d1, .int d2, .int d3, .int d4, .int d5, .int d6, .int d7, .int d8])), y, z, some (.dat (.list [.int v0, .int v1, .int v2, .int v3, .int v4, .int v5, .int v6, .int v7, .int v8, .int v9]))] := by
      intro y z v0 v1 v2 v3 v4 v5 v6 v7 v8 v9 hv
      have h0 := hv v0 (by simp)
      have h1 := hv v1 (by simp)
      have h2 := hv v2 (by simp)
      have h3 := hv v3 (by simp)
      have h4 := hv v4 (by simp)
      have h5 := hv v5 (by simp)
      have h6 := hv v6 (by simp)
      have h7 := hv v7 (by simp)
      have h8 := hv v8 (by simp)
      have h9 := hv v9 (by simp)
      unfold T_nw2
      unfold c_law_fitting c_law_number_with_pair
      have e : d0 = 0 ∨ d0 = 1 ∨ d0 = 2 ∨ d0 = 3 ∨ d0 = 4 ∨ d0 = 5 ∨ d0 = 6 ∨ d0 = 7 ∨ d0 = 8 ∨ d0 = 9 := by omega
      rcases e with rfl | rfl | rfl | rfl | rfl | rfl | rfl | rfl | rfl | rfl
      all_goals
        walk_at "wp"
        exact ⟨⟨by omega, by omega, by omega, by omega⟩, fun n h => ⟨n, rfl, h⟩⟩
    generalize c_law_number_with_pair.post [.int c] = G at last ⊢
    have mid : ∀ (v w : Int), 3 ≤ v → v ≤ 1001 → -1000 ≤ w → w ≤ 1002000 → T_nw0 { nx := fun _ => G .none, rt := G } [some (.dat (.int c)), some (.dat (.list [.int d0, .int d1, .int d2, .int d3, .int d4, .int d5, .int d6, .int d7, .int d8])), some (.dat (.int v)), some (.dat (.int w)), none] := by
      intro v w k1 k2 k3 k4
      unfold T_nw0 T_nw1
      generalize T_nw2 = TT at last ⊢
      walk_at "wq"
      have bv : Bt v 30 := Bt.small (by omega)
      have bw : Bt (v - 2) 30 := Bt.small (by omega)
      have b6 : Bt (2 + d6) 30 := Bt.small (by omega)
      have b7 : Bt (1 + d7) 30 := Bt.small (by omega)
      have n1 : (v * v).natAbs ≤ 1001 * 1001 := by rw [Int.natAbs_mul]; exact Nat.mul_le_mul (by omega) (by omega)
      have n2 : ((v - 2) * (v - 2)).natAbs ≤ 1001 * 1001 := by rw [Int.natAbs_mul]; exact Nat.mul_le_mul (by omega) (by omega)
      have n3 : ((2 + d6) * (2 + d6)).natAbs ≤ 31 * 31 := by rw [Int.natAbs_mul]; exact Nat.mul_le_mul (by omega) (by omega)
      have n4 : ((2 + d6) * (2 + d6) * (1 + d7)).natAbs ≤ 31 * 31 * 1000 := by rw [Int.natAbs_mul]; exact Nat.mul_le_mul n3 (by omega)
      have p1 : 0 ≤ v * v := Int.mul_nonneg (by omega) (by omega)
      have p2 : 0 ≤ (v - 2) * (v - 2) := Int.mul_nonneg (by omega) (by omega)
      have p4 : 0 ≤ (2 + d6) * (2 + d6) * (1 + d7) := Int.mul_nonneg (Int.mul_nonneg (by omega) (by omega)) (by omega)
      refine ⟨by walk_at "cm1", by walk_at "cm1", by walk_at "cm1", by walk_at "cm1", ?_⟩
      refine last _ _ (1 + d2) (1 + d2) (1 + d2) (1 + d3) (1 + d3) (1 + d4) (v * v - 4) ((v - 2) * (v - 2) + 4) ((2 + d6) * (2 + d6) * (1 + d7)) w fun x hx => ?_
      simp only [List.mem_cons, List.not_mem_nil, or_false] at hx
      omega
    generalize T_nw0 = TT at mid ⊢
    walk_at "wp"
    have b5 : Bt (3 + d5 - 2) 30 := Bt.small (by omega)
    have n5 : ((3 + d5 - 2) * (3 + d5 - 2)).natAbs ≤ 997 * 997 := by rw [Int.natAbs_mul]; exact Nat.mul_le_mul (by omega) (by omega)
    have p5 : 0 ≤ (3 + d5 - 2) * (3 + d5 - 2) := Int.mul_nonneg (by omega) (by omega)
    refine ⟨by walk_at "cm1", mid _ _ (by omega) (by omega) (by omega) (by omega)⟩
  · exact h.elim
theorem w_law_number_without : ∀ ds, c_law_number_without.pre ds → P_law_number_without { nx := fun _ => c_law_number_without.post ds .none, rt := c_law_number_without.post ds } (startD n_law_number_without.length ds) := by
  intro ds h
  unfold c_law_number_without at h ⊢
  simp only at h ⊢
  split at h
  · rename_i c
    show P_law_number_without _ [some (.dat (.int c)), none]
    unfold P_law_number_without
    unfold c_law_digits
    walk_at "wp"
    refine ⟨⟨[3, 1000, 250000, 50, 2], rfl, by decide, by decide⟩, fun x ⟨es, hx, hd⟩ => ?_⟩
    have hd := hd [3, 1000, 250000, 50, 2] rfl
    subst hx
    cases hd with | cons a0 b0 hd => cases hd with | cons a1 b1 hd => cases hd with | cons a2 b2 hd => cases hd with | cons a3 b3 hd => cases hd with | cons a4 b4 hd => cases hd with | nil =>
    rename_i d0 d1 d2 d3 d4 hx0
    clear hx0
    simp only [iL, List.map_cons, List.map_nil]
    walk_at "wp"
    have e1 : Bt (1 + d1) 30 := Bt.small (by omega)
    have e2 : Bt d2 30 := Bt.small (by omega)
    have e3 : Bt d3 30 := Bt.small (by omega)
    have n1 : ((1 + d1) * (1 + d1)).natAbs ≤ 1000 * 1000 := by rw [Int.natAbs_mul]; exact Nat.mul_le_mul (by omega) (by omega)
    have n2 : 1 ≤ (1 + d1) * (1 + d1) := Int.mul_pos (a := 1 + d1) (b := 1 + d1) (by omega) (by omega)
    refine ⟨by walk_at "cm1", by walk_at "cm1", by walk_at "cm1", ?_⟩
    have e : d0 = 0 ∨ d0 = 1 ∨ d0 = 2 := by omega
    rcases e with rfl | rfl | rfl
    · exact ⟨_, atI_0, _, rfl, n2, by omega⟩
    · exact ⟨_, atI_1, _, rfl, by omega, by omega⟩
    · exact ⟨_, atI_2, _, rfl, by omega, by omega⟩
  · exact h.elim
end K79
namespace K79
open PySem L2 PD
local macro_rules | `(tactic| walk_at "wp") => `(tactic| simp only [dSeq, dIf, dTst, dBin, dUn, dVar, dLook, dC, dRet, dRetN, dNext, dSet, dSetO, dFor, dgName, lk, put, iOp, iOp0, iCmp, bAdd, bSub, bMul, bDiv, bDivN, bDivW, bMod, bPow, bShl, bLt, bLe, bGt, bGe, bEq, bNe, bIs, bIsNot, isN, bNeg, bIx, dCons, dNil, dTup, dLst, dFz, dAnd, dOr, dNot, dAndV, dOrV, dNotV, dIfE, dCB, bLen, bInt, bAbs, bMin2, bMax2, bGcd, bIsqrt, bTuple, bBits, dIsi, dPar, dPar3, dAsg, dgSq, dgTup, dgCons, dgNil, dCall, dCallF, dFreeze, dMove, dRng1, dRng2, dSq, dApp, dPutI, dAug, dNever, dBreak, dCont, dYes, decide_eq_true_eq, Bool.not_eq_true', decide_eq_false_iff_not, ite_self, List.length_cons, List.length_nil, shaped_int, shaped_bool, shaped_none, eqv_int, eqv_bool, beq_iff_eq, bne_iff_ne, flat, ex_some, tt_tt, ff_tt, tt_ff, ff_ff, atI_0, atI_1, atI_2, atI_3, atI_4, atI_5, atI_6, atI_7, atI_8, atI_9, atI_10, atI_11, atI_12, atI_13, atI_14, atI_15, Int.reduceLT, Int.reduceLE, Int.reduceMul, Int.reduceAdd, Int.reduceSub, Int.reduceNeg, Int.reduceToNat, Int.reducePow, Int.reduceEq, Int.reduceMod, Int.reduceDiv, Nat.reduceLT, Nat.reduceLeDiff, Nat.reduceAdd, Nat.reducePow, true_and, and_true, reduceIte, Int.one_mul, Int.mul_one, not_true_eq_false, not_false_eq_true, if_true, if_false, and_self, Bool.false_eq_true, Bool.not_true, Bool.not_false, forall_eq, forall_eq', fa_int, fa_int1, fa_bool1])
local macro_rules | `(tactic| walk_at "bt") => `(tactic| repeat' (first | assumption | exact Bt.small (by decide) | apply Bt.mul | apply Bt.add | apply Bt.sub | apply Bt.neg))
local macro_rules | `(tactic| walk_at "cm1") => `(tactic| (apply cm; (focus (walk_at "bt")); (focus (walk_at "bt")); (focus omega)))
local macro_rules | `(tactic| walk_at "cm") => `(tactic| (repeat' apply And.intro) <;> walk_at "cm1")
local macro_rules | `(tactic| walk_at "lc") => `(tactic| simp only [dLc, dComp, wipeD, put, dgName, dYes, intsD_succ, intsD_zero, dRng1, dRng2, dC, dSq, dLook, lk, Int.reduceAdd, Int.reduceSub, Int.reduceToNat, Int.reduceLT, Int.reduceLE, Int.reduceNeg, Int.reducePow, List.nil_append, List.cons_append, true_and, if_true, List.length_nil, List.length_cons, Nat.reduceAdd, Nat.reduceLT, Nat.reduceLeDiff])
theorem eqv_tup (xs ys : List D) : PyData.eqv (.tuple xs) (.tuple ys) = PyData.eqvAll xs ys := by rw [PyData.eqv]
theorem eqv_cons (x y : D) (xs ys : List D) : PyData.eqvAll (x :: xs) (y :: ys) = (PyData.eqv x y && PyData.eqvAll xs ys) := by rw [PyData.eqvAll]
theorem eqv_nil : PyData.eqvAll [] [] = true := by rw [PyData.eqvAll]
theorem least_one {D t u t' u' : Int} (hD : 0 < D) (h : Pell.Least D t u) (h' : Pell.Least D t' u') : t = t' ∧ u = u' := by
  have e : t = t' := by
    have := h.min _ _ h'.t0 h'.u0 h'.eq
    have := h'.min _ _ h.t0 h.u0 h.eq
    omega
  subst e
  refine ⟨rfl, ?_⟩
  have h1 := h.eq
  have h2 := h'.eq
  have h3 := h.u0
  have h4 := h'.u0
  have e : D * ((u - u') * (u + u')) = 0 := by grind
  rcases Int.mul_eq_zero.mp e with h | h
  · omega
  · rcases Int.mul_eq_zero.mp h with h | h <;> omega
def T_l1 : DTS := (dSeq (dSet 5 (dCall c_law_asked (dCons (dVar 1) dNil))) (dSeq (dIf (dOr (dTst (dBin bIsNot (dBin bIx (dLook 5) (dC (.int 0))) (dC (.bool true)))) (dNot (dTst (dCall c_law_right (dCons (dVar 1) (dCons (dVar 5) dNil)))))) (dRet (dC (.bool false))) dNext) (dSeq (dIf (dOr (dNot (dTst (dCall c_law_right (dCons (dVar 2) (dCons (dCall c_law_asked (dCons (dVar 2) dNil)) dNil))))) (dNot (dTst (dCall c_law_right (dCons (dVar 4) (dCons (dCall c_law_asked (dCons (dVar 4) dNil)) dNil)))))) (dRet (dC (.bool false))) dNext) (dSeq (dSet 6 (dCall c_law_asked (dCons (dVar 1) dNil))) (dRet (dAndV (dBin bIs (dBin bIx (dLook 6) (dC (.int 0))) (dC (.bool true))) (dAndV (dCall c_law_is_row (dCons (dBin bIx (dLook 6) (dC (.int 1))) (dCons (dC (.int 2)) dNil))) (dBin bEq (dBin bIx (dLook 6) (dC (.int 1))) (dBin bIx (dLook 5) (dC (.int 1)))))))))))
def T_l0 : DTS := (dSeq (dSet 4 (dBin bAdd (dC (.int 1)) (dBin bIx (dLook 3) (dBin bAdd (dC (.int 1)) (dBin bIx (dLook 3) (dC (.int 0))))))) T_l1)
theorem P_law_eq : P_law = (dSeq (dSet 1 (dCall c_law_number_with_pair (dCons (dCall c_law_cell (dCons (dVar 0) (dCons (dC (.int 0)) dNil))) dNil))) (dSeq (dSet 2 (dCall c_law_number_without (dCons (dCall c_law_cell (dCons (dVar 0) (dCons (dC (.int 1)) dNil))) dNil))) (dSeq (dSet 3 (dCall c_law_digits (dCons (dCall c_law_cell (dCons (dVar 0) (dCons (dC (.int 2)) dNil))) (dCons (dFz (dLst (dCons (dC (.int 3)) (dCons (dC (.int 60)) (dCons (dC (.int 3000)) (dCons (dC (.int 1000000)) dNil)))))) dNil)))) T_l0))) := rfl
local macro_rules | `(tactic| walk_at "wq") => `(tactic| simp only [dSeq, dIf, dTst, dBin, dUn, dVar, dLook, dC, dRet, dRetN, dNext, dSet, dSetO, dFor, dgName, lk, put, iOp, iOp0, iCmp, bAdd_ii, bAdd_ll, bSub, bMul, bDiv, bDivN, bDivW, bMod, bPow, bShl, bLt, bLe, bGt, bGe, bEq, bNe, bIs, bIsNot, isN, bNeg, bIx, dCons, dNil, dTup, dLst, dFz, dAnd, dOr, dNot, dAndV, dOrV, dNotV, dIfE, dCB, bLen, bInt, bAbs, bMin2, bMax2, bGcd, bIsqrt, bTuple, bBits, dIsi, dPar, dPar3, dAsg, dgSq, dgTup, dgCons, dgNil, dCall, dCallF, dFreeze, dMove, dRng1, dRng2, dSq, dApp, dPutI, dAug, dNever, dBreak, dCont, dYes, decide_eq_true_eq, Bool.not_eq_true', decide_eq_false_iff_not, ite_self, List.length_cons, List.length_nil, shaped_int, shaped_bool, shaped_none, eqv_int, eqv_bool, beq_iff_eq, bne_iff_ne, flat, ex_some, tt_tt, ff_tt, tt_ff, ff_ff, atI_0, atI_1, atI_2, atI_3, atI_4, atI_5, atI_6, atI_7, atI_8, atI_9, atI_10, atI_11, atI_12, atI_13, atI_14, atI_15, Int.reduceLT, Int.reduceLE, Int.reduceMul, Int.reduceAdd, Int.reduceSub, Int.reduceNeg, Int.reduceToNat, Int.reducePow, Int.reduceEq, Int.reduceMod, Int.reduceDiv, Nat.reduceLT, Nat.reduceLeDiff, Nat.reduceAdd, Nat.reducePow, true_and, and_true, reduceIte, Int.one_mul, Int.mul_one, not_true_eq_false, not_false_eq_true, if_true, if_false, and_self, Bool.false_eq_true, Bool.not_true, Bool.not_false, forall_eq, forall_eq', fa_int, fa_int1, fa_bool1])
theorem told_one {n : Int} {x y : D} (hx : Told n x) (hy : Told n y) : x = y := by
  obtain ⟨t, u, rfl, h, s, N, _⟩ := hx
  obtain ⟨t', u', rfl, h', _⟩ := hy
  have h3 := N.lo
  have h4 := N.s2
  have h5 : 4 ≤ s * s := Int.mul_le_mul h4 h4 (by omega) (by omega)
  obtain ⟨rfl, rfl⟩ := least_one (by omega) h h'
  rfl
theorem eqv_t2 (a b : Int) : PyData.eqv (.tuple [.int a, .int b]) (.tuple [.int a, .int b]) = true := by
  simp only [eqv_tup, eqv_cons, eqv_nil, eqv_int, beq_self_eq_true, Bool.and_self]
theorem w_law : ∀ ds, c_law.pre ds → P_law { nx := fun _ => c_law.post ds .none, rt := c_law.post ds } (startD n_law.length ds) := by
  intro ds h
  unfold c_law at h ⊢
  simp only at h ⊢
  split at h
  · rename_i xs
    obtain ⟨ns, rfl, hn⟩ := h
    show P_law _ [some (.dat (.list (iL ns))), none, none, none, none, none, none]
    rw [P_law_eq]
    have last : ∀ (n o i : Int) (x : Option Cell), 1 ≤ n → n ≤ 1000000 → good n → 1 ≤ o → o ≤ 1000000 → 1 ≤ i → i ≤ 1000000 → T_l1 { nx := fun _ => PyData.none = .bool true, rt := fun x => x = PyData.bool true } [some (.dat (.list (iL ns))), some (.dat (.int n)), some (.dat (.int o)), x, some (.dat (.int i)), none, none] := by
      intro n o i x n1 n2 gn o1 o2 i1 i2
      unfold T_l1
      unfold c_law_asked c_law_right c_law_is_row
      simp only [dSeq, dSet, dCall, dVar, dLook, lk, dCons, dNil, put]
      refine ⟨⟨n1, n2⟩, fun z hz => ?_⟩
      obtain ⟨y, rfl, hy⟩ := hz.1 gn
      have hy' := hy
      obtain ⟨t, u, rfl, hL, _⟩ := hy'
      walk_at "wq"
      refine ⟨⟨n1, n2, hz⟩, ⟨o1, o2⟩, fun xo ho => ⟨⟨o1, o2, ho⟩, ⟨i1, i2⟩, fun xi hi => ⟨⟨i1, i2, hi⟩, ⟨n1, n2⟩, fun xn hn => ?_⟩⟩⟩
      obtain ⟨y2, rfl, hy2⟩ := hn.1 gn
      have e := told_one hy2 hy
      subst e
      walk_at "wq"
      refine ⟨rfl, ?_⟩
      simp only [eqv_t2]
      exact ⟨rfl, trivial⟩
    unfold c_law_cell c_law_digits c_law_number_with_pair c_law_number_without
    unfold T_l0
    generalize T_l1 = TT at last ⊢
    walk_at "wq"
    refine ⟨⟨ns, rfl, hn⟩, fun g0 n ⟨n1, n2, gn⟩ => ⟨⟨ns, rfl, hn⟩, fun g1 o ⟨o1, o2⟩ => ⟨⟨ns, rfl, hn⟩, fun g2 => ⟨⟨[3, 60, 3000, 1000000], rfl, by decide, by decide⟩, fun x ⟨es, hx, hd⟩ => ?_⟩⟩⟩⟩
    have hd := hd [3, 60, 3000, 1000000] rfl
    subst hx
    cases hd with | cons a0 b0 hd => cases hd with | cons a1 b1 hd => cases hd with | cons a2 b2 hd => cases hd with | cons a3 b3 hd => cases hd with | nil =>
    rename_i d0 d1 d2 d3 hx0
    clear hx0
    simp only [iL, List.map_cons, List.map_nil]
    have e : d0 = 0 ∨ d0 = 1 ∨ d0 = 2 := by omega
    rcases e with rfl | rfl | rfl
    all_goals
      walk_at "wq"
      exact last n o _ _ n1 n2 gn o1 o2 (by omega) (by omega)
  · exact h.elim
end K79
/-! isinstance of a caught error of an own class that has a dict of its own (HandS.ExcIs has it for one without) -/
namespace PX
open PySem PySem.Spec PySem.Calls PyProof.Rows PySem.W L2
section
variable {prog : Program} {w : World} {K : Frag} {x D : Addr} {ox : Obj} {od : Option Obj}
theorem class_found (c : ExcC K D) : findObj K D od "__class__" = some (.bind (.builtin "getset_descriptor.__get__") (.builtin "object.__class__")) := by
  obtain ⟨cd, e, _⟩ := any_some c.hd
  have e2 : clsIn K D = some cd := e
  unfold findObj
  rw [e2, Option.bind_some, c.ha, Option.bind_some]
  simp [c.hn, c.ht]
theorem class_asked {A : Around} {E : Value → Shared → Prop} {s : Shared} {Q : Option Value → Shared → Prop} (c : ExcC K D) (X : K.In s.heap) (I : InstAt s.heap x ox D od)
    (q : Q (some (.ref D)) { s with toks := s.toks + 1 }) : wpAny (model prog w) A (getAttr? (.ref x) "__class__") Q E s := by
  obtain ⟨hp, gs, dr, tk, os⟩ := s
  have own := I.type (M := model prog w)
  have giv := looks_findIn (M := model prog w) X c.hg
  have alt := looks_findIn (M := model prog w) X c.hk
  have fnd := looks_find (M := model prog w) X I (class_found c)
  have isE : Looks (model prog w) hp (isInstance (.ref x) (.type "BaseException")) true :=
    own.andThen (looks_subIn X c.hs)
  have ne : (Value.builtin "BaseException.__getattribute__" == .builtin "object.__getattribute__") = false := by
    decide +kernel
  have nf : (onTheHeap (.ref D) && Value.builtin "BaseException.__getattribute__" == .builtin "object.__getattribute__") = false := by
    rw [ne]
    rfl
  have no : (false && onTheHeap (.builtin "BaseException.__getattribute__")) = false := rfl
  unfold getAttr? getAttrBy? getAttrBy
  apply wpAny_bind
  apply wpAny_mkText
  apply wpAny_bind
  apply wpAny_attempt
  apply wpAny_holding
  apply wpAny_bind
  apply own.at
  apply wpAny_bind
  apply giv.at
  show wpAny _ _ (if (onTheHeap (.ref D) && Value.builtin "BaseException.__getattribute__" == .builtin "object.__getattribute__") = true then _ else _) _ _ _
  rw [nf, if_neg Bool.false_ne_true]
  unfold getAttrByItsOwn hookBefore
  apply wpAny_bind
  rw [if_pos (show onTheHeap (.ref D) = true from rfl)]
  apply alt.at
  apply wpAny_bind
  apply wpAny_attempt
  apply wpAny_holding
  unfold callGetattribute
  rw [no, if_neg Bool.false_ne_true]
  unfold boundAndCalled
  rw [PySem.F.excAttr_ValueError.ga.bind (.ref x)]
  apply wpAny_bind
  apply wpAny_pure
  show wpAny _ _ (call (.builtin "BaseException.__getattribute__") [.ref x, .str "__class__" tk]) _ _ _
  apply wpAny_call
  refine codeAny_call_builtin PySem.F.excAttr_ValueError.ga.plain PySem.F.entry_bexc_ga ?_
  have kd := PySem.F.args_bexc_ga (.ref x) (.str "__class__" tk)
  refine @check_slot (model prog w) _ _ ⟨hp, gs, dr, tk + 1, os⟩ "BaseException.__getattribute__" "BaseException"
    "__getattribute__" (.ref x) [.str "__class__" tk] [] _ (by decide +kernel) (by decide +kernel) isE kd ?_
  unfold Builtin.«object.__getattribute__»
  apply wpAny_bind
  refine wpAny_of_eq (a := ((.ref x : Value), [.str "__class__" tk])) ?_ ?_
  · first
      | rfl
      | (simp only [slotArgs]
         rfl)
  apply wpAny_bind
  apply wpAny_pure
  apply wpAny_bind
  apply own.at
  apply wpAny_bind
  apply fnd.at
  show wpAny _ _ (holding [.builtin "object.__class__"] (call (.builtin "getset_descriptor.__get__") [.builtin "object.__class__", .ref x, .ref D]) >>= ret) _ _ _
  apply wpAny_bind
  apply wpAny_holding
  apply wpAny_call
  refine class_get (s := ⟨hp, gs, dr, tk + 1, os⟩) (ox := ox) (od := od) X I c.hm ?_
  apply wpAny_pure
  show wpAny _ _ (handedOut (.ref D)) _ _ _
  rw [handedOut_of (v := .ref D) rfl]
  first
    | exact wpAny_pure (wpAny_pure q)
    | exact wpAny_pure q
    | exact wpAny_pure (wpAny_bind (wpAny_pure (wpAny_pure q)))
theorem kit_exc (c : ExcC K D) : KitX K (.ref x) (.ref D) (fun h => InstAt h x ox D od) := by
  obtain ⟨cd, e, _⟩ := any_some c.hd
  have e : clsIn K D = some cd := e
  have held : ∃ oc dd sl, K.lookup D = some ⟨oc, dd, .cls cd, sl⟩ := by
    unfold clsIn at e
    split at e
    · rename_i oc dd cd' sl ho
      cases e
      exact ⟨oc, dd, sl, ho⟩
    · cases e
  obtain ⟨oc, dd, sl, ho⟩ := held
  refine ⟨fun M h _ I => I.type, fun M h X _ => ?_, fun h tp d2 its n sl2 X htp => ?_, fun X I q => class_asked c X I q⟩
  · intro A' Q' E' s' k q
    unfold isType loadHead
    apply wpAny_bind
    exact wpAny_loadPart (k _ _ (X _ _ ho)) (wpAny_pure q)
  · cases z : (Value.ref D == .ref tp) with
    | false => rfl
    | true =>
      have e5 := Value.ref.inj (beq_iff_eq.mp z)
      rw [← e5, X _ _ ho] at htp
      cases htp
end
/-! the error that a suite holds, asked by one class or by a tuple just laid -/
section
variable {X : Cx} {a D dd : Addr} {oe : Obj} {pn : List (Addr × Obj)}
/-- the suite's error stands there, with a dict that H tracks -/
theorem inst_of {pins : List (Addr × Obj)} {σ : L2.St} {H : Hp} {s : Shared} {fs : List (Str × V)} (hz : Zc (.ref D) (some dd) oe) (hf : ∃ vs, oe.data = .fields vs) (I : Inv (X.suite a ((a, oe) :: pn)) pins σ H s) (hd : H dd = some (.xd fs)) :
    ∃ od, InstAt s.heap a oe D (some od) ∧ ∃ mA, s.heap.Ns1 dd mA ∧ (∀ f, RelO (fs.lookup f) (mA f)) ∧ s.heap.get? dd = some od ∧ ∀ f : Str, PySem.W.lookIn f od = some (mA f) := by
  obtain ⟨hget, _⟩ := I.pin (a, oe) (List.mem_append.mpr (.inl List.mem_cons_self))
  obtain ⟨vs, hv⟩ := hf
  have hx : ObjOk X.prog X.w H s.heap dd (.xd fs) := I.hok dd _ hd
  obtain ⟨mA, hns, hr⟩ := hx
  obtain ⟨od, ho, hl⟩ := lookIn_ns hns
  refine ⟨od, ⟨hget, hz.1, ?_, ?_⟩, mA, hns, hr, ho, hl⟩
  · unfold PySem.W.notCls
    rw [hv]
  · rw [hz.2]
    exact ho
/-- isinstance(e, c), e the suite's error (its class D, its dict dd) -/
def rIsOne (K : Frag) (D a dd : Addr) : List V → Hp → VK → Prop := fun xs H Q => ∃ (c : V) (u : Value) (b : Bool) (fs : List (Str × V)), xs = [.ref a, c] ∧ ClsV c u ∧ H dd = some (.xd fs) ∧ kitOne K (.ref D) u = some b ∧ Q (.bl b) H
theorem call_isOne (c : ExcC X.K D) (hz : Zc (.ref D) (some dd) oe) (hf : ∃ vs, oe.data = .fields vs) : CallR (X.suite a ((a, oe) :: pn)) (.builtin "isinstance") (rIsOne X.K D a dd) := by
  intro pins s σ H xs us Q I r h
  obtain ⟨cv, u, b, fs, rfl, hc, hd, e, q⟩ := h
  obtain ⟨u1, u2, rfl, r1, r2⟩ := vals2 r
  cases (show u1 = Value.ref a from r1)
  have e2 := hc.eq r2
  subst e2
  obtain ⟨od, J, _⟩ := inst_of hz hf I hd
  exact kia_one (kit_exc c) I.kIn J e (fun z => nomatch z) fun tk => ⟨.bl b, H, I.kept (t' := tk) fun _ _ z => z, rfl, q⟩
/-- isinstance(e, (c1, c2, ..)), the tuple just laid -/
def rIsAny (K : Frag) (D a dd : Addr) : List V → Hp → VK → Prop := fun xs H Q => ∃ (tp : Addr) (cs : List V) (us : List Value) (b : Bool) (fs : List (Str × V)), xs = [.ref a, .ref tp] ∧ H tp = some (.tup cs) ∧ Paired ClsV cs us ∧ H dd = some (.xd fs) ∧ kitAny K (.ref D) us = some b ∧ Q (.bl b) H
theorem call_isAny (c : ExcC X.K D) (hz : Zc (.ref D) (some dd) oe) (hf : ∃ vs, oe.data = .fields vs) : CallR (X.suite a ((a, oe) :: pn)) (.builtin "isinstance") (rIsAny X.K D a dd) := by
  intro pins s σ H xs us Q I r h
  obtain ⟨tp, cs, ws, b, fs, rfl, ht, hc, hd, e, q⟩ := h
  obtain ⟨u1, u2, rfl, r1, r2⟩ := vals2 r
  cases (show u1 = Value.ref a from r1)
  cases (show u2 = Value.ref tp from r2)
  obtain ⟨od, J, _⟩ := inst_of hz hf I hd
  have obj : ObjOk X.prog X.w H s.heap tp (.tup cs) := I.hok tp _ ht
  obtain ⟨_, its, rv, o, g1, g2, n, g3⟩ := obj
  have es := ClsV.all hc rv
  subst es
  obtain ⟨oc, od2, dt, sl⟩ := o
  simp only at g2 g3
  subst g2 g3
  exact kia_tup (kit_exc c) I.kIn J g1 e (fun z => nomatch z) fun tk => ⟨.bl b, H, I.kept (t' := tk) fun _ _ z => z, rfl, q⟩
/-- e.f, e the suite's error -/
def tFld (a dd : Addr) (f : Str) (te : TE) : TE := fun σ H Q => te σ H fun y H1 => y = .ref a ∧ ∃ (fs : List (Str × V)) (v : V), H1 dd = some (.xd fs) ∧ fs.lookup f = some v ∧ Q v H1
theorem pe_fld {e : Expr} {te : TE} {f : Str} {pos : Pos} (c : ExcC X.K D) (no : findIn X.K (.ref D) f = some none) (hz : Zc (.ref D) (some dd) oe) (hf : ∃ vs, oe.data = .fields vs) (he : PE (X.suite a ((a, oe) :: pn)) e te)
    (hb : attributeBase e f X.env (eval e X.env) = eval e X.env := by rfl) : PE (X.suite a ((a, oe) :: pn)) (.Attribute e f pos) (tFld a dd f te) := by
  constructor
  intro pins s σ H Q I h
  refine attr_of hb (thn (he.run pins s σ H _ I h) fun u s1 got => ?_)
  obtain ⟨y, H1, I1, r, rfl, fs, v, hd, hv, q⟩ := got
  cases (show u = Value.ref a from r)
  obtain ⟨od, J, mA, hns, hr, ho, hl⟩ := inst_of hz hf I1 hd
  obtain ⟨u2, hu, ru⟩ := RelO.some_of (v := v) (o := mA f) (by rw [← hv]; exact hr f)
  exact PySem.HandSPX.exc_get I1.kIn J c.hg c.hk c.hs (findObj_own c.hd no rfl (by rw [hl, hu])) (handed_of ru) ⟨v, H1, I1.tok _, ru, q⟩
end
/-! names that stand for classes, in a row -/
inductive Clss (X : Cx) : List Expr → List V → Prop where
  | nil : Clss X [] []
  | cons {x : Str} {p : Pos} {C : Addr} {es : List Expr} {vs : List V} : Gl X x → X.mg x = some (.ref C) → (x == ("__debug__" : Str)) = false → starEach (.Name x p :: es) X.env = (false, eval (.Name x p) X.env) :: starEach es X.env → Clss X es vs → Clss X (.Name x p :: es) (.ref C :: vs)
def tVals (vs : List V) : TA := fun _ H Q => Q vs H
theorem PA.to {X : Cx} {es : List Expr} {t t' : TA} (h : PA X es t) (k : ∀ σ H Q, t' σ H Q → t σ H Q) : PA X es t' := ⟨fun pos pins s σ H Q I q => h.run pos pins s σ H Q I (k σ H Q q)⟩
theorem pa_clss {X : Cx} : ∀ {es : List Expr} {vs : List V}, Clss X es vs → PA X es (tVals vs)
  | _, _, .nil => PA.to pa_nil fun _ _ _ q => q
  | _, _, .cons g m d st h => PA.to (pa_cons (pe_glob (v := .ref _) g m rfl d) (pa_clss h) st) fun _ _ _ q => q
end PX
namespace K79
open PySem L2 PD
local macro_rules | `(tactic| walk_at "wp") => `(tactic| simp only [dSeq, dIf, dTst, dBin, dUn, dVar, dLook, dC, dRet, dRetN, dNext, dSet, dSetO, dFor, dgName, lk, put, iOp, iOp0, iCmp, bAdd, bSub, bMul, bDiv, bDivN, bDivW, bMod, bPow, bShl, bLt, bLe, bGt, bGe, bEq, bNe, bIs, bIsNot, isN, bNeg, bIx, dCons, dNil, dTup, dLst, dFz, dAnd, dOr, dNot, dAndV, dOrV, dNotV, dIfE, dCB, bLen, bInt, bAbs, bMin2, bMax2, bGcd, bIsqrt, bTuple, bBits, dIsi, dPar, dPar3, dAsg, dgSq, dgTup, dgCons, dgNil, dCall, dCallF, dFreeze, dMove, dRng1, dRng2, dSq, dApp, dPutI, dAug, dNever, dBreak, dCont, dYes, decide_eq_true_eq, Bool.not_eq_true', decide_eq_false_iff_not, ite_self, List.length_cons, List.length_nil, shaped_int, shaped_bool, shaped_none, eqv_int, eqv_bool, beq_iff_eq, bne_iff_ne, flat, ex_some, tt_tt, ff_tt, tt_ff, ff_ff, atI_0, atI_1, atI_2, atI_3, atI_4, atI_5, atI_6, atI_7, atI_8, atI_9, atI_10, atI_11, atI_12, atI_13, atI_14, atI_15, Int.reduceLT, Int.reduceLE, Int.reduceMul, Int.reduceAdd, Int.reduceSub, Int.reduceNeg, Int.reduceToNat, Int.reducePow, Int.reduceEq, Int.reduceMod, Int.reduceDiv, Nat.reduceLT, Nat.reduceLeDiff, Nat.reduceAdd, Nat.reducePow, true_and, and_true, reduceIte, Int.one_mul, Int.mul_one, not_true_eq_false, not_false_eq_true, if_true, if_false, and_self, Bool.false_eq_true, Bool.not_true, Bool.not_false, forall_eq, forall_eq', fa_int, fa_int1, fa_bool1])
local macro_rules | `(tactic| walk_at "bt") => `(tactic| repeat' (first | assumption | exact Bt.small (by decide) | apply Bt.mul | apply Bt.add | apply Bt.sub | apply Bt.neg))
local macro_rules | `(tactic| walk_at "cm1") => `(tactic| (apply cm; (focus (walk_at "bt")); (focus (walk_at "bt")); (focus omega)))
local macro_rules | `(tactic| walk_at "cm") => `(tactic| (repeat' apply And.intro) <;> walk_at "cm1")
local macro_rules | `(tactic| walk_at "lc") => `(tactic| simp only [dLc, dComp, wipeD, put, dgName, dYes, intsD_succ, intsD_zero, dRng1, dRng2, dC, dSq, dLook, lk, Int.reduceAdd, Int.reduceSub, Int.reduceToNat, Int.reduceLT, Int.reduceLE, Int.reduceNeg, Int.reducePow, List.nil_append, List.cons_append, true_and, if_true, List.length_nil, List.length_cons, Nat.reduceAdd, Nat.reduceLT, Nat.reduceLeDiff])
def dA : DTS := (dSet 1 (dCB bIsqrt (dCons (dLook 0) dNil)))
def dC1 : DTT := (dOr (dTst (dBin bEq (dBin bMul (dVar 1) (dVar 1)) (dVar 0))) (dTst (dBin bGt (dBin bMod (dVar 0) (dC (.int 4))) (dC (.int 1)))))
def L_pell_1 : DTS := (dSeq (dSet 8 (dBin bDiv (dBin bAdd (dVar 2) (dVar 1)) (dVar 3))) (dSeq (dPar 4 5 (dCons (dBin bAdd (dBin bMul (dVar 8) (dVar 4)) (dVar 5)) (dCons (dVar 4) dNil))) (dSeq (dPar 6 7 (dCons (dBin bAdd (dBin bMul (dVar 8) (dVar 6)) (dVar 7)) (dCons (dVar 6) dNil))) (dSeq (dSet 2 (dBin bSub (dBin bMul (dVar 8) (dVar 3)) (dVar 2))) (dSet 3 (dBin bDiv (dBin bSub (dVar 0) (dBin bMul (dVar 2) (dVar 2))) (dVar 3)))))))
def dR : DTS := (dSeq (dPar 2 3 (dCons (dBin bMod (dCB bInt (dCons (dLook 0) dNil)) (dC (.int 2))) (dCons (dC (.int 2)) dNil))) (dSeq (dPar 4 5 (dCons (dC (.int 2)) (dCons (dUn bNeg (dVar 2)) dNil))) (dSeq (dAsg (dTup (dCons (dC (.int 0)) (dCons (dC (.int 1)) dNil))) (dgSq 2 (dgCons (dgName 6) (dgCons (dgName 7) dgNil)))) (dSeq (dWhile (dOr (dTst (dBin bEq (dVar 6) (dC (.int 0)))) (dTst (dBin bNe (dBin bSub (dBin bMul (dVar 4) (dVar 4)) (dBin bMul (dBin bMul (dVar 0) (dVar 6)) (dVar 6))) (dC (.int 4))))) L_pell_1) (dRet (dTup (dCons (dVar 4) (dCons (dVar 6) dNil))))))))
def P_pell : DTS := dSeq dA (dSeq (dIf dC1 dNever dNext) dR)
def c_pell : Con := ⟨fun ds => match ds with | [.int n] => n ≤ 1280000 ∧ ∃ s, Pell.Num n s | _ => False, fun ds x => match ds with | [.int n] => Told n x | _ => True⟩
section
open Pell
def pEnv (D s : Int) (n : Nat) (y : Option Cell) : PD.Env := [some (.dat (.int D)), some (.dat (.int s)), some (.dat (.int (Pell.st D s n).p)), some (.dat (.int (Pell.st D s n).q)), some (.dat (.int (Pell.st D s n).t)), some (.dat (.int (Pell.st D s n).v)), some (.dat (.int (Pell.st D s n).u)), some (.dat (.int (Pell.st D s n).w)), y]
open Pell in
theorem l_pell_body {D s : Int} (N : Num D s) (h1 : D ≤ 1280000) (n : Nat) (E : DEnds) (y : Option Cell) (B : Nat) (hB : B ≤ 10000000) (bt : Bt (st D s n).t B) (bu : Bt (st D s n).u B) (hE : ∀ y, E.nx (pEnv D s (n + 1) y)) : L_pell_1 E (pEnv D s n y) := by
  have I := inv_n N n
  have I1 := inv_n N (n + 1)
  have hss := num_s N h1
  have s2 := N.s2
  have a1 := I.p0
  have a2 := I.ps
  have a3 := I.q0
  have a4 := I.qp
  have c1 := I1.p0
  have c2 := I1.ps
  obtain ⟨A, hA⟩ : ∃ A, A = ((st D s n).p + s) / (st D s n).q := ⟨_, rfl⟩
  have e1 : (st D s (n + 1)).p = A * (st D s n).q - (st D s n).p := by rw [hA]; rfl
  have e3 : (st D s (n + 1)).t = A * (st D s n).t + (st D s n).v := by rw [hA]; rfl
  have e4 : (st D s (n + 1)).u = A * (st D s n).u + (st D s n).w := by rw [hA]; rfl
  have e5 : (st D s (n + 1)).v = (st D s n).t := rfl
  have e6 : (st D s (n + 1)).w = (st D s n).u := rfl
  have e7 : (st D s (n + 1)).r = (st D s n).q := rfl
  have qr1 := I1.qr
  rw [e7] at qr1
  have hA0 : 0 ≤ A := by rw [hA]; exact Int.ediv_nonneg (by omega) (by omega)
  have hA1 : A ≤ 3000 := by
    rw [hA]
    have := Int.ediv_le_self (b := (st D s n).q) (show 0 ≤ (st D s n).p + s by omega)
    omega
  have q2 : (D - (st D s (n + 1)).p * (st D s (n + 1)).p) / (st D s n).q = (st D s (n + 1)).q := by
    rw [← qr1]
    exact Int.mul_ediv_cancel _ (by omega)
  have hE := hE (some (.dat (.int A)))
  unfold pEnv at hE ⊢
  rw [e3, e4, e5, e6] at hE
  unfold L_pell_1
  walk_at "wp"
  rw [← hA, ← e1, q2]
  have bA : Bt A 30 := Bt.small (by omega)
  have bq : Bt (st D s n).q 30 := Bt.small (by omega)
  have bp : Bt (st D s (n + 1)).p 30 := Bt.small (by omega)
  refine ⟨⟨a3, by omega⟩, by walk_at "cm1", by walk_at "cm1", by walk_at "cm1", by walk_at "cm1", ⟨a3, by omega⟩, hE⟩
open Pell in
theorem w_pell : ∀ ds, c_pell.pre ds → P_pell { nx := fun _ => c_pell.post ds .none, rt := c_pell.post ds } (startD n_pell.length ds) := by
  intro ds h
  unfold c_pell at h ⊢
  simp only at h ⊢
  split at h
  · rename_i D
    obtain ⟨h1, s, N⟩ := h
    have lo := N.lo
    have hi := N.hi
    have s2 := N.s2
    have m4 := N.m4
    have hss := num_s N h1
    have hT := tot_bd N h1
    have hD : 4 < D := by
      have : 2 * 2 ≤ s * s := Int.mul_le_mul s2 s2 (by omega) (by omega)
      omega
    show P_pell _ [some (.dat (.int D)), none, none, none, none, none, none, none, none]
    unfold P_pell dA dC1 dR
    walk_at "wp"
    refine ⟨by omega, by omega, fun r r0 r1 r2 => ?_⟩
    have hr := Pell.root_unique r0 r1 r2 (by omega) (by omega) hi
    subst hr
    have bs : Bt r 30 := Bt.small (by omega)
    refine ⟨by walk_at "cm1", ?_⟩
    rw [if_neg (by omega), if_neg (by omega)]
    obtain ⟨K, k1, k2, k3, k4, k5, k6⟩ := Pell.pell N
    have bD : Bt D 30 := Bt.small (by omega)
    have bu : ∀ n, n ≤ K → Bt (st D r n).u (Tot r + 1) := fun n hn => bt_le2 (grow_n N n).u0 (k6 n hn)
    have bt : ∀ n, n ≤ K → Bt (st D r n).t (30 + (max (Tot r + 1) 30 + 1)) := fun n hn =>
      Bt.le (by have := (grow_n N n).t0; omega) (st_t_le N n) (Bt.mul (Bt.small (by omega)) (Bt.add (bu n hn) (Bt.small (by decide))))
    refine ⟨fun m Γ => ∃ n y, n ≤ K ∧ m = K - n ∧ Γ = pEnv D r n y, ⟨K, 0, none, Nat.zero_le _, rfl, rfl⟩, ?_⟩
    rintro m Γ ⟨n, y, hn, rfl, rfl⟩
    have I := inv_n N n
    have g := grow_n N n
    have b1 := bu n hn
    have b2 := bt n hn
    have body : ∀ E : DEnds, n < K → (∀ y, E.nx (pEnv D r (n + 1) y)) → L_pell_1 E (pEnv D r n y) := fun E _ hE =>
      l_pell_body N h1 n E y (30 + (max (Tot r + 1) 30 + 1)) (by omega) b2 (b1.mono (by omega)) hE
    have eK : (st D r n).u ≠ 0 → (st D r n).t * (st D r n).t - D * (st D r n).u * (st D r n).u = 4 → n = K := fun h0 h4 => by
      have hs := stop_of N h4
      have hn1 : 1 ≤ n := by
        cases n with
        | zero => exact absurd rfl h0
        | succ n => omega
      by_cases h : n < K
      · exact absurd hs (k3 n hn1 h)
      · omega
    have nK : n = K → (st D r n).u ≠ 0 ∧ (st D r n).t * (st D r n).t - D * (st D r n).u * (st D r n).u = 4 := fun e => by
      subst e
      exact ⟨by have := st_u_pos N n k1; omega, of_stop N k2⟩
    have nxt : ∀ (E : DEnds), (E.nx = fun Γ' => ∃ m', m' < K - n ∧ ∃ n y, n ≤ K ∧ m' = K - n ∧ Γ' = pEnv D r n y) → n < K → ∀ y, E.nx (pEnv D r (n + 1) y) := fun E hE hlt y => by
      rw [hE]
      exact ⟨K - (n + 1), by omega, n + 1, y, by omega, rfl, rfl⟩
    conv => unfold pEnv
    walk_at "wp"
    split
    · rename_i hu
      have hlt : n < K := by
        by_cases h : n < K
        · exact h
        · exact absurd hu (nK (by omega)).1
      exact body _ hlt (nxt _ rfl hlt)
    · rename_i hu
      refine ⟨by walk_at "cm1", by walk_at "cm1", by walk_at "cm1", ?_⟩
      split
      · rename_i ht
        have hlt : n < K := by
          by_cases h : n < K
          · exact h
          · have h4 := (nK (by omega)).2
            rw [h4] at ht
            simp at ht
        exact body _ hlt (nxt _ rfl hlt)
      · rename_i ht
        have h4 : (st D r n).t * (st D r n).t - D * (st D r n).u * (st D r n).u = 4 := by simpa using ht
        have e := eK hu h4
        subst e
        exact ⟨_, _, rfl, k4, r, N, k5⟩
  · exact h.elim
end
theorem first_ok {n : Int} (n1 : 1 ≤ n) (n2 : n ≤ 1000000) : dA { nx := fun Γ => ∃ r : Int, 0 ≤ r ∧ r * r ≤ n ∧ n < (r + 1) * (r + 1) ∧ Γ = [some (.dat (.int n)), some (.dat (.int r)), none, none, none, none, none, none, none], rt := fun _ => False } (startD n_pell.length [.int n]) := by
  show dA _ [some (.dat (.int n)), none, none, none, none, none, none, none, none]
  unfold dA
  walk_at "wp"
  exact ⟨by omega, by omega, fun r h0 h1 h2 => ⟨r, h0, h1, h2, rfl⟩⟩
theorem test_ok {n r : Int} (n1 : 1 ≤ n) (n2 : n ≤ 1000000) (hg : ¬ good n) (r0 : 0 ≤ r) (r2 : r * r ≤ n) (r3 : n < (r + 1) * (r + 1)) : dC1 [some (.dat (.int n)), some (.dat (.int r)), none, none, none, none, none, none, none] fun b => b = true := by
  unfold dC1
  have rl : r ≤ 1000 := by
    by_cases q : r ≤ 1000
    · exact q
    · have := Int.mul_le_mul (show 1001 ≤ r by omega) (show 1001 ≤ r by omega) (by omega) (by omega)
      omega
  have br : Bt r 30 := Bt.small (by omega)
  walk_at "wp"
  refine ⟨by walk_at "cm1", ?_⟩
  have sq : isSq n → r * r = n := fun ⟨z, hz⟩ => by
    have e2 := Pell.root_unique (r := (z.natAbs : Int)) (s := r) (D := n) (by omega) (by rw [Int.natAbs_mul_self']; omega) (by
      have : ((z.natAbs : Int) + 1) * (z.natAbs + 1) = (z.natAbs : Int) * z.natAbs + 2 * z.natAbs + 1 := by grind
      rw [this, Int.natAbs_mul_self']; omega) r0 r2 r3
    rw [← e2, Int.natAbs_mul_self']
    exact hz
  have or2 : r * r = n ∨ 1 < n % 4 := by
    by_cases q : isSq n
    · exact .inl (sq q)
    · exact .inr (Classical.byContradiction fun q2 => hg ⟨q, by omega⟩)
  split
  · trivial
  · rename_i q
    rcases or2 with h | h
    · exact absurd h q
    · exact h
end K79
/-! the def pell with its error -/
namespace K79
open PySem PySem.Spec PyProof.Rows L2 PD PX
/-- what the top has left of NotPell, at C, and of its __init__, at fI -/
structure Err (K : PySem.W.Frag) (mg : Str → Option Value) (C fI : Addr) : Prop where
  gC : mg "NotPell" = some (.ref C)
  oex : OexC K C
  iC : PySem.W.findIn K (.ref C) "__init__" = some (some (.ref fI))
  tI : PySem.W.typeIn K (.ref fI) = some (.type "function")
  no : PySem.W.findIn K (.ref C) "number" = some none
  fn : ∃ fd, Fun K "__init__" "NotPell.__init__" s_init fI fd ∧ Binds K fd ["self", "number"] []
  isE : ExcC K C
def spInit (C : Addr) : Sp := fun vs H Q _ => ∃ (a : Addr) (y : V), vs = [.ref a, y] ∧ H a = some (exo a C none) ∧ ∀ dx, H dx = none → dx ≠ a → Q .non (upd (upd H dx (exd dx [(("number" : Str), y)])) a (exo a C (some dx)))
section
variable {P : Program} {w : World} {K : PySem.W.Frag} {mg : Str → Option Value} {base : Heap} {C fI f : Addr} {fd : FuncData}
theorem ok_init (F : Fun K "__init__" "NotPell.__init__" s_init fI fd) (T : Err K mg C fI) : FnOk P w K mg base CX0 1 fI fd ["self", "number"] (spInit C) := by
  refine F.ok sc_init (fun vs H Q E h => ?_) (fun cdv A outer s H vs Q E hr h => ?_)
  · obtain ⟨a, y, rfl, _⟩ := h
    rfl
  · obtain ⟨a, y, rfl, e, q⟩ := h
    refine ⟨_, pss_one (ps_ost (pv 0) (pv 1)), ?_⟩
    exact ⟨y, rfl, .ref a, rfl, a, C, rfl, T.oex, T.no, .inl ⟨e, fun dx n ne => q dx n ne⟩⟩
/-- pell(n): its pair; or the error, where n has none -/
def spPell (K : PySem.W.Frag) (C : Addr) : Sp := fun vs H Q E => ∃ (n : Int) (S : Hp), vs = [.int n] ∧ Same S H ∧ 1 ≤ n ∧ n ≤ 1000000 ∧
  (¬ good n → ∀ (H' : Hp) (d : Addr), Same H H' → H' d = none → E (.ref C) (some d) (upd H' d (.xd [(("number" : Str), .int n)]))) ∧
  (good n → ∀ v x S' H', Grow S H S' H' → Dp K S' v x → Told n x → Q v H')
theorem parts_of {X : Cx} {st1 st2 : Stmt} {c : Expr} {pos : Pos} {rest : List Stmt} {ta tw tr : TS} {da dr : DTS} {tc : TT} {dc : DTT} (a : DS X st1 ta da) (b : DT X c tc dc) (r : PS X st2 tw) (d : DSs X rest tr dr) :
    PSs X (st1 :: .If c [st2] [] pos :: rest) (tSeq ta (tSeq (tIfS tc tw tNext) tr)) ∧ SimS X.K ta da ∧ SimT X.K tc dc ∧ SimS X.K tr dr :=
  ⟨pss_cons a.p (pss_cons (ps_if b.p (pss_one r) pss_nil) d.p), a.s, b.s, d.s⟩
theorem pmk_np {X : Cx} {e : Expr} {ta : TA} {p pos : Pos} (T : Err X.K X.mg C fI) (hr : Room 2 X.A) (ha : PA X [e] ta) (hg : Gl X "NotPell" := by rfl)
    (he : starEach (e :: []) X.env = (false, eval e X.env) :: starEach [] X.env := by rfl) (hpl : (backTo pos (starEach [] X.env)).any (·.1) = false := by rfl) :
    PMk X (.Call (.Name "NotPell" p) [e] [] pos) (tMkO C (spInit C) [] ta) := by
  obtain ⟨fd, F, b⟩ := T.fn
  exact pmk_oex (CX := CX0) (k := 1) (ds := []) T.oex T.iC T.tI (ok_init F T) hr b .nil pass0 hg T.gC ha (by decide) he hpl
abbrev tRaise (C : Addr) (E : XK) : TS := fun _ σ H => tMkO C (spInit C) [] (tCons (tVar 0) tNil) σ H fun cls d H' => E cls d H'
theorem ok_pell (F : Fun K "pell" "pell" s_pell f fd) (T : Txt K mg) (R : Err K mg C fI) : FnOk P w K mg base (L2.CX P w) 4 f fd ["number"] (spPell K C) := by
  refine F.okX sc_pell (fun vs H Q E h => ?_) (fun cdv A outer s H vs Q E hr h => ?_)
  · obtain ⟨n, S, rfl, _⟩ := h
    rfl
  · obtain ⟨n, S, rfl, e, n1, n2, bad, ok⟩ := h
    have hu := hr.units
    have parts : ∃ (ta tr : TS) (tc : TT), PSs (cxOf (L2.CX P w) P w K mg base n_pell "pell" (defScope s_pell) f cdv A outer s H E) (defBody s_pell) (tSeq ta (tSeq (tIfS tc (tRaise C E) tNext) tr)) ∧ SimS K ta dA ∧ SimT K tc dC1 ∧ SimS K tr dR :=
      ⟨_, _, _, parts_of (ds_set (i := 1) sc_pell.nd (de_callF cd_isqrt rfl T.f_isqrt (dva_cons (dv_var 0) dva_nil)))
        (DW.t (dw_or (dt_cmp (od_eq hu) (de_op od_mul (de_var 1) (de_var 1)) (de_var 0)) (dw_or1 (dt_cmp od_gt (de_op od_mod (de_var 0) de_int) de_int))))
        (ps_raise rfl (takes_of rfl rfl rfl rfl) (pmk_np R (hr.mono (by decide)) (pa_cons (pv 0) pa_nil)))
        (dss_cons (ds_par (i := 2) (j := 3) rfl sc_pell.nd (by decide) (da_cons (de_op od_mod (de_callTy cd_int rfl T.b_int (by decide +kernel) (dva_cons (dv_var 0) dva_nil)) de_int) (da_cons de_int da_nil))) (dss_cons (ds_par (i := 4) (j := 5) rfl sc_pell.nd (by decide) (da_cons de_int (da_cons (de_un ud_neg (de_var 2)) da_nil))) (dss_cons (ds_asg (de_tup (da_cons de_int (da_cons de_int da_nil))) (dg_sq rfl (dgs_cons (dg_name (i := 6) sc_pell.nd) (dgs_cons (dg_name (i := 7) sc_pell.nd) dgs_nil)))) (dss_cons (ds_while (hp := passes_of rfl) (DW.t (dw_or (dt_cmp (od_eq hu) (de_var 6) de_int) (dw_or1 (dt_cmp (od_ne hu) (de_op od_sub (de_op od_mul (de_var 4) (de_var 4)) (de_op od_mul (de_op od_mul (de_var 0) (de_var 6)) (de_var 6))) de_int)))) (dss_cons (ds_set (i := 8) sc_pell.nd (de_op od_div (de_op od_add (de_var 2) (de_var 1)) (de_var 3))) (dss_cons (ds_par (i := 4) (j := 5) rfl sc_pell.nd (by decide) (da_cons (de_op od_add (de_op od_mul (de_var 8) (de_var 4)) (de_var 5)) (da_cons (de_var 4) da_nil))) (dss_cons (ds_par (i := 6) (j := 7) rfl sc_pell.nd (by decide) (da_cons (de_op od_add (de_op od_mul (de_var 8) (de_var 6)) (de_var 7)) (da_cons (de_var 6) da_nil))) (dss_cons (ds_set (i := 2) sc_pell.nd (de_op od_sub (de_op od_mul (de_var 8) (de_var 3)) (de_var 2))) (dss_one (ds_set (i := 3) sc_pell.nd (de_op od_div (de_op od_sub (de_var 0) (de_op od_mul (de_var 2) (de_var 2))) (de_var 3))))))))) (dss_one (ds_ret (de_tup (da_cons (de_var 4) (da_cons (de_var 6) da_nil)))))))))⟩
    obtain ⟨ta, tr, tc, ps, sa, sc, sr⟩ := parts
    refine ⟨_, ps, ?_⟩
    have rel := rel_start (K := K) (N := n_pell) e (dpa_one (.int n))
    by_cases hg : good n
    · have mid : SimS K (tIfS tc (tRaise C E) tNext) (dIf dC1 dNever dNext) := fun H0 S0 Γ S σ H E' T' r q k => by
        refine sc H0 S0 Γ S σ H _ _ r q fun c S1 H1 g1 q1 => ?_
        cases c with
        | true => exact q1.elim
        | false => exact k.nx _ _ _ _ (r.grow g1) q1
      have all := sim_seq sa (sim_seq mid sr)
      have q := w_pell [.int n] ⟨by omega, good_num n1 hg⟩
      exact all H S _ S _ H _ _ rel q ⟨fun Γ S1 σ H1 r qq => ok hg .non .none S1 H1 r.all .non qq, fun _ _ _ _ _ z => z.elim, fun _ _ _ _ _ z => z.elim, fun v x S1 H1 g dx px => ok hg v x S1 H1 g dx px⟩
    · -- the error
      refine sa H S _ S _ H { nx := fun Γ => ∃ r : Int, 0 ≤ r ∧ r * r ≤ n ∧ n < (r + 1) * (r + 1) ∧ Γ = [some (.dat (.int n)), some (.dat (.int r)), none, none, none, none, none, none, none], rt := fun _ => False } _ rel (first_ok n1 n2) ⟨fun Γ S1 σ H1 r1 ⟨r, r0, r2, r3, e1⟩ => ?_, fun _ _ _ _ _ z => z.elim, fun _ _ _ _ _ z => z.elim, fun _ _ _ _ _ _ z => z.elim⟩
      subst e1
      refine sc H S _ S1 σ H1 (fun b => b = true) _ r1 (test_ok n1 n2 hg r0 r2 r3) fun b S2 H2 g2 eb => ?_
      subst eb
      have rel2 := r1.grow g2
      obtain ⟨v, hv, dv⟩ := rel2.dat 0 (.int n) rfl
      have ev := dp_int dv
      subst ev
      refine ⟨_, hv, by show 1 ≤ 1000; decide, fun a ha => ?_⟩
      refine ⟨a, .int n, rfl, upd_same, fun dx hd hne => ?_⟩
      have hd2 : H2 dx = none := by rw [upd_ne hne] at hd; exact hd
      have hda : a ≠ dx := fun z => hne z.symm
      refine ⟨rfl, dx, [(("number" : Str), .int n)], upd_same, by rw [upd_ne hne, upd_same], hd2, ?_⟩
      have same : upd (del (upd (upd (upd H2 a (exo a C none)) dx (exd dx [(("number" : Str), .int n)])) a (exo a C (some dx))) a) dx (.xd [(("number" : Str), .int n)]) = upd H2 dx (.xd [(("number" : Str), .int n)]) := by
        funext b
        by_cases h1 : b = dx
        · rw [h1, upd_same, upd_same]
        · rw [upd_ne h1, upd_ne h1]
          by_cases h2 : b = a
          · rw [h2, del_same, ha]
          · rw [del_ne h2, upd_ne h2, upd_ne h1, upd_ne h2]
      rw [same]
      exact bad hg H2 dx rel2.h0 hd2
end
end K79
namespace K79
open PySem PySem.Spec PyProof.Rows L2 PD PX

/-- what the top has left for _law_asked; ca: where a class stands -/
structure AskT (K : PySem.W.Frag) (mg : Str → Option Value) (C Cf : Addr) (ca : Str → Addr) : Prop where
  gF : mg "FewError" = some (.ref Cf)
  ex : PySem.W.exmOne K (.ref C) (.ref Cf) = some true
  vE : mg "ValueError" = none
  one : PySem.W.kitOne K (.ref C) (.ref C) = some true
  two : PySem.W.kitOne K (.ref C) (.type "ValueError") = some true
  cl : ∀ x ∈ others, mg x = some (.ref (ca x))
  any : PySem.W.kitAny K (.ref C) (others.map fun x => .ref (ca x)) = some false
theorem paired_own : ∀ as : List Addr, Paired ClsV (as.map V.ref) (as.map Value.ref)
  | [] => .nil
  | a :: as => .cons (.own a) (paired_own as)
section
variable {P : Program} {w : World} {K : PySem.W.Frag} {mg : Str → Option Value} {base : Heap} {C Cf fI fP f : Addr} {ca : Str → Addr}
/-- the suite: named = isinstance(e, (..)); if isinstance(e, NotPell) and isinstance(e, ValueError) and not named: return [False, e.number] -/
def tS (K : PySem.W.Frag) (C : Addr) (cs : List V) (a dd : Addr) : TS :=
  tSeq (tAsg (tCB (rIsAny K C a dd) (tCons (tVar 1) (tCons (tTup (tVals cs)) tNil))) (gName 2))
    (tIfS (tAnd (tB (tCB (rIsOne K C a dd) (tCons (tVar 1) (tCons (tC (.ref C)) tNil)))) (tAnd (tB (tCB (rIsOne K C a dd) (tCons (tVar 1) (tCons (tC (.ty "ValueError")) tNil)))) (tNot (tB (tVar 2)))))
      (tRet (tLst (tCons (tC (.bl false)) (tCons (tFld a dd "number" (tVar 1)) tNil)))) tNext)
def tAsk (K : PySem.W.Frag) (C Cf : Addr) (cs : List V) : TS :=
  tSeq (fun D σ H => tRet (tLst (tCons (tC (.bl true)) (tCons (tCallS (spPell K C) (WE (wAs K (.ref Cf) 1 (fun a cls d D' σ' H' => ∃ dd, cls = .ref C ∧ d = some dd ∧ tS K C cs a dd D' σ' H') (fun _ _ _ _ => False) D)) (tCons (tVar 0) tNil)) tNil))) D σ H)
    (tRet (tLst (tCons (tC (.bl false)) (tCons (tC .non) tNil))))
theorem dp_two {S H : Hp} {p : Addr} {v y : V} {x z : PD.D} (e : Same S H) (hp : H p = none) (h1 : Dp K S v x) (h2 : Dp K S y z) : Dp K (upd S p (.lst [v, y])) (.ref p) (.list [x, z]) := by
  have g := Grow.new (o := .lst [v, y]) e hp
  exact .lst (.inl (.inl upd_same)) (.cons (dp_mono g.ss _ _ h1) (.cons (dp_mono g.ss _ _ h2) .nil))
theorem sem_ask (T : AskT K mg C Cf ca) {n : Int} {S H : Hp} {Q : VK} (e : Same S H) (n1 : 1 ≤ n) (n2 : n ≤ 1000000) (q : ∀ v x S' H', Grow S H S' H' → Dp K S' v x → Asked n x → Q v H') :
    tAsk K C Cf ((others.map ca).map V.ref) { nx := fun _ H' => Q .non H', rt := Q } [some (.int n), none, none] H := by
  refine ⟨.int n, rfl, n, S, rfl, e, n1, n2, fun hg H' d sm hd => ?_, fun hg v x S' H' g dv tl => ⟨by show 2 ≤ sizeLine; decide, fun p hp => ?_⟩⟩
  · refine ⟨true, T.ex, fun _ a na => ⟨d, rfl, rfl, ?_⟩, fun z => nomatch z⟩
    refine ⟨.ref a, rfl, by show 31 ≤ sizeLine; decide, fun tp ntp => ?_⟩
    have ne : d ≠ tp := fun z => by rw [← z, upd_same] at ntp; cases ntp
    refine ⟨tp, _, (others.map ca).map Value.ref, false, [(("number" : Str), .int n)], rfl, upd_same, paired_own _, by rw [upd_ne ne, upd_same], by rw [List.map_map]; exact T.any, ?_⟩
    refine ⟨.ref a, rfl, .ref C, .ref C, true, [(("number" : Str), .int n)], rfl, .own C, by rw [upd_ne ne, upd_same], T.one, true, rfl, ?_⟩
    refine ⟨.ref a, rfl, .ty "ValueError", .type "ValueError", true, [(("number" : Str), .int n)], rfl, .ty _, by rw [upd_ne ne, upd_same], T.two, true, rfl, ?_⟩
    refine ⟨.bl false, rfl, false, rfl, ?_⟩
    refine ⟨.ref a, rfl, rfl, [(("number" : Str), .int n)], .int n, by rw [upd_ne ne, upd_same], by simp [List.lookup], by show 2 ≤ sizeLine; decide, fun p hp => ?_⟩
    have ntp' : H' tp = none := by
      rw [upd_ne ne.symm] at ntp
      exact ntp
    have g1 : Grow S H S (upd (upd H' d (.xd [(("number" : Str), .int n)])) tp (.tup ((others.map ca).map V.ref))) := by
      refine ⟨fun b z eb => ?_, Same.refl S, fun b z eb => ?_, fun _ z => .inl z⟩
      · have e2 := sm b z eb
        rw [upd_ne (ne_of_none e2 ntp'), upd_ne (ne_of_none e2 hd)]
        exact e2
      · have e2 := sm b z (e b z eb)
        rw [upd_ne (ne_of_none e2 ntp'), upd_ne (ne_of_none e2 hd)]
        exact e2
    exact q _ (.list [.bool false, .int n]) _ _ (g1.trans (Grow.new g1.sh hp)) (dp_two g1.sh hp (.bl false) (.int n)) ⟨fun h => absurd h hg, fun _ => rfl⟩
  · exact q _ (.list [.bool true, x]) _ _ (g.trans (Grow.new g.sh hp)) (dp_two g.sh hp (.bl true) dv) ⟨fun _ => ⟨x, rfl, tl⟩, fun h => absurd hg h⟩
theorem ok_ask (F : DefAt K mg "_law_asked" s_law_asked ["number"]) (T : Txt K mg) (R : Err K mg C fI) (A : AskT K mg C Cf ca) : Has P w K mg base 6 "_law_asked" ["number"] c_law_asked := by
  obtain ⟨f, fd, F1, mf, bf⟩ := F
  obtain ⟨fP, fdP, FP, mP, bP⟩ := T.d_pell
  have GP : FnOk P w K mg base (L2.CX P w) 4 fP fdP ["number"] (spPell K C) := ok_pell FP T R
  refine ⟨f, fd, mf, F1.kp, bf, F1.ok sc_law_asked (fun vs H Q E ⟨ds, S', _, hd, hp, _⟩ => ?_) (fun cdv Ar outer s H vs Q E hr ⟨ds, S', e, hd, hp, q⟩ => ?_)⟩
  · rw [dpa_len hd]
    unfold c_law_asked at hp
    simp only at hp
    split at hp
    · rfl
    · exact hp.elim
  · unfold c_law_asked at hp q
    simp only at hp q
    split at hp
    · rename_i n
      cases hd with
      | cons h1 h2 =>
        cases h2
        have ev := dp_int h1
        subst ev
        refine ⟨tAsk K C Cf ((others.map ca).map V.ref), ?_, sem_ask A e hp.1 hp.2 q⟩
        exact pss_cons
          (ps_try_as (i := 1) (c := .ref Cf) (tb := fun W => tRet (tLst (tCons (tC (.bl true)) (tCons (tCallS (spPell K C) (WE W) (tCons (tVar 0) tNil)) tNil)))) (ts := fun a cls d D' σ' H' => ∃ dd, cls = .ref C ∧ d = some dd ∧ tS K C ((others.map ca).map V.ref) a dd D' σ' H') (Wout := fun _ _ _ _ => False) rfl rfl sc_law_asked.nd rfl rfl ⟨rfl, by decide, Or.inl A.gF⟩ takes0
            (fun W pn xe tk _ => pss_one (ps_ret (pe_lst (pa_cons pe_bl (pa_cons (pe_callS GP (hr.mono (by decide)) rfl mP FP.kp bP (fun σ => passAt tk σ) (pa_cons (pv 0) pa_nil)) pa_nil)))))
            (fun a oe cls d pn hz hf => ⟨fun pins s' σ' H' D' I ⟨dd, e1, e2, h⟩ => by
              subst e1
              subst e2
              refine PSs.run (t := tS K C ((others.map ca).map V.ref) a dd) ?_ pins s' σ' H' D' I h
              exact pss_cons (ps_set (i := 2) sc_law_asked.nd rfl (.inl rfl) (pe_callB (call_isAny R.isE hz hf) rfl T.b_isinstance (by decide +kernel) (pa_cons (pv 1) (pa_cons (pe_tup (pa_clss (.cons rfl (A.cl "NoInverse" (by decide)) (by decide) rfl (.cons rfl (A.cl "ZeroBottom" (by decide)) (by decide) rfl (.cons rfl (A.cl "BadForm" (by decide)) (by decide) rfl (.cons rfl (A.cl "NotOneMinus" (by decide)) (by decide) rfl (.cons rfl (A.cl "NotNegative" (by decide)) (by decide) rfl (.cons rfl (A.cl "NotPositive" (by decide)) (by decide) rfl (.cons rfl (A.cl "NotNull" (by decide)) (by decide) rfl (.cons rfl (A.cl "NoMirror" (by decide)) (by decide) rfl (.cons rfl (A.cl "TooDeep" (by decide)) (by decide) rfl (.cons rfl (A.cl "BadStart" (by decide)) (by decide) rfl (.cons rfl (A.cl "BadRay" (by decide)) (by decide) rfl (.cons rfl (A.cl "NotInLand" (by decide)) (by decide) rfl (.cons rfl (A.cl "OffSide" (by decide)) (by decide) rfl (.cons rfl (A.cl "BadWord" (by decide)) (by decide) rfl (.cons rfl (A.cl "NotKeeper" (by decide)) (by decide) rfl (.cons rfl (A.cl "NotHome" (by decide)) (by decide) rfl (.cons rfl (A.cl "NoRest" (by decide)) (by decide) rfl (.cons rfl (A.cl "BadClaim" (by decide)) (by decide) rfl (.cons rfl (A.cl "TooManyRests" (by decide)) (by decide) rfl (.cons rfl (A.cl "MovesRest" (by decide)) (by decide) rfl (.cons rfl (A.cl "EndlessChamber" (by decide)) (by decide) rfl (.cons rfl (A.cl "BadStep" (by decide)) (by decide) rfl (.cons rfl (A.cl "NotIdle" (by decide)) (by decide) rfl (.cons rfl (A.cl "NoCycle" (by decide)) (by decide) rfl (.cons rfl (A.cl "BadText" (by decide)) (by decide) rfl (.cons rfl (A.cl "BadWorth" (by decide)) (by decide) rfl (.cons rfl (A.cl "BadModulus" (by decide)) (by decide) rfl (.cons rfl (A.cl "BadPart" (by decide)) (by decide) rfl (.cons rfl (A.cl "BadQuestion" (by decide)) (by decide) rfl (.cons rfl (A.cl "NothingToUndo" (by decide)) (by decide) rfl (.cons rfl (A.cl "NothingToRedo" (by decide)) (by decide) rfl .nil))))))))))))))))))))))))))))))))) pa_nil))))
                (pss_one (ps_if (PW.pt (pw_and (pt_val (pe_callB (call_isOne R.isE hz hf) rfl T.b_isinstance (by decide +kernel) (pa_cons (pv 1) (pa_cons (pe_glob (v := .ref C) rfl R.gC rfl) pa_nil))))
                    (pw_and (pt_val (pe_callB (call_isOne R.isE hz hf) rfl T.b_isinstance (by decide +kernel) (pa_cons (pv 1) (pa_cons (pe_bltn (v := .ty "ValueError") (u := .type "ValueError") rfl A.vE (by decide +kernel) rfl) pa_nil))))
                      (pw_and1 (pt_not (pt_val (pv 2)))))))
                  (pss_one (ps_ret (pe_lst (pa_cons pe_bl (pa_cons (pe_fld R.isE R.no hz hf (pv 1)) pa_nil))))) pss_nil))⟩))
          (pss_one (ps_ret (pe_lst (pa_cons pe_bl (pa_cons pe_non pa_nil)))))
    · exact hp.elim
end
end K79
namespace K79
open PySem PySem.Spec PyProof.Rows L2 PD PX
section
variable {P : Program} {w : World} {K : PySem.W.Frag} {mg : Str → Option Value} {base : Heap} {C Cf fI : Addr} {ca : Str → Addr}
theorem all_has (T : Txt K mg) (R : Err K mg C fI) (A : AskT K mg C Cf ca) (hS : base.NoSeer) (hP : P.given.tree = none) : Has P w K mg base 41 "law" ["script"] c_law := by
  have g_law_whole := h_law_whole (P := P) (w := w) (base := base) T w_law_whole (fun ds h => by unfold c_law_whole at h; simp only at h; split at h; (focus rfl); (focus exact h.elim))
  have g_law_is_row := h_law_is_row (P := P) (w := w) (base := base) T g_law_whole w_law_is_row (fun ds h => by unfold c_law_is_row at h; simp only at h; split at h; (focus rfl); (focus exact h.elim))
  have g_law_cell := h_law_cell (P := P) (w := w) (base := base) T w_law_cell (fun ds h => by unfold c_law_cell at h; simp only at h; split at h; (focus rfl); (focus exact h.elim))
  have g_law_digits := h_law_digits (P := P) (w := w) (base := base) T w_law_digits (fun ds h => by unfold c_law_digits at h; simp only at h; split at h; (focus rfl); (focus exact h.elim))
  have g_law_asked := ok_ask (P := P) (w := w) (base := base) T.d_law_asked T R A
  have g_law_root := h_law_root (P := P) (w := w) (base := base) T hS hP w_law_root (fun ds h => by unfold c_law_root at h; simp only at h; split at h; (focus rfl); (focus exact h.elim))
  have g_law_power_trace := h_law_power_trace (P := P) (w := w) (base := base) T w_law_power_trace (fun ds h => by unfold c_law_power_trace at h; simp only at h; split at h; (focus rfl); (focus exact h.elim))
  have g_law_prime := h_law_prime (P := P) (w := w) (base := base) T w_law_prime (fun ds h => by unfold c_law_prime at h; simp only at h; split at h; (focus rfl); (focus exact h.elim))
  have g_law_power := h_law_power (P := P) (w := w) (base := base) T w_law_power (fun ds h => by unfold c_law_power at h; simp only at h; split at h; (focus rfl); (focus exact h.elim))
  have g_law_deep_root := h_law_deep_root (P := P) (w := w) (base := base) T g_law_power hS hP w_law_deep_root (fun ds h => by unfold c_law_deep_root at h; simp only at h; split at h; (focus rfl); (focus exact h.elim))
  have g_law_is_power := h_law_is_power (P := P) (w := w) (base := base) T g_law_root g_law_power_trace g_law_deep_root w_law_is_power (fun ds h => by unfold c_law_is_power at h; simp only at h; split at h; (focus rfl); (focus exact h.elim))
  have g_law_no_power := h_law_no_power (P := P) (w := w) (base := base) T g_law_root g_law_power_trace g_law_prime g_law_is_power w_law_no_power (fun ds h => by unfold c_law_no_power at h; simp only at h; split at h; (focus rfl); (focus exact h.elim))
  have g_law_root_from := h_law_root_from (P := P) (w := w) (base := base) T hS hP w_law_root_from (fun ds h => by unfold c_law_root_from at h; simp only at h; split at h; (focus rfl); (focus exact h.elim))
  have g_law_none_counted := h_law_none_counted (P := P) (w := w) (base := base) T g_law_root_from w_law_none_counted (fun ds h => by unfold c_law_none_counted at h; simp only at h; split at h; (focus rfl); (focus exact h.elim))
  have g_law_least := h_law_least (P := P) (w := w) (base := base) T g_law_is_row g_law_no_power g_law_none_counted w_law_least (fun ds h => by unfold c_law_least at h; simp only at h; split at h; (focus rfl); (focus exact h.elim))
  have g_law_right := h_law_right (P := P) (w := w) (base := base) T g_law_whole g_law_root g_law_least w_law_right (fun ds h => by unfold c_law_right at h; simp only at h; split at h; (focus rfl); (focus exact h.elim))
  have g_law_fitting := h_law_fitting (P := P) (w := w) (base := base) T g_law_root w_law_fitting (fun ds h => by unfold c_law_fitting at h; simp only at h; split at h; (focus rfl); (focus exact h.elim))
  have g_law_number_with_pair := h_law_number_with_pair (P := P) (w := w) (base := base) T g_law_digits g_law_fitting w_law_number_with_pair (fun ds h => by unfold c_law_number_with_pair at h; simp only at h; split at h; (focus rfl); (focus exact h.elim))
  have g_law_number_without := h_law_number_without (P := P) (w := w) (base := base) T g_law_digits w_law_number_without (fun ds h => by unfold c_law_number_without at h; simp only at h; split at h; (focus rfl); (focus exact h.elim))
  have g_law := h_law (P := P) (w := w) (base := base) T g_law_is_row g_law_cell g_law_digits g_law_asked g_law_right g_law_number_with_pair g_law_number_without w_law (fun ds h => by unfold c_law at h; simp only at h; split at h; (focus rfl); (focus exact h.elim))
  exact g_law
theorem top {fa : Addr} (T : Txt K mg) (R : Err K mg C fI) (A : AskT K mg C Cf ca) (hS : base.NoSeer) (hP : P.given.tree = none) (hm : mg "law" = some (.ref fa)) :
    ∃ fd : FuncData, (∀ (s : Shared) (u : Value), K.In s.heap → BindsTo s fd ⟨[u], []⟩ [("script", u)]) ∧ FnOk P w K mg base CX0 41 fa fd ["script"] (spD K c_law) := by
  obtain ⟨f, fd, h1, _, h3, h4⟩ := all_has (P := P) (w := w) (base := base) T R A hS hP
  have e := h1.symm.trans hm
  cases e
  exact ⟨fd, fun s u ki => h3 s [u] ki rfl, h4⟩
end
/-! the facts that the head is asked for -/

theorem excB_of {K : PySem.W.Frag} {C : Addr} (q : excB K C = true) : ∃ nm q N bs bm sn sub ab col dd k0 k1 k2 k3 k5, K.lookup C = some (excClassObj nm q C N bs bm true sn sub ab col dd k0 k1 k2 k3 k5 "ValueError.__new__") ∧ PySem.HandSPX.refsVE bm = true := by
  unfold excB at q
  split at q
  · rename_i t dd cd sl ho
    split at q
    · rename_i C' bm k0 k1 k2 k3 n k5 hm hs
      simp only [Bool.and_eq_true, decide_eq_true_eq, Bool.not_eq_true'] at q
      obtain ⟨e1, e2, e3, e4, e5, e6⟩ := q
      obtain ⟨nm, bs, mro, ns, qn, hd, sn, sub, ab, col, del⟩ := cd
      obtain ⟨l⟩ := sl
      simp only at hm hs e4 e5
      subst e1 e2 e3 e4 e5 hm hs
      exact ⟨nm, qn, ns, bs, bm, sn, sub, ab, col, dd, k0, k1, k2, k3, k5, ho, e6⟩
    · cases q
  · cases q
theorem obM_eq (s : PySem.W.SharedT) : obM s = hookM.obs s.abs := by
  have e : HandSHeadRun.getT s = s.abs.heap.get? := funext (HandSHeadRun.getT_eq s)
  unfold obM
  rw [e]
  rfl
theorem def_at {K : PySem.W.Frag} {h : Heap} {mg : Str → Option Value} {x : Str} {st : Stmt} {ps : List Str} (X : K.In h) (G : h.Ns mainGlobals mg) (g : (He.Fa.glo x).ok K = true) (k : (He.Fa.keep x).ok K = true)
    (l : ∃ oc od osl kV doc pm an cdv ct, K.lookup (He.ga K x) = some ⟨oc, od, .func (PySem.W.fnOf x x (defArgs st) (defBody st) (defScope st) .none kV doc pm an cdv ct), osl⟩ ∧ PySem.W.codeIn K cdv x = true)
    (b : ∀ (kV doc pm : Value) (an : Option Addr) (cdv ct : Value) (us : List Value), us.length = ps.length → PySem.bindArgs (PySem.W.fnOf x x (defArgs st) (defBody st) (defScope st) .none kV doc pm an cdv ct) ⟨us, []⟩ = pure (ps.zip us)) : DefAt K mg x st ps := by
  obtain ⟨oc, od, osl, kV, doc, pm, an, cdv, ct, l1, l2⟩ := l
  have F := fun_mk (st := st) l1 l2 (He.keep_ok k)
  exact ⟨_, _, F, He.glo_ok X G g, F.binds b⟩
section
variable {K : PySem.W.Frag} {h : Heap} {mg : Str → Option Value}
theorem txt_of (X : K.In h) (G : h.Ns mainGlobals mg) (q : ex K = true) (c : He.SaysE faL fnL K) : Txt K mg := by
  unfold ex at q
  simp only [Bool.and_eq_true, decide_eq_true_eq] at q
  constructor
  · exact He.free_ok X G (c.fact 42)
  · exact He.free_ok X G (c.fact 43)
  · exact He.free_ok X G (c.fact 44)
  · exact He.free_ok X G (c.fact 45)
  · exact He.free_ok X G (c.fact 46)
  · exact He.free_ok X G (c.fact 47)
  · exact He.free_ok X G (c.fact 48)
  · exact PySem.W.mg_of X G q.2.2.2.2.2.2.2.2.2.2.2.2.2.2.2.2.2.2.2
  · exact def_at X G (c.fact 0) (c.fact 1) (c.def_ 0 (d := fd_d_law_digits)) (fun _ _ _ _ _ _ us hl => match us, hl with | [_, _], _ => rfl)
  · exact def_at X G (c.fact 2) (c.fact 3) (c.def_ 1 (d := fd_d_law_root)) (fun _ _ _ _ _ _ us hl => match us, hl with | [_], _ => rfl)
  · exact def_at X G (c.fact 4) (c.fact 5) (c.def_ 2 (d := fd_d_law_fitting)) (fun _ _ _ _ _ _ us hl => match us, hl with | [_, _], _ => rfl)
  · exact def_at X G (c.fact 6) (c.fact 7) (c.def_ 3 (d := fd_d_law_number_with_pair)) (fun _ _ _ _ _ _ us hl => match us, hl with | [_], _ => rfl)
  · exact def_at X G (c.fact 8) (c.fact 9) (c.def_ 4 (d := fd_d_law_number_without)) (fun _ _ _ _ _ _ us hl => match us, hl with | [_], _ => rfl)
  · exact def_at X G (c.fact 10) (c.fact 11) (c.def_ 5 (d := fd_d_pell)) (fun _ _ _ _ _ _ us hl => match us, hl with | [_], _ => rfl)
  · exact def_at X G (c.fact 12) (c.fact 13) (c.def_ 6 (d := fd_d_law_asked)) (fun _ _ _ _ _ _ us hl => match us, hl with | [_], _ => rfl)
  · exact def_at X G (c.fact 14) (c.fact 15) (c.def_ 7 (d := fd_d_law_cell)) (fun _ _ _ _ _ _ us hl => match us, hl with | [_, _], _ => rfl)
  · exact def_at X G (c.fact 16) (c.fact 17) (c.def_ 8 (d := fd_d_law_whole)) (fun _ _ _ _ _ _ us hl => match us, hl with | [_], _ => rfl)
  · exact def_at X G (c.fact 18) (c.fact 19) (c.def_ 9 (d := fd_d_law_is_row)) (fun _ _ _ _ _ _ us hl => match us, hl with | [_, _], _ => rfl)
  · exact def_at X G (c.fact 20) (c.fact 21) (c.def_ 10 (d := fd_d_law_root_from)) (fun _ _ _ _ _ _ us hl => match us, hl with | [_, _], _ => rfl)
  · exact def_at X G (c.fact 22) (c.fact 23) (c.def_ 11 (d := fd_d_law_none_counted)) (fun _ _ _ _ _ _ us hl => match us, hl with | [_, _, _], _ => rfl)
  · exact def_at X G (c.fact 24) (c.fact 25) (c.def_ 12 (d := fd_d_law_prime)) (fun _ _ _ _ _ _ us hl => match us, hl with | [_], _ => rfl)
  · exact def_at X G (c.fact 26) (c.fact 27) (c.def_ 13 (d := fd_d_law_power)) (fun _ _ _ _ _ _ us hl => match us, hl with | [_, _], _ => rfl)
  · exact def_at X G (c.fact 28) (c.fact 29) (c.def_ 14 (d := fd_d_law_deep_root)) (fun _ _ _ _ _ _ us hl => match us, hl with | [_, _], _ => rfl)
  · exact def_at X G (c.fact 30) (c.fact 31) (c.def_ 15 (d := fd_d_law_power_trace)) (fun _ _ _ _ _ _ us hl => match us, hl with | [_, _], _ => rfl)
  · exact def_at X G (c.fact 32) (c.fact 33) (c.def_ 16 (d := fd_d_law_is_power)) (fun _ _ _ _ _ _ us hl => match us, hl with | [_, _, _], _ => rfl)
  · exact def_at X G (c.fact 34) (c.fact 35) (c.def_ 17 (d := fd_d_law_no_power)) (fun _ _ _ _ _ _ us hl => match us, hl with | [_, _], _ => rfl)
  · exact def_at X G (c.fact 36) (c.fact 37) (c.def_ 18 (d := fd_d_law_least)) (fun _ _ _ _ _ _ us hl => match us, hl with | [_, _, _], _ => rfl)
  · exact def_at X G (c.fact 38) (c.fact 39) (c.def_ 19 (d := fd_d_law_right)) (fun _ _ _ _ _ _ us hl => match us, hl with | [_, _], _ => rfl)
  · exact def_at X G (c.fact 40) (c.fact 41) (c.def_ 20 (d := fd_d_law)) (fun _ _ _ _ _ _ us hl => match us, hl with | [_], _ => rfl)
theorem err_of (X : K.In h) (G : h.Ns mainGlobals mg) (q : ex K = true) (c : He.SaysE faL fnL K) : Err K mg (He.ga K "NotPell") (He.ma K (He.ga K "NotPell") "__init__") := by
  unfold ex at q
  simp only [Bool.and_eq_true, decide_eq_true_eq] at q
  obtain ⟨q1, q2, q3, q4, q5, q6, q7, q8, q9, q10, q11, q12, q13, q14, q15, q16, q17, q18, q19, q20⟩ := q
  obtain ⟨oc, od, osl, kV, doc, pm, an, cdv, ct, l1, l2⟩ := c.def_ 21 (d := fd_init)
  have F := fun_mk (st := s_init) l1 l2 q8
  exact ⟨He.glo_ok X G (c.fact 51), ⟨excB_of q1, q2, q3, q4, He.keep_ok (c.fact 52)⟩, q5, q6, q7, ⟨_, F, F.binds fun _ _ _ _ _ _ us hl => match us, hl with | [_, _], _ => rfl⟩, ⟨q9, q10, q3, q11, q12, q13, q14, q15⟩⟩
theorem ask_of (X : K.In h) (G : h.Ns mainGlobals mg) (q : ex K = true) (c : He.SaysE faL fnL K) : AskT K mg (He.ga K "NotPell") (He.ga K "FewError") (He.ga K) := by
  unfold ex at q
  simp only [Bool.and_eq_true, decide_eq_true_eq] at q
  obtain ⟨q1, q2, q3, q4, q5, q6, q7, q8, q9, q10, q11, q12, q13, q14, q15, q16, q17, q18, q19, q20⟩ := q
  refine ⟨He.glo_ok X G (c.fact 50), q16, He.free_ok X G (c.fact 49), q17, q18, fun x hx => ?_, q19⟩
  have c1 := (He.ba (show ((faL.all fun f => f.ok K) && fnL.all fun d => (He.Fa.code d.at_ d.qual).ok K) = true from congrArg (fun z : He.Al => z.1) c)).1
  refine He.glo_ok X G (List.all_eq_true.mp c1 (.glo x) ?_)
  unfold faL faO
  simp only [List.mem_append, List.mem_map]
  exact .inr (.inr (.inr (.inr (⟨x, hx, rfl⟩))))
end
end K79
open PySem PySem.W PySem.Calls PyProof.Rows
set_option maxHeartbeats 0 in
theorem PySem.Challenge.cw_fewfounders_k79_pell_whole_holds : PySem.Challenge.rw_fewfounders_k79_pell_whole.Holds := by
  w_on; o_law
  refine HandSHeadRun.head_imp (r := K79.RR) (q := PySem.W.view K79.RR.prog [0, 57]) (H := K79.hookM) (ob := K79.obM) (M := 60000) (loose := K79.names) (d := HandSHeadRun.topDef K79.RR.prog 57) (kwd := []) K79.obM_eq K79.run
    (by kernel_rfl) (by kernel_rfl) (by kernel_rfl) (by rfl) (by first | assumption | decide +kernel) (by decide +kernel) ⟨rfl, rfl, rfl, rfl, rfl, by decide +kernel⟩ ?hw ?hc
  case hw => w_witness2
  case hc =>
    refine PD.data_walkE (l := PySem.Challenge.rw_fewfounders_k79_pell_whole) (n := 63) (k := 41) (x := "script") K79.c_law rfl (by decide) (by kernel_rfl) ⟨rfl, by decide, by decide⟩ (by decide +kernel) ?F (fun ns hl => ⟨ns, rfl, hl⟩) (fun ds z h => h)
    case F =>
      intro w mg fa h Y G hmg0
      obtain ⟨K, KX, q, c⟩ := Y
      have hmg : mg ("law" : PySem.Str) = some (.ref fa) := by
        have e : (HandSHeadRun.topDef K79.RR.prog 57).name = ("law" : PySem.Str) := by kernel_rfl
        rw [← e]
        exact hmg0
      exact ⟨K, KX, fun base KB GB hS => K79.top (K79.txt_of KB GB q c) (K79.err_of KB GB q c) (K79.ask_of KB GB q c) hS rfl hmg⟩
