import PyProof.Rows.All
import Wide.All
import OpenK.AllK
import Wide.FinOn
import HandS.Codes
import HandS.Exc
import OpenK.KCls
import HandS.Head0
import HandS.Head1
import HandS.Head2
import HandS.HeadHook1
import HandS.HeadHook2
import HandS.ForMost
import HandS.TryOnly
import HandS.TryMany
import HandS.ExcOwn
import HandS.Defaults
import HandS.Wide
import HandS.IsInst
import HandS.Flow
import HandS.Style
import HandS.FStr
import HandS.Zip
import HandS.ExcValue
import KE.KUnpackStar
import HandS.ExcInit
import HandS.ExcIs
import HandS.ExcField
import KE.KExcIs
import HandS.WordsExc
import HandS.SetFor
import HandS.More
import KE.KRevSl
import KE.KExcInit
import HandS.SortKw
import HandS.DictComp
import HandS.Conv
import HandS.TupAny
import PyProof.ListMulRight
import PyProof.Rows.ListMulR
import HandS.SortInts
import HandS.Strs
import HandS.SetBool
import HandS.MakeKw
import OpenK.KOps
import PyProof.EqKinds
import PyProof.FactsAll.dict
import HandS.SortRule
import HandS.Deep
import HandS.Text
import PySem.Challenge.RW_downweigh_k22_programs_written
set_option Elab.async false
set_option linter.all false
set_option maxRecDepth 100000
/-! HXB: the head of a law by one kernel run, its facts told by Bools of a part of the heap. -/
namespace HX
open PySem PySem.Spec PyProof.Rows L2
def lvl (g : Addr → Option Obj) : Nat → List Addr → List Addr
  | 0, as => as
  | n + 1, as => as ++ lvl g n (as.flatMap fun a => match g a with
    | some o => He.refsD o
    | none => [])
abbrev Bf : Type := PySem.W.Frag → Bool
abbrev TbR : Type := List (Option (Str × Int × Str))
abbrev AlZ : Type := He.Al × Bool × List (Option TbR)
/-- a table of texts: where it lies, its rows -/
abbrev TbF : Type := (PySem.W.Frag → Addr) × List (Str × Str)
def entOf (e : DictEntry) : Option (Str × Int × Str) := match e.key with
  | .str x _ => (match e.val with
    | .str v _ => some (x, e.hash, v)
    | _ => none)
  | _ => none
def tabW (K : PySem.W.Frag) (a : Addr) : Option TbR := match K.lookup a with
  | some ⟨.type c, none, .dict es _, sl⟩ => (match decide (c = "dict") && sl.isEmpty with
    | true => some (es.toList.map entOf)
    | false => none)
  | _ => none
def tabV (P : Params) (tb : List (Str × Str)) : TbR := tb.map fun kv => some (kv.1, PyData.keyHash P kv.1, kv.2)
def obsZ (fb : List Bf) (fn : List He.FnD) (ft : List TbF) (K : PySem.W.Frag) : AlZ := (He.obsE [] fn K, fb.all fun f => f K, ft.map fun t => tabW K (t.1 K))
def valZ (fn : List He.FnD) (ft : List TbF) (w : World) : AlZ := (He.valE fn, true, ft.map fun t => some (tabV w.params t.2))
def SaysZ (fb : List Bf) (fn : List He.FnD) (ft : List TbF) (w : World) (K : PySem.W.Frag) : Prop := obsZ fb fn ft K = valZ fn ft w
def obsZG (n : Nat) (fb : List Bf) (fn : List He.FnD) (ft : List TbF) (g : Addr → Option Obj) : AlZ := obsZ fb fn ft (He.frG g (cStatics :: lvl g n [mainGlobals]))
def hookZ (n : Nat) (fb : List Bf) (fn : List He.FnD) (ft : List TbF) : PySem.W.Hook where
  α := AlZ
  obs := fun s => obsZG n fb fn ft s.heap.get?
  val := fun w => valZ fn ft w
  says := fun w h => ∃ K : PySem.W.Frag, K.In h ∧ SaysZ fb fn ft w K
  of := fun _ _ e => ⟨_, He.frG_in, e⟩
  keeps := fun _ _ _ ⟨K, hK, c⟩ k => ⟨K, PySem.W.Frag.In.keeps hK k, c⟩
theorem obsZG_eq {n : Nat} {fb : List Bf} {fn : List He.FnD} {ft : List TbF} {g : Addr → Option Obj} {s : Shared} (h : ∀ a, g a = s.heap.get? a) : obsZG n fb fn ft g = (hookZ n fb fn ft).obs s := by
  have e : g = s.heap.get? := funext h
  rw [e] <;> rfl
section
variable {fb : List Bf} {fn : List He.FnD} {ft : List TbF} {w : World} {K : PySem.W.Frag}
theorem SaysZ.b (c : SaysZ fb fn ft w K) (i : Nat) {f : Bf} (h : fb[i]? = some f := by rfl) : f K = true :=
  List.all_eq_true.mp (show (fb.all fun f => f K) = true from congrArg (fun z : AlZ => z.2.1) c) f (List.mem_of_getElem? h)
theorem SaysZ.def_ (c : SaysZ fb fn ft w K) (i : Nat) {d : He.FnD} (h : fn[i]? = some d := by rfl) :
    ∃ oc od osl kV doc pm an cdv ct, K.lookup (He.fAd K d.at_) = some ⟨oc, od, .func (PySem.W.fnOf d.name d.qual d.params d.body d.scope .none kV doc pm an cdv ct), osl⟩ ∧ PySem.W.codeIn K cdv d.qual = true :=
  He.SaysE.def_ (show He.SaysE [] fn K from congrArg (fun z : AlZ => z.1) c) i h
theorem SaysZ.tab (c : SaysZ fb fn ft w K) (i : Nat) {t : TbF} (h : ft[i]? = some t := by rfl) : tabW K (t.1 K) = some (tabV w.params t.2) := by
  have e : (ft.map fun t => tabW K (t.1 K)) = ft.map fun t => some (tabV w.params t.2) := congrArg (fun z : AlZ => z.2.2) c
  have e2 := congrArg (fun l : List (Option TbR) => l[i]?) e
  simp only [List.getElem?_map, h, Option.map_some] at e2
  exact Option.some.inj e2
theorem tabW_ok {a : Addr} {r : TbR} (h : tabW K a = some r) : ∃ es n, K.lookup a = some ⟨.type "dict", none, .dict es n, #[]⟩ ∧ es.toList.map entOf = r := by
  unfold tabW at h
  split at h
  · rename_i c es n sl e
    split at h
    · rename_i e1
      obtain ⟨h1, h2⟩ := Bool.and_eq_true_iff.mp e1
      have hc := of_decide_eq_true h1
      have hs : sl = #[] := Array.isEmpty_iff.mp h2
      subst hc hs
      exact ⟨es, n, e, Option.some.inj h⟩
    · cases h
  · cases h
end
/-! ### kinds of facts -/
section
variable {K : PySem.W.Frag}
def eqB {α : Type} [DecidableEq α] (a b : α) : Bool := decide (a = b)
theorem notB_ok {b : Bool} (h : (!b) = true) : b = false := by simpa using h
theorem eqB_ok {α : Type} [DecidableEq α] {a b : α} (h : eqB a b = true) : a = b := of_decide_eq_true h
def intB (K : PySem.W.Frag) (a : Addr) (x : Str) (i : Int) : Bool := match PySem.W.nsIn K a x with
  | some (some (.int j _)) => decide (j = i)
  | _ => false
theorem intB_ok {a : Addr} {x : Str} {i : Int} (h : intB K a x i = true) : ∃ t, PySem.W.nsIn K a x = some (some (.int i t)) := by
  unfold intB at h
  split at h
  · rename_i j t e
    have := of_decide_eq_true h
    subst this
    exact ⟨t, e⟩
  · cases h
def strB (K : PySem.W.Frag) (a : Addr) (x z : Str) : Bool := match PySem.W.nsIn K a x with
  | some (some (.str y _)) => decide (y = z)
  | _ => false
theorem strB_ok {a : Addr} {x z : Str} (h : strB K a x z = true) : ∃ t, PySem.W.nsIn K a x = some (some (.str z t)) := by
  unfold strB at h
  split at h
  · rename_i j t e
    have := of_decide_eq_true h
    subst this
    exact ⟨t, e⟩
  · cases h
def valB (r : Option PySem.W.CFound) (v : Value) : Bool := match r with
  | some (.val u) => decide (u = v)
  | _ => false
theorem valB_ok {r : Option PySem.W.CFound} {v : Value} (h : valB r v = true) : r = some (.val v) := by
  unfold valB at h
  split at h
  · have := of_decide_eq_true h
    rw [this]
  · cases h
/-- the dict of a def's keyword defaults -/
def kdA (K : PySem.W.Frag) (f : Addr) : Addr := match K.lookup f with
  | some ⟨_, _, .func fd, _⟩ => (match fd.kwdefaults with
    | .ref a => a
    | _ => 0)
  | _ => 0
def kdB (K : PySem.W.Frag) (f : Addr) : Bool := match K.lookup f with
  | some ⟨_, _, .func fd, _⟩ => (match fd.kwdefaults with
    | .ref _ => true
    | _ => false)
  | _ => false
theorem kd_ok {f : Addr} {oc kV doc pm cdv ct : Value} {od an : Option Addr} {osl : Array (Option Value)} {x q : Str} {ps : Arguments} {b : List Stmt} {sc : Scope}
    (l : K.lookup f = some ⟨oc, od, .func (PySem.W.fnOf x q ps b sc .none kV doc pm an cdv ct), osl⟩) (h : kdB K f = true) : K.lookup f = some ⟨oc, od, .func (PySem.W.fnOf x q ps b sc .none (.ref (kdA K f)) doc pm an cdv ct), osl⟩ := by
  unfold kdB at h
  rw [l] at h
  cases kV with
  | ref a =>
    have e2 : kdA K f = a := by unfold kdA; rw [l]
    rw [e2]; exact l
  | _ => cases h
/-- a tuple of two numbers -/
def tupB (K : PySem.W.Frag) (a : Addr) (is : List Int) : Bool := match K.lookup a with
  | some ⟨.type t, _, .seq xs _, _⟩ => decide (t = "tuple") && (match xs.toList with
    | [.int i _, .int j _] => decide (is = [i, j])
    | _ => false)
  | _ => false
theorem tup2_ok {a : Addr} {i j : Int} (h : tupB K a [i, j] = true) : ∃ l t0 t1 n s, K.lookup a = some ⟨.type "tuple", l, .seq #[.int i t0, .int j t1] n, s⟩ := by
  unfold tupB at h
  split at h
  · rename_i t l xs n s e
    obtain ⟨h1, h2⟩ := Bool.and_eq_true_iff.mp h
    have := of_decide_eq_true h1
    subst this
    split at h2
    · rename_i i' t0 j' t1 e2
      have e3 := of_decide_eq_true h2
      obtain ⟨xs⟩ := xs
      have e2' : xs = [.int i' t0, .int j' t1] := e2
      subst e2'
      cases e3
      exact ⟨l, t0, t1, n, s, e⟩
    · cases h2
  · cases h
/-- a class of errors, its line of classes told -/
def xclB (K : PySem.W.Frag) (C : Addr) (ok : List Value → Bool) (newId : String) : Bool := match K.lookup C with
  | some ⟨.type t, _, .cls cd, sl⟩ => decide (t = "type") && (decide (cd.mro.head? = some (.ref C)) && (cd.hasDict && (!cd.hasDel && (ok cd.mro.tail && (match sl.toList with
    | [_, _, _, _, some (.builtin n), _] => decide (n = newId)
    | _ => false)))))
  | _ => false
theorem xcl_any {C : Addr} {ok : List Value → Bool} {newId : String} (h : xclB K C ok newId = true) : ∃ nm q N bs bm sn sub ab col dd k0 k1 k2 k3 k5, K.lookup C = some (excClassObj nm q C N bs bm true sn sub ab col dd k0 k1 k2 k3 k5 newId) ∧ ok bm = true := by
  unfold xclB at h
  split at h
  · rename_i t dd cd sl e
    obtain ⟨h1, h⟩ := Bool.and_eq_true_iff.mp h
    obtain ⟨h2, h⟩ := Bool.and_eq_true_iff.mp h
    obtain ⟨h3, h⟩ := Bool.and_eq_true_iff.mp h
    obtain ⟨h4, h⟩ := Bool.and_eq_true_iff.mp h
    obtain ⟨h5, h6⟩ := Bool.and_eq_true_iff.mp h
    have e1 := of_decide_eq_true h1
    subst e1
    have e2 := of_decide_eq_true h2
    split at h6
    · rename_i k0 k1 k2 k3 n k5 e6
      have e7 := of_decide_eq_true h6
      subst e7
      obtain ⟨sl⟩ := sl
      have e6' : sl = [k0, k1, k2, k3, some (.builtin n), k5] := e6
      subst e6'
      obtain ⟨nm, bs, mro, N, q, hd, sn, sub, ab, col, del⟩ := cd
      have h3' : hd = true := h3
      have h4' : del = false := by simpa using h4
      subst h3' h4'
      cases mro with
      | nil => cases e2
      | cons a bm =>
        have ea : a = .ref C := Option.some.inj e2
        subst ea
        exact ⟨nm, q, N, bs, bm, sn, sub, ab, col, dd, k0, k1, k2, k3, k5, e, h5⟩
    · cases h6
  · cases h
theorem xcl_ok {C : Addr} {bm : List Value} {newId : String} (h : xclB K C (fun l => eqB l bm) newId = true) : ∃ nm q N bs sn sub ab col dd k0 k1 k2 k3 k5, K.lookup C = some (excClassObj nm q C N bs bm true sn sub ab col dd k0 k1 k2 k3 k5 newId) := by
  obtain ⟨nm, q, N, bs, bm', sn, sub, ab, col, dd, k0, k1, k2, k3, k5, e, h2⟩ := xcl_any h
  rw [eqB_ok h2] at e
  exact ⟨nm, q, N, bs, sn, sub, ab, col, dd, k0, k1, k2, k3, k5, e⟩
end
end HX

namespace DL
end DL

set_option Elab.async false
set_option linter.all false
set_option maxRecDepth 100000
/-! printed by gen.py: each def of the text does so; the end -/
namespace Lw
open PySem L2 DL
noncomputable section
def top (i : Nat) : Stmt := PySem.Challenge.pw_downweigh_k22_programs_written.main.body.getD i (.Pass ⟨0, 0, 0, 0⟩)
def clsFn (s : Stmt) (k : Nat) : Stmt := (match s with | .ClassDef _ _ _ b .. => b | _ => ([] : List Stmt)).getD k (.Pass ⟨0, 0, 0, 0⟩)
abbrev s__law_pool : Stmt := top 47
abbrev s__law_take : Stmt := top 48
abbrev s__law_names : Stmt := top 49
abbrev s__law_factor : Stmt := top 50
abbrev s__law_line : Stmt := top 51
abbrev s__law_wishes : Stmt := top 52
abbrev s__law_program : Stmt := top 53
abbrev s__law_line_text : Stmt := top 54
abbrev s__law_wish_text : Stmt := top 55
abbrev s__law_program_text : Stmt := top 56
abbrev s_shown_part : Stmt := top 18
abbrev s_shown_line : Stmt := top 19
abbrev s_shown_wish : Stmt := top 20
abbrev s_is_name : Stmt := top 31
abbrev s_first_no_name : Stmt := top 32
abbrev s_look_at_names : Stmt := top 33
abbrev s_is_whole : Stmt := top 7
abbrev s_look_at_many : Stmt := top 13
abbrev s_is_line : Stmt := top 14
abbrev s_is_wish : Stmt := top 15
abbrev s_are_wishes : Stmt := top 34
abbrev s_is_number_of : Stmt := top 35
abbrev s_is_row : Stmt := top 36
abbrev s_look_at : Stmt := top 37
abbrev s_both_names : Stmt := top 40
abbrev s_shown_program : Stmt := top 41
abbrev s_read_names : Stmt := top 42
abbrev s_is_head : Stmt := top 43
abbrev s_are_figures : Stmt := top 8
abbrev s_part_of_text : Stmt := top 21
abbrev s_read_line : Stmt := top 22
abbrev s_read_wish : Stmt := top 23
abbrev s_read_wish_at : Stmt := top 44
abbrev s_read_program : Stmt := top 45
abbrev s__law_apart : Stmt := top 57
abbrev s__law_right : Stmt := top 58
abbrev s__law_near_names : Stmt := top 59
abbrev s_law : Stmt := top 60
abbrev i_NoNumber : Stmt := clsFn (top 2) 0
abbrev i_NoProgram : Stmt := clsFn (top 4) 0
abbrev i_NoText : Stmt := clsFn (top 3) 0

end
end Lw

set_option Elab.async false
set_option linter.all false
set_option maxRecDepth 100000
namespace Lw
open PySem PySem.Spec PyProof.Rows L2
def hn0 : List PySem.Str := ["WeighError", "NoNumber", "NoText", "NoProgram", "FIGURES", "is_whole", "are_figures", "MOST_NUMBERS_wishes", "LEAST", "JUST", "look_at_many", "is_line", "is_wish", "ENDS", "shown_part", "shown_line", "shown_wish", "part_of_text", "read_line", "read_wish"]
def hn1 : List PySem.Str := ["LETTERS", "LONGEST", "MOST_NUMBERS_programs", "MOST_PLACES", "MOST_ROWS", "MOST_WISHES", "is_name", "first_no_name", "look_at_names", "are_wishes", "is_number_of", "is_row", "look_at", "BEHIND", "both_names", "shown_program", "read_names", "is_head", "read_wish_at", "read_program"]
def hn2 : List PySem.Str := ["_law_pool", "_law_take", "_law_names", "_law_factor", "_law_line", "_law_wishes", "_law_program", "_law_line_text", "_law_wish_text", "_law_program_text", "_law_apart", "_law_right", "_law_near_names"]
def hnames : List PySem.Str := hn0 ++ hn1 ++ hn2
def hfb0 : List HX.Bf := [fun K => HX.eqB (PySem.W.nsIn K mainGlobals "_law_pool") (some (some (.ref (He.ga K "_law_pool")))), fun K => PySem.W.keepIn K (.ref (He.ga K "_law_pool")), fun K => HX.eqB (PySem.W.nsIn K mainGlobals "_law_take") (some (some (.ref (He.ga K "_law_take")))), fun K => PySem.W.keepIn K (.ref (He.ga K "_law_take")), fun K => HX.eqB (PySem.W.nsIn K mainGlobals "_law_names") (some (some (.ref (He.ga K "_law_names")))), fun K => PySem.W.keepIn K (.ref (He.ga K "_law_names")), fun K => HX.eqB (PySem.W.nsIn K mainGlobals "_law_factor") (some (some (.ref (He.ga K "_law_factor")))), fun K => PySem.W.keepIn K (.ref (He.ga K "_law_factor")), fun K => HX.eqB (PySem.W.nsIn K mainGlobals "_law_line") (some (some (.ref (He.ga K "_law_line")))), fun K => PySem.W.keepIn K (.ref (He.ga K "_law_line")), fun K => HX.eqB (PySem.W.nsIn K mainGlobals "_law_wishes") (some (some (.ref (He.ga K "_law_wishes")))), fun K => PySem.W.keepIn K (.ref (He.ga K "_law_wishes")), fun K => HX.eqB (PySem.W.nsIn K mainGlobals "_law_program") (some (some (.ref (He.ga K "_law_program")))), fun K => PySem.W.keepIn K (.ref (He.ga K "_law_program")), fun K => HX.eqB (PySem.W.nsIn K mainGlobals "_law_line_text") (some (some (.ref (He.ga K "_law_line_text")))), fun K => PySem.W.keepIn K (.ref (He.ga K "_law_line_text")), fun K => HX.eqB (PySem.W.nsIn K mainGlobals "_law_wish_text") (some (some (.ref (He.ga K "_law_wish_text")))), fun K => PySem.W.keepIn K (.ref (He.ga K "_law_wish_text")), fun K => HX.eqB (PySem.W.nsIn K mainGlobals "_law_program_text") (some (some (.ref (He.ga K "_law_program_text")))), fun K => PySem.W.keepIn K (.ref (He.ga K "_law_program_text"))]
def hfb1 : List HX.Bf := [fun K => HX.eqB (PySem.W.nsIn K mainGlobals "shown_part") (some (some (.ref (He.ga K "shown_part")))), fun K => PySem.W.keepIn K (.ref (He.ga K "shown_part")), fun K => HX.eqB (PySem.W.nsIn K mainGlobals "shown_line") (some (some (.ref (He.ga K "shown_line")))), fun K => PySem.W.keepIn K (.ref (He.ga K "shown_line")), fun K => HX.eqB (PySem.W.nsIn K mainGlobals "shown_wish") (some (some (.ref (He.ga K "shown_wish")))), fun K => PySem.W.keepIn K (.ref (He.ga K "shown_wish")), fun K => HX.eqB (PySem.W.nsIn K mainGlobals "is_name") (some (some (.ref (He.ga K "is_name")))), fun K => HX.kdB K (He.ga K "is_name"), fun K => HX.intB K (HX.kdA K (He.ga K "is_name")) "longest" (6), fun K => PySem.W.keepIn K (.ref (He.ga K "is_name")), fun K => HX.eqB (PySem.W.nsIn K mainGlobals "first_no_name") (some (some (.ref (He.ga K "first_no_name")))), fun K => PySem.W.keepIn K (.ref (He.ga K "first_no_name")), fun K => HX.eqB (PySem.W.nsIn K mainGlobals "look_at_names") (some (some (.ref (He.ga K "look_at_names")))), fun K => PySem.W.keepIn K (.ref (He.ga K "look_at_names")), fun K => HX.eqB (PySem.W.nsIn K mainGlobals "is_whole") (some (some (.ref (He.ga K "is_whole")))), fun K => PySem.W.keepIn K (.ref (He.ga K "is_whole")), fun K => HX.eqB (PySem.W.nsIn K mainGlobals "look_at_many") (some (some (.ref (He.ga K "look_at_many")))), fun K => PySem.W.keepIn K (.ref (He.ga K "look_at_many")), fun K => HX.eqB (PySem.W.nsIn K mainGlobals "is_line") (some (some (.ref (He.ga K "is_line")))), fun K => PySem.W.keepIn K (.ref (He.ga K "is_line"))]
def hfb2 : List HX.Bf := [fun K => HX.eqB (PySem.W.nsIn K mainGlobals "is_wish") (some (some (.ref (He.ga K "is_wish")))), fun K => PySem.W.keepIn K (.ref (He.ga K "is_wish")), fun K => HX.eqB (PySem.W.nsIn K mainGlobals "are_wishes") (some (some (.ref (He.ga K "are_wishes")))), fun K => HX.kdB K (He.ga K "are_wishes"), fun K => HX.intB K (HX.kdA K (He.ga K "are_wishes")) "most" (12), fun K => PySem.W.keepIn K (.ref (He.ga K "are_wishes")), fun K => HX.eqB (PySem.W.nsIn K mainGlobals "is_number_of") (some (some (.ref (He.ga K "is_number_of")))), fun K => PySem.W.keepIn K (.ref (He.ga K "is_number_of")), fun K => HX.eqB (PySem.W.nsIn K mainGlobals "is_row") (some (some (.ref (He.ga K "is_row")))), fun K => PySem.W.keepIn K (.ref (He.ga K "is_row")), fun K => HX.eqB (PySem.W.nsIn K mainGlobals "look_at") (some (some (.ref (He.ga K "look_at")))), fun K => PySem.W.keepIn K (.ref (He.ga K "look_at")), fun K => HX.eqB (PySem.W.nsIn K mainGlobals "both_names") (some (some (.ref (He.ga K "both_names")))), fun K => PySem.W.keepIn K (.ref (He.ga K "both_names")), fun K => HX.eqB (PySem.W.nsIn K mainGlobals "shown_program") (some (some (.ref (He.ga K "shown_program")))), fun K => PySem.W.keepIn K (.ref (He.ga K "shown_program")), fun K => HX.eqB (PySem.W.nsIn K mainGlobals "read_names") (some (some (.ref (He.ga K "read_names")))), fun K => PySem.W.keepIn K (.ref (He.ga K "read_names")), fun K => HX.eqB (PySem.W.nsIn K mainGlobals "is_head") (some (some (.ref (He.ga K "is_head")))), fun K => PySem.W.keepIn K (.ref (He.ga K "is_head"))]
def hfb3 : List HX.Bf := [fun K => HX.eqB (PySem.W.nsIn K mainGlobals "are_figures") (some (some (.ref (He.ga K "are_figures")))), fun K => PySem.W.keepIn K (.ref (He.ga K "are_figures")), fun K => HX.eqB (PySem.W.nsIn K mainGlobals "part_of_text") (some (some (.ref (He.ga K "part_of_text")))), fun K => PySem.W.keepIn K (.ref (He.ga K "part_of_text")), fun K => HX.eqB (PySem.W.nsIn K mainGlobals "read_line") (some (some (.ref (He.ga K "read_line")))), fun K => PySem.W.keepIn K (.ref (He.ga K "read_line")), fun K => HX.eqB (PySem.W.nsIn K mainGlobals "read_wish") (some (some (.ref (He.ga K "read_wish")))), fun K => PySem.W.keepIn K (.ref (He.ga K "read_wish")), fun K => HX.eqB (PySem.W.nsIn K mainGlobals "read_wish_at") (some (some (.ref (He.ga K "read_wish_at")))), fun K => PySem.W.keepIn K (.ref (He.ga K "read_wish_at")), fun K => HX.eqB (PySem.W.nsIn K mainGlobals "read_program") (some (some (.ref (He.ga K "read_program")))), fun K => PySem.W.keepIn K (.ref (He.ga K "read_program")), fun K => HX.eqB (PySem.W.nsIn K mainGlobals "_law_apart") (some (some (.ref (He.ga K "_law_apart")))), fun K => PySem.W.keepIn K (.ref (He.ga K "_law_apart")), fun K => HX.eqB (PySem.W.nsIn K mainGlobals "_law_right") (some (some (.ref (He.ga K "_law_right")))), fun K => PySem.W.keepIn K (.ref (He.ga K "_law_right")), fun K => HX.eqB (PySem.W.nsIn K mainGlobals "_law_near_names") (some (some (.ref (He.ga K "_law_near_names")))), fun K => PySem.W.keepIn K (.ref (He.ga K "_law_near_names")), fun K => HX.eqB (PySem.W.nsIn K mainGlobals "law") (some (some (.ref (He.ga K "law")))), fun K => PySem.W.keepIn K (.ref (He.ga K "law"))]
def hfb4 : List HX.Bf := [fun K => HX.eqB (PySem.W.nsIn K mainGlobals "abs") (some none), fun K => HX.eqB (PySem.W.nsIn K mainGlobals "all") (some none), fun K => HX.eqB (PySem.W.nsIn K mainGlobals "bool") (some none), fun K => HX.eqB (PySem.W.nsIn K mainGlobals "enumerate") (some none), fun K => HX.eqB (PySem.W.nsIn K mainGlobals "int") (some none), fun K => HX.eqB (PySem.W.nsIn K mainGlobals "isinstance") (some none), fun K => HX.eqB (PySem.W.nsIn K mainGlobals "len") (some none), fun K => HX.eqB (PySem.W.nsIn K mainGlobals "list") (some none), fun K => HX.eqB (PySem.W.nsIn K mainGlobals "max") (some none), fun K => HX.eqB (PySem.W.nsIn K mainGlobals "min") (some none), fun K => HX.eqB (PySem.W.nsIn K mainGlobals "range") (some none), fun K => HX.eqB (PySem.W.nsIn K mainGlobals "repr") (some none), fun K => HX.eqB (PySem.W.nsIn K mainGlobals "str") (some none), fun K => HX.eqB (PySem.W.nsIn K mainGlobals "sum") (some none), fun K => HX.eqB (PySem.W.nsIn K mainGlobals "tuple") (some none), fun K => HX.eqB (PySem.W.nsIn K mainGlobals "zip") (some none), fun K => HX.strB K mainGlobals "BEHIND" "'", fun K => HX.strB K mainGlobals "FIGURES" "0123456789", fun K => HX.strB K mainGlobals "JUST" "just", fun K => HX.strB K mainGlobals "LEAST" "least"]
def hfb5 : List HX.Bf := [fun K => HX.strB K mainGlobals "LETTERS" "abcdefghijklmnopqrstuvwxyz", fun K => HX.intB K mainGlobals "MOST_NUMBERS_programs" (3), fun K => HX.intB K mainGlobals "MOST_NUMBERS_wishes" (8), fun K => HX.intB K mainGlobals "MOST_PLACES" (6), fun K => HX.intB K mainGlobals "MOST_ROWS" (10), fun K => HX.intB K mainGlobals "MOST_WISHES" (12), fun K => HX.eqB (PySem.W.nsIn K mainGlobals "ENDS") (some (some (.ref (He.ga K "ENDS")))), fun K => (!((He.ga K "ENDS") == sysModules)), fun K => HX.strB K (He.ga K "ENDS") "least" " >= 0", fun K => HX.strB K (He.ga K "ENDS") "just" " = 0", fun K => HX.eqB (PySem.W.nsIn K mainGlobals "NoNumber") (some (some (.ref (He.ga K "NoNumber")))), fun K => HX.eqB (PySem.W.nsIn K mainGlobals "NoProgram") (some (some (.ref (He.ga K "NoProgram")))), fun K => HX.eqB (PySem.W.nsIn K mainGlobals "NoText") (some (some (.ref (He.ga K "NoText")))), fun K => HX.eqB (PySem.W.nsIn K mainGlobals "WeighError") (some (some (.ref (He.ga K "WeighError")))), fun K => HX.eqB (PySem.W.specialIn K (.builtin "object.__class__") "__get__") (some (some (.builtin "getset_descriptor.__get__"))), fun K => HX.eqB (PySem.W.takesIn K (.builtin "object.__class__")) (some true), fun K => HX.eqB (PySem.W.subIn K (.ref (He.ga K "NoNumber")) (.type "BaseException")) (some true), fun K => PySem.W.hasDictIn K (He.ga K "NoNumber"), fun K => HX.eqB (PySem.W.typeIn K (.ref (He.ga K "NoNumber"))) (some (.type "type")), fun K => PySem.W.isClsIn K (He.ga K "NoNumber")]
def hfb6 : List HX.Bf := [fun K => HX.eqB (PySem.W.subIn K (.ref (He.ga K "NoProgram")) (.type "BaseException")) (some true), fun K => PySem.W.hasDictIn K (He.ga K "NoProgram"), fun K => HX.eqB (PySem.W.typeIn K (.ref (He.ga K "NoProgram"))) (some (.type "type")), fun K => PySem.W.isClsIn K (He.ga K "NoProgram"), fun K => HX.eqB (PySem.W.subIn K (.ref (He.ga K "NoText")) (.type "BaseException")) (some true), fun K => PySem.W.hasDictIn K (He.ga K "NoText"), fun K => HX.eqB (PySem.W.typeIn K (.ref (He.ga K "NoText"))) (some (.type "type")), fun K => PySem.W.isClsIn K (He.ga K "NoText"), fun K => HX.eqB (PySem.W.findIn K (.ref (He.ga K "NoNumber")) "__getattribute__") (some (some (.builtin "BaseException.__getattribute__"))), fun K => HX.eqB (PySem.W.findIn K (.ref (He.ga K "NoNumber")) "__getattr__") (some none), fun K => HX.eqB (PySem.W.findIn K (.ref (He.ga K "NoNumber")) "__class__") (some (some (.builtin "object.__class__"))), fun K => HX.eqB (PySem.W.mroIn K (He.ga K "NoNumber") (.type "object")) (some true), fun K => PySem.W.keepIn K (.ref (He.ga K "NoNumber")), fun K => HX.xclB K (He.ga K "NoNumber") PySem.HandSPX.refsVE "ValueError.__new__", fun K => HX.eqB (PySem.W.findIn K (.ref (He.ga K "NoNumber")) "__setattr__") (some (some (.builtin "object.__setattr__"))), fun K => HX.eqB (PySem.W.findIn K (.ref (He.ga K "NoNumber")) "__init__") (some (some (.ref (He.ma K (He.ga K "NoNumber") "__init__")))), fun K => HX.eqB (PySem.W.typeIn K (.ref (He.ma K (He.ga K "NoNumber") "__init__"))) (some (.type "function")), fun K => PySem.W.keepIn K (.ref (He.ma K (He.ga K "NoNumber") "__init__")), fun K => HX.eqB (PySem.W.findIn K (.ref (He.ga K "NoNumber")) "thing") (some none), fun K => HX.eqB (PySem.W.findIn K (.ref (He.ga K "NoProgram")) "__getattribute__") (some (some (.builtin "BaseException.__getattribute__")))]
def hfb7 : List HX.Bf := [fun K => HX.eqB (PySem.W.findIn K (.ref (He.ga K "NoProgram")) "__getattr__") (some none), fun K => HX.eqB (PySem.W.findIn K (.ref (He.ga K "NoProgram")) "__class__") (some (some (.builtin "object.__class__"))), fun K => HX.eqB (PySem.W.mroIn K (He.ga K "NoProgram") (.type "object")) (some true), fun K => PySem.W.keepIn K (.ref (He.ga K "NoProgram")), fun K => HX.xclB K (He.ga K "NoProgram") PySem.HandSPX.refsVE "ValueError.__new__", fun K => HX.eqB (PySem.W.findIn K (.ref (He.ga K "NoProgram")) "__setattr__") (some (some (.builtin "object.__setattr__"))), fun K => HX.eqB (PySem.W.findIn K (.ref (He.ga K "NoProgram")) "__init__") (some (some (.ref (He.ma K (He.ga K "NoProgram") "__init__")))), fun K => HX.eqB (PySem.W.typeIn K (.ref (He.ma K (He.ga K "NoProgram") "__init__"))) (some (.type "function")), fun K => PySem.W.keepIn K (.ref (He.ma K (He.ga K "NoProgram") "__init__")), fun K => HX.eqB (PySem.W.findIn K (.ref (He.ga K "NoProgram")) "part") (some none), fun K => HX.eqB (PySem.W.findIn K (.ref (He.ga K "NoProgram")) "number") (some none), fun K => HX.eqB (PySem.W.findIn K (.ref (He.ga K "NoText")) "__getattribute__") (some (some (.builtin "BaseException.__getattribute__"))), fun K => HX.eqB (PySem.W.findIn K (.ref (He.ga K "NoText")) "__getattr__") (some none), fun K => HX.eqB (PySem.W.findIn K (.ref (He.ga K "NoText")) "__class__") (some (some (.builtin "object.__class__"))), fun K => HX.eqB (PySem.W.mroIn K (He.ga K "NoText") (.type "object")) (some true), fun K => PySem.W.keepIn K (.ref (He.ga K "NoText")), fun K => HX.xclB K (He.ga K "NoText") PySem.HandSPX.refsVE "ValueError.__new__", fun K => HX.eqB (PySem.W.findIn K (.ref (He.ga K "NoText")) "__setattr__") (some (some (.builtin "object.__setattr__"))), fun K => HX.eqB (PySem.W.findIn K (.ref (He.ga K "NoText")) "__init__") (some (some (.ref (He.ma K (He.ga K "NoText") "__init__")))), fun K => HX.eqB (PySem.W.typeIn K (.ref (He.ma K (He.ga K "NoText") "__init__"))) (some (.type "function"))]
def hfb8 : List HX.Bf := [fun K => PySem.W.keepIn K (.ref (He.ma K (He.ga K "NoText") "__init__")), fun K => HX.eqB (PySem.W.findIn K (.ref (He.ga K "NoText")) "row") (some none), fun K => HX.eqB (PySem.W.specialIn K (.ref (He.ga K "WeighError")) "__getattribute__") (some (some (.builtin "type.__getattribute__"))), fun K => PySem.W.readsIn K (He.ga K "WeighError") (.type "type"), fun K => HX.valB (PySem.W.findCls K (.ref (He.ga K "WeighError")) (.type "type") "__init__") (.builtin "ValueError.__init__"), fun K => HX.eqB (PySem.W.subIn K (.ref (He.ga K "NoNumber")) (.ref (He.ga K "NoText"))) (some false), fun K => (!(Value.ref (He.ga K "NoNumber") == Value.ref (He.ga K "NoText"))), fun K => HX.eqB (PySem.W.subIn K (.ref (He.ga K "NoProgram")) (.ref (He.ga K "NoText"))) (some false), fun K => (!(Value.ref (He.ga K "NoProgram") == Value.ref (He.ga K "NoText"))), fun K => HX.eqB (PySem.W.subIn K (.ref (He.ga K "NoText")) (.ref (He.ga K "NoText"))) (some true)]
def hfb : List HX.Bf := hfb0 ++ hfb1 ++ hfb2 ++ hfb3 ++ hfb4 ++ hfb5 ++ hfb6 ++ hfb7 ++ hfb8
def hfn0 : List He.FnD := [⟨("_law_pool", none), "_law_pool", "_law_pool", defArgs s__law_pool, defBody s__law_pool, defScope s__law_pool⟩, ⟨("_law_take", none), "_law_take", "_law_take", defArgs s__law_take, defBody s__law_take, defScope s__law_take⟩, ⟨("_law_names", none), "_law_names", "_law_names", defArgs s__law_names, defBody s__law_names, defScope s__law_names⟩, ⟨("_law_factor", none), "_law_factor", "_law_factor", defArgs s__law_factor, defBody s__law_factor, defScope s__law_factor⟩, ⟨("_law_line", none), "_law_line", "_law_line", defArgs s__law_line, defBody s__law_line, defScope s__law_line⟩, ⟨("_law_wishes", none), "_law_wishes", "_law_wishes", defArgs s__law_wishes, defBody s__law_wishes, defScope s__law_wishes⟩, ⟨("_law_program", none), "_law_program", "_law_program", defArgs s__law_program, defBody s__law_program, defScope s__law_program⟩, ⟨("_law_line_text", none), "_law_line_text", "_law_line_text", defArgs s__law_line_text, defBody s__law_line_text, defScope s__law_line_text⟩, ⟨("_law_wish_text", none), "_law_wish_text", "_law_wish_text", defArgs s__law_wish_text, defBody s__law_wish_text, defScope s__law_wish_text⟩, ⟨("_law_program_text", none), "_law_program_text", "_law_program_text", defArgs s__law_program_text, defBody s__law_program_text, defScope s__law_program_text⟩, ⟨("shown_part", none), "shown_part", "shown_part", defArgs s_shown_part, defBody s_shown_part, defScope s_shown_part⟩, ⟨("shown_line", none), "shown_line", "shown_line", defArgs s_shown_line, defBody s_shown_line, defScope s_shown_line⟩, ⟨("shown_wish", none), "shown_wish", "shown_wish", defArgs s_shown_wish, defBody s_shown_wish, defScope s_shown_wish⟩, ⟨("is_name", none), "is_name", "is_name", defArgs s_is_name, defBody s_is_name, defScope s_is_name⟩, ⟨("first_no_name", none), "first_no_name", "first_no_name", defArgs s_first_no_name, defBody s_first_no_name, defScope s_first_no_name⟩, ⟨("look_at_names", none), "look_at_names", "look_at_names", defArgs s_look_at_names, defBody s_look_at_names, defScope s_look_at_names⟩, ⟨("is_whole", none), "is_whole", "is_whole", defArgs s_is_whole, defBody s_is_whole, defScope s_is_whole⟩, ⟨("look_at_many", none), "look_at_many", "look_at_many", defArgs s_look_at_many, defBody s_look_at_many, defScope s_look_at_many⟩, ⟨("is_line", none), "is_line", "is_line", defArgs s_is_line, defBody s_is_line, defScope s_is_line⟩, ⟨("is_wish", none), "is_wish", "is_wish", defArgs s_is_wish, defBody s_is_wish, defScope s_is_wish⟩]
def hfn1 : List He.FnD := [⟨("are_wishes", none), "are_wishes", "are_wishes", defArgs s_are_wishes, defBody s_are_wishes, defScope s_are_wishes⟩, ⟨("is_number_of", none), "is_number_of", "is_number_of", defArgs s_is_number_of, defBody s_is_number_of, defScope s_is_number_of⟩, ⟨("is_row", none), "is_row", "is_row", defArgs s_is_row, defBody s_is_row, defScope s_is_row⟩, ⟨("look_at", none), "look_at", "look_at", defArgs s_look_at, defBody s_look_at, defScope s_look_at⟩, ⟨("both_names", none), "both_names", "both_names", defArgs s_both_names, defBody s_both_names, defScope s_both_names⟩, ⟨("shown_program", none), "shown_program", "shown_program", defArgs s_shown_program, defBody s_shown_program, defScope s_shown_program⟩, ⟨("read_names", none), "read_names", "read_names", defArgs s_read_names, defBody s_read_names, defScope s_read_names⟩, ⟨("is_head", none), "is_head", "is_head", defArgs s_is_head, defBody s_is_head, defScope s_is_head⟩, ⟨("are_figures", none), "are_figures", "are_figures", defArgs s_are_figures, defBody s_are_figures, defScope s_are_figures⟩, ⟨("part_of_text", none), "part_of_text", "part_of_text", defArgs s_part_of_text, defBody s_part_of_text, defScope s_part_of_text⟩, ⟨("read_line", none), "read_line", "read_line", defArgs s_read_line, defBody s_read_line, defScope s_read_line⟩, ⟨("read_wish", none), "read_wish", "read_wish", defArgs s_read_wish, defBody s_read_wish, defScope s_read_wish⟩, ⟨("read_wish_at", none), "read_wish_at", "read_wish_at", defArgs s_read_wish_at, defBody s_read_wish_at, defScope s_read_wish_at⟩, ⟨("read_program", none), "read_program", "read_program", defArgs s_read_program, defBody s_read_program, defScope s_read_program⟩, ⟨("_law_apart", none), "_law_apart", "_law_apart", defArgs s__law_apart, defBody s__law_apart, defScope s__law_apart⟩, ⟨("_law_right", none), "_law_right", "_law_right", defArgs s__law_right, defBody s__law_right, defScope s__law_right⟩, ⟨("_law_near_names", none), "_law_near_names", "_law_near_names", defArgs s__law_near_names, defBody s__law_near_names, defScope s__law_near_names⟩, ⟨("law", none), "law", "law", defArgs s_law, defBody s_law, defScope s_law⟩, ⟨("NoNumber", some "__init__"), "__init__", "NoNumber.__init__", defArgs i_NoNumber, defBody i_NoNumber, defScope i_NoNumber⟩, ⟨("NoProgram", some "__init__"), "__init__", "NoProgram.__init__", defArgs i_NoProgram, defBody i_NoProgram, defScope i_NoProgram⟩]
def hfn2 : List He.FnD := [⟨("NoText", some "__init__"), "__init__", "NoText.__init__", defArgs i_NoText, defBody i_NoText, defScope i_NoText⟩]
def hfn : List He.FnD := hfn0 ++ hfn1 ++ hfn2
def hft : List HX.TbF := [(fun K => (He.ga K "ENDS"), [("least", " >= 0"), ("just", " = 0")])]
abbrev hR : PySem.W.OpenRow := PySem.W.OpenLaw.row PySem.Challenge.rw_downweigh_k22_programs_written
abbrev hhk : PySem.W.Hook := HX.hookZ 5 hfb hfn hft
def hob (s : PySem.W.SharedT) : HX.AlZ := HX.obsZG 5 hfb hfn hft (HandSHeadRun.getT s)
theorem hob_eq (s : PySem.W.SharedT) : hob s = hhk.obs s.abs := HX.obsZG_eq (HandSHeadRun.getT_eq s)
set_option maxHeartbeats 0 in
theorem hrunF (w : World) : HandSHeadRun.RunEq hR (PySem.W.view hR.prog [60]) hhk hob 8000 hnames (w.withFollow "special-get-raises" false) := by
  intro os
  kernel_rfl
set_option maxHeartbeats 0 in
theorem hrunT (w : World) : HandSHeadRun.RunEq hR (PySem.W.view hR.prog [60]) hhk hob 8000 hnames (w.withFollow "special-get-raises" true) := by
  intro os
  kernel_rfl
theorem hrun (w : World) : HandSHeadRun.RunEq hR (PySem.W.view hR.prog [60]) hhk hob 8000 hnames w := PySem.W.byRow2 "special-get-raises" (P := fun w => HandSHeadRun.RunEq hR (PySem.W.view hR.prog [60]) hhk hob 8000 hnames w) hrunF hrunT w
end Lw

set_option Elab.async false
set_option linter.all false
set_option maxRecDepth 100000
/-! DL: data semantics over the hand layer. D: what a value is as data; a store of lists that are changed (cells); Rep: a value of the heap bears such data. -/
namespace DL
open PySem PySem.Spec PyProof.Rows L2

/-! ### data, cells, results -/
inductive D where
  | non | bl (b : Bool) | int (i : Int) | str (s : Str)
  | tup (xs : List D) | lst (xs : List D) | ro (xs : List D) | cell (n : Nat) | ty (n : String) | dE
  | err (n : Str) (ks : List Str) (vs : List D) | cls (n : Str)
  deriving Inhabited
inductive CO where
  | lst (xs : List D)
  | ins (C : Str) (fs : List (Str × D))
  | dK (kvs : List (Key × D))
abbrev Sto := List (Option CO)
/-- an error as data: its class's name, its one field if it has any -/
structure XD where
  name : Str
  ks : List Str
  vs : List D
inductive R (α : Type) where
  | ok (a : α) (s : Sto)
  | exc (x : XD) (s : Sto)
  | stuck
abbrev M (α : Type) := Sto → R α
def M.pure {α : Type} (a : α) : M α := fun s => .ok a s
def R.bind {α β : Type} (r : R α) (f : α → M β) : R β := match r with
  | .ok a s => f a s
  | .exc x s => .exc x s
  | .stuck => .stuck
def M.bind {α β : Type} (m : M α) (f : α → M β) : M β := fun s => (m s).bind f
@[simp] theorem R.bind_ok {α β : Type} (a : α) (s : Sto) (f : α → M β) : (R.ok a s).bind f = f a s := rfl
@[simp] theorem R.bind_exc {α β : Type} (x : XD) (s : Sto) (f : α → M β) : (R.exc (α := α) x s).bind f = .exc x s := rfl
@[simp] theorem R.bind_stuck {α β : Type} (f : α → M β) : (R.stuck (α := α)).bind f = .stuck := rfl
instance : Monad M where
  pure := M.pure
  bind := M.bind
abbrev Env := List (Option D)

mutual
/-- no cell from n on -/
def D.bel (n : Nat) : D → Bool
  | .non | .bl _ | .int _ | .str _ | .ty _ | .dE | .cls _ => true
  | .err _ _ xs => D.belL n xs
  | .tup xs | .lst xs | .ro xs => D.belL n xs
  | .cell m => decide (m < n)
def D.belL (n : Nat) : List D → Bool
  | [] => true
  | x :: xs => D.bel n x && D.belL n xs
end
def CO.bel (n : Nat) : CO → Bool
  | .lst xs => D.belL n xs
  | .ins _ fs => D.belL n (fs.map (·.2))
  | .dK kvs => D.belL n (kvs.map (·.2))

/-! ### what bears data -/
/-- the error object at a, raised and caught: its class, its dict -/
def ErO (cls : Value) (dd : Option Addr) (a : Addr) : HO := .ext fun h => ∃ (oe : Obj) (vs : Array Value), h.get? a = some oe ∧ Zc cls dd oe ∧ oe.data = .fields vs
/-- the text's class of that name -/
def ClsK (K : PySem.W.Frag) (n : Str) (c : Value) : Prop := PySem.W.nsIn K mainGlobals n = some (some c)
/-- an error's fields -/
def ErD (F : Hp) (dd : Option Addr) (ks : List Str) (us : List V) : Prop := (dd = none ∧ ks = [] ∧ us = []) ∨ ∃ d, dd = some d ∧ ks.length = us.length ∧ F d = some (.xd (ks.zip us))
theorem ErD.same {F F' : Hp} {dd : Option Addr} {ks : List Str} {us : List V} (h : ErD F dd ks us) (e : Same F F') : ErD F' dd ks us := h.imp id fun ⟨d, e1, e2, e3⟩ => ⟨d, e1, e2, e _ _ e3⟩
mutual
inductive Rep (K : PySem.W.Frag) (as : List Addr) (F : Hp) : V → D → Prop
  | non : Rep K as F .non .non
  | bl (b : Bool) : Rep K as F (.bl b) (.bl b)
  | int (i : Int) : Rep K as F (.int i) (.int i)
  | str (x : Str) : Rep K as F (.str x) (.str x)
  | ty (n : String) : Rep K as F (.ty n) (.ty n)
  | tup {a : Addr} {vs : List V} {ds : List D} : SqT K F a vs → RepL K as F vs ds → Rep K as F (.ref a) (.tup ds)
  | lst {a : Addr} {vs : List V} {ds : List D} : F a = some (.lst vs) → RepL K as F vs ds → Rep K as F (.ref a) (.lst ds)
  | ro {a : Addr} {vs : List V} {ds : List D} : SqL K F a vs → RepL K as F vs ds → Rep K as F (.ref a) (.ro ds)
  | cell {n : Nat} {a : Addr} : as[n]? = some a → Rep K as F (.ref a) (.cell n)
  | dE {a : Addr} : Rd F a (.dK []) → Rep K as F (.ref a) .dE
  | err {a : Addr} {cls : Value} {dd : Option Addr} {n : Str} {ks : List Str} {us : List V} {ds : List D} : F a = some (ErO cls dd a) → ClsK K n cls → ErD F dd ks us → RepL K as F us ds → Rep K as F (.ref a) (.err n ks ds)
  | cls {n : Str} {C : Addr} : ClsK K n (.ref C) → Rep K as F (.ref C) (.cls n)
inductive RepL (K : PySem.W.Frag) (as : List Addr) (F : Hp) : List V → List D → Prop
  | nil : RepL K as F [] []
  | cons {v : V} {vs : List V} {d : D} {ds : List D} : Rep K as F v d → RepL K as F vs ds → RepL K as F (v :: vs) (d :: ds)
end
theorem same_rd {F F' : Hp} {a : Addr} {u : HO} (e : Same F F') (h : Rd F a u) : Rd F' a u := by
  rcases h with h | ⟨o, h⟩
  · exact .inl (e a _ h)
  · exact .inr ⟨o, e a _ h⟩
theorem same_l {K : PySem.W.Frag} {F F' : Hp} {a : Addr} {xs : List V} (e : Same F F') (h : SqL K F a xs) : SqL K F' a xs := h.elim (fun h => .inl (same_rd e h)) .inr
theorem same_t {K : PySem.W.Frag} {F F' : Hp} {a : Addr} {xs : List V} (e : Same F F') (h : SqT K F a xs) : SqT K F' a xs := h.elim (fun h => .inl (same_rd e h)) .inr
section
variable {K : PySem.W.Frag} {as as' : List Addr} {F F' : Hp}
mutual
/-- more is known: the same data -/
theorem Rep.mono (ha : ∀ n a : Nat, as[n]? = some a → as'[n]? = some a) (e : Same F F') : ∀ {d : D} {v : V}, Rep K as F v d → Rep K as' F' v d
  | .non, _, h => by cases h; exact .non
  | .bl b, _, h => by cases h; exact .bl b
  | .int i, _, h => by cases h; exact .int i
  | .str x, _, h => by cases h; exact .str x
  | .ty x, _, h => by cases h; exact .ty x
  | .tup ds, _, h => by cases h with | tup q r => exact .tup (same_t e q) (RepL.mono ha e r)
  | .lst ds, _, h => by cases h with | lst q r => exact .lst (e _ _ q) (RepL.mono ha e r)
  | .ro ds, _, h => by cases h with | ro q r => exact .ro (same_l e q) (RepL.mono ha e r)
  | .cell n, _, h => by cases h with | cell q => exact .cell (ha _ _ q)
  | .dE, _, h => by cases h with | dE q => exact .dE (same_rd e q)
  | .err n ks ds, _, h => by cases h with | err q1 q2 q3 r => exact .err (e _ _ q1) q2 (q3.same e) (RepL.mono ha e r)
  | .cls n, _, h => by cases h with | cls q => exact .cls q
theorem RepL.mono (ha : ∀ n a : Nat, as[n]? = some a → as'[n]? = some a) (e : Same F F') : ∀ {ds : List D} {vs : List V}, RepL K as F vs ds → RepL K as' F' vs ds
  | [], _, h => by cases h; exact .nil
  | d :: ds, _, h => by cases h with | cons q r => exact .cons (Rep.mono ha e q) (RepL.mono ha e r)
end
mutual
/-- cells below n alone: the addresses beyond don't matter -/
theorem Rep.cut {n : Nat} : ∀ {d : D} {v : V}, d.bel n = true → Rep K as F v d → Rep K (as.take n) F v d
  | .non, _, _, h => by cases h; exact .non
  | .bl b, _, _, h => by cases h; exact .bl b
  | .int i, _, _, h => by cases h; exact .int i
  | .str x, _, _, h => by cases h; exact .str x
  | .ty x, _, _, h => by cases h; exact .ty x
  | .tup ds, _, b, h => by cases h with | tup q r => exact .tup q (RepL.cut (by simpa [D.bel] using b) r)
  | .lst ds, _, b, h => by cases h with | lst q r => exact .lst q (RepL.cut (by simpa [D.bel] using b) r)
  | .ro ds, _, b, h => by cases h with | ro q r => exact .ro q (RepL.cut (by simpa [D.bel] using b) r)
  | .cell m, _, b, h => by
    cases h with
    | cell q =>
      have hm : m < n := by simpa [D.bel] using b
      exact .cell (by rw [List.getElem?_take_of_lt hm]; exact q)
  | .dE, _, _, h => by cases h with | dE q => exact .dE q
  | .err n ks ds, _, b, h => by cases h with | err q1 q2 q3 r => exact .err q1 q2 q3 (RepL.cut (by simpa [D.bel] using b) r)
  | .cls n, _, _, h => by cases h with | cls q => exact .cls q
theorem RepL.cut {n : Nat} : ∀ {ds : List D} {vs : List V}, D.belL n ds = true → RepL K as F vs ds → RepL K (as.take n) F vs ds
  | [], _, _, h => by cases h; exact .nil
  | d :: ds, _, b, h => by
    have b' : d.bel n = true ∧ D.belL n ds = true := by simpa [D.belL] using b
    cases h with | cons q r => exact .cons (Rep.cut b'.1 q) (RepL.cut b'.2 r)
end
mutual
theorem Rep.bel_of : ∀ {d : D} {v : V}, Rep K as F v d → d.bel as.length = true
  | .non, _, _ => by simp [D.bel]
  | .bl b, _, _ => by simp [D.bel]
  | .int i, _, _ => by simp [D.bel]
  | .str x, _, _ => by simp [D.bel]
  | .ty x, _, _ => by simp [D.bel]
  | .tup ds, _, h => by cases h with | tup q r => simpa [D.bel] using RepL.bel_of r
  | .lst ds, _, h => by cases h with | lst q r => simpa [D.bel] using RepL.bel_of r
  | .ro ds, _, h => by cases h with | ro q r => simpa [D.bel] using RepL.bel_of r
  | .cell m, _, h => by
    cases h with
    | cell q => simpa [D.bel] using (List.getElem?_eq_some_iff.mp q).1
  | .dE, _, _ => by simp [D.bel]
  | .err n ks ds, _, h => by cases h with | err q1 q2 q3 r => simpa [D.bel] using RepL.bel_of r
  | .cls n, _, _ => by simp [D.bel]
theorem RepL.bel_of : ∀ {ds : List D} {vs : List V}, RepL K as F vs ds → D.belL as.length ds = true
  | [], _, _ => by simp [D.belL]
  | d :: ds, _, h => by cases h with | cons q r => simp [D.belL, Rep.bel_of q, RepL.bel_of r]
end
theorem RepL.length : ∀ {ds : List D} {vs : List V}, RepL K as F vs ds → vs.length = ds.length
  | [], _, h => by cases h; rfl
  | d :: ds, _, h => by cases h with | cons q r => simp [RepL.length r]
theorem RepL.get : ∀ {ds : List D} {vs : List V} {i : Nat} {d : D}, RepL K as F vs ds → ds[i]? = some d → ∃ v, vs[i]? = some v ∧ Rep K as F v d
  | [], _, i, d, _, e => by simp at e
  | x :: ds, _, 0, d, h, e => by cases h with | cons q r => simp at e; subst e; exact ⟨_, rfl, q⟩
  | x :: ds, _, i + 1, d, h, e => by cases h with | cons q r => simpa using RepL.get (i := i) r (by simpa using e)
theorem RepL.append : ∀ {ds es : List D} {vs us : List V}, RepL K as F vs ds → RepL K as F us es → RepL K as F (vs ++ us) (ds ++ es)
  | [], _, _, _, h, g => by cases h; simpa using g
  | d :: ds, _, _, _, h, g => by cases h with | cons q r => exact .cons q (RepL.append r g)
theorem RepL.take : ∀ {ds : List D} {vs : List V} (n : Nat), RepL K as F vs ds → RepL K as F (vs.take n) (ds.take n)
  | _, _, 0, _ => by simpa using RepL.nil
  | [], _, n + 1, h => by cases h; exact .nil
  | d :: ds, _, n + 1, h => by cases h with | cons q r => exact .cons q (RepL.take n r)
theorem RepL.drop : ∀ {ds : List D} {vs : List V} (n : Nat), RepL K as F vs ds → RepL K as F (vs.drop n) (ds.drop n)
  | _, _, 0, h => by simpa using h
  | [], _, n + 1, h => by cases h; exact .nil
  | d :: ds, _, n + 1, h => by cases h with | cons q r => simpa using RepL.drop n r
theorem RepL.set {v : V} {d : D} (q : Rep K as F v d) : ∀ {ds : List D} {vs : List V} (n : Nat), RepL K as F vs ds → RepL K as F (vs.set n v) (ds.set n d)
  | [], _, n, h => by cases h; exact .nil
  | x :: ds, _, 0, h => by cases h with | cons p r => exact .cons q r
  | x :: ds, _, n + 1, h => by cases h with | cons p r => exact .cons p (RepL.set q n r)
end

/-- what is changed, as an object of the heap -/
def CRep (K : PySem.W.Frag) (as : List Addr) (F : Hp) : CO → HO → Prop
  | .lst xs, .lst vs => RepL K as F vs xs
  | .ins C fs, .ins Ca _ ws => ClsK K C (.ref Ca) ∧ ws.map (·.1) = fs.map (·.1) ∧ RepL K as F (ws.map (·.2)) (fs.map (·.2))
  | .dK kvs, .dK ws => ws.map (·.1) = kvs.map (·.1) ∧ RepL K as F (ws.map (·.2)) (kvs.map (·.2))
  | _, _ => False
theorem CRep.imp {K : PySem.W.Frag} {as as' : List Addr} {F F' : Hp} {c : CO} {o : HO} (h : CRep K as F c o) (k : ∀ vs ds, RepL K as F vs ds → (∀ n, D.belL n ds = c.bel n) → RepL K as' F' vs ds) : CRep K as' F' c o := by
  cases c <;> cases o <;> first
    | exact h.elim
    | exact k _ _ h fun _ => rfl
    | exact ⟨h.1, h.2.1, k _ _ h.2.2 fun _ => rfl⟩
    | exact ⟨h.1, k _ _ h.2 fun _ => rfl⟩
theorem CRep.mono {K : PySem.W.Frag} {as as' : List Addr} {F F' : Hp} (ha : ∀ n a : Nat, as[n]? = some a → as'[n]? = some a) (e : Same F F') {c : CO} {o : HO} (h : CRep K as F c o) : CRep K as' F' c o := h.imp fun _ _ r _ => r.mono ha e
theorem CRep.cut {K : PySem.W.Frag} {as : List Addr} {F : Hp} {n : Nat} {c : CO} {o : HO} (b : c.bel n = true) (h : CRep K as F c o) : CRep K (as.take n) F c o := h.imp fun _ _ r e => r.cut (by rw [e]; exact b)
theorem CRep.bel_of {K : PySem.W.Frag} {as : List Addr} {F : Hp} {c : CO} {o : HO} (h : CRep K as F c o) : c.bel as.length = true := by
  cases c <;> cases o <;> first
    | exact h.elim
    | exact RepL.bel_of (vs := _) h
    | exact RepL.bel_of h.2.2
    | exact RepL.bel_of h.2
/-! ### the heap without what is changed -/
def live (as : List Addr) (S : Sto) : List Addr := (as.zip S).filterMap fun p => if p.2.isSome then some p.1 else none
/-- hd: what is hidden from the data (a list that a comprehension fills) -/
abbrev Hid := List (Addr × HO)
def fz (hd : Hid) (as : List Addr) (S : Sto) (H : Hp) : Hp := fun a => if a ∈ live as S ∨ a ∈ hd.map (·.1) then none else H a
theorem mem_live {as : List Addr} {S : Sto} {a : Addr} : a ∈ live as S ↔ ∃ (n : Nat) (c : CO), as[n]? = some a ∧ S[n]? = some (some c) := by
  unfold live
  rw [List.mem_filterMap]
  constructor
  · rintro ⟨⟨b, o⟩, hm, e⟩
    obtain ⟨n, hn⟩ := List.getElem?_of_mem hm
    rw [List.getElem?_zip_eq_some] at hn
    cases o with
    | none => simp at e
    | some c => simp at e; subst e; exact ⟨n, c, hn.1, hn.2⟩
  · rintro ⟨n, c, h1, h2⟩
    refine ⟨(a, some c), List.mem_of_getElem? (i := n) ?_, by simp⟩
    rw [List.getElem?_zip_eq_some]
    exact ⟨h1, h2⟩
theorem fz_same {hd : Hid} {as : List Addr} {S : Sto} {H : Hp} : Same (fz hd as S H) H := fun b o e => by
  unfold fz at e
  split at e
  · cases e
  · exact e
theorem fz_of {hd : Hid} {as : List Addr} {S : Sto} {H : Hp} {a : Addr} {o : HO} (h : H a = some o) (n : a ∉ live as S) (nh : a ∉ hd.map (·.1)) : fz hd as S H a = some o := by
  unfold fz; rw [if_neg (fun z => z.elim n nh)]; exact h
theorem fz_not {hd : Hid} {as : List Addr} {S : Sto} {H : Hp} {a : Addr} {o : HO} (h : fz hd as S H a = some o) : a ∉ live as S := fun z => by
  unfold fz at h; rw [if_pos (.inl z)] at h; cases h
theorem fz_nh {hd : Hid} {as : List Addr} {S : Sto} {H : Hp} {a : Addr} {o : HO} (h : fz hd as S H a = some o) : a ∉ hd.map (·.1) := fun z => by
  unfold fz at h; rw [if_pos (.inr z)] at h; cases h

structure Wld (K : PySem.W.Frag) (hd : Hid) (as : List Addr) (S : Sto) (H : Hp) : Prop where
  len : as.length = S.length
  inj : ∀ (i j : Nat) a c c', as[i]? = some a → as[j]? = some a → S[i]? = some (some c) → S[j]? = some (some c') → i = j
  hid : ∀ p ∈ hd, H p.1 = some p.2 ∧ p.1 ∉ live as S
  atC : ∀ (n : Nat) c, S[n]? = some (some c) → ∃ a o, as[n]? = some a ∧ H a = some o ∧ CRep K as (fz hd as S H) c o
theorem Wld.at_ {K : PySem.W.Frag} {hd : Hid} {as : List Addr} {S : Sto} {H : Hp} (w : Wld K hd as S H) (n : Nat) (xs : List D) (e : S[n]? = some (some (CO.lst xs))) : ∃ a vs, as[n]? = some a ∧ H a = some (.lst vs) ∧ RepL K as (fz hd as S H) vs xs := by
  obtain ⟨a, o, e1, e2, r⟩ := w.atC n _ e
  cases o <;> first | exact r.elim | exact ⟨a, _, e1, e2, r⟩
theorem Wld.live_some {K : PySem.W.Frag} {hd : Hid} {as : List Addr} {S : Sto} {H : Hp} (w : Wld K hd as S H) {a : Addr} (h : a ∈ live as S) : ∃ o, H a = some o := by
  obtain ⟨n, c, h1, h2⟩ := mem_live.mp h
  obtain ⟨b, o, e1, e2, _⟩ := w.atC n c h2
  rw [h1] at e1; cases e1
  exact ⟨o, e2⟩
theorem Wld.new_live {K : PySem.W.Frag} {hd : Hid} {as : List Addr} {S : Sto} {H : Hp} (w : Wld K hd as S H) {p : Addr} (h : H p = none) : p ∉ live as S := fun z => by
  obtain ⟨vs, e⟩ := w.live_some z
  rw [h] at e; cases e
structure Grow (hd : Hid) (as : List Addr) (S : Sto) (H : Hp) (as' : List Addr) (S' : Sto) (H' : Hp) : Prop where
  pre : ∀ n a : Nat, as[n]? = some a → as'[n]? = some a
  same : Same (fz hd as S H) (fz hd as' S' H')
theorem Grow.refl {hd : Hid} {as : List Addr} {S : Sto} {H : Hp} : Grow hd as S H as S H := ⟨fun _ _ h => h, Same.refl _⟩
theorem Grow.trans {hd : Hid} {as as1 as2 : List Addr} {S S1 S2 : Sto} {H H1 H2 : Hp} (a : Grow hd as S H as1 S1 H1) (b : Grow hd as1 S1 H1 as2 S2 H2) : Grow hd as S H as2 S2 H2 :=
  ⟨fun n x h => b.pre n x (a.pre n x h), a.same.trans b.same⟩
theorem Rep.grow {K : PySem.W.Frag} {hd : Hid} {as as' : List Addr} {S S' : Sto} {H H' : Hp} {v : V} {d : D} (h : Rep K as (fz hd as S H) v d) (g : Grow hd as S H as' S' H') : Rep K as' (fz hd as' S' H') v d := h.mono g.pre g.same
theorem RepL.grow {K : PySem.W.Frag} {hd : Hid} {as as' : List Addr} {S S' : Sto} {H H' : Hp} {v : List V} {d : List D} (h : RepL K as (fz hd as S H) v d) (g : Grow hd as S H as' S' H') : RepL K as' (fz hd as' S' H') v d := h.mono g.pre g.same

section
variable {K : PySem.W.Frag} {hd : Hid} {as : List Addr} {S : Sto} {H : Hp}
theorem Wld.hid_ne (w : Wld K hd as S H) {p : Addr} (h : H p = none) : p ∉ hd.map (·.1) := fun z => by
  obtain ⟨q, hq, e⟩ := List.mem_map.mp z
  have := (w.hid q hq).1
  rw [e, h] at this; cases this
/-- a new object that isn't changed -/
theorem Wld.fresh (w : Wld K hd as S H) {p : Addr} {o : HO} (h : H p = none) : Wld K hd as S (upd H p o) ∧ Grow hd as S H as S (upd H p o) ∧ fz hd as S (upd H p o) p = some o := by
  have np := w.new_live h
  have hs : Same (fz hd as S H) (fz hd as S (upd H p o)) := fun b u e => by
    have hb : b ≠ p := fun z => by
      subst z
      rw [fz_same _ _ e] at h; cases h
    exact fz_of (by rw [upd_ne hb]; exact fz_same _ _ e) (fz_not e) (fz_nh e)
  refine ⟨⟨w.len, w.inj, fun q hq => ⟨?_, (w.hid q hq).2⟩, fun n xs e => ?_⟩, ⟨fun _ _ h => h, hs⟩, fz_of upd_same np (w.hid_ne h)⟩
  · rw [upd_ne (fun z => by have := (w.hid q hq).1; rw [z, h] at this; cases this)]; exact (w.hid q hq).1
  obtain ⟨a, vs, e1, e2, r⟩ := w.atC n xs e
  have ha : a ≠ p := fun z => by subst z; rw [h] at e2; cases e2
  exact ⟨a, vs, e1, by rw [upd_ne ha]; exact e2, r.mono (fun _ _ h => h) hs⟩
/-- a new cell -/
theorem Wld.newC (w : Wld K hd as S H) {p : Addr} {o : HO} {co : CO} (h : H p = none) (r : CRep K as (fz hd as S H) co o) :
    Wld K hd (as ++ [p]) (S ++ [some co]) (upd H p o) ∧ Grow hd as S H (as ++ [p]) (S ++ [some co]) (upd H p o) ∧ (as ++ [p])[S.length]? = some p := by
  have np := w.new_live h
  have hl : (as ++ [p])[S.length]? = some p := by rw [← w.len]; simp
  have pre : ∀ n a : Nat, as[n]? = some a → (as ++ [p])[n]? = some a := fun n a e => by
    rw [List.getElem?_append_left (List.getElem?_eq_some_iff.mp e).1]; exact e
  have split : ∀ {n : Nat} {c : CO}, (S ++ [some co])[n]? = some (some c) → S[n]? = some (some c) ∨ (n = S.length ∧ c = co) := fun {n c} e => by
    by_cases hn : n < S.length
    · rw [List.getElem?_append_left hn] at e; exact .inl e
    · rw [List.getElem?_append_right (by omega)] at e
      have hz : n - S.length = 0 := by
        have := (List.getElem?_eq_some_iff.mp e).1
        simp at this; omega
      rw [hz] at e
      simp at e
      exact .inr ⟨by omega, e.symm⟩
  have old : ∀ {n : Nat} {c : CO} {a : Addr}, S[n]? = some (some c) → (as ++ [p])[n]? = some a → as[n]? = some a := fun {n c a} e1 e2 => by
    have hn : n < as.length := by rw [w.len]; exact (List.getElem?_eq_some_iff.mp e1).1
    rw [List.getElem?_append_left hn] at e2; exact e2
  have hlive : ∀ {b : Addr}, b ≠ p → b ∉ live as S → b ∉ live (as ++ [p]) (S ++ [some co]) := fun {b} hb n z => by
    obtain ⟨i, c, e1, e2⟩ := mem_live.mp z
    rcases split e2 with e2 | ⟨rfl, _⟩
    · exact n (mem_live.mpr ⟨i, c, old e2 e1, e2⟩)
    · rw [hl] at e1; exact hb (Option.some.inj e1).symm
  have hs : Same (fz hd as S H) (fz hd (as ++ [p]) (S ++ [some co]) (upd H p o)) := fun b u e => by
    have hb : b ≠ p := fun z => by
      subst z
      rw [fz_same _ _ e] at h; cases h
    exact fz_of (by rw [upd_ne hb]; exact fz_same _ _ e) (hlive hb (fz_not e)) (fz_nh e)
  refine ⟨⟨by simp [w.len], fun i j a c c' h1 h2 h3 h4 => ?_, fun q hq => ?_, fun n ys e => ?_⟩, ⟨pre, hs⟩, hl⟩
  · rcases split h3 with h3 | ⟨rfl, _⟩ <;> rcases split h4 with h4 | ⟨rfl, _⟩
    · exact w.inj i j a c c' (old h3 h1) (old h4 h2) h3 h4
    · rw [hl] at h2
      obtain rfl := Option.some.inj h2
      obtain ⟨vs', e⟩ := w.live_some (mem_live.mpr ⟨i, c, old h3 h1, h3⟩)
      rw [h] at e; cases e
    · rw [hl] at h1
      obtain rfl := Option.some.inj h1
      obtain ⟨vs', e⟩ := w.live_some (mem_live.mpr ⟨j, c', old h4 h2, h4⟩)
      rw [h] at e; cases e
    · rfl
  · have hqp : q.1 ≠ p := fun z => by have := (w.hid q hq).1; rw [z, h] at this; cases this
    exact ⟨by rw [upd_ne hqp]; exact (w.hid q hq).1, hlive hqp (w.hid q hq).2⟩
  · rcases split e with e0 | ⟨hz, e0⟩
    · obtain ⟨a, vs', e1, e2, r'⟩ := w.atC n ys e0
      have ha : a ≠ p := fun z => by subst z; rw [h] at e2; cases e2
      exact ⟨a, vs', pre _ _ e1, by rw [upd_ne ha]; exact e2, r'.mono pre hs⟩
    · cases e0
      subst hz
      exact ⟨p, o, hl, upd_same, r.mono pre hs⟩
theorem Wld.newCell (w : Wld K hd as S H) {p : Addr} {vs : List V} {xs : List D} (h : H p = none) (r : RepL K as (fz hd as S H) vs xs) :
    Wld K hd (as ++ [p]) (S ++ [some (.lst xs)]) (upd H p (.lst vs)) ∧ Grow hd as S H (as ++ [p]) (S ++ [some (.lst xs)]) (upd H p (.lst vs)) ∧ (as ++ [p])[S.length]? = some p := w.newC (co := .lst xs) (o := .lst vs) h r
theorem live_set {n : Nat} {co c2 : CO} (e : S[n]? = some (some co)) {b : Addr} : b ∈ live as (S.set n (some c2)) ↔ b ∈ live as S := by
  have hn := (List.getElem?_eq_some_iff.mp e).1
  rw [mem_live, mem_live]
  constructor
  · rintro ⟨i, c, h1, h2⟩
    by_cases hi : n = i
    · subst hi; exact ⟨n, _, h1, e⟩
    · rw [List.getElem?_set_ne hi] at h2; exact ⟨i, c, h1, h2⟩
  · rintro ⟨i, c, h1, h2⟩
    by_cases hi : n = i
    · subst hi; exact ⟨n, _, h1, by rw [List.getElem?_set_self hn]⟩
    · exact ⟨i, c, h1, by rw [List.getElem?_set_ne hi]; exact h2⟩
/-- a cell is written -/
theorem Wld.writeC (w : Wld K hd as S H) {n : Nat} {a : Addr} {co c2 : CO} {o : HO} (e : S[n]? = some (some co)) (ha : as[n]? = some a) (r : CRep K as (fz hd as S H) c2 o) :
    Wld K hd as (S.set n (some c2)) (upd H a o) ∧ Grow hd as S H as (S.set n (some c2)) (upd H a o) := by
  have hn := (List.getElem?_eq_some_iff.mp e).1
  have la : a ∈ live as S := mem_live.mpr ⟨n, _, ha, e⟩
  have hs : Same (fz hd as S H) (fz hd as (S.set n (some c2)) (upd H a o)) := fun b u q => by
    have nb := fz_not q
    have hb : b ≠ a := fun z => nb (by rw [z]; exact la)
    exact fz_of (by rw [upd_ne hb]; exact fz_same _ _ q) (by rw [live_set e]; exact nb) (fz_nh q)
  refine ⟨⟨by simp [w.len], fun i j b c c' h1 h2 h3 h4 => ?_, fun q hq => ⟨by rw [upd_ne (fun z => (w.hid q hq).2 (by rw [z]; exact la))]; exact (w.hid q hq).1, by rw [live_set e]; exact (w.hid q hq).2⟩, fun m zs q => ?_⟩, ⟨fun _ _ h => h, hs⟩⟩
  · have f : ∀ {i : Nat} {c : CO}, (S.set n (some c2))[i]? = some (some c) → ∃ c, S[i]? = some (some c) := fun {i c} h => by
      by_cases hi : n = i
      · subst hi; exact ⟨_, e⟩
      · rw [List.getElem?_set_ne hi] at h; exact ⟨c, h⟩
    obtain ⟨_, g3⟩ := f h3
    obtain ⟨_, g4⟩ := f h4
    exact w.inj i j b _ _ h1 h2 g3 g4
  · by_cases hm : n = m
    · subst hm
      rw [List.getElem?_set_self hn] at q
      cases q
      exact ⟨a, o, ha, upd_same, r.mono (fun _ _ h => h) hs⟩
    · rw [List.getElem?_set_ne hm] at q
      obtain ⟨b, vs, e1, e2, r'⟩ := w.atC m zs q
      have hb : b ≠ a := fun z => hm (w.inj n m a _ _ ha (by rw [← z]; exact e1) e q)
      exact ⟨b, vs, e1, by rw [upd_ne hb]; exact e2, r'.mono (fun _ _ h => h) hs⟩
theorem Wld.write (w : Wld K hd as S H) {n : Nat} {a : Addr} {xs ys : List D} {us : List V} (e : S[n]? = some (some (.lst xs))) (ha : as[n]? = some a) (r : RepL K as (fz hd as S H) us ys) :
    Wld K hd as (S.set n (some (.lst ys))) (upd H a (.lst us)) ∧ Grow hd as S H as (S.set n (some (.lst ys))) (upd H a (.lst us)) := w.writeC (c2 := .lst ys) (o := .lst us) e ha r
/-- a cell is changed no more -/
theorem Wld.freeze (w : Wld K hd as S H) {n : Nat} {a : Addr} {xs : List D} (e : S[n]? = some (some (.lst xs))) (ha : as[n]? = some a) :
    Wld K hd as (S.set n none) H ∧ Grow hd as S H as (S.set n none) H ∧ Rep K as (fz hd as (S.set n none) H) (.ref a) (.lst xs) := by
  have hn := (List.getElem?_eq_some_iff.mp e).1
  have f : ∀ {i : Nat} {c : CO}, (S.set n none)[i]? = some (some c) → S[i]? = some (some c) ∧ i ≠ n := fun {i c} h => by
    by_cases hi : n = i
    · subst hi; rw [List.getElem?_set_self hn] at h; cases h
    · rw [List.getElem?_set_ne hi] at h; exact ⟨h, fun z => hi z.symm⟩
  have hl : ∀ {b : Addr}, b ∈ live as (S.set n none) → b ∈ live as S := fun {b} z => by
    obtain ⟨i, c, h1, h2⟩ := mem_live.mp z
    exact mem_live.mpr ⟨i, c, h1, (f h2).1⟩
  have hs : Same (fz hd as S H) (fz hd as (S.set n none) H) := fun b u q => fz_of (fz_same _ _ q) (fun z => fz_not q (hl z)) (fz_nh q)
  obtain ⟨b, vs, e1, e2, r⟩ := w.at_ n xs e
  rw [ha] at e1; cases e1
  have nh : a ∉ hd.map (·.1) := fun z => by
    obtain ⟨q, hq, eq⟩ := List.mem_map.mp z
    exact (w.hid q hq).2 (by rw [eq]; exact mem_live.mpr ⟨n, _, ha, e⟩)
  have na : a ∉ live as (S.set n none) := fun z => by
    obtain ⟨i, c, h1, h2⟩ := mem_live.mp z
    obtain ⟨g, hi⟩ := f h2
    exact hi (w.inj i n a _ _ h1 ha g e)
  refine ⟨⟨by simp [w.len], fun i j b c c' h1 h2 h3 h4 => w.inj i j b c c' h1 h2 (f h3).1 (f h4).1, fun q hq => ⟨(w.hid q hq).1, fun z => (w.hid q hq).2 (hl z)⟩, fun m zs q => ?_⟩, ⟨fun _ _ h => h, hs⟩, .lst (fz_of e2 na nh) (r.mono (fun _ _ h => h) hs)⟩
  obtain ⟨b, us, g1, g2, r'⟩ := w.atC m zs (f q).1
  exact ⟨b, us, g1, g2, r'.mono (fun _ _ h => h) hs⟩
end
end DL

set_option Elab.async false
set_option linter.all false
set_option maxRecDepth 100000
/-! DL2: judgements: an expression, a test, arguments, statements do to data what a function in M does. -/
namespace DL
open PySem PySem.Spec PyProof.Rows L2

abbrev EM := Env → M D
abbrev BM := Env → M Bool
abbrev AM := Env → M (List D)
inductive Flw where
  | nx | ret (d : D) | brk | cnt
abbrev SM := Env → M (Flw × Env)
@[simp] theorem bind_ap {α β : Type} (m : M α) (f : α → M β) (s : Sto) : M.bind m f s = (m s).bind f := rfl

structure Slots (K : PySem.W.Frag) (as : List Addr) (F : Hp) (σ : L2.St) (ρ : Env) : Prop where
  len : σ.length = ρ.length
  at_ : ∀ (i : Nat) (d : D), ρ[i]? = some (some d) → ∃ v, σ[i]? = some (some v) ∧ Rep K as F v d
structure REL (K : PySem.W.Frag) (hd : Hid) (as : List Addr) (ρ : Env) (S : Sto) (σ : L2.St) (H : Hp) : Prop where
  w : Wld K hd as S H
  s : Slots K as (fz hd as S H) σ ρ
theorem Slots.mono {K : PySem.W.Frag} {as as' : List Addr} {F F' : Hp} {σ : L2.St} {ρ : Env} (h : Slots K as F σ ρ) (ha : ∀ n a : Nat, as[n]? = some a → as'[n]? = some a) (e : Same F F') : Slots K as' F' σ ρ :=
  ⟨h.len, fun i d q => let ⟨v, e1, r⟩ := h.at_ i d q; ⟨v, e1, r.mono ha e⟩⟩
theorem REL.grow {K : PySem.W.Frag} {hd : Hid} {as as' : List Addr} {ρ : Env} {S S' : Sto} {σ : L2.St} {H H' : Hp} (h : REL K hd as ρ S σ H) (g : Grow hd as S H as' S' H') (w : Wld K hd as' S' H') : REL K hd as' ρ S' σ H' := ⟨w, h.s.mono g.pre g.same⟩
theorem Slots.set {K : PySem.W.Frag} {as : List Addr} {F : Hp} {σ : L2.St} {ρ : Env} {v : V} {d : D} (h : Slots K as F σ ρ) (r : Rep K as F v d) (i : Nat) : Slots K as F (σ.set i (some v)) (ρ.set i (some d)) := by
  refine ⟨by simp [h.len], fun j e q => ?_⟩
  by_cases hij : i = j
  · subst hij
    by_cases hi : i < ρ.length
    · rw [List.getElem?_set_self hi] at q
      cases q
      exact ⟨v, by rw [List.getElem?_set_self (by rw [h.len]; exact hi)], r⟩
    · rw [List.getElem?_eq_none (by simpa using Nat.le_of_not_lt hi)] at q; cases q
  · rw [List.getElem?_set_ne hij] at q
    obtain ⟨u, e1, r1⟩ := h.at_ j e q
    exact ⟨u, by rw [List.getElem?_set_ne hij]; exact e1, r1⟩

/-- an error in the air -/
def XRep (K : PySem.W.Frag) (mg : Str → Option Value) (as : List Addr) (F : Hp) (x : XD) (cls : Value) (dd : Option Addr) : Prop :=
  ClsK K x.name cls ∧ mg x.name = some cls ∧ ∃ us, ErD F dd x.ks us ∧ RepL K as F us x.vs

/-- how a step ends, and what is wanted then -/
def Post {α : Type} (K : PySem.W.Frag) (mg : Str → Option Value) (W : WX) (σ : L2.St) (ρ : Env) (hd : Hid) (as : List Addr) (S : Sto) (H : Hp) (r : R α) (k : α → List Addr → Sto → Hp → Prop) : Prop :=
  match r with
  | .ok a S' => ∀ as' H', Grow hd as S H as' S' H' → REL K hd as' ρ S' σ H' → k a as' S' H'
  | .exc x S' => ∀ as' cls dd H', Grow hd as S H as' S' H' → REL K hd as' ρ S' σ H' → XRep K mg as' (fz hd as' S' H') x cls dd → W cls dd σ H'
  | .stuck => False
section
variable {α β : Type} {K : PySem.W.Frag} {mg : Str → Option Value} {W : WX} {σ : L2.St} {ρ : Env} {hd : Hid} {as as1 : List Addr} {S S1 : Sto} {H H1 : Hp}
theorem Post.later {r : R α} {k : α → List Addr → Sto → Hp → Prop} (h : Post K mg W σ ρ hd as S H r k) (g : Grow hd as S H as1 S1 H1) : Post K mg W σ ρ hd as1 S1 H1 r k := by
  cases r with
  | ok a S' => exact fun as' H' g' rel => h as' H' (g.trans g') rel
  | exc x S' => exact fun as' cls dd H' g' rel => h as' cls dd H' (g.trans g') rel
  | stuck => exact h
theorem Post.imp {r : R α} {k k' : α → List Addr → Sto → Hp → Prop} (h : Post K mg W σ ρ hd as S H r k) (f : ∀ a as' S' H', Grow hd as S H as' S' H' → REL K hd as' ρ S' σ H' → k a as' S' H' → k' a as' S' H') : Post K mg W σ ρ hd as S H r k' := by
  cases r with
  | ok a S' => exact fun as' H' g rel => f a as' S' H' g rel (h as' H' g rel)
  | exc x S' => exact h
  | stuck => exact h
theorem Post.bind {r : R α} {f : α → M β} {k : β → List Addr → Sto → Hp → Prop} (h : Post K mg W σ ρ hd as S H (r.bind f) k) : Post K mg W σ ρ hd as S H r (fun a as' S' H' => Post K mg W σ ρ hd as' S' H' (f a S') k) := by
  cases r with
  | ok a S' => exact fun as' H' g rel => Post.later (r := f a S') h g
  | exc x S' => exact h
  | stuck => exact h
end

def tE (K : PySem.W.Frag) (mg : Str → Option Value) (W : WX) (m : EM) : TE := fun σ H Q => ∃ hd as ρ S, REL K hd as ρ S σ H ∧ Post K mg W σ ρ hd as S H (m ρ S) fun d as' S' H' => ∀ v, Rep K as' (fz hd as' S' H') v d → Q v H'
def tT (K : PySem.W.Frag) (mg : Str → Option Value) (W : WX) (m : BM) : TT := fun σ H Q => ∃ hd as ρ S, REL K hd as ρ S σ H ∧ Post K mg W σ ρ hd as S H (m ρ S) fun b _ _ H' => Q b H'
def tA (K : PySem.W.Frag) (mg : Str → Option Value) (W : WX) (m : AM) : TA := fun σ H Q => ∃ hd as ρ S, REL K hd as ρ S σ H ∧ Post K mg W σ ρ hd as S H (m ρ S) fun ds as' S' H' => ∀ vs, RepL K as' (fz hd as' S' H') vs ds → Q vs H'
abbrev DE (X : Cx) (W : WX) (e : Expr) (m : EM) : Prop := PE X e (tE X.K X.mg W m)
abbrev DT (X : Cx) (W : WX) (e : Expr) (m : BM) : Prop := PT X e (tT X.K X.mg W m)
abbrev DW (X : Cx) (W : WX) (e : Expr) (m : BM) : Prop := PW X e (tT X.K X.mg W m)
abbrev DA (X : Cx) (W : WX) (es : List Expr) (m : AM) : Prop := PA X es (tA X.K X.mg W m)

theorem PE.le {X : Cx} {e : Expr} {t t' : TE} (h : PE X e t) (k : ∀ σ H Q, t' σ H Q → t σ H Q) : PE X e t' := ⟨fun pins s σ H Q I q => h.run pins s σ H Q I (k σ H Q q)⟩
theorem PT.le {X : Cx} {e : Expr} {t t' : TT} (h : PT X e t) (k : ∀ σ H Q, t' σ H Q → t σ H Q) : PT X e t' := ⟨fun pins s σ H Q I q => h.run pins s σ H Q I (k σ H Q q)⟩
theorem PW.le {X : Cx} {e : Expr} {t t' : TT} (h : PW X e t) (k : ∀ σ H Q, t' σ H Q → t σ H Q) : PW X e t' := ⟨fun wh pins s σ H Q I q => h.run wh pins s σ H Q I (k σ H Q q)⟩
theorem PA.le {X : Cx} {es : List Expr} {t t' : TA} (h : PA X es t) (k : ∀ σ H Q, t' σ H Q → t σ H Q) : PA X es t' := ⟨fun p pins s σ H Q I q => h.run p pins s σ H Q I (k σ H Q q)⟩
theorem PS.le {X : Cx} {st : Stmt} {t t' : TS} (h : PS X st t) (k : ∀ D σ H, t' D σ H → t D σ H) : PS X st t' := ⟨fun pins s σ H D I q => h.run pins s σ H D I (k D σ H q)⟩
theorem PSs.le {X : Cx} {st : List Stmt} {t t' : TS} (h : PSs X st t) (k : ∀ D σ H, t' D σ H → t D σ H) : PSs X st t' := ⟨fun pins s σ H D I q => h.run pins s σ H D I (k D σ H q)⟩

section
variable {β : Type} {K : PySem.W.Frag} {mg : Str → Option Value} {W : WX} {σ : L2.St} {ρ : Env} {hd : Hid} {as : List Addr} {S : Sto} {H : Hp} {k : β → List Addr → Sto → Hp → Prop}
theorem tE_seq {m : EM} {f : D → M β} {Q : VK} (rel : REL K hd as ρ S σ H) (po : Post K mg W σ ρ hd as S H ((m ρ S).bind f) k)
    (h : ∀ as1 S1 H1 v1 d, Grow hd as S H as1 S1 H1 → REL K hd as1 ρ S1 σ H1 → Rep K as1 (fz hd as1 S1 H1) v1 d → Post K mg W σ ρ hd as1 S1 H1 (f d S1) k → Q v1 H1) : tE K mg W m σ H Q :=
  ⟨hd, as, ρ, S, rel, po.bind.imp fun d as1 S1 H1 g rel1 q v r => h as1 S1 H1 v d g rel1 r q⟩
theorem tT_seq {m : BM} {f : Bool → M β} {Q : Bool → Hp → Prop} (rel : REL K hd as ρ S σ H) (po : Post K mg W σ ρ hd as S H ((m ρ S).bind f) k)
    (h : ∀ as1 S1 H1 b, Grow hd as S H as1 S1 H1 → REL K hd as1 ρ S1 σ H1 → Post K mg W σ ρ hd as1 S1 H1 (f b S1) k → Q b H1) : tT K mg W m σ H Q :=
  ⟨hd, as, ρ, S, rel, po.bind.imp fun b as1 S1 H1 g rel1 q => h as1 S1 H1 b g rel1 q⟩
theorem tA_seq {m : AM} {f : List D → M β} {Q : List V → Hp → Prop} (rel : REL K hd as ρ S σ H) (po : Post K mg W σ ρ hd as S H ((m ρ S).bind f) k)
    (h : ∀ as1 S1 H1 vs ds, Grow hd as S H as1 S1 H1 → REL K hd as1 ρ S1 σ H1 → RepL K as1 (fz hd as1 S1 H1) vs ds → Post K mg W σ ρ hd as1 S1 H1 (f ds S1) k → Q vs H1) : tA K mg W m σ H Q :=
  ⟨hd, as, ρ, S, rel, po.bind.imp fun ds as1 S1 H1 g rel1 q vs r => h as1 S1 H1 vs ds g rel1 r q⟩
/-- the step itself -/
theorem tE_last {m : EM} {Q : VK} (rel : REL K hd as ρ S σ H) (po : Post K mg W σ ρ hd as S H (m ρ S) fun d as' S' H' => ∀ v, Rep K as' (fz hd as' S' H') v d → Q v H') : tE K mg W m σ H Q := ⟨hd, as, ρ, S, rel, po⟩
theorem tT_last {m : BM} {Q : Bool → Hp → Prop} (rel : REL K hd as ρ S σ H) (po : Post K mg W σ ρ hd as S H (m ρ S) fun b _ _ H' => Q b H') : tT K mg W m σ H Q := ⟨hd, as, ρ, S, rel, po⟩
end

/-! ### operations by values -/
def Ret (K : PySem.W.Frag) (hd : Hid) (as : List Addr) (S : Sto) (H : Hp) (r : R D) (run : VK → Prop) : Prop :=
  match r with
  | .ok d S' => ∀ Q : VK, (∀ as' v H', Grow hd as S H as' S' H' → Wld K hd as' S' H' → Rep K as' (fz hd as' S' H') v d → Q v H') → run Q
  | .exc _ _ => False
  | .stuck => True
def Act1 (K : PySem.W.Frag) (r : V → Hp → VK → Prop) (f : D → M D) : Prop := ∀ hd as S H v d, Wld K hd as S H → Rep K as (fz hd as S H) v d → Ret K hd as S H (f d S) (r v H)
def Act2 (K : PySem.W.Frag) (r : R2) (f : D → D → M D) : Prop := ∀ hd as S H v u d e, Wld K hd as S H → Rep K as (fz hd as S H) v d → Rep K as (fz hd as S H) u e → Ret K hd as S H (f d e S) (r v u H)
def ActL (K : PySem.W.Frag) (r : List V → Hp → VK → Prop) (f : List D → M D) : Prop := ∀ hd as S H vs ds, Wld K hd as S H → RepL K as (fz hd as S H) vs ds → Ret K hd as S H (f ds S) (r vs H)
def ActM (K : PySem.W.Frag) (r : V → List V → Hp → VK → Prop) (f : D → List D → M D) : Prop := ∀ hd as S H v vs d ds, Wld K hd as S H → Rep K as (fz hd as S H) v d → RepL K as (fz hd as S H) vs ds → Ret K hd as S H (f d ds S) (r v vs H)
theorem Ret.out {K : PySem.W.Frag} {mg : Str → Option Value} {W : WX} {σ : L2.St} {ρ : Env} {hd : Hid} {as : List Addr} {S : Sto} {H : Hp} {r : R D} {run : VK → Prop} {Q : VK} (h : Ret K hd as S H r run) (rel : REL K hd as ρ S σ H)
    (po : Post K mg W σ ρ hd as S H r fun d as' S' H' => ∀ v, Rep K as' (fz hd as' S' H') v d → Q v H') : run Q := by
  cases r with
  | ok d S' => exact h Q fun as' v H' g w r => po as' H' g (rel.grow g w) v r
  | exc x S' => exact h.elim
  | stuck => exact po.elim
/-- no new cell, nothing changed: the same heap -/
theorem Ret.now {K : PySem.W.Frag} {hd : Hid} {as : List Addr} {S : Sto} {H : Hp} {d : D} {v : V} {run : VK → Prop} (w : Wld K hd as S H) (r : Rep K as (fz hd as S H) v d) (h : ∀ Q : VK, Q v H → run Q) : Ret K hd as S H (.ok d S) run := fun Q q => h Q (q as v H .refl w r)
/-- a new object -/
theorem Ret.fresh {K : PySem.W.Frag} {hd : Hid} {as : List Addr} {S : Sto} {H : Hp} {d : D} {o : HO} {run : VK → Prop} (w : Wld K hd as S H) (r : ∀ p, (fz hd as S (upd H p o)) p = some o → Grow hd as S H as S (upd H p o) → Rep K as (fz hd as S (upd H p o)) (.ref p) d)
    (h : ∀ Q : VK, (∀ p, H p = none → Q (.ref p) (upd H p o)) → run Q) : Ret K hd as S H (.ok d S) run := fun Q q => h Q fun p hp => by
  obtain ⟨w', g, e⟩ := w.fresh (o := o) hp
  exact q as _ _ g w' (r p e g)

/-! ### what stands where a list is wanted -/
def listOf (S : Sto) : D → Option (List D)
  | .lst xs => some xs
  | .ro xs => some xs
  | .cell n => match S[n]? with
    | some (some (.lst xs)) => some xs
    | _ => none
  | _ => none
theorem seqL {K : PySem.W.Frag} {hd : Hid} {as : List Addr} {S : Sto} {H : Hp} {v : V} {d : D} {xs : List D} (w : Wld K hd as S H) (r : Rep K as (fz hd as S H) v d) (h : listOf S d = some xs) : ∃ a vs, v = .ref a ∧ SqL K H a vs ∧ RepL K as (fz hd as S H) vs xs := by
  cases r with
  | lst q r => simp [listOf] at h; subst h; exact ⟨_, _, rfl, .inl (.inl (fz_same _ _ q)), r⟩
  | ro q r => simp [listOf] at h; subst h; exact ⟨_, _, rfl, same_l fz_same q, r⟩
  | cell q =>
    simp only [listOf] at h
    split at h
    · rename_i ys e
      cases h
      obtain ⟨a, vs, e1, e2, r⟩ := w.at_ _ _ e
      rw [q] at e1; cases e1
      exact ⟨_, _, rfl, .inl (.inl e2), r⟩
    · cases h
  | _ => simp [listOf] at h
/-- a list that stands by itself (no script, no constant) -/
def listOw (S : Sto) : D → Option (List D)
  | .lst xs => some xs
  | .cell n => match S[n]? with
    | some (some (.lst xs)) => some xs
    | _ => none
  | _ => none
theorem seqO {K : PySem.W.Frag} {hd : Hid} {as : List Addr} {S : Sto} {H : Hp} {v : V} {d : D} {xs : List D} (w : Wld K hd as S H) (r : Rep K as (fz hd as S H) v d) (h : listOw S d = some xs) : ∃ a vs, v = .ref a ∧ H a = some (.lst vs) ∧ RepL K as (fz hd as S H) vs xs := by
  cases r with
  | lst q r => simp [listOw] at h; subst h; exact ⟨_, _, rfl, fz_same _ _ q, r⟩
  | cell q =>
    simp only [listOw] at h
    split at h
    · rename_i ys e
      cases h
      obtain ⟨a, vs, e1, e2, r⟩ := w.at_ _ _ e
      rw [q] at e1; cases e1
      exact ⟨_, _, rfl, e2, r⟩
    · cases h
  | _ => simp [listOw] at h
theorem seqT {K : PySem.W.Frag} {hd : Hid} {as : List Addr} {S : Sto} {H : Hp} {v : V} {xs : List D} (r : Rep K as (fz hd as S H) v (.tup xs)) : ∃ a vs, v = .ref a ∧ SqT K H a vs ∧ RepL K as (fz hd as S H) vs xs := by
  cases r with
  | tup q r => exact ⟨_, _, rfl, same_t fz_same q, r⟩

/-! ### expressions -/
def eVar (i : Nat) : EM := fun ρ S => match ρ[i]? with
  | some (some d) => .ok d S
  | _ => .stuck
def eC (d : D) : EM := fun _ S => .ok d S
def e1 (f : D → M D) (a : EM) : EM := fun ρ => M.bind (a ρ) f
def e2 (f : D → D → M D) (a b : EM) : EM := fun ρ => M.bind (a ρ) fun x => M.bind (b ρ) fun y => f x y
def aNil : AM := fun _ S => .ok [] S
def aCons (a : EM) (r : AM) : AM := fun ρ => M.bind (a ρ) fun x => M.bind (r ρ) fun xs S => .ok (x :: xs) S
def eL (f : List D → M D) (a : AM) : EM := fun ρ => M.bind (a ρ) f
def eM (f : D → List D → M D) (o : EM) (a : AM) : EM := fun ρ => M.bind (o ρ) fun x => M.bind (a ρ) fun xs => f x xs
def mTup (ds : List D) : M D := fun S => if ds.length ≤ sizeLine then .ok (.tup ds) S else .stuck
def mLst (ds : List D) : M D := fun S => if ds.length ≤ sizeLine then .ok (.lst ds) S else .stuck
def mCell (ds : List D) : M D := fun S => if ds.length ≤ sizeLine then .ok (.cell S.length) (S ++ [some (.lst ds)]) else .stuck
def mBool : D → M Bool
  | .bl b => fun S => .ok b S
  | _ => fun _ => .stuck
def bVal (a : EM) : BM := fun ρ => M.bind (a ρ) mBool
def bNot (a : BM) : BM := fun ρ => M.bind (a ρ) fun b S => .ok (!b) S
def bAnd (a b : BM) : BM := fun ρ => M.bind (a ρ) fun x => if x then b ρ else fun S => .ok false S
def bOr (a b : BM) : BM := fun ρ => M.bind (a ρ) fun x => if x then fun S => .ok true S else b ρ
def eAnd (a b : EM) : EM := fun ρ => M.bind (a ρ) fun d => M.bind (mBool d) fun x => if x then b ρ else fun S => .ok (.bl false) S
def eOr (a b : EM) : EM := fun ρ => M.bind (a ρ) fun d => M.bind (mBool d) fun x => if x then fun S => .ok (.bl true) S else b ρ
def eNot (a : EM) : EM := fun ρ => M.bind (a ρ) fun d => M.bind (mBool d) fun x S => .ok (.bl (!x)) S
def eIf (c : BM) (a b : EM) : EM := fun ρ => M.bind (c ρ) fun x => if x then a ρ else b ρ
/-- what is changed no more is data -/
def mFrz : D → M D
  | .cell n => fun S => match S[n]? with
    | some (some (.lst xs)) => .ok (.lst xs) (S.set n none)
    | _ => .stuck
  | d => fun S => .ok d S

section
variable {X : Cx} {W : WX} {a b c e o : Expr} {es : List Expr} {ma mb mc me : EM} {mt mu : BM} {mr : AM} {pos : Pos}
theorem de_var (i : Nat) {x : Str} (hN : X.N[i]? = some x := by rfl) (hv : Vis X.env.scope x := by first | exact Or.inl rfl | exact Or.inr (Or.inl rfl) | exact Or.inr (Or.inr rfl)) (hd : (x == ("__debug__" : Str)) = false := by decide)
    (hcd : (x == ("__classdict__" : Str)) = false := by decide) : DE X W (.Name x pos) (eVar i) := PE.le (pe_var hN hv hd hcd) fun σ H Q ⟨hd, as, ρ, S, rel, po⟩ => by
  unfold eVar at po
  split at po
  · rename_i d e
    obtain ⟨v, e1, r⟩ := rel.s.at_ i d e
    exact ⟨v, e1, po as H .refl rel v r⟩
  · exact po.elim
theorem PE.const {v : V} {d : D} (h : PE X e (tC v)) (r : ∀ as F, Rep X.K as F v d) : DE X W e (eC d) := PE.le h fun σ H Q ⟨hd, as, ρ, S, rel, po⟩ => po as H .refl rel v (r _ _)
theorem de_int {i : Int} {j} : DE X W (.Constant (.int i) j pos) (eC (.int i)) := PE.const pe_int fun _ _ => .int i
theorem de_bl {i : Bool} {j} : DE X W (.Constant (.bool i) j pos) (eC (.bl i)) := PE.const pe_bl fun _ _ => .bl i
theorem de_str {i : Str} {j} : DE X W (.Constant (.str i) j pos) (eC (.str i)) := PE.const pe_str fun _ _ => .str i
theorem de_non {j} : DE X W (.Constant .none j pos) (eC .non) := PE.const pe_non fun _ _ => .non
/-- a constant of the module -/
theorem de_glob {x : Str} {v : V} {u : Value} {d : D} (hg : Gl X x) (hm : X.mg x = some u) (r : RelV v u) (rd : ∀ as F, Rep X.K as F v d) (hd : (x == ("__debug__" : Str)) = false := by decide) : DE X W (.Name x pos) (eC d) := PE.const (pe_glob hg hm r hd) rd
theorem de_bin {op : Operator} {r : R2} {f : D → D → M D} (ho : OpR X (binaryOp op) r) (act : Act2 X.K r f) (ha : DE X W a ma) (hb : DE X W b mb) : DE X W (.BinOp a op b pos) (e2 f ma mb) :=
  PE.le (pe_op ho ha hb) fun σ H Q ⟨hd, as, ρ, S, rel, po⟩ => tE_seq rel po fun as1 S1 H1 v1 d1 g1 rel1 r1 po1 => tE_seq rel1 po1 fun as2 S2 H2 v2 d2 g2 rel2 r2 po2 =>
    (act hd as2 S2 H2 v1 v2 d1 d2 rel2.w (r1.grow g2) r2).out rel2 po2
theorem de_cmp {op : CmpOp} {r : R2} {f : D → D → M D} (ho : OpR X (compareOp op) r) (act : Act2 X.K r f) (ha : DE X W a ma) (hb : DE X W b mb) (hm : behindInMarks op b = false) : DE X W (.Compare a [op] [b] pos) (e2 f ma mb) :=
  PE.le (pe_cmpR ho ha hb hm) fun σ H Q ⟨hd, as, ρ, S, rel, po⟩ => tE_seq rel po fun as1 S1 H1 v1 d1 g1 rel1 r1 po1 => tE_seq rel1 po1 fun as2 S2 H2 v2 d2 g2 rel2 r2 po2 =>
    (act hd as2 S2 H2 v1 v2 d1 d2 rel2.w (r1.grow g2) r2).out rel2 po2
theorem de_un {op : UnaryOp} {r : V → Hp → VK → Prop} {f : D → M D} (ho : UnR X (unaryOp op) r) (act : Act1 X.K r f) (ha : DE X W a ma) : DE X W (.UnaryOp op a pos) (e1 f ma) :=
  PE.le (pe_un ho ha) fun σ H Q ⟨hd, as, ρ, S, rel, po⟩ => tE_seq rel po fun as1 S1 H1 v1 d1 g1 rel1 r1 po1 => (act hd as1 S1 H1 v1 d1 rel1.w r1).out rel1 po1
theorem da_nil : DA X W [] aNil := PA.le pa_nil fun σ H Q ⟨hd, as, ρ, S, rel, po⟩ => po as H .refl rel [] .nil
theorem da_cons (ha : DE X W a ma) (hr : DA X W es mr) (hs : starEach (a :: es) X.env = (false, eval a X.env) :: starEach es X.env := by rfl) : DA X W (a :: es) (aCons ma mr) :=
  PA.le (pa_cons ha hr hs) fun σ H Q ⟨hd, as, ρ, S, rel, po⟩ => tE_seq rel po fun as1 S1 H1 v1 d1 g1 rel1 r1 po1 => tA_seq rel1 po1 fun as2 S2 H2 vs ds g2 rel2 r2 po2 =>
    po2 as2 H2 .refl rel2 (v1 :: vs) (.cons (r1.grow g2) r2)
theorem ret_tup {K : PySem.W.Frag} {hd : Hid} {as : List Addr} {S : Sto} {H : Hp} {vs : List V} {ds : List D} (w : Wld K hd as S H) (r : RepL K as (fz hd as S H) vs ds) : Ret K hd as S H (mTup ds S) fun Q => vs.length ≤ sizeLine ∧ ∀ p, H p = none → Q (.ref p) (upd H p (.tup vs)) := by
  unfold mTup
  split
  · rename_i hz
    exact Ret.fresh w (fun p e g => .tup (.inl (.inl e)) (r.grow g)) fun Q q => ⟨by rw [r.length]; exact hz, q⟩
  · exact trivial
theorem ret_lst {K : PySem.W.Frag} {hd : Hid} {as : List Addr} {S : Sto} {H : Hp} {vs : List V} {ds : List D} (w : Wld K hd as S H) (r : RepL K as (fz hd as S H) vs ds) : Ret K hd as S H (mLst ds S) fun Q => vs.length ≤ sizeLine ∧ ∀ p, H p = none → Q (.ref p) (upd H p (.lst vs)) := by
  unfold mLst
  split
  · rename_i hz
    exact Ret.fresh w (fun p e g => .lst e (r.grow g)) fun Q q => ⟨by rw [r.length]; exact hz, q⟩
  · exact trivial
theorem ret_cell {K : PySem.W.Frag} {hd : Hid} {as : List Addr} {S : Sto} {H : Hp} {vs : List V} {ds : List D} (w : Wld K hd as S H) (r : RepL K as (fz hd as S H) vs ds) : Ret K hd as S H (mCell ds S) fun Q => vs.length ≤ sizeLine ∧ ∀ p, H p = none → Q (.ref p) (upd H p (.lst vs)) := by
  unfold mCell
  split
  · rename_i hz
    exact fun Q q => ⟨by rw [r.length]; exact hz, fun p hp => by
      obtain ⟨w', g, e⟩ := w.newCell hp r
      exact q _ _ _ g w' (.cell e)⟩
  · exact trivial
theorem de_tup {x1} (h : DA X W es mr) : DE X W (.Tuple es x1 pos) (eL mTup mr) := PE.le (pe_tup h) fun σ H Q ⟨hd, as, ρ, S, rel, po⟩ => tA_seq rel po fun as1 S1 H1 vs ds g1 rel1 r1 po1 => (ret_tup rel1.w r1).out rel1 po1
theorem de_lst (h : DA X W es mr) : DE X W (.List es pos) (eL mLst mr) := PE.le (pe_lst h) fun σ H Q ⟨hd, as, ρ, S, rel, po⟩ => tA_seq rel po fun as1 S1 H1 vs ds g1 rel1 r1 po1 => (ret_lst rel1.w r1).out rel1 po1
theorem de_lstC (h : DA X W es mr) : DE X W (.List es pos) (eL mCell mr) := PE.le (pe_lst h) fun σ H Q ⟨hd, as, ρ, S, rel, po⟩ => tA_seq rel po fun as1 S1 H1 vs ds g1 rel1 r1 po1 => (ret_cell rel1.w r1).out rel1 po1
theorem de_callB {x : Str} {p : Pos} {id : String} {r : List V → Hp → VK → Prop} {f : List D → M D} (hc : CallR X (.builtin id) r) (act : ActL X.K r f) (hg : Gl X x) (hm : X.mg x = none) (hv : bootBuiltins x = some (.builtin id)) (ha : DA X W (e :: es) mr)
    (hn : x ≠ "__name__" := by decide) (hdb : (x == ("__debug__" : Str)) = false := by decide)
    (he : starEach (e :: es) X.env = (false, eval e X.env) :: starEach es X.env := by rfl) (hpl : (backTo pos (starEach es X.env)).any (·.1) = false := by rfl) : DE X W (.Call (.Name x p) (e :: es) [] pos) (eL f mr) :=
  PE.le (pe_callB hc hg hm hv ha hn hdb he hpl) fun σ H Q ⟨hd, as, ρ, S, rel, po⟩ => tA_seq rel po fun as1 S1 H1 vs ds g1 rel1 r1 po1 => (act hd as1 S1 H1 vs ds rel1.w r1).out rel1 po1
theorem de_callTy {x : Str} {p : Pos} {T : String} {r : List V → Hp → VK → Prop} {f : List D → M D} (hc : CallR X (.type T) r) (act : ActL X.K r f) (hg : Gl X x) (hm : X.mg x = none) (hv : bootBuiltins x = some (.type T)) (ha : DA X W (e :: es) mr)
    (hn : x ≠ "__name__" := by decide) (hdb : (x == ("__debug__" : Str)) = false := by decide)
    (he : starEach (e :: es) X.env = (false, eval e X.env) :: starEach es X.env := by rfl) (hpl : (backTo pos (starEach es X.env)).any (·.1) = false := by rfl) : DE X W (.Call (.Name x p) (e :: es) [] pos) (eL f mr) :=
  PE.le (pe_callTy hc hg hm hv ha hn hdb he hpl) fun σ H Q ⟨hd, as, ρ, S, rel, po⟩ => tA_seq rel po fun as1 S1 H1 vs ds g1 rel1 r1 po1 => (act hd as1 S1 H1 vs ds rel1.w r1).out rel1 po1
theorem de_ix {r : R2} {f : D → D → M D} (hr : IxR X r) (act : Act2 X.K r f) (ha : DE X W a ma) (hb : DE X W b mb) (hs : PlainIx b := by intro _ _; rfl) : DE X W (.Subscript a b pos) (e2 f ma mb) :=
  PE.le (pe_ix hr ha hb hs) fun σ H Q ⟨hd, as, ρ, S, rel, po⟩ => tE_seq rel po fun as1 S1 H1 v1 d1 g1 rel1 r1 po1 => tE_seq rel1 po1 fun as2 S2 H2 v2 d2 g2 rel2 r2 po2 =>
    (act hd as2 S2 H2 v1 v2 d1 d2 rel2.w (r1.grow g2) r2).out rel2 po2
theorem de_frz (h : DE X W e me) : DE X W e (e1 mFrz me) := PE.le h fun σ H Q ⟨hd, as, ρ, S, rel, po⟩ => tE_seq rel po fun as1 S1 H1 v1 d1 g1 rel1 r1 po1 => by
  cases r1 with
  | cell q =>
    rename_i n b
    cases e : S1[n]? with
    | none => simp only [mFrz, e] at po1; exact po1.elim
    | some z =>
      cases z with
      | none => simp only [mFrz, e] at po1; exact po1.elim
      | some c =>
        cases c with
        | ins _ _ => simp only [mFrz, e] at po1; exact po1.elim
        | dK _ => simp only [mFrz, e] at po1; exact po1.elim
        | lst xs =>
          simp only [mFrz, e] at po1
          obtain ⟨w', g, r⟩ := rel1.w.freeze e q
          exact po1 _ _ g (rel1.grow g w') _ r
  | non => exact po1 _ _ .refl rel1 _ .non
  | bl i => exact po1 _ _ .refl rel1 _ (.bl i)
  | int i => exact po1 _ _ .refl rel1 _ (.int i)
  | str i => exact po1 _ _ .refl rel1 _ (.str i)
  | dE q => exact po1 _ _ .refl rel1 _ (.dE q)
  | ty i => exact po1 _ _ .refl rel1 _ (.ty i)
  | tup q r => exact po1 _ _ .refl rel1 _ (.tup q r)
  | lst q r => exact po1 _ _ .refl rel1 _ (.lst q r)
  | ro q r => exact po1 _ _ .refl rel1 _ (.ro q r)
  | err q1 q2 q3 r => exact po1 _ _ .refl rel1 _ (.err q1 q2 q3 r)
  | cls q => exact po1 _ _ .refl rel1 _ (.cls q)

/-! ### tests -/
theorem mBool_bl {K : PySem.W.Frag} {as : List Addr} {F : Hp} {v : V} {d : D} (r : Rep K as F v d) {S : Sto} : mBool d S = .stuck ∨ ∃ b, v = .bl b ∧ d = .bl b := by
  cases r with
  | bl i => exact .inr ⟨i, rfl, rfl⟩
  | _ => exact .inl rfl
theorem dt_val (h : DE X W e me) (he : ∀ whole, isTrue e X.env whole = (do let v ← whole; standAt e.pos; holding [v] (truthy v)) := by intro _; rfl) : DT X W e (bVal me) :=
  PT.le (pt_val h he) fun σ H Q ⟨hd, as, ρ, S, rel, po⟩ => tE_seq rel po fun as1 S1 H1 v1 d1 g1 rel1 r1 po1 => by
    rcases mBool_bl r1 (S := S1) with z | ⟨b, rfl, rfl⟩
    · rw [z] at po1; exact po1.elim
    · exact ⟨b, rfl, po1 as1 H1 .refl rel1⟩
theorem dt_not (h : DT X W a mt) : DT X W (.UnaryOp .Not a pos) (bNot mt) := PT.le (pt_not h) fun σ H Q ⟨hd, as, ρ, S, rel, po⟩ => tT_seq rel po fun as1 S1 H1 b g1 rel1 po1 => po1 as1 H1 .refl rel1
theorem dw_and1 (h : DT X W a mt) : DW X W (.BoolOp .And [a] pos) mt := pw_and1 h
theorem dw_or1 (h : DT X W a mt) : DW X W (.BoolOp .Or [a] pos) mt := pw_or1 h
theorem dw_and (ha : DT X W a mt) (hb : DW X W (.BoolOp .And (b :: es) pos) mu) : DW X W (.BoolOp .And (a :: b :: es) pos) (bAnd mt mu) :=
  PW.le (pw_and ha hb) fun σ H Q ⟨hd, as, ρ, S, rel, po⟩ => tT_seq rel po fun as1 S1 H1 b g1 rel1 po1 => by
    cases b with
    | true => exact iteT (tT_last rel1 po1)
    | false => exact iteF (po1 as1 H1 .refl rel1)
theorem dw_or (ha : DT X W a mt) (hb : DW X W (.BoolOp .Or (b :: es) pos) mu) : DW X W (.BoolOp .Or (a :: b :: es) pos) (bOr mt mu) :=
  PW.le (pw_or ha hb) fun σ H Q ⟨hd, as, ρ, S, rel, po⟩ => tT_seq rel po fun as1 S1 H1 b g1 rel1 po1 => by
    cases b with
    | true => exact iteT (po1 as1 H1 .refl rel1)
    | false => exact iteF (tT_last rel1 po1)
theorem de_one {op} (h : DE X W a ma) : DE X W (.BoolOp op [a] pos) ma := pe_one h
theorem de_and (ha : DE X W a ma) (hb : DE X W (.BoolOp .And (b :: es) pos) mb) : DE X W (.BoolOp .And (a :: b :: es) pos) (eAnd ma mb) :=
  PE.le (pe_and ha hb) fun σ H Q ⟨hd, as, ρ, S, rel, po⟩ => tE_seq rel po fun as1 S1 H1 v1 d1 g1 rel1 r1 po1 => by
    rcases mBool_bl r1 (S := S1) with z | ⟨b, rfl, rfl⟩
    · rw [bind_ap, z] at po1; exact po1.elim
    · refine ⟨b, rfl, ?_⟩
      cases b with
      | true => exact iteT (tE_last rel1 po1)
      | false => exact iteF (po1 as1 H1 .refl rel1 _ (.bl false))
theorem de_or (ha : DE X W a ma) (hb : DE X W (.BoolOp .Or (b :: es) pos) mb) : DE X W (.BoolOp .Or (a :: b :: es) pos) (eOr ma mb) :=
  PE.le (pe_or ha hb) fun σ H Q ⟨hd, as, ρ, S, rel, po⟩ => tE_seq rel po fun as1 S1 H1 v1 d1 g1 rel1 r1 po1 => by
    rcases mBool_bl r1 (S := S1) with z | ⟨b, rfl, rfl⟩
    · rw [bind_ap, z] at po1; exact po1.elim
    · refine ⟨b, rfl, ?_⟩
      cases b with
      | true => exact iteT (po1 as1 H1 .refl rel1 _ (.bl true))
      | false => exact iteF (tE_last rel1 po1)
theorem de_not (ha : DE X W a ma) : DE X W (.UnaryOp .Not a pos) (eNot ma) :=
  PE.le (pe_not ha) fun σ H Q ⟨hd, as, ρ, S, rel, po⟩ => tE_seq rel po fun as1 S1 H1 v1 d1 g1 rel1 r1 po1 => by
    rcases mBool_bl r1 (S := S1) with z | ⟨b, rfl, rfl⟩
    · rw [bind_ap, z] at po1; exact po1.elim
    · exact ⟨b, rfl, po1 as1 H1 .refl rel1 _ (.bl _)⟩
/-- a < b < c -/
def eChain (f g : D → D → M D) (a b c : EM) : EM := fun ρ => M.bind (a ρ) fun x => M.bind (b ρ) fun y => M.bind (f x y) fun z => M.bind (mBool z) fun k => if k then M.bind (c ρ) fun w => g y w else fun S => .ok (.bl false) S
theorem tR_seq {β : Type} {K : PySem.W.Frag} {mg : Str → Option Value} {σ : L2.St} {ρ : Env} {hd : Hid} {as : List Addr} {S : Sto} {H : Hp} {k : β → List Addr → Sto → Hp → Prop} {m : M D} {f : D → M β} {run : VK → Prop} {Q : VK} (h : Ret K hd as S H (m S) run) (rel : REL K hd as ρ S σ H)
    (po : Post K mg W σ ρ hd as S H ((m S).bind f) k) (q : ∀ as1 S1 H1 v d, Grow hd as S H as1 S1 H1 → REL K hd as1 ρ S1 σ H1 → Rep K as1 (fz hd as1 S1 H1) v d → Post K mg W σ ρ hd as1 S1 H1 (f d S1) k → Q v H1) : run Q :=
  h.out rel (po.bind.imp fun d as1 S1 H1 g rel1 p v r => q as1 S1 H1 v d g rel1 r p)
theorem de_chain {op op' : CmpOp} {r r' : R2} {f g : D → D → M D} (ho : OpR X (compareOp op) r) (ho' : OpR X (compareOp op') r') (act : Act2 X.K r f) (act' : Act2 X.K r' g) (ha : DE X W a ma) (hb : DE X W b mb) (hc : DE X W c mc) (hl : lastMarks [op, op'] [b, c] = false := by with_unfolding_all rfl) :
    DE X W (.Compare a [op, op'] [b, c] pos) (eChain f g ma mb mc) :=
  PE.le (pe_chain ho ho' ha hb hc hl) fun σ H Q ⟨hd, as, ρ, S, rel, po⟩ => tE_seq rel po fun as1 S1 H1 v1 d1 g1 rel1 r1 po1 => tE_seq rel1 po1 fun as2 S2 H2 v2 d2 g2 rel2 r2 po2 =>
    tR_seq (act hd as2 S2 H2 v1 v2 d1 d2 rel2.w (r1.grow g2) r2) rel2 po2 fun as3 S3 H3 v3 d3 g3 rel3 r3 po3 => by
      rcases mBool_bl r3 (S := S3) with z | ⟨b, rfl, rfl⟩
      · rw [bind_ap, z] at po3; exact po3.elim
      · refine ⟨b, rfl, ?_⟩
        cases b with
        | true => exact iteT (tE_seq rel3 po3 fun as4 S4 H4 v4 d4 g4 rel4 r4 po4 => (act' hd as4 S4 H4 v2 v4 d2 d4 rel4.w ((r2.grow g3).grow g4) r4).out rel4 po4)
        | false => exact iteF (po3 as3 H3 .refl rel3 _ (.bl false))
/-- slices -/
abbrev OM := Env → M (Option Int)
def oNone : OM := fun _ S => .ok none S
def oSome (m : EM) : OM := fun ρ => M.bind (m ρ) fun d => match d with
  | .int i => fun S => .ok (some i) S
  | _ => fun _ => .stuck
def tO (K : PySem.W.Frag) (mg : Str → Option Value) (W : WX) (m : OM) : TO := fun σ H Q => ∃ hd as ρ S, REL K hd as ρ S σ H ∧ Post K mg W σ ρ hd as S H (m ρ S) fun o _ _ H' => Q o H'
abbrev DO (X : Cx) (W : WX) (e : Option Expr) (m : OM) : Prop := PO X e (tO X.K X.mg W m)
theorem PO.le {X : Cx} {e : Option Expr} {t t' : TO} (h : PO X e t) (k : ∀ σ H Q, t' σ H Q → t σ H Q) : PO X e t' := ⟨fun pins s σ H Q I q => h.run pins s σ H Q I (k σ H Q q)⟩
theorem do_none : DO X W none oNone := PO.le po_none fun σ H Q ⟨hd, as, ρ, S, rel, po⟩ => po as H .refl rel
theorem do_some (h : DE X W e me) : DO X W (some e) (oSome me) := PO.le (po_some h) fun σ H Q ⟨hd, as, ρ, S, rel, po⟩ => tE_seq rel po fun as1 S1 H1 v1 d1 g1 rel1 r1 po1 => by
  cases r1 with
  | int i => exact ⟨i, rfl, po1 as1 H1 .refl rel1⟩
  | _ => exact po1.elim
theorem tO_seq {β : Type} {K : PySem.W.Frag} {mg : Str → Option Value} {σ : L2.St} {ρ : Env} {hd : Hid} {as : List Addr} {S : Sto} {H : Hp} {k : β → List Addr → Sto → Hp → Prop} {m : OM} {f : Option Int → M β} {Q : Option Int → Hp → Prop} (rel : REL K hd as ρ S σ H)
    (po : Post K mg W σ ρ hd as S H ((m ρ S).bind f) k) (h : ∀ as1 S1 H1 o, Grow hd as S H as1 S1 H1 → REL K hd as1 ρ S1 σ H1 → Post K mg W σ ρ hd as1 S1 H1 (f o S1) k → Q o H1) : tO K mg W m σ H Q :=
  ⟨hd, as, ρ, S, rel, po.bind.imp fun o as1 S1 H1 g rel1 q => h as1 S1 H1 o g rel1 q⟩
def ActS (K : PySem.W.Frag) (r : V → Option Int → Option Int → Hp → VK → Prop) (f : D → Option Int → Option Int → M D) : Prop := ∀ hd as S H v d lo hi, Wld K hd as S H → Rep K as (fz hd as S H) v d → Ret K hd as S H (f d lo hi S) (r v lo hi H)
def eSl (f : D → Option Int → Option Int → M D) (a : EM) (l u : OM) : EM := fun ρ => M.bind (a ρ) fun x => M.bind (l ρ) fun i => M.bind (u ρ) fun j => f x i j
theorem de_slice {lo hi : Option Expr} {p2 : Pos} {r : V → Option Int → Option Int → Hp → VK → Prop} {f : D → Option Int → Option Int → M D} {ml mh : OM} (hr : SlR X r) (act : ActS X.K r f) (he : DE X W e me) (hl : DO X W lo ml) (hu : DO X W hi mh) :
    DE X W (.Subscript e (.Slice lo hi none p2) pos) (eSl f me ml mh) :=
  PE.le (pe_slice hr he hl hu) fun σ H Q ⟨hd, as, ρ, S, rel, po⟩ => tE_seq rel po fun as1 S1 H1 v1 d1 g1 rel1 r1 po1 => tO_seq rel1 po1 fun as2 S2 H2 i g2 rel2 po2 => tO_seq rel2 po2 fun as3 S3 H3 j g3 rel3 po3 =>
    (act hd as3 S3 H3 v1 d1 i j rel3.w ((r1.grow g2).grow g3)).out rel3 po3
/-- a built-in's methods -/
def eMt (chk : D → Sto → Bool) (f : D → List D → M D) (o : EM) (a : AM) : EM := fun ρ => M.bind (o ρ) fun x => fun S => if chk x S then ((a ρ S).bind fun xs => f x xs) else .stuck
def TyOk (K : PySem.W.Frag) (T : String) (chk : D → Sto → Bool) : Prop := ∀ hd as S H v d, Wld K hd as S H → Rep K as (fz hd as S H) v d → chk d S = true → tyV K T v H
theorem de_bm {T id : String} {name : Str} {apos : Pos} {r : V → List V → Hp → VK → Prop} {f : D → List D → M D} {chk : D → Sto → Bool} (pa : PlainAttrs T) (slot : Slot T name id) (hty : typeOf (.builtin id) = pure (.type "method_descriptor")) (hm : MtR X id r)
    (act : ActM X.K r f) (ty : TyOk X.K T chk) (ho : DE X W o mb) (ha : DA X W (e :: es) mr) (hbase : attributeBase o name X.env (eval o X.env) = eval o X.env := by rfl) (hline : (apos.endLine == pos.line) = true := by rfl)
    (hst : starEach (e :: es) X.env = (false, eval e X.env) :: starEach es X.env := by rfl) (hpl : (backTo pos (starEach es X.env)).any (·.1) = false := by rfl)
    (hfw : ((backTo pos (starEach (e :: es) X.env)).all (fun x => !x.1) && (backToKw pos (keywordEach [] X.env)).all (fun x => x.1.isSome) && decide ((e :: es).length + ([] : List Keyword).length + (if ([] : List Keyword).isEmpty then 0 else 1) < 30)) = true := by rfl) :
    DE X W (.Call (.Attribute o name apos) (e :: es) [] pos) (eMt chk f mb mr) :=
  PE.le (pe_bm pa slot hty hm ho ha hbase hfw hline hst hpl) fun σ H Q ⟨hd, as, ρ, S, rel, po⟩ => tE_seq rel po fun as1 S1 H1 v1 d1 g1 rel1 r1 po1 => by
    by_cases hk : chk d1 S1 = true
    · rw [if_pos hk] at po1
      exact ⟨ty hd as1 S1 H1 v1 d1 rel1.w r1 hk, tA_seq rel1 po1 fun as2 S2 H2 vs ds g2 rel2 r2 po2 => (act hd as2 S2 H2 v1 vs d1 ds rel2.w (r1.grow g2) r2).out rel2 po2⟩
    · rw [if_neg hk] at po1; exact po1.elim
theorem de_bm0 {T id : String} {name : Str} {apos : Pos} {r : V → List V → Hp → VK → Prop} {f : D → List D → M D} {chk : D → Sto → Bool} (pa : PlainAttrs T) (slot : Slot T name id) (hty : typeOf (.builtin id) = pure (.type "method_descriptor")) (hm : MtR X id r)
    (act : ActM X.K r f) (ty : TyOk X.K T chk) (ho : DE X W o mb) (hbase : attributeBase o name X.env (eval o X.env) = eval o X.env := by rfl) (hline : (apos.endLine == pos.line) = true := by rfl) : DE X W (.Call (.Attribute o name apos) [] [] pos) (eMt chk f mb aNil) :=
  PE.le (pe_bm0 pa slot hty hm ho hbase hline) fun σ H Q ⟨hd, as, ρ, S, rel, po⟩ => tE_seq rel po fun as1 S1 H1 v1 d1 g1 rel1 r1 po1 => by
    by_cases hk : chk d1 S1 = true
    · rw [if_pos hk] at po1
      exact ⟨ty hd as1 S1 H1 v1 d1 rel1.w r1 hk, (act hd as1 S1 H1 v1 [] d1 [] rel1.w r1 .nil).out rel1 po1⟩
    · rw [if_neg hk] at po1; exact po1.elim
end
end DL

set_option Elab.async false
set_option linter.all false
set_option maxRecDepth 100000
/-! DL3: statements, targets, what is walked, loops, comprehensions. -/
namespace DL
open PySem PySem.Spec PyProof.Rows L2

/-! ### statements -/
inductive RS where
  | ok (f : Flw) (ρ : Env) (S : Sto)
  | exc (x : XD) (ρ : Env) (S : Sto)
  | stuck
abbrev SD := Env → Sto → RS
def R.to {α : Type} (r : R α) (ρ : Env) (k : α → Sto → RS) : RS := match r with
  | .ok a S => k a S
  | .exc x S => .exc x ρ S
  | .stuck => .stuck
@[simp] theorem R.to_ok {α : Type} (a : α) (S : Sto) (ρ : Env) (k : α → Sto → RS) : (R.ok a S).to ρ k = k a S := rfl
@[simp] theorem R.to_exc {α : Type} (x : XD) (S : Sto) (ρ : Env) (k : α → Sto → RS) : (R.exc (α := α) x S).to ρ k = .exc x ρ S := rfl
@[simp] theorem R.to_stuck {α : Type} (ρ : Env) (k : α → Sto → RS) : (R.stuck (α := α)).to ρ k = .stuck := rfl
def PostS (K : PySem.W.Frag) (mg : Str → Option Value) (W : WX) (hd : Hid) (as : List Addr) (S : Sto) (H : Hp) (Dn : Ends) (r : RS) : Prop :=
  match r with
  | .ok .nx ρ' S' => ∀ as' σ' H', Grow hd as S H as' S' H' → REL K hd as' ρ' S' σ' H' → Dn.nx σ' H'
  | .ok (.ret d) ρ' S' => ∀ as' v H', Grow hd as S H as' S' H' → Wld K hd as' S' H' → Rep K as' (fz hd as' S' H') v d → Dn.rt v H'
  | .ok .brk ρ' S' => ∀ as' σ' H', Grow hd as S H as' S' H' → REL K hd as' ρ' S' σ' H' → Dn.bk σ' H'
  | .ok .cnt ρ' S' => ∀ as' σ' H', Grow hd as S H as' S' H' → REL K hd as' ρ' S' σ' H' → Dn.ct σ' H'
  | .exc x ρ' S' => ∀ as' cls dd σ' H', Grow hd as S H as' S' H' → REL K hd as' ρ' S' σ' H' → XRep K mg as' (fz hd as' S' H') x cls dd → W cls dd σ' H'
  | .stuck => False
def tS (K : PySem.W.Frag) (mg : Str → Option Value) (W : WX) (m : SD) : TS := fun Dn σ H => ∃ hd as ρ S, REL K hd as ρ S σ H ∧ PostS K mg W hd as S H Dn (m ρ S)
abbrev DS (X : Cx) (W : WX) (st : Stmt) (m : SD) : Prop := PS X st (tS X.K X.mg W m)
abbrev DSs (X : Cx) (W : WX) (st : List Stmt) (m : SD) : Prop := PSs X st (tS X.K X.mg W m)
section
variable {K : PySem.W.Frag} {mg : Str → Option Value} {W : WX} {hd : Hid} {as as1 : List Addr} {S S1 : Sto} {σ : L2.St} {ρ : Env} {H H1 : Hp} {Dn : Ends}
theorem PostS.later {r : RS} (h : PostS K mg W hd as S H Dn r) (g : Grow hd as S H as1 S1 H1) : PostS K mg W hd as1 S1 H1 Dn r := by
  match r, h with
  | .ok .nx ρ' S', h => exact fun as' σ' H' g' rel => h as' σ' H' (g.trans g') rel
  | .ok (.ret d) ρ' S', h => exact fun as' v H' g' w r => h as' v H' (g.trans g') w r
  | .ok .brk ρ' S', h => exact fun as' σ' H' g' rel => h as' σ' H' (g.trans g') rel
  | .ok .cnt ρ' S', h => exact fun as' σ' H' g' rel => h as' σ' H' (g.trans g') rel
  | .exc x ρ' S', h => exact fun as' cls dd σ' H' g' rel => h as' cls dd σ' H' (g.trans g') rel
  | .stuck, h => exact h
theorem PostS.toE {α : Type} {r : R α} {k : α → Sto → RS} (rel : REL K hd as ρ S σ H) (h : PostS K mg W hd as S H Dn (r.to ρ k)) : Post K mg W σ ρ hd as S H r fun a as' S' H' => PostS K mg W hd as' S' H' Dn (k a S') := by
  cases r with
  | ok a S' => exact fun as' H' g rel' => PostS.later (r := k a S') h g
  | exc x S' => exact fun as' cls dd H' g rel' xr => h as' cls dd σ H' g rel' xr
  | stuck => exact h
theorem tE_to {m : EM} {k : D → Sto → RS} {Q : VK} (rel : REL K hd as ρ S σ H) (po : PostS K mg W hd as S H Dn ((m ρ S).to ρ k))
    (h : ∀ as1 S1 H1 v1 d, Grow hd as S H as1 S1 H1 → REL K hd as1 ρ S1 σ H1 → Rep K as1 (fz hd as1 S1 H1) v1 d → PostS K mg W hd as1 S1 H1 Dn (k d S1) → Q v1 H1) : tE K mg W m σ H Q :=
  ⟨hd, as, ρ, S, rel, (po.toE rel).imp fun d as1 S1 H1 g rel1 q v r => h as1 S1 H1 v d g rel1 r q⟩
theorem tT_to {m : BM} {k : Bool → Sto → RS} {Q : Bool → Hp → Prop} (rel : REL K hd as ρ S σ H) (po : PostS K mg W hd as S H Dn ((m ρ S).to ρ k))
    (h : ∀ as1 S1 H1 b, Grow hd as S H as1 S1 H1 → REL K hd as1 ρ S1 σ H1 → PostS K mg W hd as1 S1 H1 Dn (k b S1) → Q b H1) : tT K mg W m σ H Q :=
  ⟨hd, as, ρ, S, rel, (po.toE rel).imp fun b as1 S1 H1 g rel1 q => h as1 S1 H1 b g rel1 q⟩
theorem tA_to {m : AM} {k : List D → Sto → RS} {Q : List V → Hp → Prop} (rel : REL K hd as ρ S σ H) (po : PostS K mg W hd as S H Dn ((m ρ S).to ρ k))
    (h : ∀ as1 S1 H1 vs ds, Grow hd as S H as1 S1 H1 → REL K hd as1 ρ S1 σ H1 → RepL K as1 (fz hd as1 S1 H1) vs ds → PostS K mg W hd as1 S1 H1 Dn (k ds S1) → Q vs H1) : tA K mg W m σ H Q :=
  ⟨hd, as, ρ, S, rel, (po.toE rel).imp fun ds as1 S1 H1 g rel1 q vs r => h as1 S1 H1 vs ds g rel1 r q⟩
end

/-- behind a: b -/
def sSeq (a b : SD) : SD := fun ρ S => match a ρ S with
  | .ok .nx ρ' S' => b ρ' S'
  | r => r
def sNx : SD := fun ρ S => .ok .nx ρ S
def sBrk : SD := fun ρ S => .ok .brk ρ S
def sCnt : SD := fun ρ S => .ok .cnt ρ S
def sRet (m : EM) : SD := fun ρ S => (m ρ S).to ρ fun d S' => .ok (.ret d) ρ S'
def sRetN : SD := fun ρ S => .ok (.ret .non) ρ S
def sSet (i : Nat) (m : EM) : SD := fun ρ S => (m ρ S).to ρ fun d S' => .ok .nx (ρ.set i (some d)) S'
def sExpr (m : EM) : SD := fun ρ S => (m ρ S).to ρ fun _ S' => .ok .nx ρ S'
def sIf (c : BM) (a b : SD) : SD := fun ρ S => (c ρ S).to ρ fun k S' => if k then a ρ S' else b ρ S'
def sNever : SD := fun _ _ => .stuck

/-! ### targets -/
inductive Tg where
  | nm (i : Nat) | tup (ts : List Tg)
mutual
def Tg.slots : Tg → List Nat
  | .nm i => [i]
  | .tup ts => Tg.slotsL ts
def Tg.slotsL : List Tg → List Nat
  | [] => []
  | t :: ts => t.slots ++ Tg.slotsL ts
end
mutual
def asg : Tg → D → Env → Option Env
  | .nm i, d, ρ => some (ρ.set i (some d))
  | .tup ts, .tup ds, ρ => if ds.length = ts.length then asgL ts ds ρ else none
  | .tup _, _, _ => none
def asgL : List Tg → List D → Env → Option Env
  | [], [], ρ => some ρ
  | t :: ts, d :: ds, ρ => (asg t d ρ).bind fun ρ' => asgL ts ds ρ'
  | _, _, _ => none
end
mutual
def gOf (K : PySem.W.Frag) : Tg → TG
  | .nm i => gName i
  | .tup ts => gTup K ts.length (gOfL K ts)
def gOfL (K : PySem.W.Frag) : List Tg → TGs
  | [] => gNil
  | t :: ts => gCons (gOf K t) (gOfL K ts)
end
theorem wipe_set {σ : L2.St} {i : Nat} {x : Option V} : ∀ {vs : List Nat}, i ∈ vs → wipe (σ.set i x) vs = wipe σ vs
  | [], h => by simp at h
  | v :: vs, h => by
    unfold wipe
    by_cases hi : i ∈ vs
    · rw [wipe_set hi]
    · have e : i = v := by simpa [hi] using h
      subst e
      have k : ∀ (ws : List Nat), i ∉ ws → wipe (σ.set i x) ws = (wipe σ ws).set i x := by
        intro ws
        induction ws with
        | nil => intro _; rfl
        | cons w ws ih =>
          intro hw
          have h1 : i ≠ w := fun z => hw (by simp [z])
          have h2 : i ∉ ws := fun z => hw (by simp [z])
          unfold wipe
          rw [ih h2, List.set_comm _ _ h1]
      rw [k vs hi, List.set_set]
theorem wipe_wipe {σ : L2.St} (vs : List Nat) : wipe (wipe σ vs) vs = wipe σ vs := by
  have k : ∀ (us : List Nat), (∀ u ∈ us, u ∈ vs) → wipe (wipe σ us) vs = wipe σ vs := by
    intro us
    induction us with
    | nil => intro _; rfl
    | cons u us ih =>
      intro h
      show wipe ((wipe σ us).set u none) vs = _
      rw [wipe_set (h u (by simp)), ih fun x hx => h x (by simp [hx])]
  exact k vs fun _ h => h
section
variable {K : PySem.W.Frag} {as : List Addr} {F : Hp}
mutual
theorem gOf_ok : ∀ {T : Tg} {σ : L2.St} {ρ ρ' : Env} {v : V} {d : D} {H : Hp} {Q : L2.St → Hp → Prop}, Slots K as F σ ρ → Rep K as F v d → Same F H → asg T d ρ = some ρ' →
    (∀ σ', Slots K as F σ' ρ' → (∀ vs, (∀ i ∈ T.slots, i ∈ vs) → wipe σ' vs = wipe σ vs) → Q σ' H) → gOf K T v σ H Q
  | .nm i, σ, ρ, ρ', v, d, H, Q, s, r, _, e, q => by
    simp only [asg, Option.some.injEq] at e
    subst e
    exact q _ (s.set r i) fun vs hv => wipe_set (hv i (by simp [Tg.slots]))
  | .tup ts, σ, ρ, ρ', v, d, H, Q, s, r, hF, e, q => by
    cases d with
    | tup ds =>
      simp only [asg] at e
      split at e
      · rename_i hl
        cases r with
        | tup hq hr =>
          refine ⟨_, _, rfl, same_t hF hq, by rw [hr.length]; exact hl, gOfL_ok s hr hF e fun σ' s' w => q σ' s' fun vs hv => w vs fun i hi => hv i (by simpa [Tg.slots] using hi)⟩
      · cases e
    | _ => simp [asg] at e
theorem gOfL_ok : ∀ {ts : List Tg} {σ : L2.St} {ρ ρ' : Env} {vs : List V} {ds : List D} {H : Hp} {Q : L2.St → Hp → Prop}, Slots K as F σ ρ → RepL K as F vs ds → Same F H → asgL ts ds ρ = some ρ' →
    (∀ σ', Slots K as F σ' ρ' → (∀ ws, (∀ i ∈ Tg.slotsL ts, i ∈ ws) → wipe σ' ws = wipe σ ws) → Q σ' H) → gOfL K ts vs σ H Q
  | [], σ, ρ, ρ', vs, ds, H, Q, s, r, _, e, q => by
    cases ds with
    | nil =>
      cases r
      simp only [asgL, Option.some.injEq] at e
      subst e
      exact ⟨rfl, q σ s fun _ _ => rfl⟩
    | cons d ds => simp [asgL] at e
  | t :: ts, σ, ρ, ρ', vs, ds, H, Q, s, r, hF, e, q => by
    cases ds with
    | nil => simp [asgL] at e
    | cons d ds =>
      cases r with
      | cons r1 r2 =>
        simp only [asgL] at e
        cases e1 : asg t d ρ with
        | none => rw [e1] at e; cases e
        | some ρ1 =>
          rw [e1] at e
          exact ⟨_, _, rfl, gOf_ok s r1 hF e1 fun σ1 s1 w1 => gOfL_ok s1 r2 hF e fun σ2 s2 w2 => q σ2 s2 fun ws hw => by
            rw [w2 ws fun i hi => hw i (by simp [Tg.slotsL, hi]), w1 ws fun i hi => hw i (by simp [Tg.slotsL, hi])]⟩
end
end
abbrev DG (X : Cx) (tg : Expr) (T : Tg) : Prop := PG X tg (gOf X.K T)
abbrev DGs (X : Cx) (es : List Expr) (ts : List Tg) : Prop := PGs X es (gOfL X.K ts)
def sAsg (T : Tg) (m : EM) : SD := fun ρ S => (m ρ S).to ρ fun d S' => match asg T d ρ with
  | some ρ' => .ok .nx ρ' S'
  | none => .stuck

/-! ### what is walked -/
structure ItD where
  nx : Nat → Sto → Option (Option D)
  fu : Nat
abbrev IM := Env → M ItD
def itL (xs : List D) : ItD := ⟨fun i _ => some xs[i]?, xs.length + 1⟩
def itC (n : Nat) (k : Nat) : ItD := ⟨fun i S => match S[n]? with
  | some (some (.lst xs)) => some xs[i]?
  | _ => none, k + 1⟩
def JOk (K : PySem.W.Frag) (as0 : List Addr) (F0 : Hp) (J : It) (it : ItD) : Prop := ∀ (i : Nat) (hd : Hid) (as : List Addr) (S : Sto) (H : Hp), (∀ n a : Nat, as0[n]? = some a → as[n]? = some a) → Same F0 (fz hd as S H) → Wld K hd as S H →
  match it.nx i S with
  | none => True
  | some none => J.stop i H
  | some (some d) => J.go i H ∧ ∀ x H', J.yld i H x H' → Wld K hd as S H' ∧ Grow hd as S H as S H' ∧ Rep K as (fz hd as S H') x d
def tI (K : PySem.W.Frag) (mg : Str → Option Value) (W : WX) (m : IM) : TI := fun σ H Rk => ∃ hd as ρ S, REL K hd as ρ S σ H ∧ Post K mg W σ ρ hd as S H (m ρ S) fun it as' S' H' => ∀ J, JOk K as' (fz hd as' S' H') J it → Rk J H'
abbrev DI (X : Cx) (W : WX) (tg iter : Expr) (m : IM) : Prop := PI X tg iter (tI X.K X.mg W m)
theorem PI.le {X : Cx} {tg iter : Expr} {t t' : TI} (h : PI X tg iter t) (k : ∀ σ H R, t' σ H R → t σ H R) : PI X tg iter t' := ⟨fun pins s σ H R I q => h.run pins s σ H R I (k σ H R q)⟩

/-! ### loops -/
def forLoop (nx : Nat → Sto → Option (Option D)) (T : Tg) (b : SD) : Nat → Nat → SD
  | 0, _, _, _ => .stuck
  | n + 1, i, ρ, S => match nx i S with
    | none => .stuck
    | some none => .ok .nx ρ S
    | some (some d) => match asg T d ρ with
      | none => .stuck
      | some ρ' => match b ρ' S with
        | .ok .nx ρ2 S2 => forLoop nx T b n (i + 1) ρ2 S2
        | .ok .cnt ρ2 S2 => forLoop nx T b n (i + 1) ρ2 S2
        | .ok .brk ρ2 S2 => .ok .nx ρ2 S2
        | r => r
def sFor (im : IM) (T : Tg) (b : SD) : SD := fun ρ S => (im ρ S).to ρ fun it S' => forLoop it.nx T b it.fu 0 ρ S'
def whLoop (c : BM) (b : SD) : Nat → SD
  | 0, _, _ => .stuck
  | n + 1, ρ, S => (c ρ S).to ρ fun k S1 => if k then (match b ρ S1 with
        | .ok .nx ρ2 S2 => whLoop c b n ρ2 S2
        | .ok .cnt ρ2 S2 => whLoop c b n ρ2 S2
        | .ok .brk ρ2 S2 => .ok .nx ρ2 S2
        | r => r) else .ok .nx ρ S1
/-- how often a while goes at most: a number that is never reckoned -/
@[irreducible] def FU : Nat := 2 ^ 100000
def sWhile (c : BM) (b : SD) : SD := fun ρ S => whLoop c b FU ρ S
/-- a comprehension -/
def wipeD (ρ : Env) : List Nat → Env
  | [] => ρ
  | v :: vs => (wipeD ρ vs).set v none
def bYes : BM := fun _ S => .ok true S
def lcLoop (nx : Nat → Sto → Option (Option D)) (T : Tg) (c : BM) (e : EM) (ρ : Env) : Nat → Nat → List D → M (List D)
  | 0, _, _, _ => .stuck
  | n + 1, i, acc, S => match nx i S with
    | none => .stuck
    | some none => .ok acc S
    | some (some d) => match asg T d ρ with
      | none => .stuck
      | some ρ' => (c ρ' S).bind fun k S1 => if k then (e ρ' S1).bind fun y S2 => (if acc.length < sizeLine then lcLoop nx T c e ρ n (i + 1) (acc ++ [y]) S2 else .stuck) else lcLoop nx T c e ρ n (i + 1) acc S1
/-- no error leaves a comprehension -/
def noX {α : Type} : R α → R α
  | .exc _ _ => .stuck
  | r => r
def eLc (im : IM) (T : Tg) (c : BM) (e : EM) (vs : List Nat) : EM := fun ρ => M.bind (im ρ) fun it S => (noX (lcLoop it.nx T c e (wipeD ρ vs) it.fu 0 [] S)).bind fun xs S' => .ok (.lst xs) S'
def eLcC (im : IM) (T : Tg) (c : BM) (e : EM) (vs : List Nat) : EM := fun ρ => M.bind (im ρ) fun it S => (noX (lcLoop it.nx T c e (wipeD ρ vs) it.fu 0 [] S)).bind fun xs S' => .ok (.cell S'.length) (S' ++ [some (.lst xs)])
abbrev WNo : WX := fun _ _ _ _ => False
theorem Slots.wipe {K : PySem.W.Frag} {as : List Addr} {F : Hp} {σ : L2.St} {ρ : Env} (h : Slots K as F σ ρ) : ∀ vs : List Nat, Slots K as F (L2.wipe σ vs) (wipeD ρ vs)
  | [] => h
  | v :: vs => by
    have ih := Slots.wipe h vs
    refine ⟨by show ((L2.wipe σ vs).set v none).length = ((wipeD ρ vs).set v none).length; simp [ih.len], fun i d e => ?_⟩
    have e : ((wipeD ρ vs).set v none)[i]? = some (some d) := e
    show ∃ u, ((L2.wipe σ vs).set v none)[i]? = some (some u) ∧ _
    by_cases hi : v = i
    · subst hi
      by_cases hl : v < (wipeD ρ vs).length
      · rw [List.getElem?_set_self hl] at e; cases e
      · rw [List.getElem?_eq_none (by simpa using Nat.le_of_not_lt hl)] at e; cases e
    · rw [List.getElem?_set_ne hi] at e ⊢
      exact ih.at_ i d e

section
variable {X : Cx} {W : WX} {c e tg iter : Expr} {body rest orelse : List Stmt} {st : Stmt} {me : EM} {mb : BM} {ms mt : SD} {pos : Pos}
theorem dss_nil : DSs X W [] sNx := PSs.le pss_nil fun Dn σ H ⟨hd, as, ρ, S, rel, po⟩ => po as σ H .refl rel
theorem seq_post {K : PySem.W.Frag} {mg : Str → Option Value} {hd : Hid} {as : List Addr} {S : Sto} {H : Hp} {Dn : Ends} {a : RS} {b : SD} (h : PostS K mg W hd as S H Dn (match a with
  | .ok .nx ρ' S' => b ρ' S'
  | r => r)) : PostS K mg W hd as S H { Dn with nx := tS K mg W b Dn } a := by
  match a, h with
  | .ok .nx ρ' S', h => exact fun as' σ' H' g rel => ⟨hd, as', ρ', S', rel, PostS.later (r := b ρ' S') h g⟩
  | .ok (.ret d) ρ' S', h => exact h
  | .ok .brk ρ' S', h => exact h
  | .ok .cnt ρ' S', h => exact h
  | .exc x ρ' S', h => exact h
  | .stuck, h => exact h
theorem dss_cons (h1 : DS X W st ms) (h2 : DSs X W rest mt) : DSs X W (st :: rest) (sSeq ms mt) := PSs.le (pss_cons h1 h2) fun Dn σ H ⟨hd, as, ρ, S, rel, po⟩ => ⟨hd, as, ρ, S, rel, seq_post po⟩
theorem dss_one (h1 : DS X W st ms) : DSs X W [st] ms := pss_one h1
theorem ds_never : DS X W st sNever := PS.le ps_never fun Dn σ H ⟨hd, as, ρ, S, rel, po⟩ => po
theorem ds_ret (h : DE X W e me) : DS X W (.Return (some e) pos) (sRet me) := PS.le (ps_ret h) fun Dn σ H ⟨hd, as, ρ, S, rel, po⟩ => tE_to rel po fun as1 S1 H1 v d g rel1 r q => q as1 v H1 .refl rel1.w r
theorem ds_expr (h : DE X W e me) (hs : swapsWith e none pos.line X.env = pure false := by rfl) : DS X W (.Expr e pos) (sExpr me) := PS.le (ps_expr h hs) fun Dn σ H ⟨hd, as, ρ, S, rel, po⟩ => tE_to rel po fun as1 S1 H1 v d g rel1 r q => q as1 σ H1 .refl rel1
theorem ds_if (hc : DT X W c mb) (ha : DSs X W body ms) (hb : DSs X W orelse mt) : DS X W (.If c body orelse pos) (sIf mb ms mt) :=
  PS.le (ps_if hc ha hb) fun Dn σ H ⟨hd, as, ρ, S, rel, po⟩ => tT_to rel po fun as1 S1 H1 b g rel1 q => by
    cases b with
    | true => exact iteT ⟨hd, as1, ρ, S1, rel1, q⟩
    | false => exact iteF ⟨hd, as1, ρ, S1, rel1, q⟩
theorem ds_set (i : Nat) {x : Str} {pos' : Pos} (hN : X.N.Nodup) (h : DE X W e me) (hi : X.N[i]? = some x := by rfl) (hx : Loc X.env.scope x := by first | exact Or.inl rfl | exact Or.inr rfl) (hs : swapsWith e (some (.Name x pos')) pos.line X.env = pure false := by rfl)
    (hf : X.fn x = true ∨ X.env.scope.names.lookup x = some .local := by first | exact .inl rfl | exact .inr rfl | assumption) : DS X W (.Assign [.Name x pos'] e pos) (sSet i me) :=
  PS.le (ps_set hN hi hx h hs hf) fun Dn σ H ⟨hd, as, ρ, S, rel, po⟩ => tE_to rel po fun as1 S1 H1 v d g rel1 r q => q as1 _ H1 .refl ⟨rel1.w, rel1.s.set r i⟩
theorem dg_name (i : Nat) {x : Str} (hN : X.N.Nodup) (hi : X.N[i]? = some x := by rfl) (hx : Loc X.env.scope x := by first | exact Or.inl rfl | exact Or.inr rfl) (hf : X.fn x = true ∨ X.env.scope.names.lookup x = some .local := by first | exact .inl rfl | exact .inr rfl | assumption) : DG X (.Name x pos) (.nm i) := pg_name hN hi hx hf
theorem dgs_nil : DGs X [] [] := pgs_nil
theorem dgs_cons {es : List Expr} {t : Tg} {ts : List Tg} (h1 : DG X e t) (h2 : DGs X es ts) (hs : (assignEach (e :: es) X.env).map (·.2) = assign e X.env :: (assignEach es X.env).map (·.2) := by rfl) : DGs X (e :: es) (t :: ts) := pgs_cons h1 h2 hs
end
end DL

set_option Elab.async false
set_option linter.all false
set_option maxRecDepth 100000
/-! DL4: loops, comprehensions, what is walked: the rules. -/
namespace DL
open PySem PySem.Spec PyProof.Rows L2

section
variable {X : Cx} {W : WX} {a b c e tg iter : Expr} {body rest orelse : List Stmt} {st : Stmt} {me ma mb : EM} {mt : BM} {ms : SD} {mr : AM} {im : IM} {T : Tg} {pos : Pos}
theorem ds_asg {es : List Expr} {k : Nat} {tpos : Pos} {ts : List Tg} (h : DE X W e me) (hg : DG X (.Tuple es k tpos) (.tup ts)) (hs : swapsWithSole [.Tuple es k tpos] e pos.line X.env = pure false := by rfl) (hw : swappedStores [.Tuple es k tpos] e X.env = pure none := by rfl)
    (h1 : (assignEach [.Tuple es k tpos] X.env).map (·.2) = [assign (.Tuple es k tpos) X.env] := by rfl) : DS X W (.Assign [.Tuple es k tpos] e pos) (sAsg (.tup ts) me) :=
  PS.le (ps_asg h hg hs hw h1) fun Dn σ H ⟨hd, as, ρ, S, rel, po⟩ => tE_to rel po fun as1 S1 H1 v d g rel1 r q => by
    cases e1 : asg (.tup ts) d ρ with
    | none => rw [e1] at q; exact q.elim
    | some ρ' => rw [e1] at q; exact gOf_ok rel1.s r fz_same e1 fun σ' s' _ => q as1 σ' H1 .refl ⟨rel1.w, s'⟩
theorem dg_tup {es : List Expr} {k : Nat} {ts : List Tg} (hc : X.calm = true) (h : DGs X es ts) (hn : (assignEach es X.env).length = ts.length := by rfl) (hst : (assignEach es X.env).findIdx? (·.1) = none := by rfl) : DG X (.Tuple es k pos) (.tup ts) := pg_tup hc h hn hst
/-- a, b = e, f of two locals -/
def sPar (i j : Nat) (m : AM) : SD := fun ρ S => (m ρ S).to ρ fun ds S1 => match ds with
  | [x, y] => .ok .nx ((ρ.set i (some x)).set j (some y)) S1
  | _ => .stuck
/-- xs[i] = e -/
def sSub (f : D → D → D → Sto → Option Sto) (o i m : EM) : SD := fun ρ S => (m ρ S).to ρ fun v S1 => (o ρ S1).to ρ fun x S2 => (i ρ S2).to ρ fun k S3 => match f x k v S3 with
  | some S4 => .ok .nx ρ S4
  | none => .stuck
def ActSet (K : PySem.W.Frag) (t : TSet) (f : D → D → D → Sto → Option Sto) : Prop := ∀ hd as S H o i v x k d S', Wld K hd as S H → Rep K as (fz hd as S H) o x → Rep K as (fz hd as S H) i k → Rep K as (fz hd as S H) v d → f x k d S = some S' →
  ∀ Q : Hp → Prop, (∀ H', Grow hd as S H as S' H' → Wld K hd as S' H' → Q H') → t o i v H Q
theorem ds_sub {o i : Expr} {mo mi : EM} {t : TSet} {f : D → D → D → Sto → Option Sto} {p2 : Pos} (hset : PSet X t) (act : ActSet X.K t f) (h : DE X W e me) (ho : DE X W o mo) (hi : DE X W i mi)
    (hg : PG X (.Subscript o i p2) (gSub (tE X.K X.mg W mo) (tE X.K X.mg W mi) t)) (hs : swapsWithSole [.Subscript o i p2] e pos.line X.env = pure false := by rfl) (hw : swappedStores [.Subscript o i p2] e X.env = pure none := by rfl)
    (h1 : (assignEach [.Subscript o i p2] X.env).map (·.2) = [assign (.Subscript o i p2) X.env] := by rfl) : DS X W (.Assign [.Subscript o i p2] e pos) (sSub f mo mi me) :=
  PS.le (ps_asg h hg hs hw h1) fun Dn σ H ⟨hd, as, ρ, S, rel, po⟩ => tE_to rel po fun as1 S1 H1 v d g1 rel1 r1 q1 => tE_to rel1 q1 fun as2 S2 H2 u x g2 rel2 r2 q2 => tE_to rel2 q2 fun as3 S3 H3 y k g3 rel3 r3 q3 => by
    cases e1 : f x k d S3 with
    | none => rw [e1] at q3; exact q3.elim
    | some S4 => rw [e1] at q3; exact act hd as3 S3 H3 u y v x k d S4 rel3.w (r2.grow g3) r3 ((r1.grow g2).grow g3) e1 _ fun H' g w => q3 as3 σ H' g (rel3.grow g w)
def setD : D → D → D → Sto → Option Sto
  | .cell n, .int i, d, S => match S[n]? with
    | some (some (.lst xs)) => match ixN xs.length i with
      | some j => some (S.set n (some (.lst (xs.set j d))))
      | none => none
    | _ => none
  | _, _, _, _ => none
theorem act_setD {K : PySem.W.Frag} : ActSet K rSetL setD := by
  intro hd as S H o i v x k d S' w ro ri rv h Q q
  cases ro with
  | cell ho =>
    rename_i n p
    cases ri with
    | int z =>
      simp only [setD] at h
      split at h
      · rename_i xs e
        split at h
        · rename_i j ej
          cases h
          obtain ⟨p', vs, e1, e2, r⟩ := w.at_ n xs e
          rw [ho] at e1; cases e1
          obtain ⟨w', g⟩ := w.write e ho (r.set rv j)
          exact ⟨p, vs, z, j, rfl, rfl, e2, by rw [r.length]; exact ej, q _ g w'⟩
        · cases h
      · cases h
    | _ => simp [setD] at h
  | _ => simp [setD] at h
/-- x op= e of a local -/
def sAug (i : Nat) (f : D → D → M D) (m : EM) : SD := fun ρ S => (eVar i ρ S).to ρ fun x _ => (m ρ S).to ρ fun y S1 => (f x y S1).to ρ fun z S2 => .ok .nx (ρ.set i (some z)) S2
/-! ### for -/
theorem for_body {K : PySem.W.Frag} {mg : Str → Option Value} {hd : Hid} {as : List Addr} {S : Sto} {H : Hp} {Dn : Ends} {r : RS} {k : SD} {N : L2.St → Hp → Prop} (h : PostS K mg W hd as S H Dn (match r with
        | .ok .nx ρ2 S2 => k ρ2 S2
        | .ok .cnt ρ2 S2 => k ρ2 S2
        | .ok .brk ρ2 S2 => .ok .nx ρ2 S2
        | r => r)) (hN : ∀ as' σ' ρ' S' H', Grow hd as S H as' S' H' → REL K hd as' ρ' S' σ' H' → PostS K mg W hd as' S' H' Dn (k ρ' S') → N σ' H') : PostS K mg W hd as S H { Dn with nx := N, ct := N, bk := Dn.nx } r := by
  match r, h with
  | .ok .nx ρ' S', h => exact fun as' σ' H' g rel => hN as' σ' ρ' S' H' g rel (PostS.later (r := k ρ' S') h g)
  | .ok .cnt ρ' S', h => exact fun as' σ' H' g rel => hN as' σ' ρ' S' H' g rel (PostS.later (r := k ρ' S') h g)
  | .ok .brk ρ' S', h => exact h
  | .ok (.ret d) ρ' S', h => exact h
  | .exc x ρ' S', h => exact h
  | .stuck, h => exact h
theorem ds_for (hp : PassesOwn (model X.prog X.w) X.A X.env X.xe) (hc : X.calm = true) (hi : DI X W tg iter im) (hg : DG X tg T) (hb : DSs X W body ms) (hs : ∀ x, foldedSetIterable iter X.env x = pure x := by intro _; rfl) : DS X W (.For tg iter body [] pos) (sFor im T ms) :=
  PS.le (ps_for hp hc hi hg hb hs) fun Dn σ H ⟨hd, as, ρ, S, rel, po⟩ => by
    refine ⟨hd, as, ρ, S, rel, (po.toE rel).imp fun it as1 S1 H1 g1 rel1 po1 J hJ => ?_⟩
    refine ⟨fun i m σ H => ∃ as ρ S, REL X.K hd as ρ S σ H ∧ Grow hd as1 S1 H1 as S H ∧ PostS X.K X.mg W hd as S H Dn (forLoop it.nx T ms m i ρ S), ⟨it.fu, as1, ρ, S1, rel1, .refl, po1⟩, ?_⟩
    rintro i m σ2 H2 ⟨as2, ρ2, S2, rel2, g2, po2⟩
    cases m with
    | zero => exact po2.elim
    | succ n =>
      have hj := hJ i hd as2 S2 H2 g2.pre g2.same rel2.w
      unfold forLoop at po2
      cases en : it.nx i S2 with
      | none => rw [en] at po2; exact po2.elim
      | some o =>
        rw [en] at po2 hj
        cases o with
        | none => exact .inl ⟨hj, po2 as2 σ2 H2 .refl rel2⟩
        | some d =>
          refine .inr ⟨hj.1, fun σ' H' => ∃ as ρ S, REL X.K hd as ρ S σ' H' ∧ Grow hd as1 S1 H1 as S H' ∧ PostS X.K X.mg W hd as S H' Dn (forLoop it.nx T ms n (i + 1) ρ S), fun σ' H' h => ⟨n, Nat.lt_succ_self n, h⟩, fun x H' hy => ?_⟩
          obtain ⟨w', g', r'⟩ := hj.2 x H' hy
          dsimp only at po2
          cases ea : asg T d ρ2 with
          | none => rw [ea] at po2; exact po2.elim
          | some ρ' =>
            rw [ea] at po2
            dsimp only at po2
            refine gOf_ok ((rel2.grow g' w').s) r' fz_same ea fun σ' s' _ => ?_
            refine ⟨hd, as2, ρ', S2, ⟨w', s'⟩, for_body (k := fun ρ2 S2 => forLoop it.nx T ms n (i + 1) ρ2 S2) (PostS.later po2 g') fun as3 σ3 ρ3 S3 H3 g3 rel3 po3 => ?_⟩
            exact ⟨as3, ρ3, S3, rel3, (g2.trans g').trans g3, po3⟩
theorem ds_while (hp : PassesOwn (model X.prog X.w) X.A X.env X.xe) (hc : DT X W c mt) (hb : DSs X W body ms) : DS X W (.While c body [] pos) (sWhile mt ms) :=
  PS.le (ps_while hp hc hb) fun Dn σ H ⟨hd, as, ρ, S, rel, po⟩ => by
    unfold sWhile at po
    generalize FU = fu at po
    refine ⟨fun m σ H => ∃ as ρ S, REL X.K hd as ρ S σ H ∧ PostS X.K X.mg W hd as S H Dn (whLoop mt ms m ρ S), ⟨fu, as, ρ, S, rel, po⟩, ?_⟩
    rintro m σ2 H2 ⟨as2, ρ2, S2, rel2, po2⟩
    cases m with
    | zero => exact po2.elim
    | succ n =>
      refine tT_to (Dn := Dn) rel2 (k := fun k S1 => if k then (match ms ρ2 S1 with
        | .ok .nx ρ2 S2 => whLoop mt ms n ρ2 S2
        | .ok .cnt ρ2 S2 => whLoop mt ms n ρ2 S2
        | .ok .brk ρ2 S2 => .ok .nx ρ2 S2
        | r => r) else .ok .nx ρ2 S1) (by unfold whLoop at po2; exact po2) fun as3 S3 H3 b g3 rel3 po3 => ?_
      cases b with
      | false => exact iteF (po3 as3 σ2 H3 .refl rel3)
      | true =>
        refine iteT ⟨fun σ' H' => ∃ as ρ S, REL X.K hd as ρ S σ' H' ∧ PostS X.K X.mg W hd as S H' Dn (whLoop mt ms n ρ S), fun σ' H' h => ⟨n, Nat.lt_succ_self n, h⟩, ?_⟩
        exact ⟨hd, as3, ρ2, S3, rel3, for_body (k := fun ρ S => whLoop mt ms n ρ S) po3 fun as4 σ4 ρ4 S4 H4 g4 rel4 po4 => ⟨as4, ρ4, S4, rel4, po4⟩⟩
end
end DL

set_option Elab.async false
set_option linter.all false
set_option maxRecDepth 100000
/-! DL5: comprehensions; what is walked. -/
namespace DL
open PySem PySem.Spec PyProof.Rows L2

/-! ### hidden lists -/
section
variable {K : PySem.W.Frag} {hd : Hid} {as : List Addr} {S : Sto} {H : Hp} {Dl : Addr} {o o' : HO}
theorem fz_hide (hn : H Dl = none) : fz ((Dl, o) :: hd) as S (upd H Dl o) = fz hd as S H := by
  funext b
  unfold fz
  by_cases hb : b = Dl
  · subst hb
    rw [if_pos (.inr (by simp))]
    split
    · rfl
    · exact hn.symm
  · by_cases h : b ∈ live as S ∨ b ∈ hd.map (·.1)
    · rw [if_pos h, if_pos (h.elim .inl fun z => .inr (List.mem_cons_of_mem _ z))]
    · rw [if_neg h, if_neg (fun z => h (z.elim .inl fun z => .inr ((List.mem_cons.mp z).elim (fun e => absurd e hb) id))), upd_ne hb]
theorem Wld.hide (w : Wld K hd as S H) (hn : H Dl = none) : Wld K ((Dl, o) :: hd) as S (upd H Dl o) := by
  refine ⟨w.len, w.inj, fun q hq => ?_, fun n xs e => ?_⟩
  · rcases List.mem_cons.mp hq with rfl | hq
    · exact ⟨upd_same, w.new_live hn⟩
    · exact ⟨by rw [upd_ne (fun z => by have := (w.hid q hq).1; rw [z, hn] at this; cases this)]; exact (w.hid q hq).1, (w.hid q hq).2⟩
  · obtain ⟨a, vs, e1, e2, r⟩ := w.atC n xs e
    exact ⟨a, vs, e1, by rw [upd_ne (fun z => by rw [z, hn] at e2; cases e2)]; exact e2, by rw [fz_hide hn]; exact r⟩
theorem fz_rewrite : fz ((Dl, o') :: hd) as S (upd H Dl o') = fz ((Dl, o) :: hd) as S H := by
  funext b
  unfold fz
  by_cases hb : b = Dl
  · subst hb
    rw [if_pos (.inr (by simp)), if_pos (.inr (by simp))]
  · by_cases h : b ∈ live as S ∨ b ∈ ((Dl, o) :: hd).map (·.1)
    · rw [if_pos h, if_pos (h.elim .inl fun z => .inr (by simpa using z))]
    · rw [if_neg h, if_neg (fun z => h (z.elim .inl fun z => .inr (by simpa using z))), upd_ne hb]
theorem Wld.rewrite (w : Wld K ((Dl, o) :: hd) as S H) (nd : Dl ∉ hd.map (·.1)) : Wld K ((Dl, o') :: hd) as S (upd H Dl o') := by
  have h0 := w.hid (Dl, o) (by simp)
  refine ⟨w.len, w.inj, fun q hq => ?_, fun n xs e => ?_⟩
  · rcases List.mem_cons.mp hq with rfl | hq
    · exact ⟨upd_same, h0.2⟩
    · have k := w.hid q (List.mem_cons_of_mem _ hq)
      exact ⟨by rw [upd_ne (fun z => nd (List.mem_map.mpr ⟨q, hq, z⟩))]; exact k.1, k.2⟩
  · obtain ⟨a, vs, e1, e2, r⟩ := w.atC n xs e
    have la : a ∈ live as S := mem_live.mpr ⟨n, _, e1, e⟩
    exact ⟨a, vs, e1, by rw [upd_ne (fun z => h0.2 (by rw [← z]; exact la))]; exact e2, by rw [fz_rewrite (o := o)]; exact r⟩
theorem fz_show (nh : Dl ∉ hd.map (·.1)) : Same (fz ((Dl, o) :: hd) as S H) (fz hd as S H) := fun b u e =>
  fz_of (fz_same _ _ e) (fz_not e) fun z => fz_nh e (List.mem_cons_of_mem _ z)
theorem Wld.show_ (w : Wld K ((Dl, o) :: hd) as S H) (nh : Dl ∉ hd.map (·.1)) : Wld K hd as S H ∧ fz hd as S H Dl = some o := by
  refine ⟨⟨w.len, w.inj, fun q hq => w.hid q (List.mem_cons_of_mem _ hq), fun n xs e => ?_⟩, fz_of (w.hid (Dl, o) (by simp)).1 (w.hid (Dl, o) (by simp)).2 nh⟩
  obtain ⟨a, vs, e1, e2, r⟩ := w.atC n xs e
  exact ⟨a, vs, e1, e2, r.mono (fun _ _ h => h) (fz_show nh)⟩
end
abbrev DTs (X : Cx) (ifs : List Expr) (m : BM) : Prop := PTs X ifs (tT X.K X.mg WNo m)
theorem PTs.le {X : Cx} {ifs : List Expr} {t t' : TT} (h : PTs X ifs t) (k : ∀ σ H Q, t' σ H Q → t σ H Q) : PTs X ifs t' := ⟨fun pins s σ H Q I q => h.run pins s σ H Q I (k σ H Q q)⟩
theorem dts_nil {X : Cx} : DTs X [] bYes := PTs.le pts_nil fun σ H Q ⟨hd, as, ρ, S, rel, po⟩ => po as H .refl rel
/-- the loop of a comprehension: from its start to its end -/
theorem lc_turns {K : PySem.W.Frag} {mg : Str → Option Value} {hd : Hid} {as1 : List Addr} {ρ : Env} {S1 : Sto} {σ : L2.St} {H1 : Hp} {J : It} {it : ItD} {T : Tg} {mt : BM} {me : EM} {vs : List Nat} {Dl : Addr} {Q : VK} {accF : List D} {SF : Sto}
    (rel1 : REL K hd as1 ρ S1 σ H1) (hJ : JOk K as1 (fz hd as1 S1 H1) J it) (hv : ∀ i ∈ T.slots, i ∈ vs) (hD : H1 Dl = none) (hl : lcLoop it.nx T mt me (wipeD ρ vs) it.fu 0 [] S1 = .ok accF SF)
    (hQ : ∀ as' H' vF, (∀ n a : Nat, as1[n]? = some a → as'[n]? = some a) → Same (fz hd as1 S1 H1) (fz ((Dl, .lst vF) :: hd) as' SF H') → Wld K ((Dl, .lst vF) :: hd) as' SF H' → RepL K as' (fz ((Dl, .lst vF) :: hd) as' SF H') vF accF → Q (.ref Dl) H') :
    ∃ W : Nat → Nat → Hp → Prop, (∃ m, W 0 m (upd H1 Dl (.lst []))) ∧ ∀ i m H, W i m H →
      (J.stop i H ∧ Q (.ref Dl) H) ∨ (J.go i H ∧ ∃ Nx : Hp → Prop, (∀ H', Nx H' → ∃ m', m' < m ∧ W (i + 1) m' H') ∧ ∀ x H', J.yld i H x H' → gOf K T x (wipe σ vs) H' fun σ2 H2 => wipe σ2 vs = wipe σ vs ∧ tT K mg WNo mt σ2 H2 fun b H3 =>
        if b = true then tE K mg WNo me σ2 H3 fun y H4 => ∃ acc, H4 Dl = some (.lst acc) ∧ acc.length < sizeLine ∧ Nx (upd H4 Dl (.lst (acc ++ [y]))) else Nx H3) := by
  have nh : Dl ∉ hd.map (·.1) := rel1.w.hid_ne hD
  -- the state at a turn
  refine ⟨fun i m H => ∃ as S acc vacc, REL K ((Dl, .lst vacc) :: hd) as (wipeD ρ vs) S (wipe σ vs) H ∧ (∀ n a : Nat, as1[n]? = some a → as[n]? = some a) ∧ Same (fz hd as1 S1 H1) (fz ((Dl, .lst vacc) :: hd) as S H) ∧
    RepL K as (fz ((Dl, .lst vacc) :: hd) as S H) vacc acc ∧ lcLoop it.nx T mt me (wipeD ρ vs) m i acc S = .ok accF SF, ⟨it.fu, as1, S1, [], [], ⟨rel1.w.hide hD, by rw [fz_hide hD]; exact rel1.s.wipe vs⟩, fun _ _ h => h, by rw [fz_hide hD]; exact Same.refl _, .nil, hl⟩, ?_⟩
  rintro i m H ⟨as, S, acc, vacc, rel, pre, sm, racc, el⟩
  cases m with
  | zero => cases el
  | succ n =>
    have hj := hJ i _ as S H pre sm rel.w
    unfold lcLoop at el
    cases en : it.nx i S with
    | none => rw [en] at el; cases el
    | some od =>
      rw [en] at el hj
      cases od with
      | none =>
        cases el
        exact .inl ⟨hj, hQ as H vacc pre sm rel.w racc⟩
      | some d =>
        refine .inr ⟨hj.1, fun H' => ∃ as S acc vacc, REL K ((Dl, .lst vacc) :: hd) as (wipeD ρ vs) S (wipe σ vs) H' ∧ (∀ n a : Nat, as1[n]? = some a → as[n]? = some a) ∧ Same (fz hd as1 S1 H1) (fz ((Dl, .lst vacc) :: hd) as S H') ∧
          RepL K as (fz ((Dl, .lst vacc) :: hd) as S H') vacc acc ∧ lcLoop it.nx T mt me (wipeD ρ vs) n (i + 1) acc S = .ok accF SF, fun H' h => ⟨n, Nat.lt_succ_self n, h⟩, fun x H' hy => ?_⟩
        obtain ⟨w', g', r'⟩ := hj.2 x H' hy
        dsimp only at el
        cases ea : asg T d (wipeD ρ vs) with
        | none => rw [ea] at el; cases el
        | some ρ' =>
          rw [ea] at el
          dsimp only at el
          have relY := rel.grow g' w'
          refine gOf_ok relY.s r' fz_same ea fun σ2 s2 hw => ⟨by rw [hw vs hv, wipe_wipe], ?_⟩
          refine ⟨_, as, ρ', S, ⟨w', s2⟩, ?_⟩
          cases ec : mt ρ' S with
          | exc z S2 => rw [ec] at el; cases el
          | stuck => rw [ec] at el; cases el
          | ok b S2 =>
            rw [ec] at el
            intro as3 H3 g3 rel3
            have gg := g'.trans g3
            cases b with
            | false =>
              refine iteF ⟨as3, S2, acc, vacc, rel.grow gg rel3.w, fun n a h => gg.pre n a (pre n a h), sm.trans gg.same, racc.grow gg, ?_⟩
              simpa using el
            | true =>
              refine iteT ⟨_, as3, ρ', S2, rel3, ?_⟩
              have el : (me ρ' S2).bind (fun y S2 => (if acc.length < sizeLine then lcLoop it.nx T mt me (wipeD ρ vs) n (i + 1) (acc ++ [y]) S2 else .stuck)) = .ok accF SF := by simpa using el
              cases ee : me ρ' S2 with
              | exc z S4 => rw [ee] at el; cases el
              | stuck => rw [ee] at el; cases el
              | ok y S4 =>
                rw [ee] at el
                intro as4 H4 g4 rel4 v rv
                have el : (if acc.length < sizeLine then lcLoop it.nx T mt me (wipeD ρ vs) n (i + 1) (acc ++ [y]) S4 else .stuck) = .ok accF SF := el
                split at el
                · rename_i hz
                  have g5 := gg.trans g4
                  have hh := rel4.w.hid (Dl, .lst vacc) (by simp)
                  refine ⟨vacc, hh.1, by rw [racc.length]; exact hz, as4, S4, acc ++ [y], vacc ++ [v], ⟨rel4.w.rewrite nh, ?_⟩, fun n a h => g5.pre n a (pre n a h), ?_, ?_, el⟩
                  · rw [fz_rewrite (o := .lst vacc)]
                    exact (rel.grow g5 rel4.w).s
                  · rw [fz_rewrite (o := .lst vacc)]
                    exact sm.trans g5.same
                  · rw [fz_rewrite (o := .lst vacc)]
                    exact (racc.grow g5).append (.cons rv .nil)
                · cases el

section
variable {X : Cx} {W : WX} {elt tg iter : Expr} {ifs : List Expr} {scope : Scope} {own : List (Str × Nat)} {pos spos : Pos} {im : IM} {T : Tg} {mt : BM} {me : EM}
/-- the contexts in which a comprehension's block is run -/
abbrev InBlk (X : Cx) (scope : Scope) (P : Cx → Prop) : Prop := ∀ (s : Shared) (H : Hp) (C : Addr) (cl : List (Str × Addr)) (fp : List Addr), P (X.blk s H scope (compEnvC scope cl C X.env) fp)
theorem lc_le {K : PySem.W.Frag} {mg : Str → Option Value} (hv : ∀ i ∈ T.slots, i ∈ own.map (·.2)) {σ : L2.St} {H : Hp} {Q : VK} (h : tE K mg W (eLc im T mt me (own.map (·.2))) σ H Q) : tLc (tI K mg W im) (gOf K T) (tT K mg WNo mt) (tE K mg WNo me) (own.map (·.2)) σ H Q := by
  obtain ⟨hd, as, ρ, S, rel, po⟩ := h
  refine ⟨hd, as, ρ, S, rel, po.bind.imp fun it as1 S1 H1 g1 rel1 po1 J hJ Dl hD => ?_⟩
  cases el : lcLoop it.nx T mt me (wipeD ρ (own.map (·.2))) it.fu 0 [] S1 with
  | exc z S2 => simp only [el, noX, R.bind_stuck] at po1; exact po1.elim
  | stuck => simp only [el, noX, R.bind_stuck] at po1; exact po1.elim
  | ok accF SF =>
    simp only [el, noX, R.bind_ok] at po1
    have nh := rel1.w.hid_ne hD
    refine lc_turns rel1 hJ hv hD el fun as' H' vF pre sm w r => ?_
    obtain ⟨w', e'⟩ := w.show_ nh
    have g : Grow hd as1 S1 H1 as' SF H' := ⟨pre, sm.trans (fz_show nh)⟩
    exact po1 as' H' g (rel1.grow g w') _ (.lst e' (r.mono (fun _ _ h => h) (fz_show nh)))
theorem de_lc (own : List (Str × Nat)) (hc : X.calm = true) (hN : X.N.Nodup) (hi : DI X W tg iter im) (ok : BlkOk X.N X.env.scope scope own) (hg : InBlk X scope fun Y => DG Y tg T) (ht : InBlk X scope fun Y => DTs Y ifs mt) (he : InBlk X scope fun Y => DE Y WNo elt me)
    (hv : ∀ i ∈ T.slots, i ∈ own.map (·.2) := by decide) (hs : ∀ x, foldedSetIterable iter X.env x = pure x := by intro _; rfl) : DE X W (.ListComp elt [⟨tg, iter, ifs, 0⟩] scope pos) (eLc im T mt me (own.map (·.2))) :=
  PE.le (pe_lc hc hN hi ok hg ht he hs) fun σ H Q h => lc_le hv h
end

/-! ### what is walked -/
def frozenL : D → Option (List D)
  | .lst xs => some xs
  | .ro xs => some xs
  | _ => none
def mItL (d : D) : M ItD := match d with
  | .lst xs => fun S => .ok (itL xs) S
  | .ro xs => fun S => .ok (itL xs) S
  | .cell n => fun S => match S[n]? with
    | some (some (.lst xs)) => .ok (itC n xs.length) S
    | _ => .stuck
  | _ => fun _ => .stuck
def mItT (d : D) : M ItD := match d with
  | .tup xs => fun S => .ok (itL xs) S
  | _ => fun _ => .stuck
def mItR1 : List D → M ItD
  | [.int j] => fun S => if -(2 ^ 62) ≤ j ∧ j < 2 ^ 62 then .ok (itL ((List.range j.toNat).map fun i : Nat => D.int i)) S else .stuck
  | _ => fun _ => .stuck
def mItR2 : List D → M ItD
  | [.int i, .int j] => fun S => if -(2 ^ 62) ≤ i ∧ i < 2 ^ 62 ∧ -(2 ^ 62) ≤ j ∧ j < 2 ^ 62 then .ok (itL ((List.range (j - i).toNat).map fun k : Nat => D.int (i + k))) S else .stuck
  | _ => fun _ => .stuck
def zipD : List D → List D → List D
  | x :: xs, y :: ys => .tup [x, y] :: zipD xs ys
  | _, _ => []
def enumD (xs : List D) : List D := (xs.zipIdx).map fun p => .tup [.int p.2, p.1]
def itZ (d e : D) (k : Nat) : ItD := ⟨fun i S => match listOf S d, listOf S e with
  | some xs, some ys => some ((zipD xs ys)[i]?)
  | _, _ => none, k + 1⟩
def itE (d : D) (k : Nat) : ItD := ⟨fun i S => match listOf S d with
  | some xs => some ((enumD xs)[i]?)
  | _ => none, k + 1⟩
def mItZ : List D → M ItD
  | [d, e] => fun S => match frozenL d, frozenL e with
    | some xs, some ys => .ok (itL (zipD xs ys)) S
    | _, _ => match listOf S d, listOf S e with
      | some xs, some ys => .ok (itZ d e (zipD xs ys).length) S
      | _, _ => .stuck
  | _ => fun _ => .stuck
def mItE : List D → M ItD
  | [d] => fun S => match frozenL d with
    | some xs => .ok (itL (enumD xs)) S
    | _ => match listOf S d with
      | some xs => .ok (itE d (enumD xs).length) S
      | _ => .stuck
  | _ => fun _ => .stuck
def imOf (f : D → M ItD) (m : EM) : IM := fun ρ => M.bind (m ρ) f
def imOfA (f : List D → M ItD) (m : AM) : IM := fun ρ => M.bind (m ρ) f
theorem zipD_get : ∀ (xs ys : List D) (i : Nat), (zipD xs ys)[i]? = (match xs[i]?, ys[i]? with
  | some x, some y => some (.tup [x, y])
  | _, _ => none)
  | [], _, i => by simp [zipD]
  | x :: xs, [], i => by simp [zipD]
  | x :: xs, y :: ys, 0 => by simp [zipD]
  | x :: xs, y :: ys, i + 1 => by simpa [zipD] using zipD_get xs ys i
theorem enumD_get (xs : List D) (i : Nat) : (enumD xs)[i]? = xs[i]?.map fun x => .tup [.int i, x] := by
  unfold enumD
  rw [List.getElem?_map, List.getElem?_zipIdx]
  cases xs[i]? <;> simp
section
variable {K : PySem.W.Frag} {hd : Hid} {as : List Addr} {S : Sto} {H : Hp} {a b : Addr} {d e : D}
theorem jok_list (ra : Rep K as (fz hd as S H) (.ref a) d) (f : ItD) (hf : ∀ i S' hd' as' H', Wld K hd' as' S' H' → (∀ n x : Nat, as[n]? = some x → as'[n]? = some x) → ∀ o, f.nx i S' = some o → ∃ xs, listOf S' d = some xs ∧ o = xs[i]?) : JOk K as (fz hd as S H) (Itl K a) f := by
  intro i hd' as' S' H' pre sm w
  cases en : f.nx i S' with
  | none => trivial
  | some o =>
    obtain ⟨xs, e1, e2⟩ := hf i S' hd' as' H' w pre o en
    obtain ⟨a', vs, e3, hq, r⟩ := seqL w (ra.mono pre sm) e1
    cases e3
    cases o with
    | none =>
      refine ⟨vs, hq, ?_⟩
      rw [r.length]
      exact List.getElem?_eq_none_iff.mp e2.symm
    | some x =>
      obtain ⟨v, ev, rv⟩ := r.get e2.symm
      refine ⟨⟨vs, v, hq, ev⟩, fun y H2 hy => ?_⟩
      obtain ⟨rfl, hy⟩ := hy
      have := hy vs hq
      rw [ev] at this; cases this
      exact ⟨w, .refl, rv⟩
theorem jok_rng {lo : Int} {n : Nat} : JOk K as (fz hd as S H) (Itr lo n) (itL ((List.range n).map fun i : Nat => D.int (lo + i))) := by
  intro i hd' as' S' H' pre sm w
  show match some ((List.range n).map fun i : Nat => D.int (lo + i))[i]? with
    | none => True
    | some none => _
    | some (some d) => _
  rw [List.getElem?_map]
  by_cases hi : i < n
  · rw [List.getElem?_range hi]
    refine ⟨hi, fun y H2 hy => ?_⟩
    obtain ⟨rfl, rfl⟩ := hy
    exact ⟨w, .refl, .int _⟩
  · rw [List.getElem?_eq_none (by simpa using hi)]
    exact Nat.le_of_not_lt hi
theorem jok_zip (ra : Rep K as (fz hd as S H) (.ref a) d) (rb : Rep K as (fz hd as S H) (.ref b) e) (f : ItD) (hf : ∀ i S' hd' as' H', Wld K hd' as' S' H' → (∀ n x : Nat, as[n]? = some x → as'[n]? = some x) → ∀ o, f.nx i S' = some o → ∃ xs ys, listOf S' d = some xs ∧ listOf S' e = some ys ∧ o = (zipD xs ys)[i]?) :
    JOk K as (fz hd as S H) (Itz K a b) f := by
  intro i hd' as' S' H' pre sm w
  cases en : f.nx i S' with
  | none => trivial
  | some o =>
    obtain ⟨xs, ys, e1, e1', e2⟩ := hf i S' hd' as' H' w pre o en
    obtain ⟨a', vs, e3, hq, r⟩ := seqL w (ra.mono pre sm) e1
    cases e3
    obtain ⟨b', us, e3, hq', r'⟩ := seqL w (rb.mono pre sm) e1'
    cases e3
    rw [zipD_get] at e2
    cases ex : xs[i]? with
    | none =>
      rw [ex] at e2; subst e2
      exact ⟨vs, us, hq, hq', .inl (by rw [r.length]; exact List.getElem?_eq_none_iff.mp ex)⟩
    | some x =>
      cases ey : ys[i]? with
      | none =>
        rw [ex, ey] at e2; subst e2
        exact ⟨vs, us, hq, hq', .inr (by rw [r'.length]; exact List.getElem?_eq_none_iff.mp ey)⟩
      | some y =>
        rw [ex, ey] at e2; subst e2
        obtain ⟨v, ev, rv⟩ := r.get ex
        obtain ⟨u, eu, ru⟩ := r'.get ey
        refine ⟨⟨vs, us, v, u, hq, hq', ev, eu⟩, fun z H2 hy => ?_⟩
        obtain ⟨Tt, x1, y1, rfl, hT, rfl, k1, k2⟩ := hy
        have q1 := k1 vs hq
        have q2 := k2 us hq'
        rw [ev] at q1; cases q1
        rw [eu] at q2; cases q2
        obtain ⟨w', g, e⟩ := w.fresh (o := .tup [v, u]) hT
        exact ⟨w', g, .tup (.inl (.inl e)) (.cons (rv.grow g) (.cons (ru.grow g) .nil))⟩
theorem jok_enum (ra : Rep K as (fz hd as S H) (.ref a) d) (f : ItD) (hf : ∀ i S' hd' as' H', Wld K hd' as' S' H' → (∀ n x : Nat, as[n]? = some x → as'[n]? = some x) → ∀ o, f.nx i S' = some o → ∃ xs, listOf S' d = some xs ∧ o = (enumD xs)[i]?) : JOk K as (fz hd as S H) (Ite K a) f := by
  intro i hd' as' S' H' pre sm w
  cases en : f.nx i S' with
  | none => trivial
  | some o =>
    obtain ⟨xs, e1, e2⟩ := hf i S' hd' as' H' w pre o en
    obtain ⟨a', vs, e3, hq, r⟩ := seqL w (ra.mono pre sm) e1
    cases e3
    rw [enumD_get] at e2
    cases ex : xs[i]? with
    | none =>
      rw [ex] at e2; subst e2
      exact ⟨vs, hq, by rw [r.length]; exact List.getElem?_eq_none_iff.mp ex⟩
    | some x =>
      rw [ex] at e2; subst e2
      obtain ⟨v, ev, rv⟩ := r.get ex
      refine ⟨⟨vs, v, hq, ev⟩, fun z H2 hy => ?_⟩
      obtain ⟨Tt, x1, rfl, hT, rfl, k1⟩ := hy
      have q1 := k1 vs hq
      rw [ev] at q1; cases q1
      obtain ⟨w', g, e⟩ := w.fresh (o := .tup [.int (i : Nat), v]) hT
      exact ⟨w', g, .tup (.inl (.inl e)) (.cons (.int _) (.cons (rv.grow g) .nil))⟩
end
section
variable {X : Cx} {W : WX} {tg e e2 : Expr} {me : EM} {mr : AM} {pos tpos p : Pos} {elts : List Expr} {kk : Nat}
theorem di_list (h : DE X W e me) : DI X W tg e (imOf mItL me) := PI.le (pi_list h) fun σ H Rk ⟨hd, as, ρ, S, rel, po⟩ => tE_seq rel po fun as1 S1 H1 v d g1 rel1 r po1 => by
  cases r with
  | lst q r => exact ⟨_, rfl, ⟨_, .inl (.inl (fz_same _ _ q))⟩, po1 as1 H1 .refl rel1 _ (jok_list (.lst q r) _ fun i S' _ _ _ _ _ o h => ⟨_, rfl, (Option.some.inj h).symm⟩)⟩
  | ro q r => exact ⟨_, rfl, ⟨_, same_l fz_same q⟩, po1 as1 H1 .refl rel1 _ (jok_list (.ro q r) _ fun i S' _ _ _ _ _ o h => ⟨_, rfl, (Option.some.inj h).symm⟩)⟩
  | cell q =>
    rename_i n a
    cases e : S1[n]? with
    | none => simp only [mItL, e] at po1; exact po1.elim
    | some z =>
      cases z with
      | none => simp only [mItL, e] at po1; exact po1.elim
      | some c =>
        cases c with
        | ins _ _ => simp only [mItL, e] at po1; exact po1.elim
        | dK _ => simp only [mItL, e] at po1; exact po1.elim
        | lst xs =>
          simp only [mItL, e] at po1
          obtain ⟨a', vs, e1, hq, r⟩ := seqL rel1.w (.cell q) (show listOf S1 (.cell n) = some xs by simp [listOf, e])
          cases e1
          refine ⟨_, rfl, ⟨_, hq⟩, po1 as1 H1 .refl rel1 _ (jok_list (.cell q) _ fun i S' _ _ _ _ _ o h => ?_)⟩
          simp only [itC] at h
          split at h
          · rename_i ys e'
            exact ⟨ys, by simp [listOf, e'], (Option.some.inj h).symm⟩
          · cases h
  | _ => exact po1.elim
end
end DL

set_option Elab.async false
set_option linter.all false
set_option maxRecDepth 100000
/-! DL6: operations on data and their rules. -/
namespace DL
open PySem PySem.Spec PyProof.Rows L2
noncomputable section

/-! ### data as the library has it -/
mutual
def D.py : D → PyData
  | .non => .none
  | .bl b => .bool b
  | .int i => .int i
  | .str s => .str s
  | .tup xs => .tuple (D.pyL xs)
  | .lst xs => .list (D.pyL xs)
  | .ro xs => .list (D.pyL xs)
  | .cell _ => .none
  | .ty _ => .none
  | .err _ _ _ => .none
  | .cls _ => .none
  | .dE => .dict []
def D.pyL : List D → List PyData
  | [] => []
  | x :: xs => D.py x :: D.pyL xs
end
mutual
/-- data without cells, at most k deep -/
def D.pl : Nat → D → Bool
  | _, .non => true
  | _, .bl _ => true
  | _, .int _ => true
  | _, .str s => PyData.strOk s
  | k, .tup xs => decide (0 < k) && D.plL (k - 1) xs
  | k, .lst xs => decide (0 < k) && D.plL (k - 1) xs
  | k, .ro xs => decide (0 < k) && D.plL (k - 1) xs
  | _, .cell _ => false
  | _, .ty _ => false
  | _, .err _ _ _ => false
  | _, .cls _ => false
  | _, .dE => false
def D.plL : Nat → List D → Bool
  | _, [] => true
  | k, x :: xs => D.pl k x && D.plL k xs
end
section
variable {K : PySem.W.Frag} {as : List Addr} {F : Hp}
mutual
theorem Rep.dp : ∀ {d : D} {v : V} {k : Nat}, d.pl k = true → Rep K as F v d → Dp K F v d.py
  | .non, _, _, _, h => by cases h; simp only [D.py]; exact .non
  | .bl b, _, _, _, h => by cases h; simp only [D.py]; exact .bl b
  | .int i, _, _, _, h => by cases h; simp only [D.py]; exact .int i
  | .str s, _, _, _, h => by cases h; simp only [D.py]; exact .str s
  | .tup xs, _, k, p, h => by
    cases h with
    | tup q r => simp only [D.py]; exact .tup q (RepL.dp (k := k - 1) (by simp only [D.pl, Bool.and_eq_true] at p; exact p.2) r)
  | .lst xs, _, k, p, h => by
    cases h with
    | lst q r => simp only [D.py]; exact .lst (.inl (.inl q)) (RepL.dp (k := k - 1) (by simp only [D.pl, Bool.and_eq_true] at p; exact p.2) r)
  | .ro xs, _, k, p, h => by
    cases h with
    | ro q r => simp only [D.py]; exact .lst q (RepL.dp (k := k - 1) (by simp only [D.pl, Bool.and_eq_true] at p; exact p.2) r)
  | .cell n, _, _, p, _ => by simp [D.pl] at p
  | .ty n, _, _, p, _ => by simp [D.pl] at p
  | .err _ _ _, _, _, p, _ => by simp [D.pl] at p
  | .cls _, _, _, p, _ => by simp [D.pl] at p
  | .dE, _, _, p, _ => by simp [D.pl] at p
theorem RepL.dp : ∀ {ds : List D} {vs : List V} {k : Nat}, D.plL k ds = true → RepL K as F vs ds → DpAll K F vs (D.pyL ds)
  | [], _, _, _, h => by cases h; simp only [D.pyL]; exact .nil
  | d :: ds, _, k, p, h => by
    simp only [D.plL, Bool.and_eq_true] at p
    cases h with | cons q r => simp only [D.pyL]; exact .cons (Rep.dp p.1 q) (RepL.dp p.2 r)
end
end
mutual
theorem D.pl_shape : ∀ {d : D} {k : Nat}, d.pl k = true → d.py.canLay0 = true ∧ d.py.depth ≤ k ∧ d.py.hasDict = false
  | .non, _, _ => by simp [D.py, PyData.canLay0, PyData.depth, PyData.hasDict]
  | .bl b, _, _ => by simp [D.py, PyData.canLay0, PyData.depth, PyData.hasDict]
  | .int i, _, _ => by simp [D.py, PyData.canLay0, PyData.depth, PyData.hasDict]
  | .str s, _, h => by simpa [D.py, PyData.canLay0, PyData.depth, PyData.hasDict, D.pl] using h
  | .tup xs, k, h => by
    simp only [D.pl, Bool.and_eq_true, decide_eq_true_eq] at h
    have := D.plL_shape h.2
    simp only [D.py, PyData.canLay0, PyData.depth, PyData.hasDict]
    exact ⟨this.1, by omega, this.2.2⟩
  | .lst xs, k, h => by
    simp only [D.pl, Bool.and_eq_true, decide_eq_true_eq] at h
    have := D.plL_shape h.2
    simp only [D.py, PyData.canLay0, PyData.depth, PyData.hasDict]
    exact ⟨this.1, by omega, this.2.2⟩
  | .ro xs, k, h => by
    simp only [D.pl, Bool.and_eq_true, decide_eq_true_eq] at h
    have := D.plL_shape h.2
    simp only [D.py, PyData.canLay0, PyData.depth, PyData.hasDict]
    exact ⟨this.1, by omega, this.2.2⟩
  | .cell n, _, h => by simp [D.pl] at h
  | .ty n, _, h => by simp [D.pl] at h
  | .err _ _ _, _, h => by simp [D.pl] at h
  | .cls _, _, h => by simp [D.pl] at h
  | .dE, _, h => by simp [D.pl] at h
theorem D.plL_shape : ∀ {ds : List D} {k : Nat}, D.plL k ds = true → PyData.canLayAll0 (D.pyL ds) = true ∧ PyData.depthAll (D.pyL ds) ≤ k ∧ PyData.hasDictAll (D.pyL ds) = false
  | [], _, _ => by simp [D.pyL, PyData.canLayAll0, PyData.depthAll, PyData.hasDictAll]
  | d :: ds, k, h => by
    simp only [D.plL, Bool.and_eq_true] at h
    have h1 := D.pl_shape h.1
    have h2 := D.plL_shape h.2
    simp only [D.pyL, PyData.canLayAll0, PyData.depthAll, PyData.hasDictAll, Bool.and_eq_true, Bool.or_eq_false_iff]
    exact ⟨⟨h1.1, h2.1⟩, by omega, h1.2.2, h2.2.2⟩
end
theorem D.pl_shaped {d : D} (h : d.pl 60 = true) : SeqAt.shaped d.py = true := by
  obtain ⟨h1, h2, _⟩ := D.pl_shape h
  unfold SeqAt.shaped
  rw [h1]
  simp only [Bool.true_and, decide_eq_true_eq]
  omega
theorem dp_mono {K : PySem.W.Frag} {F F' : Hp} (e : Same F F') : (∀ {d : PyData} {v : V}, Dp K F v d → Dp K F' v d) := by
  intro d v h
  exact Dp.rec (motive_1 := fun v d _ => Dp K F' v d) (motive_2 := fun vs ds _ => DpAll K F' vs ds) .non .bl .int .str (fun q _ r => .lst (same_l e q) r) (fun q _ r => .tup (same_t e q) r) .nil (fun _ _ a b => .cons a b) h

/-- what a value is now: a cell is read -/
def topD (S : Sto) : D → D
  | .cell n => match S[n]? with
    | some (some (.lst xs)) => .lst xs
    | _ => .cell n
  | d => d
theorem Rep.dpNow {K : PySem.W.Frag} {hd : Hid} {as : List Addr} {S : Sto} {H : Hp} {v : V} {d : D} (w : Wld K hd as S H) (r : Rep K as (fz hd as S H) v d) (p : (topD S d).pl 60 = true) : Dp K H v (topD S d).py := by
  have r0 := r
  cases r with
  | cell q =>
    rename_i n a
    cases e : S[n]? with
    | none => simp [topD, e, D.pl] at p
    | some z =>
      cases z with
      | none => simp [topD, e, D.pl] at p
      | some c =>
        cases c with
        | ins _ _ => simp [topD, e, D.pl] at p
        | dK _ => simp [topD, e, D.pl] at p
        | lst xs =>
          simp only [topD, e, D.pl, Bool.and_eq_true] at p ⊢
          obtain ⟨b, vs, e1, e2, r⟩ := w.at_ n xs e
          rw [q] at e1; cases e1
          simp only [D.py]
          have := RepL.dp p.2 r
          exact dp_mono (F := H) (Same.refl _) (.lst (.inl (.inl e2)) (by
            have k : ∀ {ds : List PyData} {us : List V}, DpAll K (fz hd as S H) us ds → DpAll K H us ds := by
              intro ds
              induction ds with
              | nil => intro us h; cases h; exact .nil
              | cons d ds ih => intro us h; cases h with | cons a b => exact .cons (dp_mono fz_same a) (ih b)
            exact k this))
  | non => exact dp_mono fz_same (Rep.dp p r0)
  | bl b => exact dp_mono fz_same (Rep.dp p r0)
  | int i => exact dp_mono fz_same (Rep.dp p r0)
  | str x => exact dp_mono fz_same (Rep.dp p r0)
  | ty x => simp [topD, D.pl] at p
  | err => simp [topD, D.pl] at p
  | cls => simp [topD, D.pl] at p
  | dE _ => simp [topD, D.pl] at p
  | tup q r => exact dp_mono fz_same (Rep.dp p r0)
  | lst q r => exact dp_mono fz_same (Rep.dp p r0)
  | ro q r => exact dp_mono fz_same (Rep.dp p r0)

/-! ### ints -/
open Classical in
def opI (C : Int → Int → Prop) (g : Int → Int → D) : D → D → M D
  | .int i, .int j => fun S => if C i j then .ok (g i j) S else .stuck
  | _, _ => fun _ => .stuck
theorem act_I {K : PySem.W.Frag} {C : Int → Int → Prop} {g : Int → Int → V} {g' : Int → Int → D} (h : ∀ i j as F, Rep K as F (g i j) (g' i j)) : Act2 K (rI C g) (opI C g') := by
  intro hd as S H v u d e w r1 r2
  cases r1 with
  | int i =>
    cases r2 with
    | int j =>
      simp only [opI]
      split
      · rename_i hc
        exact .now w (h i j _ _) fun Q q => ⟨i, j, rfl, rfl, hc, q⟩
      · trivial
    | _ => trivial
  | _ => trivial
def opI0 (g : Int → Int → D) : D → D → M D
  | .int i, .int j => fun S => .ok (g i j) S
  | _, _ => fun _ => .stuck
theorem act_I0 {K : PySem.W.Frag} {g : Int → Int → V} {g' : Int → Int → D} (h : ∀ i j as F, Rep K as F (g i j) (g' i j)) : Act2 K (rI0 g) (opI0 g') := by
  intro hd as S H v u d e w r1 r2
  cases r1 with
  | int i =>
    cases r2 with
    | int j => exact .now w (h i j _ _) fun Q q => ⟨i, j, rfl, rfl, q⟩
    | _ => trivial
  | _ => trivial
def CDivA (i j : Int) : Prop := j ≠ 0 ∧ j.natAbs.log2 < 9000
abbrev oSub := opI0 fun i j => .int (i - j)
abbrev oFdiv := opI CDivA fun i j => .int (i.fdiv j)
abbrev oMod := opI (fun _ j => j ≠ 0) fun i j => .int (i.fmod j)
abbrev oPow := opI CPow fun i j => .int (i ^ j.toNat)
abbrev oLt := opI0 fun i j => .bl (decide (i < j))
abbrev oLe := opI0 fun i j => .bl (decide (i ≤ j))
abbrev oGt := opI0 fun i j => .bl (decide (j < i))
abbrev oGe := opI0 fun i j => .bl (decide (j ≤ i))
def oNeg : D → M D
  | .int i => fun S => .ok (.int (-i)) S
  | _ => fun _ => .stuck
section
variable {X : Cx}
theorem opr_fdiv : OpR X (binaryOp .FloorDiv) (rI CDivA fun i j => .int (i.fdiv j)) := L2.opI fun _ _ _ _ _ _ _ hc q => floordiv_int hc.1 q (.inl (PyProof.noPylong_of_log2 hc.2))
theorem act_sub {K : PySem.W.Frag} : Act2 K (rI0 fun i j => .int (i - j)) oSub := act_I0 fun _ _ _ _ => .int _
theorem act_fdiv {K : PySem.W.Frag} : Act2 K (rI CDivA fun i j => .int (i.fdiv j)) oFdiv := act_I fun _ _ _ _ => .int _
theorem act_mod {K : PySem.W.Frag} : Act2 K (rI (fun _ j => j ≠ 0) fun i j => .int (i.fmod j)) oMod := act_I fun _ _ _ _ => .int _
theorem act_pow {K : PySem.W.Frag} : Act2 K (rI CPow fun i j => .int (i ^ j.toNat)) oPow := act_I fun _ _ _ _ => .int _
theorem act_lt {K : PySem.W.Frag} : Act2 K (rI0 fun i j => .bl (decide (i < j))) oLt := act_I0 fun _ _ _ _ => .bl _
theorem act_le {K : PySem.W.Frag} : Act2 K (rI0 fun i j => .bl (decide (i ≤ j))) oLe := act_I0 fun _ _ _ _ => .bl _
theorem act_gt {K : PySem.W.Frag} : Act2 K (rI0 fun i j => .bl (decide (j < i))) oGt := act_I0 fun _ _ _ _ => .bl _
theorem act_neg {K : PySem.W.Frag} : Act1 K (rU fun i => .int (-i)) oNeg := by
  intro hd as S H v d w r
  cases r with
  | int i => exact .now w (.int _) fun Q q => ⟨i, rfl, q⟩
  | _ => trivial
end

/-! ### +, * -/
def oAddInt : D → D → M D
  | .int i, .int j => fun S => .ok (.int (i + j)) S
  | _, _ => fun _ => .stuck
def oAddStr : D → D → M D
  | .str a, .str b => fun S => if a.length + b.length ≤ sizeLine then .ok (.str (a ++ b)) S else .stuck
  | _, _ => fun _ => .stuck
def oAddTup : D → D → M D
  | .tup xs, .tup ys => fun S => if xs.isEmpty = false ∧ ys.isEmpty = false ∧ xs.length + ys.length ≤ sizeLine then .ok (.tup (xs ++ ys)) S else .stuck
  | _, _ => fun _ => .stuck
def oCat (d e : D) : M D := fun S => match listOw S d, listOw S e with
  | some xs, some ys => if xs.length + ys.length ≤ sizeLine then .ok (.lst (xs ++ ys)) S else .stuck
  | _, _ => .stuck
def oAdd : D → D → M D
  | .int i, .int j => fun S => .ok (.int (i + j)) S
  | .str a, .str b => oAddStr (.str a) (.str b)
  | .tup xs, .tup ys => oAddTup (.tup xs) (.tup ys)
  | d, e => oCat d e
def rAddA (K : PySem.W.Frag) : R2 := fun x y H Q => rI0 (fun i j => .int (i + j)) x y H Q ∨ ((∃ i j, x = .str i ∧ y = .str j ∧ i.length + j.length ≤ sizeLine ∧ Q (.str (i ++ j)) H) ∨ (rCat x y H Q ∨ rCatT K x y H Q))
theorem opr_add {X : Cx} : OpR X (binaryOp .Add) (rAddA X.K) := op_add.or (op_add_str.or (op_cat.or op_catT))
theorem act_cat {K : PySem.W.Frag} : Act2 K rCat oCat := by
  intro hd as S H v u d e w r1 r2
  unfold oCat
  cases e1 : listOw S d with
  | none => trivial
  | some xs =>
    cases e2 : listOw S e with
    | none => trivial
    | some ys =>
      dsimp only
      split
      · rename_i hz
        obtain ⟨a, vs, rfl, ha, ra⟩ := seqO w r1 e1
        obtain ⟨b, us, rfl, hb, rb⟩ := seqO w r2 e2
        exact .fresh w (fun p ep g => .lst ep ((ra.append rb).grow g)) fun Q q => ⟨a, b, vs, us, rfl, rfl, ha, hb, by rw [ra.length, rb.length]; exact hz, q⟩
      · trivial
theorem Ret.map {K : PySem.W.Frag} {hd : Hid} {as : List Addr} {S : Sto} {H : Hp} {r : R D} {run run' : VK → Prop} (h : Ret K hd as S H r run) (f : ∀ Q, run Q → run' Q) : Ret K hd as S H r run' := by
  cases r with
  | ok d S' => exact fun Q q => f Q (h Q q)
  | exc x S' => exact h
  | stuck => trivial
theorem act_add {K : PySem.W.Frag} : Act2 K (rAddA K) oAdd := by
  intro hd as S H v u d e w r1 r2
  have cat : Ret K hd as S H (oCat d e S) (rAddA K v u H) := (act_cat hd as S H v u d e w r1 r2).map fun Q q => .inr (.inr (.inl q))
  cases r1 with
  | int i =>
    cases r2 with
    | int j => exact .now w (.int _) fun Q q => .inl ⟨i, j, rfl, rfl, q⟩
    | _ => exact cat
  | str i =>
    cases r2 with
    | str j =>
      simp only [oAdd, oAddStr]
      split
      · rename_i hz
        exact .now w (.str _) fun Q q => .inr (.inl ⟨i, j, rfl, rfl, hz, q⟩)
      · trivial
    | _ => exact cat
  | tup q r =>
    cases r2 with
    | tup q' r' =>
      simp only [oAdd, oAddTup]
      split
      · rename_i hz
        obtain ⟨h1, h2, h3⟩ := hz
        refine .fresh w (fun p ep g => .tup (.inl (.inl ep)) ((r.append r').grow g)) fun Q q2 => .inr (.inr (.inr ⟨_, _, _, _, rfl, rfl, same_t fz_same q, same_t fz_same q', ?_, by rw [r.length, r'.length]; exact h3, fun z => ?_, fun _ => q2⟩))
        · intro z; subst z
          have := r.length
          cases r
          simp at h1
        · subst z
          cases r'
          simp at h2
      · trivial
    | _ => exact cat
  | _ => cases r2 <;> exact cat
open Classical in
def oMul : D → D → M D
  | .int i, .int j => fun S => if IntMulOk i j then .ok (.int (i * j)) S else .stuck
  | d, .int k => fun S => match listOw S d with
    | some xs => if -(2 ^ 63) ≤ k ∧ k < 2 ^ 63 ∧ xs.length * k.toNat ≤ sizeLine then .ok (.lst (List.replicate k.toNat xs).flatten) S else .stuck
    | none => .stuck
  | _, _ => fun _ => .stuck
def rMulA : R2 := fun x y H Q => rI IntMulOk (fun i j => .int (i * j)) x y H Q ∨ rRep x y H Q
theorem opr_mul {X : Cx} : OpR X (binaryOp .Mult) rMulA := OpR.or (L2.opI fun _ _ _ _ _ _ _ hc q => mul_int q hc) op_rep
theorem RepL.rep {K : PySem.W.Frag} {as : List Addr} {F : Hp} {vs : List V} {ds : List D} (h : RepL K as F vs ds) : ∀ n : Nat, RepL K as F (List.replicate n vs).flatten (List.replicate n ds).flatten
  | 0 => .nil
  | n + 1 => by simpa [List.replicate_succ] using h.append (RepL.rep h n)
theorem act_mul {K : PySem.W.Frag} : Act2 K rMulA oMul := by
  intro hd as S H v u d e w r1 r2
  have rep : ∀ k : Int, u = .int k → (∀ i, d ≠ .int i) → Ret K hd as S H (match listOw S d with
    | some xs => if -(2 ^ 63) ≤ k ∧ k < 2 ^ 63 ∧ xs.length * k.toNat ≤ sizeLine then .ok (.lst (List.replicate k.toNat xs).flatten) S else .stuck
    | none => .stuck) (rMulA v u H) := fun k eu _ => by
    subst eu
    cases e1 : listOw S d with
    | none => trivial
    | some xs =>
      dsimp only
      split
      · rename_i hz
        obtain ⟨h1, h2, h3⟩ := hz
        obtain ⟨a, vs, rfl, ha, ra⟩ := seqO w r1 e1
        exact .fresh w (fun p ep g => .lst ep ((ra.rep _).grow g)) fun Q q => .inr ⟨a, k, vs, rfl, rfl, ha, h1, h2, by rw [ra.length]; exact h3, q⟩
      · trivial
  cases r2 with
  | int j =>
    cases r1 with
    | int i =>
      simp only [oMul]
      split
      · rename_i hc
        exact .now w (.int _) fun Q q => .inl ⟨i, j, rfl, rfl, hc, q⟩
      · trivial
    | non => exact rep j rfl fun _ z => nomatch z
    | bl b => exact rep j rfl fun _ z => nomatch z
    | str x => exact rep j rfl fun _ z => nomatch z
    | ty x => exact rep j rfl fun _ z => nomatch z
    | err => exact rep j rfl fun _ z => nomatch z
    | cls => exact rep j rfl fun _ z => nomatch z
    | dE q => exact rep j rfl fun _ z => nomatch z
    | tup q r => exact rep j rfl fun _ z => nomatch z
    | lst q r => exact rep j rfl fun _ z => nomatch z
    | ro q r => exact rep j rfl fun _ z => nomatch z
    | cell q => exact rep j rfl fun _ z => nomatch z
  | _ => cases r1 <;> trivial

/-! ### == and != -/
def eqD : D → D → D → D → Option Bool
  | .str a, .str b, _, _ => some (decide (a = b))
  | _, _, d, e => if d.pl 60 && e.pl 60 then some (PyData.eqv d.py e.py) else none
def oEq (d e : D) : M D := fun S => match eqD d e (topD S d) (topD S e) with
  | some b => .ok (.bl b) S
  | none => .stuck
def oNe (d e : D) : M D := fun S => match eqD d e (topD S d) (topD S e) with
  | some b => .ok (.bl (!b)) S
  | none => .stuck
def rEqA (K : PySem.W.Frag) : R2 := fun x y H Q => rEq x y H Q ∨ rEqD K x y H Q
def rNeA (K : PySem.W.Frag) : R2 := fun x y H Q => rNe x y H Q ∨ rNeD K x y H Q
theorem opr_eq {X : Cx} (hu : X.A.units + 64 < cLine) : OpR X (compareOp .Eq) (rEqA X.K) := op_eq.or (op_eqD hu)
theorem opr_ne {X : Cx} (hu : X.A.units + 64 < cLine) : OpR X (compareOp .NotEq) (rNeA X.K) := op_ne.or (op_neD hu)
theorem eqD_cases {d e d' e' : D} {b : Bool} (h : eqD d e d' e' = some b) : (∃ x y, d = .str x ∧ e = .str y ∧ b = decide (x = y)) ∨ (d'.pl 60 = true ∧ e'.pl 60 = true ∧ b = PyData.eqv d'.py e'.py) := by
  unfold eqD at h
  split at h
  · exact .inl ⟨_, _, rfl, rfl, (Option.some.inj h).symm⟩
  · split at h
    · rename_i hp
      simp only [Bool.and_eq_true] at hp
      exact .inr ⟨hp.1, hp.2, (Option.some.inj h).symm⟩
    · cases h
theorem act_eq {K : PySem.W.Frag} : Act2 K (rEqA K) oEq := by
  intro hd as S H v u d e w r1 r2
  unfold oEq
  cases eb : eqD d e (topD S d) (topD S e) with
  | none => trivial
  | some b =>
    dsimp only
    rcases eqD_cases eb with ⟨x, y, rfl, rfl, rfl⟩ | ⟨h1, h2, rfl⟩
    · cases r1; cases r2
      refine .now w (.bl _) fun Q q => .inl ⟨rfl, ?_⟩
      have : decide (V.str x = V.str y) = decide (x = y) := by simp
      rw [this]; exact q
    · exact .now w (.bl _) fun Q q => .inr ⟨_, _, r1.dpNow w h1, r2.dpNow w h2, D.pl_shaped h1, D.pl_shaped h2, q⟩
theorem act_ne {K : PySem.W.Frag} : Act2 K (rNeA K) oNe := by
  intro hd as S H v u d e w r1 r2
  unfold oNe
  cases eb : eqD d e (topD S d) (topD S e) with
  | none => trivial
  | some b =>
    dsimp only
    rcases eqD_cases eb with ⟨x, y, rfl, rfl, rfl⟩ | ⟨h1, h2, rfl⟩
    · cases r1; cases r2
      refine .now w (.bl _) fun Q q => .inl ⟨rfl, ?_⟩
      have : decide (V.str x = V.str y) = decide (x = y) := by simp
      rw [this]; exact q
    · exact .now w (.bl _) fun Q q => .inr ⟨_, _, r1.dpNow w h1, r2.dpNow w h2, D.pl_shaped h1, D.pl_shaped h2, q⟩
end
end DL

set_option Elab.async false
set_option linter.all false
set_option maxRecDepth 100000
/-! DL7: built-in functions, subscripts, slices, list methods. -/
namespace DL
open PySem PySem.Spec PyProof.Rows L2
noncomputable section

/-! ### in -/
def flatD : D → Bool
  | .non | .bl _ | .int _ | .str _ => true
  | _ => false
def eqF : D → D → Bool
  | .non, .non => true
  | .bl a, .bl b => a == b
  | .bl a, .int b => (if a then 1 else 0) == b
  | .int a, .bl b => a == (if b then 1 else 0)
  | .int a, .int b => a == b
  | .str a, .str b => a == b
  | _, _ => false
def seqOf (S : Sto) : D → Option (List D)
  | .tup xs => some xs
  | d => listOf S d
def inD (S : Sto) (d e : D) : Option Bool := match seqOf S e with
  | some xs => if flatD d && xs.all flatD then some (xs.any fun y => eqF y d) else none
  | none => match d, e with
    | .str a, .str b => some (!(Builtin.Str.occurrences b a 0 b.length 1).isEmpty)
    | _, _ => none
def oIn (d e : D) : M D := fun S => match inD S d e with
  | some b => .ok (.bl b) S
  | none => .stuck
def oNotIn (d e : D) : M D := fun S => match inD S d e with
  | some b => .ok (.bl (!b)) S
  | none => .stuck
section
variable {K : PySem.W.Frag} {hd : Hid} {as : List Addr} {S : Sto} {H : Hp}
theorem Rep.flat {F : Hp} {v : V} {d : D} (r : Rep K as F v d) (h : flatD d = true) : flatV v = true := by
  cases r <;> first | rfl | (simp [flatD] at h)
theorem RepL.flat {F : Hp} : ∀ {ds : List D} {vs : List V}, RepL K as F vs ds → ds.all flatD = true → vs.all flatV = true
  | [], _, r, _ => by cases r; rfl
  | d :: ds, _, r, h => by
    simp only [List.all_cons, Bool.and_eq_true] at h
    cases r with | cons a b => simp only [List.all_cons, a.flat h.1, RepL.flat b h.2, Bool.and_self]
theorem eqF_eq {F : Hp} {v u : V} {d e : D} (r : Rep K as F v d) (q : Rep K as F u e) (h : flatD d = true) (g : flatD e = true) : eqF d e = eqV v u := by
  cases r <;> first | (simp [flatD] at h; done) | (cases q <;> first | rfl | (simp [flatD] at g; done))
theorem any_eqF {F : Hp} {u : V} {e : D} (q : Rep K as F u e) (g : flatD e = true) : ∀ {ds : List D} {vs : List V}, RepL K as F vs ds → ds.all flatD = true → (ds.any fun y => eqF y e) = inV u vs
  | [], _, r, _ => by cases r; rfl
  | d :: ds, _, r, h => by
    simp only [List.all_cons, Bool.and_eq_true] at h
    cases r with
    | cons a b =>
      unfold inV
      simp only [List.any_cons]
      rw [eqF_eq a q h.1 g, any_eqF q g b h.2]
      rfl
theorem seqS {v : V} {d : D} {xs : List D} (w : Wld K hd as S H) (r : Rep K as (fz hd as S H) v d) (h : seqOf S d = some xs) : ∃ a vs, v = .ref a ∧ (SqL K H a vs ∨ SqT K H a vs) ∧ RepL K as (fz hd as S H) vs xs := by
  have r0 := r
  cases r with
  | tup q r =>
    cases h
    exact ⟨_, _, rfl, .inr (same_t fz_same q), r⟩
  | lst q r => obtain ⟨a, vs, e, q, r⟩ := seqL w r0 h; exact ⟨a, vs, e, .inl q, r⟩
  | ro q r => obtain ⟨a, vs, e, q, r⟩ := seqL w r0 h; exact ⟨a, vs, e, .inl q, r⟩
  | cell q => obtain ⟨a, vs, e, q, r⟩ := seqL w r0 h; exact ⟨a, vs, e, .inl q, r⟩
  | _ => cases h
end
def rInA (K : PySem.W.Frag) (neg : Bool) : R2 := fun x y H Q => rIn K neg x y H Q ∨ (∃ i j, x = .str i ∧ y = .str j ∧ Q (.bl (if neg then !(!(Builtin.Str.occurrences j i 0 j.length 1).isEmpty) else !(Builtin.Str.occurrences j i 0 j.length 1).isEmpty)) H)
theorem opr_in {X : Cx} : OpR X (compareOp .In) (rInA X.K false) := op_in_seq.or op_in_str
theorem opr_notIn {X : Cx} : OpR X (compareOp .NotIn) (rInA X.K true) := op_notIn_seq.or op_notIn_str
theorem in_run {K : PySem.W.Frag} {hd : Hid} {as : List Addr} {S : Sto} {H : Hp} {v u : V} {d e : D} {b neg : Bool} (w : Wld K hd as S H) (r1 : Rep K as (fz hd as S H) v d) (r2 : Rep K as (fz hd as S H) u e) (h : inD S d e = some b) {Q : VK} (q : Q (.bl (if neg then !b else b)) H) : rInA K neg v u H Q := by
  unfold inD at h
  split at h
  · rename_i xs es
    split at h
    · rename_i hf
      simp only [Bool.and_eq_true] at hf
      cases h
      obtain ⟨a, vs, rfl, sq, r⟩ := seqS w r2 es
      refine .inl ⟨a, vs, rfl, sq, r1.flat hf.1, r.flat hf.2, ?_⟩
      rw [any_eqF r1 hf.1 r hf.2] at q
      exact q
    · cases h
  · split at h
    · cases h
      cases r1; cases r2
      exact .inr ⟨_, _, rfl, rfl, q⟩
    · cases h
theorem act_in {K : PySem.W.Frag} : Act2 K (rInA K false) oIn := by
  intro hd as S H v u d e w r1 r2
  unfold oIn
  cases eb : inD S d e with
  | none => trivial
  | some b => exact .now w (.bl _) fun Q q => in_run w r1 r2 eb q
theorem act_notIn {K : PySem.W.Frag} : Act2 K (rInA K true) oNotIn := by
  intro hd as S H v u d e w r1 r2
  unfold oNotIn
  cases eb : inD S d e with
  | none => trivial
  | some b => exact .now w (.bl _) fun Q q => in_run w r1 r2 eb q
/-! ### is -/
def oIsN : D → D → M D
  | d, .non => fun S => match d with
    | .non => .ok (.bl true) S
    | _ => .ok (.bl false) S
  | _, _ => fun _ => .stuck
def oNotN : D → D → M D
  | d, .non => fun S => match d with
    | .non => .ok (.bl false) S
    | _ => .ok (.bl true) S
  | _, _ => fun _ => .stuck
theorem act_isN {K : PySem.W.Frag} : Act2 K (fun x y H Q => y = .non ∧ Q (.bl (decide (x = .non))) H) oIsN := by
  intro hd as S H v u d e w r1 r2
  cases r2 with
  | non => cases r1 <;> exact .now w (.bl _) fun Q q => ⟨rfl, q⟩
  | _ => cases r1 <;> trivial
theorem act_notN {K : PySem.W.Frag} : Act2 K (fun x y H Q => y = .non ∧ Q (.bl (!decide (x = .non))) H) oNotN := by
  intro hd as S H v u d e w r1 r2
  cases r2 with
  | non => cases r1 <;> exact .now w (.bl _) fun Q q => ⟨rfl, q⟩
  | _ => cases r1 <;> trivial
def oIsB : D → D → M D
  | .bl a, .bl b => fun S => .ok (.bl (decide (a = b))) S
  | _, _ => fun _ => .stuck
def oNotB : D → D → M D
  | .bl a, .bl b => fun S => .ok (.bl (!decide (a = b))) S
  | _, _ => fun _ => .stuck
/-! ### built-in functions -/
def fLen : List D → M D
  | [.str z] => fun S => if z.length ≤ sizeLine then .ok (.int z.length) S else .stuck
  | [d] => fun S => match seqOf S d with
    | some xs => .ok (.int xs.length) S
    | none => .stuck
  | _ => fun _ => .stuck
theorem act_len {K : PySem.W.Frag} : ActL K (fun xs H Q => ∃ x n, xs = [x] ∧ LenV K x H n ∧ Q (.int n) H) fLen := by
  intro hd as S H vs ds w r
  match ds, r with
  | [], _ => trivial
  | [d], .cons r .nil =>
    rename_i v
    have seq : ∀ xs, seqOf S d = some xs → ∀ Q : VK, Q (.int xs.length) H → ∃ x n, [v] = [x] ∧ LenV K x H n ∧ Q (.int n) H := fun xs e Q q => by
      obtain ⟨a, vs, ev, sq, rr⟩ := seqS w r e
      subst ev
      rw [← rr.length] at q
      exact ⟨.ref a, vs.length, rfl, sq.elim (fun z => .inl ⟨vs, z, rfl⟩) (fun z => .inr ⟨vs, z, rfl⟩), q⟩
    cases d with
    | str z =>
      simp only [fLen]
      split
      · rename_i hz
        cases r
        exact .now w (.int _) fun Q q => ⟨_, z.length, rfl, ⟨hz, rfl⟩, q⟩
      · trivial
    | non => trivial
    | bl b => trivial
    | int i => trivial
    | ty n => trivial
    | err => trivial
    | cls => trivial
    | dE => trivial
    | tup xs => exact .now w (.int _) (seq _ rfl)
    | lst xs => exact .now w (.int _) (seq _ rfl)
    | ro xs => exact .now w (.int _) (seq _ rfl)
    | cell n =>
      simp only [fLen]
      cases e : seqOf S (.cell n) with
      | none => trivial
      | some xs => exact .now w (.int _) (seq _ e)
  | a :: b :: c, _ => cases a <;> trivial
def fAbs : List D → M D
  | [.int i] => fun S => .ok (.int (if i < 0 then -i else i)) S
  | _ => fun _ => .stuck
def fMax2 : List D → M D
  | [.int i, .int j] => fun S => .ok (.int (if j > i then j else i)) S
  | _ => fun _ => .stuck
def fMin2 : List D → M D
  | [.int i, .int j] => fun S => .ok (.int (if j < i then j else i)) S
  | _ => fun _ => .stuck
def fInt : List D → M D
  | [.int i] => fun S => .ok (.int i) S
  | [.bl k] => fun S => .ok (.int (if k then 1 else 0)) S
  | _ => fun _ => .stuck
def fStr : List D → M D
  | [.int i] => fun S => if i.natAbs.log2 < 1920 then .ok (.str (toString i)) S else .stuck
  | _ => fun _ => .stuck
theorem rep1 {K : PySem.W.Frag} {as : List Addr} {F : Hp} {vs : List V} {d : D} (r : RepL K as F vs [d]) : ∃ v, vs = [v] ∧ Rep K as F v d := by
  cases r with | cons a b => cases b; exact ⟨_, rfl, a⟩
theorem rep2 {K : PySem.W.Frag} {as : List Addr} {F : Hp} {vs : List V} {d e : D} (r : RepL K as F vs [d, e]) : ∃ v u, vs = [v, u] ∧ Rep K as F v d ∧ Rep K as F u e := by
  cases r with | cons a b => cases b with | cons b c => cases c; exact ⟨_, _, rfl, a, b⟩
theorem act_abs {K : PySem.W.Frag} : ActL K (fun xs H Q => ∃ i, xs = [.int i] ∧ Q (.int (if i < 0 then -i else i)) H) fAbs := by
  intro hd as S H vs ds w r
  unfold fAbs
  split
  · obtain ⟨v, rfl, a⟩ := rep1 r
    cases a
    exact .now w (.int _) fun Q q => ⟨_, rfl, q⟩
  · trivial
theorem act_max2 {K : PySem.W.Frag} : ActL K (fun xs H Q => ∃ i j, xs = [.int i, .int j] ∧ Q (.int (if j > i then j else i)) H) fMax2 := by
  intro hd as S H vs ds w r
  unfold fMax2
  split
  · obtain ⟨v, u, rfl, a, b⟩ := rep2 r
    cases a; cases b
    exact .now w (.int _) fun Q q => ⟨_, _, rfl, q⟩
  · trivial
theorem act_min2 {K : PySem.W.Frag} : ActL K (fun xs H Q => ∃ i j, xs = [.int i, .int j] ∧ Q (.int (if j < i then j else i)) H) fMin2 := by
  intro hd as S H vs ds w r
  unfold fMin2
  split
  · obtain ⟨v, u, rfl, a, b⟩ := rep2 r
    cases a; cases b
    exact .now w (.int _) fun Q q => ⟨_, _, rfl, q⟩
  · trivial
theorem act_int {K : PySem.W.Frag} : ActL K (fun xs H Q => (∃ i, xs = [.int i] ∧ Q (.int i) H) ∨ ∃ k, xs = [.bl k] ∧ Q (.int (if k then 1 else 0)) H) fInt := by
  intro hd as S H vs ds w r
  unfold fInt
  split
  · obtain ⟨v, rfl, a⟩ := rep1 r
    cases a
    exact .now w (.int _) fun Q q => .inl ⟨_, rfl, q⟩
  · obtain ⟨v, rfl, a⟩ := rep1 r
    cases a
    exact .now w (.int _) fun Q q => .inr ⟨_, rfl, q⟩
  · trivial
/-! repr -/
/-- no repr runs around; the modules' table is a table -/
structure Qt (A : Around) (base : Heap) : Prop where
  g : A.guards = some []
  s : ∃ mm, base.Ns sysModules mm
mutual
/-- as data, an empty table among them -/
inductive Dr (K : PySem.W.Frag) (H : Hp) : V → PyData → Prop
  | non : Dr K H .non .none
  | bl (b : Bool) : Dr K H (.bl b) (.bool b)
  | int (i : Int) : Dr K H (.int i) (.int i)
  | str (x : Str) : Dr K H (.str x) (.str x)
  | lst {a : Addr} {xs : List V} {ds : List PyData} : SqL K H a xs → DrL K H xs ds → Dr K H (.ref a) (.list ds)
  | tup {a : Addr} {xs : List V} {ds : List PyData} : SqT K H a xs → DrL K H xs ds → Dr K H (.ref a) (.tuple ds)
  | dE {a : Addr} : Rd H a (.dK []) → Dr K H (.ref a) (.dict [])
inductive DrL (K : PySem.W.Frag) (H : Hp) : List V → List PyData → Prop
  | nil : DrL K H [] []
  | cons {v : V} {vs : List V} {d : PyData} {ds : List PyData} : Dr K H v d → DrL K H vs ds → DrL K H (v :: vs) (d :: ds)
end
section
variable {X : Cx} {pins : List (Addr × Obj)} {σ : L2.St} {H : Hp} {s : Shared}
mutual
theorem Dr.reads (I : Inv X pins σ H s) (hs : ∃ mm, X.base.Ns sysModules mm) : ∀ (d : PyData) (v : V) (u : Value), Dr X.K H v d → RelV v u → ∃ as, Reads s.heap u d as ∧ sysModules ∉ as
  | .none, _, _, h, r => by
    cases h; cases r
    exact ⟨_, Reads.none, by simp⟩
  | .bool b, _, _, h, r => by
    cases h; cases r
    exact ⟨_, Reads.bool b, by simp⟩
  | .int i, _, _, h, r => by
    cases h
    obtain ⟨t, rfl⟩ := r
    exact ⟨_, Reads.int i t, by simp⟩
  | .str x, _, _, h, r => by
    cases h
    obtain ⟨t, rfl⟩ := r
    exact ⟨_, Reads.str x t, by simp⟩
  | .list ds, _, _, h, r => by
    cases h with
    | lst hq ha =>
      cases r
      obtain ⟨its, rv, ⟨o, n, ho, hc, _, hd⟩, _⟩ := I.list hq
      obtain ⟨as, hr, hn⟩ := DrL.reads I hs ds _ its ha rv
      refine ⟨_, Reads.list ho hc hd hr, ?_⟩
      intro hm
      rcases List.mem_cons.mp hm with e | e
      · obtain ⟨mm, o', es, ep, e1, e2, _⟩ := hs
        have e3 := I.bk _ _ e1
        rw [e] at e3
        rw [ho] at e3
        cases e3
        rw [hd] at e2; cases e2
      · exact hn e
  | .tuple ds, _, _, h, r => by
    cases h with
    | tup hq ha =>
      cases r
      obtain ⟨its, rv, ⟨o, ho, hc, n, hd⟩, _⟩ := I.tuple hq
      obtain ⟨as, hr, hn⟩ := DrL.reads I hs ds _ its ha rv
      exact ⟨_, Reads.tuple ho hc hd hr, hn⟩
  | .dict _, _, _, h, r => by
    cases h with
    | dE hq =>
      cases r
      obtain ⟨_, hne, vs, kv, o, es, ep, e1, e2, e3, _, e4, _⟩ := dk_rd I.hok hq
      cases kv
      have hz : es.toList = [] := by
        generalize es.toList = l at e4
        cases e4; rfl
      refine ⟨_, Reads.dict (kvs := []) e1 e2.1 e3 (by rw [hz]; exact ReadsAll.nil) (by rw [hz]; exact ReadsAll.nil), ?_⟩
      intro hm
      simp at hm
      rw [hm] at hne
      simp at hne
theorem DrL.reads (I : Inv X pins σ H s) (hs : ∃ mm, X.base.Ns sysModules mm) : ∀ (ds : List PyData) (vs : List V) (us : List Value), DrL X.K H vs ds → Vals vs us → ∃ as, ReadsAll s.heap us ds as ∧ sysModules ∉ as
  | [], _, _, h, r => by
    cases h; cases r
    exact ⟨_, ReadsAll.nil, by simp⟩
  | d :: ds, _, _, h, r => by
    cases h with
    | cons h1 h2 =>
      cases r with
      | cons r1 r2 =>
        obtain ⟨as, q1, n1⟩ := Dr.reads I hs d _ _ h1 r1
        obtain ⟨bs, q2, n2⟩ := DrL.reads I hs ds _ _ h2 r2
        exact ⟨_, ReadsAll.cons q1 q2, fun z => (List.mem_append.mp z).elim n1 n2⟩
end
end
mutual
/-- data without cells, at most k deep, an empty table among them -/
def D.pr : Nat → D → Bool
  | _, .non => true
  | _, .bl _ => true
  | _, .int _ => true
  | _, .str s => PyData.strOk s
  | k, .tup xs => decide (0 < k) && D.prL (k - 1) xs
  | k, .lst xs => decide (0 < k) && D.prL (k - 1) xs
  | k, .ro xs => decide (0 < k) && D.prL (k - 1) xs
  | _, .cell _ => false
  | _, .ty _ => false
  | _, .err _ _ _ => false
  | _, .cls _ => false
  | k, .dE => decide (0 < k)
def D.prL : Nat → List D → Bool
  | _, [] => true
  | k, x :: xs => D.pr k x && D.prL k xs
end
mutual
theorem D.pr_of : ∀ {d : D} {k : Nat}, d.pl k = true → d.pr k = true
  | .non, _, _ => rfl
  | .bl b, _, _ => rfl
  | .int i, _, _ => rfl
  | .str s, _, h => by simpa [D.pr, D.pl] using h
  | .tup xs, k, h => by
    simp only [D.pl, Bool.and_eq_true] at h
    simp only [D.pr, Bool.and_eq_true]
    exact ⟨h.1, D.prL_of h.2⟩
  | .lst xs, k, h => by
    simp only [D.pl, Bool.and_eq_true] at h
    simp only [D.pr, Bool.and_eq_true]
    exact ⟨h.1, D.prL_of h.2⟩
  | .ro xs, k, h => by
    simp only [D.pl, Bool.and_eq_true] at h
    simp only [D.pr, Bool.and_eq_true]
    exact ⟨h.1, D.prL_of h.2⟩
  | .cell n, _, h => by simp [D.pl] at h
  | .ty n, _, h => by simp [D.pl] at h
  | .err _ _ _, _, h => by simp [D.pl] at h
  | .cls _, _, h => by simp [D.pl] at h
  | .dE, _, h => by simp [D.pl] at h
theorem D.prL_of : ∀ {ds : List D} {k : Nat}, D.plL k ds = true → D.prL k ds = true
  | [], _, _ => rfl
  | d :: ds, k, h => by
    simp only [D.plL, Bool.and_eq_true] at h
    simp only [D.prL, D.pr_of h.1, D.prL_of h.2, Bool.and_self]
end
mutual
theorem D.pr_depth : ∀ {d : D} {k : Nat}, d.pr k = true → d.py.depth ≤ k
  | .non, _, _ => by simp [D.py, PyData.depth]
  | .bl b, _, _ => by simp [D.py, PyData.depth]
  | .int i, _, _ => by simp [D.py, PyData.depth]
  | .str s, _, h => by simp [D.py, PyData.depth]
  | .tup xs, k, h => by
    simp only [D.pr, Bool.and_eq_true, decide_eq_true_eq] at h
    have := D.prL_depth h.2
    simp only [D.py, PyData.depth]
    omega
  | .lst xs, k, h => by
    simp only [D.pr, Bool.and_eq_true, decide_eq_true_eq] at h
    have := D.prL_depth h.2
    simp only [D.py, PyData.depth]
    omega
  | .ro xs, k, h => by
    simp only [D.pr, Bool.and_eq_true, decide_eq_true_eq] at h
    have := D.prL_depth h.2
    simp only [D.py, PyData.depth]
    omega
  | .cell n, _, h => by simp [D.pr] at h
  | .ty n, _, h => by simp [D.pr] at h
  | .err _ _ _, _, h => by simp [D.pr] at h
  | .cls _, _, h => by simp [D.pr] at h
  | .dE, k, h => by
    simp only [D.pr, decide_eq_true_eq] at h
    simp only [D.py, PyData.depth, PyData.depthKv]
    omega
theorem D.prL_depth : ∀ {ds : List D} {k : Nat}, D.prL k ds = true → PyData.depthAll (D.pyL ds) ≤ k
  | [], _, _ => by simp [D.pyL, PyData.depthAll]
  | d :: ds, k, h => by
    simp only [D.prL, Bool.and_eq_true] at h
    have h1 := D.pr_depth h.1
    have h2 := D.prL_depth h.2
    simp only [D.pyL, PyData.depthAll]
    omega
end
section
variable {K : PySem.W.Frag} {as : List Addr} {F H : Hp}
mutual
theorem Rep.dr (e : Same F H) : ∀ {d : D} {v : V} {k : Nat}, d.pr k = true → Rep K as F v d → Dr K H v d.py
  | .non, _, _, _, h => by cases h; simp only [D.py]; exact .non
  | .bl b, _, _, _, h => by cases h; simp only [D.py]; exact .bl b
  | .int i, _, _, _, h => by cases h; simp only [D.py]; exact .int i
  | .str s, _, _, _, h => by cases h; simp only [D.py]; exact .str s
  | .tup xs, _, k, p, h => by
    cases h with
    | tup q r => simp only [D.py]; exact .tup (same_t e q) (RepL.dr e (k := k - 1) (by simp only [D.pr, Bool.and_eq_true] at p; exact p.2) r)
  | .lst xs, _, k, p, h => by
    cases h with
    | lst q r => simp only [D.py]; exact .lst (.inl (.inl (e _ _ q))) (RepL.dr e (k := k - 1) (by simp only [D.pr, Bool.and_eq_true] at p; exact p.2) r)
  | .ro xs, _, k, p, h => by
    cases h with
    | ro q r => simp only [D.py]; exact .lst (same_l e q) (RepL.dr e (k := k - 1) (by simp only [D.pr, Bool.and_eq_true] at p; exact p.2) r)
  | .cell n, _, _, p, _ => by simp [D.pr] at p
  | .ty n, _, _, p, _ => by simp [D.pr] at p
  | .err _ _ _, _, _, p, _ => by simp [D.pr] at p
  | .cls _, _, _, p, _ => by simp [D.pr] at p
  | .dE, _, _, p, h => by
    cases h with
    | dE q => simp only [D.py]; exact .dE (same_rd e q)
theorem RepL.dr (e : Same F H) : ∀ {ds : List D} {vs : List V} {k : Nat}, D.prL k ds = true → RepL K as F vs ds → DrL K H vs (D.pyL ds)
  | [], _, _, _, h => by cases h; simp only [D.pyL]; exact .nil
  | d :: ds, _, k, p, h => by
    simp only [D.prL, Bool.and_eq_true] at p
    cases h with | cons q r => simp only [D.pyL]; exact .cons (Rep.dr e p.1 q) (RepL.dr e p.2 r)
end
end
theorem Rep.drNow {K : PySem.W.Frag} {hd : Hid} {as : List Addr} {S : Sto} {H : Hp} {v : V} {d : D} (w : Wld K hd as S H) (r : Rep K as (fz hd as S H) v d) (p : (topD S d).pr 60 = true) : Dr K H v (topD S d).py := by
  have r0 := r
  cases r with
  | cell q =>
    rename_i n a
    cases e : S[n]? with
    | none => simp [topD, e, D.pr] at p
    | some z =>
      cases z with
      | none => simp [topD, e, D.pr] at p
      | some c =>
        cases c with
        | ins _ _ => simp [topD, e, D.pr] at p
        | dK _ => simp [topD, e, D.pr] at p
        | lst xs =>
          simp only [topD, e, D.pr, Bool.and_eq_true] at p ⊢
          obtain ⟨b, vs, e1, e2, r⟩ := w.at_ n xs e
          rw [q] at e1; cases e1
          simp only [D.py]
          exact .lst (.inl (.inl e2)) (RepL.dr fz_same p.2 r)
  | _ => exact Rep.dr fz_same p r0
def rRepr (K : PySem.W.Frag) : List V → Hp → VK → Prop := fun xs H Q => ∃ v d, xs = [v] ∧ Dr K H v d ∧ d.showable = true ∧ d.depth ≤ 64 ∧ d.shown.length ≤ sizeLine ∧ Q (.str d.shown) H
theorem call_reprA {X : Cx} (hg : Qt X.A X.base) (hu : X.A.units + 66 < cLine) : CallR X (.builtin "repr") (rRepr X.K) := by
  intro pins s σ H xs us Q I r h
  obtain ⟨v, d, rfl, hd, h1, h3, h4, q⟩ := h
  obtain ⟨u, rfl, ru⟩ := vals1 r
  obtain ⟨as, rd, ns⟩ := Dr.reads I hg.s d v u hd ru
  cases hd with
  | non => cases ru; exact PySem.P.repr_of_none ⟨.str _, H, I.tok _, ⟨_, rfl⟩, q⟩
  | bl b =>
    cases ru
    refine PySem.P.repr_of_bool ⟨.str _, H, I.tok _, ⟨_, rfl⟩, ?_⟩
    cases b <;> exact q
  | int i =>
    obtain ⟨t, rfl⟩ := ru
    exact PySem.P.repr_of_int (by simpa [PyData.showable] using h1) ⟨.str _, H, I.tok _, ⟨_, rfl⟩, q⟩
  | str x =>
    obtain ⟨t, rfl⟩ := ru
    exact PySem.P.repr_of_str ⟨.str _, H, I.tok _, ⟨_, rfl⟩, q⟩ h4
  | lst a b =>
    cases ru
    exact repr_of_reads' rd h1 (fun _ => ns) hg.g (by omega) (fun _ _ e => e) (fun h' t tk hk => ⟨.str _, H, I.kept hk, ⟨_, rfl⟩, q⟩) h4
  | tup a b =>
    cases ru
    exact repr_of_reads' rd h1 (fun _ => ns) hg.g (by omega) (fun _ _ e => e) (fun h' t tk hk => ⟨.str _, H, I.kept hk, ⟨_, rfl⟩, q⟩) h4
  | dE a =>
    cases ru
    exact repr_of_reads' rd h1 (fun _ => ns) hg.g (by omega) (fun _ _ e => e) (fun h' t tk hk => ⟨.str _, H, I.kept hk, ⟨_, rfl⟩, q⟩) h4
/-- what repr tells of data -/
def D.shown (d : D) : Str := d.py.shown
def D.shows (d : D) : Bool := d.py.showable && decide (d.py.shown.length ≤ sizeLine)
def fRepr : List D → M D
  | [d] => fun S => if (topD S d).pr 60 && (topD S d).shows then .ok (.str (topD S d).shown) S else .stuck
  | _ => fun _ => .stuck
/-! isinstance with a built-in class -/
def kindD (S : Sto) : D → Option String
  | .non => some "NoneType"
  | .bl _ => some "bool"
  | .int _ => some "int"
  | .str _ => some "str"
  | .tup _ => some "tuple"
  | .lst _ => some "list"
  | .ro _ => some "list"
  | .cell n => match S[n]? with
    | some (some (.lst _)) => some "list"
    | _ => none
  | .ty _ => none
  | .err _ _ _ => none
  | .cls _ => none
  | .dE => some "dict"
theorem Rep.kind {K : PySem.W.Frag} {hd : Hid} {as : List Addr} {S : Sto} {H : Hp} {v : V} {d : D} {k : String} (w : Wld K hd as S H) (r : Rep K as (fz hd as S H) v d) (h : kindD S d = some k) : TyX K H v (.type k) := by
  have ofL : ∀ {a : Addr} {vs : List V}, SqL K H a vs → TyX K H (.ref a) (.type "list") := fun {a vs} q => by
    rcases q with (q | ⟨o, q⟩) | ⟨o, its, n, q1, q2, _⟩
    · exact .base (.lst q)
    · exact .base (.frz q)
    · exact .kList q1 q2
  have ofT : ∀ {a : Addr} {vs : List V}, SqT K H a vs → TyX K H (.ref a) (.type "tuple") := fun {a vs} q => by
    rcases q with (q | ⟨o, q⟩) | ⟨o, its, n, q1, q2, _⟩
    · exact .base (.tup q)
    · exact .fTuple q
    · exact .kTuple q1 q2
  have r0 := r
  cases r with
  | non => cases h; exact .base .non
  | bl b => cases h; exact .base (.bl b)
  | int i => cases h; exact .base (.int i)
  | str x => cases h; exact .base (.str x)
  | ty x => cases h
  | err => cases h
  | cls => cases h
  | dE q =>
    cases h
    rcases same_rd fz_same q with q | ⟨o, q⟩
    · exact .base (.dK q)
    · exact .fDict q
  | tup q r => cases h; exact ofT (same_t fz_same q)
  | lst q r => cases h; exact ofL (.inl (.inl (fz_same _ _ q)))
  | ro q r => cases h; exact ofL (same_l fz_same q)
  | cell q =>
    simp only [kindD] at h
    split at h
    · rename_i xs e
      cases h
      obtain ⟨a, vs, e1, hq, r⟩ := seqL w r0 (show listOf S _ = some xs by simp [listOf, e])
      cases e1
      exact ofL hq
    · cases h
def fIsi : List D → M D
  | [d, .ty c] => fun S => match kindD S d with
    | some k => match kitB k c with
      | some b => .ok (.bl b) S
      | none => .stuck
    | none => .stuck
  | _ => fun _ => .stuck
theorem act_isi {K : PySem.W.Frag} : ActL K (rIsi K) fIsi := by
  intro hd as S H vs ds w r
  unfold fIsi
  split
  · rename_i d c
    cases ek : kindD S d with
    | none => trivial
    | some k =>
      dsimp only
      cases eb : kitB k c with
      | none => trivial
      | some b =>
        obtain ⟨v, u, rfl, a, b'⟩ := rep2 r
        cases b'
        exact .now w (.bl _) fun Q q => ⟨_, _, _, _, b, rfl, .ty c, a.kind w ek, kit_ty eb, q⟩
  · trivial
/-! sum, all, any -/
def intsOf : List D → Option (List Int)
  | [] => some []
  | .int i :: r => (intsOf r).map (i :: ·)
  | _ :: _ => none
def blsOf : List D → Option (List Bool)
  | [] => some []
  | .bl i :: r => (blsOf r).map (i :: ·)
  | _ :: _ => none
theorem RepL.ints {K : PySem.W.Frag} {as : List Addr} {F : Hp} : ∀ {ds : List D} {vs : List V} {ns : List Int}, RepL K as F vs ds → intsOf ds = some ns → vs = ns.map V.int
  | [], _, _, r, h => by cases r; cases h; rfl
  | .int i :: ds, _, ns, r, h => by
    cases r with
    | cons a b =>
      cases a
      simp only [intsOf, Option.map_eq_some_iff] at h
      obtain ⟨ms, e, rfl⟩ := h
      rw [RepL.ints b e] <;> rfl
  | .non :: _, _, _, _, h | .bl _ :: _, _, _, _, h | .str _ :: _, _, _, _, h | .tup _ :: _, _, _, _, h | .lst _ :: _, _, _, _, h | .ro _ :: _, _, _, _, h | .cell _ :: _, _, _, _, h | .ty _ :: _, _, _, _, h => by simp [intsOf] at h
theorem RepL.bls {K : PySem.W.Frag} {as : List Addr} {F : Hp} : ∀ {ds : List D} {vs : List V} {ns : List Bool}, RepL K as F vs ds → blsOf ds = some ns → vs = ns.map V.bl
  | [], _, _, r, h => by cases r; cases h; rfl
  | .bl i :: ds, _, ns, r, h => by
    cases r with
    | cons a b =>
      cases a
      simp only [blsOf, Option.map_eq_some_iff] at h
      obtain ⟨ms, e, rfl⟩ := h
      rw [RepL.bls b e] <;> rfl
  | .non :: _, _, _, _, h | .int _ :: _, _, _, _, h | .str _ :: _, _, _, _, h | .tup _ :: _, _, _, _, h | .lst _ :: _, _, _, _, h | .ro _ :: _, _, _, _, h | .cell _ :: _, _, _, _, h | .ty _ :: _, _, _, _, h => by simp [blsOf] at h
def fSum : List D → M D
  | [d] => fun S => match (listOf S d).bind intsOf with
    | some ns => .ok (.int ns.sum) S
    | none => .stuck
  | _ => fun _ => .stuck
def fAll : List D → M D
  | [d] => fun S => match (listOf S d).bind blsOf with
    | some ns => .ok (.bl (ns.all id)) S
    | none => .stuck
  | _ => fun _ => .stuck
def fAny : List D → M D
  | [d] => fun S => match (listOf S d).bind blsOf with
    | some ns => .ok (.bl (ns.any id)) S
    | none => .stuck
  | _ => fun _ => .stuck
theorem act_sum {K : PySem.W.Frag} : ActL K (rSum K) fSum := by
  intro hd as S H vs ds w r
  match ds, r with
  | [], _ => trivial
  | [d], r =>
    obtain ⟨v, rfl, a⟩ := rep1 r
    simp only [fSum]
    cases e : (listOf S d).bind intsOf with
    | none => trivial
    | some ns =>
      obtain ⟨xs, e1, e2⟩ := Option.bind_eq_some_iff.mp e
      obtain ⟨p, vs, rfl, hq, r⟩ := seqL w a e1
      rw [r.ints e2] at hq
      exact .now w (.int _) fun Q q => ⟨p, ns, rfl, hq, q⟩
  | _ :: _ :: _, _ => trivial
theorem act_all {K : PySem.W.Frag} : ActL K (rAll K) fAll := by
  intro hd as S H vs ds w r
  match ds, r with
  | [], _ => trivial
  | [d], r =>
    obtain ⟨v, rfl, a⟩ := rep1 r
    simp only [fAll]
    cases e : (listOf S d).bind blsOf with
    | none => trivial
    | some ns =>
      obtain ⟨xs, e1, e2⟩ := Option.bind_eq_some_iff.mp e
      obtain ⟨p, vs, rfl, hq, r⟩ := seqL w a e1
      rw [r.bls e2] at hq
      exact .now w (.bl _) fun Q q => ⟨p, ns, rfl, hq, q⟩
  | _ :: _ :: _, _ => trivial
/-! list(..), tuple(..) -/
def fList : List D → M D
  | [d] => fun S => match seqOf S d with
    | some xs => .ok (.lst xs) S
    | none => .stuck
  | _ => fun _ => .stuck
def fListC : List D → M D
  | [d] => fun S => match seqOf S d with
    | some xs => .ok (.cell S.length) (S ++ [some (.lst xs)])
    | none => .stuck
  | _ => fun _ => .stuck
def fTuple : List D → M D
  | [.tup xs] => fun S => .ok (.tup xs) S
  | [d] => fun S => match listOf S d with
    | some xs => .ok (.tup xs) S
    | none => .stuck
  | _ => fun _ => .stuck
theorem act_listC {K : PySem.W.Frag} : ActL K (fun xs H Q => ∃ p ys, xs = [.ref p] ∧ (SqL K H p ys ∨ SqT K H p ys) ∧ ∀ l, H l = none → Q (.ref l) (upd H l (.lst ys))) fListC := by
  intro hd as S H vs ds w r
  match ds, r with
  | [], _ => trivial
  | [d], r =>
    obtain ⟨v, rfl, a⟩ := rep1 r
    simp only [fListC]
    cases e : seqOf S d with
    | none => trivial
    | some xs =>
      obtain ⟨p, vs, rfl, hq, r⟩ := seqS w a e
      exact fun Q q => ⟨p, vs, rfl, hq, fun l hl => by
        obtain ⟨w', g, e⟩ := w.newCell hl r
        exact q _ _ _ g w' (.cell e)⟩
  | _ :: _ :: _, _ => trivial
/-! ### subscripts, slices -/
def oIx : D → D → M D
  | .str z, .int i => fun S => if z.length ≤ sizeLine then match atI z.cps.toList i with
      | some c => .ok (.str ⟨#[c]⟩) S
      | none => .stuck
    else .stuck
  | d, .int i => fun S => match (seqOf S d).bind fun xs => atI xs i with
    | some x => .ok x S
    | none => .stuck
  | _, _ => fun _ => .stuck
theorem atI_rep {K : PySem.W.Frag} {as : List Addr} {F : Hp} {ds : List D} {vs : List V} {i : Int} {d : D} (r : RepL K as F vs ds) (h : atI ds i = some d) : ∃ v, atI vs i = some v ∧ Rep K as F v d := by
  unfold atI at h ⊢
  rw [r.length]
  obtain ⟨j, e1, e2⟩ := Option.bind_eq_some_iff.mp h
  obtain ⟨v, ev, rv⟩ := r.get e2
  exact ⟨v, by rw [e1]; exact ev, rv⟩
theorem act_ix {K : PySem.W.Frag} : Act2 K (rIx K) oIx := by
  intro hd as S H v u d e w r1 r2
  have seq : ∀ i, u = .int i → Ret K hd as S H (match (seqOf S d).bind fun xs => atI xs i with
    | some x => .ok x S
    | none => .stuck) (rIx K v u H) := fun i eu => by
    subst eu
    cases e : (seqOf S d).bind fun xs => atI xs i with
    | none => trivial
    | some x =>
      obtain ⟨xs, e1, e2⟩ := Option.bind_eq_some_iff.mp e
      obtain ⟨a, vs, rfl, hq, r⟩ := seqS w r1 e1
      obtain ⟨y, ey, ry⟩ := atI_rep r e2
      exact .now w ry fun Q q => hq.elim (fun z => .inl ⟨a, vs, i, y, rfl, rfl, z, ey, q⟩) fun z => .inr (.inl ⟨a, vs, i, y, rfl, rfl, z, ey, q⟩)
  cases r2 with
  | int i =>
    cases r1 with
    | str z =>
      simp only [oIx]
      split
      · rename_i hz
        cases ec : atI z.cps.toList i with
        | none => trivial
        | some c => exact .now w (.str _) fun Q q => .inr (.inr ⟨z, i, c, rfl, rfl, hz, ec, q⟩)
      · trivial
    | non => trivial
    | bl b => trivial
    | int i => trivial
    | ty n => trivial
    | err => trivial
    | cls => trivial
    | dE q => trivial
    | tup q r => exact seq i rfl
    | lst q r => exact seq i rfl
    | ro q r => exact seq i rfl
    | cell q => exact seq i rfl
  | _ => cases r1 <;> trivial
def cutD (xs : List D) (lo hi : Option Int) : List D := (xs.drop (HT.sIx xs.length 0 lo)).take (HT.sIx xs.length xs.length hi - HT.sIx xs.length 0 lo)
def oSlL (d : D) (lo hi : Option Int) : M D := fun S => match listOf S d with
  | some xs => .ok (.lst (cutD xs lo hi)) S
  | none => .stuck
def oSlT (d : D) (lo hi : Option Int) : M D := fun S => match d with
  | .tup xs => if ¬ (HT.sIx xs.length 0 lo = 0 ∧ HT.sIx xs.length xs.length hi = xs.length) then .ok (.tup (cutD xs lo hi)) S else .stuck
  | _ => .stuck
def oSlS (d : D) (lo hi : Option Int) : M D := fun S => match d with
  | .str z => if z.length ≤ sizeLine then .ok (.str (cutS z lo hi)) S else .stuck
  | _ => .stuck
theorem RepL.cut_ {K : PySem.W.Frag} {as : List Addr} {F : Hp} {ds : List D} {vs : List V} (r : RepL K as F vs ds) (lo hi : Option Int) : RepL K as F (cutV vs lo hi) (cutD ds lo hi) := by
  unfold cutV cutD
  rw [r.length]
  exact (r.drop _).take _
theorem act_slL {K : PySem.W.Frag} : ActS K (rSlL K) oSlL := by
  intro hd as S H v d lo hi w r
  unfold oSlL
  cases e : listOf S d with
  | none => trivial
  | some xs =>
    obtain ⟨a, vs, rfl, hq, r⟩ := seqL w r e
    exact .fresh w (fun p ep g => .lst ep ((r.cut_ lo hi).grow g)) fun Q q => ⟨a, vs, rfl, hq, q⟩
theorem act_slT {K : PySem.W.Frag} : ActS K (rSlT K) oSlT := by
  intro hd as S H v d lo hi w r
  unfold oSlT
  split
  · split
    · rename_i hn
      obtain ⟨a, vs, rfl, hq, r⟩ := seqT r
      exact .fresh w (fun p ep g => .tup (.inl (.inl ep)) ((r.cut_ lo hi).grow g)) fun Q q => ⟨a, vs, rfl, hq, by rw [r.length]; exact hn, q⟩
    · trivial
  · trivial
theorem act_slS {K : PySem.W.Frag} : ActS K rSlS oSlS := by
  intro hd as S H v d lo hi w r
  unfold oSlS
  split
  · split
    · rename_i hz
      cases r
      exact .now w (.str _) fun Q q => ⟨_, rfl, hz, q⟩
    · trivial
  · trivial
/-! ### list methods -/
def chkL (d : D) (S : Sto) : Bool := (listOf S d).isSome
theorem ty_list {K : PySem.W.Frag} : TyOk K "list" chkL := by
  intro hd as S H v d w r h
  obtain ⟨xs, e⟩ := Option.isSome_iff_exists.mp h
  obtain ⟨a, vs, rfl, hq, _⟩ := seqL w r e
  exact .inl ⟨rfl, vs, hq⟩
def mAppend : D → List D → M D
  | .cell n, [x] => fun S => match S[n]? with
    | some (some (.lst xs)) => if xs.length < sizeLine then .ok .non (S.set n (some (.lst (xs ++ [x])))) else .stuck
    | _ => .stuck
  | _, _ => fun _ => .stuck
theorem act_append {K : PySem.W.Frag} : ActM K rAppend mAppend := by
  intro hd as S H v vs d ds w r rs
  unfold mAppend
  split
  · rename_i n x
    split
    · rename_i xs e
      split
      · rename_i hz
        obtain ⟨u, rfl, ru⟩ := rep1 rs
        cases r with
        | cell q =>
          obtain ⟨a, ws, e1, e2, r⟩ := w.at_ n xs e
          rw [q] at e1; cases e1
          obtain ⟨w', g⟩ := w.write e q (r.append (.cons ru .nil))
          exact fun Q k => ⟨_, ws, u, rfl, rfl, e2, by rw [r.length]; exact hz, k _ _ _ g w' .non⟩
      · trivial
    · trivial
  · trivial
def mExtend : D → List D → M D
  | .cell n, [d] => fun S => match S[n]?, listOw S d with
    | some (some (.lst xs)), some ys => if xs.length + ys.length ≤ sizeLine then .ok .non (S.set n (some (.lst (xs ++ ys)))) else .stuck
    | _, _ => .stuck
  | _, _ => fun _ => .stuck
theorem act_extend {K : PySem.W.Frag} : ActM K rExtend mExtend := by
  intro hd as S H v vs d ds w r rs
  unfold mExtend
  split
  · rename_i n x
    split
    · rename_i xs ys e ey
      split
      · rename_i hz
        obtain ⟨u, rfl, ru⟩ := rep1 rs
        cases r with
        | cell q =>
          obtain ⟨a, ws, e1, e2, r⟩ := w.at_ n xs e
          rw [q] at e1; cases e1
          obtain ⟨b, us, rfl, hb, rb⟩ := seqO w ru ey
          obtain ⟨w', g⟩ := w.write e q (r.append rb)
          exact fun Q k => ⟨_, b, ws, us, rfl, rfl, e2, hb, by rw [r.length, rb.length]; exact hz, k _ _ _ g w' .non⟩
      · trivial
    · trivial
  · trivial

/-! ### more that is walked -/
section
variable {X : Cx} {W : WX} {tg e e2 : Expr} {me : EM} {mr : AM} {pos tpos p : Pos} {elts : List Expr} {kk : Nat}
theorem di_rng1 (hg : Gl X "range") (hm : X.mg "range" = none) (h : DA X W [e] mr) (hq : starEach [e] X.env = [(false, eval e X.env)] := by rfl) : DI X W tg (.Call (.Name "range" p) [e] [] pos) (imOfA mItR1 mr) := PI.le (pi_range1 hg hm h hq) fun σ H Rk ⟨hd, as, ρ, S, rel, po⟩ => tA_seq rel po fun as1 S1 H1 vs ds g1 rel1 r po1 => by
  unfold mItR1 at po1
  split at po1
  · rename_i j
    split at po1
    · rename_i hz
      obtain ⟨v, rfl, a⟩ := rep1 r
      cases a
      refine ⟨_, rfl, hz.1, hz.2, po1 as1 H1 .refl rel1 _ ?_⟩
      have := jok_rng (K := X.K) (hd := hd) (as := as1) (S := S1) (H := H1) (lo := 0) (n := j.toNat)
      simpa using this
    · exact po1.elim
  · exact po1.elim
theorem frozen_list {S : Sto} {d : D} {xs : List D} (h : frozenL d = some xs) : listOf S d = some xs := by
  cases d <;> first | exact h | cases h
theorem di_zip (hg : Gl X "zip") (hm : X.mg "zip" = none) (h : DA X W [e, e2] mr) (hq : starEach [e, e2] X.env = (false, eval e X.env) :: starEach [e2] X.env := by rfl) (hpl : (backTo pos (starEach [e2] X.env)).any (·.1) = false := by rfl) : DI X W (.Tuple elts kk tpos) (.Call (.Name "zip" p) [e, e2] [] pos) (imOfA mItZ mr) :=
  PI.le (pi_zip hg hm h hq hpl) fun σ H Rk ⟨hd, as, ρ, S, rel, po⟩ => tA_seq rel po fun as1 S1 H1 vs ds g1 rel1 r po1 => by
  unfold mItZ at po1
  split at po1
  · rename_i d e
    obtain ⟨v, u, rfl, ra, rb⟩ := rep2 r
    split at po1
    · rename_i xs ys e1 e2
      obtain ⟨a, vs, rfl, ha, _⟩ := seqL rel1.w ra (frozen_list e1)
      obtain ⟨b, us, rfl, hb, _⟩ := seqL rel1.w rb (frozen_list e2)
      exact ⟨a, b, vs, us, rfl, ha, hb, po1 as1 H1 .refl rel1 _ (jok_zip ra rb _ fun i S' _ _ _ _ _ o h => ⟨xs, ys, frozen_list e1, frozen_list e2, (Option.some.inj h).symm⟩)⟩
    · split at po1
      · rename_i xs ys e1 e2
        obtain ⟨a, vs, rfl, ha, _⟩ := seqL rel1.w ra e1
        obtain ⟨b, us, rfl, hb, _⟩ := seqL rel1.w rb e2
        refine ⟨a, b, vs, us, rfl, ha, hb, po1 as1 H1 .refl rel1 _ (jok_zip ra rb _ fun i S' _ _ _ _ _ o h => ?_)⟩
        simp only [itZ] at h
        split at h
        · rename_i xs' ys' e1' e2'
          exact ⟨xs', ys', e1', e2', (Option.some.inj h).symm⟩
        · cases h
      · exact po1.elim
  · exact po1.elim
theorem di_enum (hg : Gl X "enumerate") (hm : X.mg "enumerate" = none) (h : DA X W [e] mr) (hq : starEach [e] X.env = [(false, eval e X.env)] := by rfl) : DI X W (.Tuple elts kk tpos) (.Call (.Name "enumerate" p) [e] [] pos) (imOfA mItE mr) :=
  PI.le (pi_enum hg hm h hq) fun σ H Rk ⟨hd, as, ρ, S, rel, po⟩ => tA_seq rel po fun as1 S1 H1 vs ds g1 rel1 r po1 => by
  unfold mItE at po1
  split at po1
  · rename_i d
    obtain ⟨v, rfl, ra⟩ := rep1 r
    split at po1
    · rename_i xs e1
      obtain ⟨a, vs, rfl, ha, _⟩ := seqL rel1.w ra (frozen_list e1)
      exact ⟨a, vs, rfl, ha, po1 as1 H1 .refl rel1 _ (jok_enum ra _ fun i S' _ _ _ _ _ o h => ⟨xs, frozen_list e1, (Option.some.inj h).symm⟩)⟩
    · split at po1
      · rename_i xs e1
        obtain ⟨a, vs, rfl, ha, _⟩ := seqL rel1.w ra e1
        refine ⟨a, vs, rfl, ha, po1 as1 H1 .refl rel1 _ (jok_enum ra _ fun i S' _ _ _ _ _ o h => ?_)⟩
        simp only [itE] at h
        split at h
        · rename_i xs' e1'
          exact ⟨xs', e1', (Option.some.inj h).symm⟩
        · cases h
      · exact po1.elim
  · exact po1.elim
end
end
end DL

set_option Elab.async false
set_option linter.all false
set_option maxRecDepth 100000
/-! DL8: defs by their bodies, calls of defs. -/
namespace DL
open PySem PySem.Spec PyProof.Rows L2
noncomputable section

/-! ### what is left of the cells behind a call -/
def Cut (S : Sto) (d : D) (S' : Sto) : Prop := d.bel S.length = true ∧ ∀ (i : Nat) c, i < S.length → S'[i]? = some (some c) → S[i]? = some (some c) ∨ c.bel S.length = true
open Classical in
def trim (S : Sto) (d : D) (S' : Sto) : Sto := if Cut S d S' then S'.take S.length else S'
theorem trim_same {S : Sto} {d : D} {S' : Sto} (h : S'.length = S.length) : trim S d S' = S' := by
  unfold trim
  split
  · rw [← h, List.take_length]
  · rfl
theorem trim_cut {S : Sto} {d : D} {S' : Sto} (h : Cut S d S') : trim S d S' = S'.take S.length := if_pos h
section
variable {K : PySem.W.Frag} {hd : Hid} {as as' : List Addr} {S S' : Sto} {H H' : Hp} {v : V} {d : D}
theorem live_take {n : Nat} {b : Addr} (h : b ∈ live (as'.take n) (S'.take n)) : b ∈ live as' S' := by
  obtain ⟨i, c, h1, h2⟩ := mem_live.mp h
  have hi : i < n := by
    have := (List.getElem?_eq_some_iff.mp h1).1
    simp at this; omega
  rw [List.getElem?_take_of_lt hi] at h1 h2
  exact mem_live.mpr ⟨i, c, h1, h2⟩
theorem fz_take {n : Nat} : Same (fz hd as' S' H') (fz hd (as'.take n) (S'.take n) H') := fun b u e => fz_of (fz_same _ _ e) (fun z => fz_not e (live_take z)) (fz_nh e)
theorem Wld.trim (w0 : Wld K hd as S H) (g : Grow hd as S H as' S' H') (w : Wld K hd as' S' H') (r : Rep K as' (fz hd as' S' H') v d) :
    ∃ as2, Wld K hd as2 (DL.trim S d S') H' ∧ Grow hd as S H as2 (DL.trim S d S') H' ∧ Rep K as2 (fz hd as2 (DL.trim S d S') H') v d := by
  unfold DL.trim
  split
  · rename_i hc
    have hn : S.length ≤ S'.length := by
      rw [← w0.len, ← w.len]
      by_cases h0 : as.length = 0
      · omega
      · obtain ⟨a, ha⟩ : ∃ a, as[as.length - 1]? = some a := ⟨_, List.getElem?_eq_getElem (by omega)⟩
        have := (List.getElem?_eq_some_iff.mp (g.pre _ _ ha)).1
        omega
    refine ⟨as'.take S.length, ⟨by simp [w.len], fun i j a c c' h1 h2 h3 h4 => ?_, fun q hq => ⟨(w.hid q hq).1, fun z => (w.hid q hq).2 (live_take z)⟩, fun n xs e => ?_⟩, ⟨fun n a h => ?_, g.same.trans fz_take⟩, ?_⟩
    · have lt : ∀ {i : Nat} {a : Addr}, (as'.take S.length)[i]? = some a → i < S.length := fun {i a} h => by
        have := (List.getElem?_eq_some_iff.mp h).1
        simp at this; omega
      have l1 := lt h1
      have l2 := lt h2
      rw [List.getElem?_take_of_lt l1] at h1 h3
      rw [List.getElem?_take_of_lt l2] at h2 h4
      exact w.inj i j a c c' h1 h2 h3 h4
    · have hl : n < S.length := by
        have := (List.getElem?_eq_some_iff.mp e).1
        simp at this; omega
      rw [List.getElem?_take_of_lt hl] at e
      obtain ⟨a, vs, e1, e2, r⟩ := w.atC n xs e
      refine ⟨a, vs, by rw [List.getElem?_take_of_lt hl]; exact e1, e2, ?_⟩
      have hb : xs.bel S.length = true := by
        rcases hc.2 n _ hl e with h | h
        · obtain ⟨b, us, _, _, r0⟩ := w0.atC n xs h
          have := r0.bel_of
          rw [w0.len] at this; exact this
        · exact h
      exact (r.cut hb).mono (fun _ _ h => h) fz_take
    · have hl : n < S.length := by
        rw [← w0.len]; exact (List.getElem?_eq_some_iff.mp h).1
      rw [List.getElem?_take_of_lt hl]
      exact g.pre n a h
    · exact (r.cut hc.1).mono (fun _ _ h => h) fz_take
  · exact ⟨as', w, g, r⟩
end

/-! ### defs -/
abbrev FM := List D → M D
def endFn (S : Sto) : RS → R D
  | .ok .nx _ S' => .ok .non (trim S .non S')
  | .ok (.ret d) _ S' => .ok d (trim S d S')
  | .exc x _ S' => .exc x S'
  | _ => .stuck
/-- n slots, of these np parameters -/
def runFn (n np : Nat) (m : SD) : FM := fun ds S => if ds.length = np then endFn S (m (ds.map some ++ List.replicate (n - ds.length) none) S) else .stuck
def spM (K : PySem.W.Frag) (mg : Str → Option Value) (m : FM) : Sp := fun vs H Q E => ∃ hd as S ds, Wld K hd as S H ∧ RepL K as (fz hd as S H) vs ds ∧ (match m ds S with
  | .ok d S' => ∀ as' v H', Grow hd as S H as' S' H' → Wld K hd as' S' H' → Rep K as' (fz hd as' S' H') v d → Q v H'
  | .exc x S' => ∀ as' cls dd H', Grow hd as S H as' S' H' → Wld K hd as' S' H' → XRep K mg as' (fz hd as' S' H') x cls dd → E cls dd H'
  | .stuck => False)
/-- the def at f does to data what m does; no repr runs around it -/
structure FnG (P : Program) (w : World) (K : PySem.W.Frag) (mg : Str → Option Value) (base : Heap) (k : Nat) (f : Addr) (fd : FuncData) (ps : List Str) (m : FM) : Prop where
  ar : ∀ ds S, m ds S = .stuck ∨ ds.length = ps.length
  run : ∀ (A : Around) (outer : List PySem.Env) (s : Shared) (H : Hp) (args : Args) (us : List Value) (vs : List V) (Q : VK) (E : XK), Room k A → Qt A base → Env0 P w K mg base A outer s H → BindsTo s fd args (ps.zip us) → Vals vs us →
    spM K mg m vs H Q E → codeAny (model P w) A (.call (.ref f) args) (CR (L2.CX P w) outer P w H s Q E) s
theorem FnG.mono {P : Program} {w : World} {K : PySem.W.Frag} {mg : Str → Option Value} {base : Heap} {j k : Nat} {f : Addr} {fd : FuncData} {ps : List Str} {m : FM} (F : FnG P w K mg base j f fd ps m) (h : j ≤ k) : FnG P w K mg base k f fd ps m :=
  ⟨F.ar, fun A outer s H args us vs Q E hr => F.run A outer s H args us vs Q E (hr.mono h)⟩
abbrev WOf (E : XK) : WX := fun cls d _ H => E cls d H
theorem start_slots {K : PySem.W.Frag} {as : List Addr} {F : Hp} {N : List Str} {vs : List V} {ds : List D} (r : RepL K as F vs ds) : Slots K as F (L2.start N vs) (ds.map some ++ List.replicate (N.length - ds.length) none) := by
  unfold L2.start
  refine ⟨by simp [r.length], fun i d e => ?_⟩
  by_cases hi : i < ds.length
  · rw [List.getElem?_append_left (by simpa using hi), List.getElem?_map] at e
    obtain ⟨d', e1, e2⟩ := Option.map_eq_some_iff.mp e
    cases e2
    obtain ⟨v, ev, rv⟩ := r.get e1
    exact ⟨v, by rw [List.getElem?_append_left (by simp [r.length]; exact hi), List.getElem?_map, ev]; rfl, rv⟩
  · rw [List.getElem?_append_right (by simpa using Nat.le_of_not_lt hi), List.getElem?_replicate] at e
    split at e <;> cases e
section
variable {P : Program} {w : World} {K : PySem.W.Frag} {mg : Str → Option Value} {base : Heap}
/-- a def's body, walked -/
theorem Fun.okG {x qual : Str} {st : Stmt} {f : Addr} {fd : FuncData} {N ps : List Str} {k : Nat} {m : SD} (F : Fun K x qual st f fd) (Sc : FnScope N ps (defScope st))
    (hbody : ∀ (cdv : Value) (A : Around) (outer : List PySem.Env) (s : Shared) (H : Hp) (E : XK), Room k (A.deeper (envOfC qual (defScope st) s.heap.objs.size f cdv)) → Qt (A.deeper (envOfC qual (defScope st) s.heap.objs.size f cdv)) base →
      DSs (cxOf (L2.CX P w) P w K mg base N qual (defScope st) f cdv A outer s H E) (WOf E) (defBody st) m) : FnG P w K mg base (k + 1) f fd ps (runFn N.length ps.length m) := by
  obtain ⟨oc, od, kV, doc, pm, an, cdv, ct, osl, rfl, lk, hcd⟩ := F.ex
  refine ⟨fun ds S => ?_, fun A outer s H args us vs Q E hr hg e0 hb r hsp => ?_⟩
  · unfold runFn
    split
    · exact .inr (by assumption)
    · exact .inl rfl
  have hin : K.In s.heap := e0.mod.kin.keeps fun b o e => (e0.bs b o e).1
  have hnl : s.heap.NoLimit := e0.mod.nolimit.keeps fun b o e => (e0.bs b o e).1
  have kinds : ∀ y ∈ ps.zip us, (defScope st).names.lookup y.1 = some .local ∨ ((defScope st).names.lookup y.1 = some .cell ∧ ((cellsFrom (s.heap.objs.size + 1) (defScope st).names []).lookup y.1).isSome = true) := fun y hy =>
    (Sc.par y.1 (List.of_mem_zip hy).1).imp id fun q => ⟨q, PySem.W.cellsFrom_some _ _ _ (.inl q)⟩
  refine codeAny_call_function hr.depth (hin _ _ lk) rfl Sc.co Sc.gen rfl (PySem.W.codeRec_of hin hcd) (hb _ _ _ _ (wpAny_newFunctionEnv_cells Sc.kind kinds fun env he s1 ic => ?_))
  subst he
  refine ⟨hnl.keeps ic.toInCall.keep, codeAny_func ?_⟩
  have dl := hbody cdv A outer s H E (hr.deeper _) ⟨by simpa [Around.deeper] using hg.g, hg.s⟩
  obtain ⟨hd, as, S, ds, wl, rd, ms⟩ := hsp
  have hn : ds.length = ps.length := by
    by_cases hn : ds.length = ps.length
    · exact hn
    · unfold runFn at ms
      rw [if_neg hn] at ms; exact ms.elim
  have hl : vs.length = ps.length := by rw [rd.length]; exact hn
  have I : Inv (cxOf (L2.CX P w) P w K mg base N qual (defScope st) f cdv A outer s H E) [] (L2.start N vs) H s1 := inv_start Sc hr.hd e0 hl r ic
  have rel : REL K hd as (ds.map some ++ List.replicate (N.length - ds.length) none) S (L2.start N vs) H := ⟨wl, start_slots rd⟩
  have fin : ∀ {d : D} {S' : Sto}, (∀ as' v H', Grow hd as S H as' (trim S d S') H' → Wld K hd as' (trim S d S') H' → Rep K as' (fz hd as' (trim S d S') H') v d → Q v H') →
      ∀ as' v H', Grow hd as S H as' S' H' → Wld K hd as' S' H' → Rep K as' (fz hd as' S' H') v d → Q v H' := fun {d S'} h as' v H' g w' r' => by
    obtain ⟨as2, w2, g2, r2⟩ := wl.trim g w' r'
    exact h as2 v H' g2 w2 r2
  have run := dl.run [] s1 (L2.start N vs) H { nx := fun _ H' => Q .non H', rt := Q } I ⟨hd, as, _, S, rel, ?_⟩
  · refine wpAny_mono run (fun fl s' hs => ?_) fun e s' hs => hs
    cases fl with
    | ret u =>
      obtain ⟨v, σ', H', J, rv, q⟩ := hs
      exact ⟨v, H', J.os, J.bare, J.base, J.hok, rv, q⟩
    | next =>
      obtain ⟨σ', H', J, q⟩ := hs
      exact ⟨V.non, H', J.os, J.bare, J.base, J.hok, rfl, q⟩
    | brk => obtain ⟨_, _, _, q⟩ := hs; exact q.elim
    | cont => obtain ⟨_, _, _, q⟩ := hs; exact q.elim
  · unfold runFn at ms
    rw [if_pos hn] at ms
    cases em : m (ds.map some ++ List.replicate (N.length - ds.length) none) S with
    | ok fl ρ' S' =>
      rw [em] at ms
      cases fl with
      | nx => exact fun as' σ' H' g rel' => fin ms as' .non H' g rel'.w .non
      | ret d => exact fun as' v H' g w' r' => fin ms as' v H' g w' r'
      | brk => exact ms.elim
      | cnt => exact ms.elim
    | exc x ρ' S' =>
      rw [em] at ms
      exact fun as' cls dd σ' H' g rel' xr => ms as' cls dd H' g rel'.w xr
    | stuck => rw [em] at ms; exact ms.elim
end

/-! ### calls -/
section
variable {X : Cx} {W : WX} {k : Nat} {f : Addr} {fd : FuncData} {ps ks : List Str} {m : FM} {x : Str} {p pos : Pos} {e : Expr} {es : List Expr} {kws : List Keyword} {mr mk : AM}
/-- what a callee lets out is taken here -/
theorem takes_xe {pins : List (Addr × Obj)} {σ : L2.St} {H : Hp} {s s' : Shared} {E : XK} {u : Value} (tk : Takes X W) (I : Inv X pins σ H s) (hW : ∀ cls d H', E cls d H' → W cls d σ H') (c : L2.CX X.prog X.w X.stack H s E u s') : X.xe u s' := tk u s' (XE.of_call I hW c)
theorem run_fnG {pins : List (Addr × Obj)} {σ : L2.St} {H : Hp} {s : Shared} {Q : VK} {args : Args} {us : List Value} {vs : List V} {E : XK} (F : FnG X.prog X.w X.K X.mg X.base k f fd ps m) (hr : Room k X.A) (hg : Qt X.A X.base) (tk : Takes X W) (hb : BindsTo s fd args (ps.zip us))
    (I : Inv X pins σ H s) (r : Vals vs us) (hW : ∀ cls d H', E cls d H' → W cls d σ H') (h : spM X.K X.mg m vs H Q E) : wpAny (model X.prog X.w) X.A (call (.ref f) args.pos args.kw) (EP X pins σ Q) X.xe s := by
  refine wpAny_call (codeAny_mono (F.run X.A X.stack s H args us vs Q E hr hg I.env0 hb r h) fun rr s' hq => ?_)
  match rr, hq with
  | .error e, hq => exact takes_xe tk I hW hq
  | .ok (.ret u), hq => exact I.after hq
/-- from the reading of the arguments -/
theorem sp_of {hd : Hid} {as : List Addr} {S : Sto} {H : Hp} {ρ : Env} {σ : L2.St} {Q : VK} {vs : List V} {ds : List D} (rel : REL X.K hd as ρ S σ H) (r : RepL X.K as (fz hd as S H) vs ds) (po : Post X.K X.mg W σ ρ hd as S H (m ds S) fun d as' S' H' => ∀ v, Rep X.K as' (fz hd as' S' H') v d → Q v H') :
    spM X.K X.mg m vs H Q fun cls d H' => W cls d σ H' := by
  refine ⟨hd, as, S, ds, rel.w, r, ?_⟩
  cases em : m ds S with
  | ok d S' => rw [em] at po; exact fun as' v H' g w' r' => po as' H' g (rel.grow g w') v r'
  | exc z S' => rw [em] at po; exact fun as' cls dd H' g w' xr => po as' cls dd H' g (rel.grow g w') xr
  | stuck => rw [em] at po; exact po.elim
theorem sp_len (F : FnG X.prog X.w X.K X.mg X.base k f fd ps m) {vs : List V} {H : Hp} {Q : VK} {E : XK} (h : spM X.K X.mg m vs H Q E) : vs.length = ps.length := by
  obtain ⟨hd, as, S, ds, wl, rd, ms⟩ := h
  rcases F.ar ds S with e | e
  · rw [e] at ms; exact ms.elim
  · rw [rd.length]; exact e
/-- f(e, ..) -/
theorem de_call (F : FnG X.prog X.w X.K X.mg X.base k f fd ps m) (hr : Room k X.A) (hgd : Qt X.A X.base) (tk : Takes X W) (hg : Gl X x) (hm : X.mg x = some (.ref f)) (hk : PySem.W.keepIn X.K (.ref f) = true) (hb : Binds X.K fd ps []) (ha : DA X W (e :: es) mr)
    (hdb : (x == ("__debug__" : Str)) = false := by decide) (he : starEach (e :: es) X.env = (false, eval e X.env) :: starEach es X.env := by rfl) (hpl : (backTo pos (starEach es X.env)).any (·.1) = false := by rfl) : DE X W (.Call (.Name x p) (e :: es) [] pos) (eL m mr) :=
  ⟨fun pins s σ H Q I ⟨hd, as, ρ, S, rel, po⟩ => wpAny_Call_Name_kw (ld_glob I hg hm (PySem.W.callWith_K (h₀ := X.base) I.ok.mod.kin hk (thn (ha.run pos pins s σ H (fun vs H1 => spM X.K X.mg m vs H1 Q fun cls d H' => W cls d σ H') I
    (tA_seq rel po fun as1 S1 H1 vs ds g1 rel1 r1 po1 => sp_of rel1 r1 po1)) fun us s1 ⟨vs, H1, I1, r, q⟩ => ⟨I1.kIn, by
      have hl : (us ++ []).length = ps.length := by rw [List.append_nil, ← r.length]; exact sp_len F q
      exact run_fnG F hr hgd tk (args := ⟨us, []⟩) (us := us) (by simpa using hb s1 us I1.kIn hl) I1 r (fun _ _ _ z => z) q⟩) he hpl) hdb)⟩
/-- f() -/
theorem de_call0 (F : FnG X.prog X.w X.K X.mg X.base k f fd ps m) (hr : Room k X.A) (hgd : Qt X.A X.base) (tk : Takes X W) (hg : Gl X x) (hm : X.mg x = some (.ref f)) (hk : PySem.W.keepIn X.K (.ref f) = true) (hb : Binds X.K fd ps [])
    (hdb : (x == ("__debug__" : Str)) = false := by decide) : DE X W (.Call (.Name x p) [] [] pos) (eL m aNil) :=
  ⟨fun pins s σ H Q I ⟨hd, as, ρ, S, rel, po⟩ => wpAny_Call_Name_kw (ld_glob I hg hm (PySem.W.callWith_K0 I.kIn hk (by
      have q : spM X.K X.mg m [] H Q fun cls d H' => W cls d σ H' := sp_of rel .nil po
      have hl : ([] ++ [] : List Value).length = ps.length := by have := sp_len F q; simpa using this
      exact run_fnG F hr hgd tk (args := ⟨[], []⟩) (us := []) (by simpa using hb s [] I.kIn hl) I .nil (fun _ _ _ z => z) q)) hdb)⟩
/-! keywords -/
abbrev DK (X : Cx) (W : WX) (kws : List Keyword) (m : AM) : Prop := PK X kws (tA X.K X.mg W m)
theorem PK.le {t t' : TA} (h : PK X kws t) (k : ∀ σ H Q, t' σ H Q → t σ H Q) : PK X kws t' := ⟨fun p pins s σ H Q I q => h.run p pins s σ H Q I (k σ H Q q)⟩
theorem dk_nil : DK X W [] aNil := PK.le pk_nil fun σ H Q ⟨hd, as, ρ, S, rel, po⟩ => po as H .refl rel [] .nil
theorem dk_cons {nm : Option Str} {kpos : Pos} {me : EM} (ha : DE X W e me) (hr : DK X W kws mr) : DK X W (⟨nm, e, kpos⟩ :: kws) (aCons me mr) :=
  PK.le (pk_cons ha hr) fun σ H Q ⟨hd, as, ρ, S, rel, po⟩ => tE_seq rel po fun as1 S1 H1 v1 d1 g1 rel1 r1 po1 => tA_seq rel1 po1 fun as2 S2 H2 vs ds g2 rel2 r2 po2 => po2 as2 H2 .refl rel2 (v1 :: vs) (.cons (r1.grow g2) r2)
/-- positional values and keywords' values in the parameters' order -/
def eK (m : FM) (g : List D → List D → List D) (a b : AM) : EM := fun ρ => M.bind (a ρ) fun ds => M.bind (b ρ) fun es => m (g ds es)
/-- the order, for values of any kind: as the places tell -/
def byIx {α : Type} (ix : List Nat) (us ws : List α) : List α := ix.filterMap fun i => (us ++ ws)[i]?
theorem byIx_rep {K : PySem.W.Frag} {as : List Addr} {F : Hp} {vs zs : List V} {ds es : List D} (r : RepL K as F vs ds) (q : RepL K as F zs es) : ∀ ix : List Nat, RepL K as F (byIx ix vs zs) (byIx ix ds es)
  | [] => .nil
  | i :: ix => by
    have ih := byIx_rep r q ix
    have ra := r.append q
    unfold byIx at ih ⊢
    cases e : (ds ++ es)[i]? with
    | none =>
      have e' : (vs ++ zs)[i]? = none := by rw [List.getElem?_eq_none_iff] at e ⊢; rw [ra.length]; exact e
      rw [List.filterMap_cons_none e, List.filterMap_cons_none e']
      exact ih
    | some d =>
      obtain ⟨v, ev, rv⟩ := ra.get e
      rw [List.filterMap_cons_some e, List.filterMap_cons_some ev]
      exact .cons rv ih
theorem byIx_vals {vs zs : List V} {us ws : List Value} (r : Vals vs us) (q : Vals zs ws) : ∀ ix : List Nat, Vals (byIx ix vs zs) (byIx ix us ws)
  | [] => .nil
  | i :: ix => by
    have ih := byIx_vals r q ix
    have ra := r.append q
    unfold byIx at ih ⊢
    cases e : (vs ++ zs)[i]? with
    | none => rw [List.filterMap_cons_none e, List.filterMap_cons_none (ra.none_of e)]; exact ih
    | some v =>
      obtain ⟨u, eu, ru⟩ := ra.get e
      rw [List.filterMap_cons_some e, List.filterMap_cons_some eu]
      exact .cons ru ih
/-- how a call with keywords binds -/
def KB (K : PySem.W.Frag) (fd : FuncData) (ps : List Str) (n : Nat) (ks : List Str) (ix : List Nat) : Prop := ∀ (s : Shared) (us ws : List Value), K.In s.heap → us.length = n → ws.length = ks.length → BindsTo s fd ⟨us, ks.zip ws⟩ (ps.zip (byIx ix us ws))
theorem de_callK0 {ix : List Nat} (F : FnG X.prog X.w X.K X.mg X.base k f fd ps m) (hr : Room k X.A) (hgd : Qt X.A X.base) (tk : Takes X W) (hg : Gl X x) (hm : X.mg x = some (.ref f)) (hk : PySem.W.keepIn X.K (.ref f) = true) (hb : KB X.K fd ps 0 ks ix) (hkw : DK X W kws mk)
    (hn' : ∀ ρ S ds S', mk ρ S = .ok ds S' → ds.length = ks.length)
    (hall : (backToKw pos (keywordEach kws X.env)).all (·.1.isSome) = true := by rfl) (hks : (backToKw pos (keywordEach kws X.env)).filterMap (·.1) = ks := by rfl)
    (hdb : (x == ("__debug__" : Str)) = false := by decide) (hpl : ((backTo pos (starEach [] X.env)).any (·.1) || (backToKw pos (keywordEach kws X.env)).any (·.1.isNone)) = false := by rfl) : DE X W (.Call (.Name x p) [] kws pos) (eK m (byIx ix) aNil mk) := by
  refine ⟨fun pins s σ H Q I ⟨hd, as, ρ, S, rel, po⟩ => wpAny_Call_Name_kw (ld_glob I hg hm (PySem.W.callWith_KW0 (h₀ := X.base) I.ok.mod.kin hk hall (thn (hkw.run pos pins s σ H (fun zs H2 => zs.length = ks.length ∧ spM X.K X.mg m (byIx ix [] zs) H2 Q fun cls d H' => W cls d σ H') I ?_)
    fun ws s2 ⟨zs, H2, I2, rz, l2, q2⟩ => ⟨I2.kIn, ?_⟩) hpl) hdb)⟩
  · refine ⟨hd, as, ρ, S, rel, ?_⟩
    have po : Post X.K X.mg W σ ρ hd as S H ((mk ρ S).bind fun es => m (byIx ix [] es)) _ := po
    cases ek : mk ρ S with
    | exc z S2 => rw [ek] at po; exact po
    | stuck => rw [ek] at po; exact po.elim
    | ok es' S2 =>
      rw [ek] at po
      intro as2 H2 g2 rel2 zs r2
      exact ⟨by rw [r2.length]; exact hn' _ _ _ _ ek, sp_of rel2 (byIx_rep .nil r2 ix) (Post.later (r := m (byIx ix [] es') S2) po g2)⟩
  · rw [hks]
    exact run_fnG F hr hgd tk (args := ⟨[], ks.zip ws⟩) (us := byIx ix [] ws) (hb s2 [] ws I2.kIn rfl (by rw [← rz.length]; exact l2)) I2 (byIx_vals .nil rz ix) (fun _ _ _ z => z) q2
theorem len_nil : ∀ (ρ : Env) (S : Sto) ds S', aNil ρ S = .ok ds S' → ds.length = 0 := by
  intro ρ S ds S' h
  cases h; rfl
theorem len_cons {a : EM} {r : AM} {n : Nat} (h : ∀ (ρ : Env) (S : Sto) ds S', r ρ S = .ok ds S' → ds.length = n) : ∀ (ρ : Env) (S : Sto) ds S', aCons a r ρ S = .ok ds S' → ds.length = n + 1 := by
  intro ρ S ds S' e
  unfold aCons at e
  rw [bind_ap] at e
  cases ea : a ρ S with
  | exc z S1 => rw [ea] at e; cases e
  | stuck => rw [ea] at e; cases e
  | ok d S1 =>
    rw [ea] at e
    simp only [R.bind_ok, bind_ap] at e
    cases er : r ρ S1 with
    | exc z S2 => rw [er] at e; cases e
    | stuck => rw [er] at e; cases e
    | ok xs S2 =>
      rw [er] at e
      cases e
      simp [h ρ S1 xs _ er]
end
end
end DL

set_option Elab.async false
set_option linter.all false
set_option maxRecDepth 100000
/-! DL9: the law's own call: from what m tells of the script to the row's claim. -/
namespace DL
open PySem PySem.Spec PyProof.Rows L2
noncomputable section

theorem rep_ints {K : PySem.W.Frag} {as : List Addr} {F : Hp} : ∀ ns : List Int, RepL K as F (ns.map V.int) (ns.map D.int)
  | [] => .nil
  | n :: ns => .cons (.int n) (rep_ints ns)
section
variable {P : Program} {w : World} {K : PySem.W.Frag} {mg mb : Str → Option Value} {k : Nat} {fa a : Addr} {fd : FuncData} {x : Str} {m : FM} {s₁ : Shared} {vs : List Value} {ns : List Int}
/-- the heap behind the top, less what is tracked -/
theorem law_core (KX : K.In s₁.heap) (hns : s₁.heap.Ns mainGlobals mg) (hb : s₁.heap.Ns builtinsNs mb) (hbb : ∀ x : Str, x ≠ "__name__" → mb x = bootBuiltins x) (hlim : s₁.heap.NoLimit) (hsm : ∃ mm, s₁.heap.Ns sysModules mm) (hg : s₁.gens = #[])
    (ha : s₁.heap.get? a = some { cls := .type "list", data := .seq vs.toArray }) (hr : Room k callerA) (F : ∀ base : Heap, K.In base → base.Ns mainGlobals mg → FnG P w K mg base k fa fd [x] m) (hbind : ∀ (s : Shared) (u : Value), BindsTo s fd ⟨[u], []⟩ [(x, u)])
    {S' : Sto} (hm : m [.ro (ns.map D.int)] [] = .ok (.bl true) S') {H : Hp} (hS : SqL K H a (ns.map V.int)) (hok : HOk P w H s₁.heap) (hO : ∀ b u, H b = some u → b = a ∧ K.lookup a = none ∧ ∃ o xs, u = .frz o (.lst xs)) :
    codeAny (model P w) callerA (.call (.ref fa) ⟨[.ref a], []⟩) (fun r s' => r = .ok (.ret (.bool true)) ∧ OldK s₁.heap s'.heap ∧ s'.os = s₁.os ∧ AllBare s'.gens) s₁ := by
  have out : ∀ {b : Addr}, b ≠ a ∨ K.lookup a ≠ none → H b = none := fun {b} h => by
    cases q : H b with
    | none => rfl
    | some u => exact absurd (hO b u q) fun z => h.elim (fun n => n z.1) fun n => n z.2.1
  have seen : ∀ {b : Addr} {o : Obj}, s₁.heap.get? b = some o → b ≠ a ∨ K.lookup a ≠ none → (hidT s₁.heap H).get? b = some o := fun e h => hidT_get e (out h)
  have dict_ne : ∀ {b : Addr} {o : Obj} {es : Array DictEntry} {ep : Nat}, s₁.heap.get? b = some o → o.data = .dict es ep → b ≠ a := fun {b o es ep} e d z => by
    subst z
    rw [ha] at e
    cases e
    exact nomatch (show Data.seq vs.toArray _ = Data.dict es ep from d)
  have ns_seen : ∀ {b : Addr} {g : Str → Option Value}, s₁.heap.Ns b g → (hidT s₁.heap H).Ns b g := fun {b g} ⟨o, es, ep, e, d, r⟩ => ⟨o, es, ep, seen e (.inl (dict_ne e d)), d, r⟩
  have k_seen : K.In (hidT s₁.heap H) := fun b o e => seen (KX b o e) (by
    by_cases hb : b = a
    · subst hb; exact .inr (by rw [e]; simp)
    · exact .inl hb)
  have md : Mod K mg (hidT s₁.heap H) := ⟨k_seen, ns_seen hns, ⟨mb, ns_seen hb, hbb⟩, hlim.elim fun mc h => ⟨mc, ns_seen h.1, h.2⟩⟩
  have no : ∀ b : Addr, b ∉ frs ([] : List PySem.Env) := fun b hb => by simp [frs] at hb
  have e0 : Env0 P w K mg (hidT s₁.heap H) callerA [] s₁ H := ⟨rfl, md, fun b o e => of_hidT e, by rw [hidT_size]; exact Nat.le_refl _, trivial, fun b hb => (no b hb).elim, hok, .of_eq hg⟩
  have fz0 : fz [] [] [] H = H := by
    funext b
    unfold fz
    rw [if_neg (by simp [live])]
  have sp : spM K mg m [.ref a] H (fun v _ => v = .bl true) fun _ _ _ => False := by
    refine ⟨[], [], [], [.ro (ns.map D.int)], ⟨rfl, fun i j a c c' h => by simp at h, fun p hp => by simp at hp, fun n xs h => by simp at h⟩, .cons (.ro (by rw [fz0]; exact hS) (rep_ints ns)) .nil, ?_⟩
    rw [hm]
    intro as' v H' g w' r
    cases r; rfl
  refine codeAny_mono ((F _ k_seen (ns_seen hns)).run callerA [] s₁ H ⟨[.ref a], []⟩ [.ref a] [.ref a] _ _ hr ⟨rfl, hsm.elim fun mm h => ⟨mm, ns_seen h⟩⟩ e0 (hbind s₁ (.ref a)) (.cons rfl .nil) sp) fun r s' h => ?_
  match r, h with
  | .error e, h => obtain ⟨_, _, _, _, _, _, _, _, _, _, _, _, h⟩ := h; exact h.elim
  | .ok (.ret u), h =>
    obtain ⟨v, H', os, bare, un, hok', r', q⟩ := h
    cases (show v = .bl true from q)
    cases (show u = Value.bool true from r')
    refine ⟨rfl, OldK.of_keep fun b o e => ?_, os, bare⟩
    cases q : H b with
    | none => exact un.keep b o e q (no b) (by simp)
    | some u =>
      obtain ⟨_, _, o', xs, rfl⟩ := hO b u q
      obtain ⟨e1, _⟩ := hok b _ q
      obtain ⟨e2, _⟩ := hok' b _ (un.frzs b o' _ q)
      rw [e] at e1
      cases e1
      exact e2
theorem law_callG (KX : K.In s₁.heap) (hns : s₁.heap.Ns mainGlobals mg) (hb : s₁.heap.Ns builtinsNs mb) (hbb : ∀ x : Str, x ≠ "__name__" → mb x = bootBuiltins x) (hlim : s₁.heap.NoLimit) (hsm : ∃ mm, s₁.heap.Ns sysModules mm) (hg : s₁.gens = #[])
    (ha : s₁.heap.get? a = some { cls := .type "list", data := .seq vs.toArray }) (hi : IntsAre vs ns) (hl : ns.length ≤ sizeLine) (hr : Room k callerA) (F : ∀ base : Heap, K.In base → base.Ns mainGlobals mg → FnG P w K mg base k fa fd [x] m)
    (hbind : ∀ (s : Shared) (u : Value), BindsTo s fd ⟨[u], []⟩ [(x, u)]) {S' : Sto} (hm : m [.ro (ns.map D.int)] [] = .ok (.bl true) S') :
    codeAny (model P w) callerA (.call (.ref fa) ⟨[.ref a], []⟩) (fun r s' => r = .ok (.ret (.bool true)) ∧ OldK s₁.heap s'.heap ∧ s'.os = s₁.os ∧ AllBare s'.gens) s₁ := by
  have rv := vals_ints hi
  have lv := hi.length
  cases hk : K.lookup a with
  | some o =>
    have e := KX a o hk
    rw [ha] at e
    cases e
    exact law_core KX hns hb hbb hlim hsm hg ha hr F hbind hm (H := fun _ => none) (.inr ⟨_, vs.toArray, _, hk, rfl, rfl, rfl, by rw [List.size_toArray, lv]; exact hl, by simpa using rv⟩) (fun b u z => nomatch (show (none : Option HO) = some u from z)) fun b u z => nomatch (show (none : Option HO) = some u from z)
  | none =>
    refine law_core KX hns hb hbb hlim hsm hg ha hr F hbind hm (H := fun b => if b = a then some (.frz { cls := .type "list", data := .seq vs.toArray } (.lst (ns.map V.int))) else none) (.inl (.inr ⟨{ cls := .type "list", data := .seq vs.toArray }, if_pos rfl⟩)) (fun b u z => ?_) fun b u z => ?_
    all_goals
      by_cases hb : b = a
      · subst hb
        cases (if_pos rfl).symm.trans z
        first
          | exact ⟨ha, by rw [List.length_map]; exact hl, vs, _, rv, ha⟩
          | exact ⟨rfl, hk, _, _, rfl⟩
      · exact nomatch (if_neg hb).symm.trans z
end
/-- the goal that k_head leaves, from what m tells of every script -/
theorem walk_ofG {l : PySem.W.OpenLaw} {n k : Nat} {q : Program} {loose : List Str} {XP : (Str → Option Value) → Heap → Prop} {YP : World → Heap → Prop} {d : DefRec} {K : Params → PySem.W.Frag} {m : FM} {x : Str}
    (hi : importsNone q = true) (hn : l.most = some n) (hn2 : n ≤ sizeLine) (hdf : d.params.defaults = []) (hr : Room k callerA) (hY : ∀ (w : World) (h : Heap), YP w h → (K w.params).In h)
    (F : ∀ (w : World) (mg : Str → Option Value) (fa : Addr) (h : Heap), (K w.params).In h → h.Ns mainGlobals mg → mg d.name = some (.ref fa) →
      ∃ fd : FuncData, (∀ (s : Shared) (u : Value), BindsTo s fd ⟨[u], []⟩ [(x, u)]) ∧ ∀ base : Heap, (K w.params).In base → base.Ns mainGlobals mg → FnG l.prog w (K w.params) mg base k fa fd [x] m)
    (hm : ∀ ns : List Int, ns.length ≤ n → ∃ S', m [.ro (ns.map D.int)] [] = .ok (.bl true) S') : PySem.W.WalkO q loose XP YP l.row.toRowW d [] (fun f vs => PySem.call f vs) :=
  Att.attach_call hn hdf fun w s₀ s₁ mg mb fa o pm cd doc a vs ns G Y ho hd hcd hmg hobj hints hlen hg => by
    obtain ⟨fd, hb, hF⟩ := F w mg fa _ (hY w _ Y) G.T.g hmg
    obtain ⟨S', e⟩ := hm ns hlen
    exact law_callG (hY w _ Y) G.T.g G.T.b G.T.builtins G.T.nolimit ((G.T.seer hi).mods.elim fun mm h => ⟨mm, h.1⟩) hg hobj hints (Nat.le_trans hlen hn2) hr hF hb e
end
end DL

set_option Elab.async false
set_option linter.all false
set_option maxRecDepth 100000
/-! DLH: a def of the text with what m it does; calls of such; more slices. -/
namespace DL
open PySem PySem.Spec PyProof.Rows L2
noncomputable section
/-- the def stands at the top of the module -/
structure DefAt (K : PySem.W.Frag) (mg : Str → Option Value) (x : Str) (st : Stmt) (ps : List Str) : Prop where
  ex : ∃ f fd, Fun K x x st f fd ∧ mg x = some (.ref f) ∧ Binds K fd ps []
structure Has (P : Program) (w : World) (K : PySem.W.Frag) (mg : Str → Option Value) (base : Heap) (k : Nat) (x : Str) (st : Stmt) (ps : List Str) (m : FM) : Prop where
  ex : ∃ f fd, FnG P w K mg base k f fd ps m ∧ mg x = some (.ref f) ∧ Fun K x x st f fd ∧ Binds K fd ps []
theorem has_of {P : Program} {w : World} {K : PySem.W.Frag} {mg : Str → Option Value} {base : Heap} {k : Nat} {x : Str} {st : Stmt} {N ps : List Str} {m : SD} (h : DefAt K mg x st ps) (Sc : FnScope N ps (defScope st))
    (hbody : ∀ (f : Addr) (cdv : Value) (A : Around) (outer : List PySem.Env) (s : Shared) (H : Hp) (E : XK), Room k (A.deeper (envOfC x (defScope st) s.heap.objs.size f cdv)) → Qt (A.deeper (envOfC x (defScope st) s.heap.objs.size f cdv)) base →
      DSs (cxOf (L2.CX P w) P w K mg base N x (defScope st) f cdv A outer s H E) (WOf E) (defBody st) m) : Has P w K mg base (k + 1) x st ps (runFn N.length ps.length m) := by
  obtain ⟨f, fd, F, hm, hb⟩ := h.ex
  exact ⟨f, fd, Fun.okG F Sc (hbody f), hm, F, hb⟩
section
variable {X : Cx} {W : WX} {j k n : Nat} {ps ks : List Str} {m : FM} {x : Str} {st : Stmt} {p pos : Pos} {e : Expr} {es : List Expr} {kws : List Keyword} {mr mk : AM} {ix : List Nat}
theorem de_fn (h : Has X.prog X.w X.K X.mg X.base k x st ps m) (hr : Room j X.A) (hj : k ≤ j) (hgd : Qt X.A X.base) (tk : Takes X W) (hg : Gl X x) (ha : DA X W (e :: es) mr)
    (hdb : (x == ("__debug__" : Str)) = false := by decide) (he : starEach (e :: es) X.env = (false, eval e X.env) :: starEach es X.env := by rfl) (hpl : (backTo pos (starEach es X.env)).any (·.1) = false := by rfl) : DE X W (.Call (.Name x p) (e :: es) [] pos) (eL m mr) := by
  obtain ⟨f, fd, F, hm, Fu, hb⟩ := h.ex
  exact de_call F (hr.mono hj) hgd tk hg hm Fu.kp hb ha hdb he hpl
/-- what the text's own binding of such a call is -/
abbrev KwOk (x : Str) (st : Stmt) (ps : List Str) (n : Nat) (ks : List Str) (ix : List Nat) : Prop := ∀ (kV doc pm : Value) (an : Option Addr) (cdv ct : Value) (us ws : List Value), us.length = n → ws.length = ks.length →
  bindArgs (PySem.W.fnOf x x (defArgs st) (defBody st) (defScope st) .none kV doc pm an cdv ct) ⟨us, ks.zip ws⟩ = pure (ps.zip (byIx ix us ws))
theorem kb_of {K : PySem.W.Frag} {f : Addr} {fd : FuncData} (F : Fun K x x st f fd) (h : KwOk x st ps n ks ix) : KB K fd ps n ks ix := by
  obtain ⟨oc, od, kV, doc, pm, an, cdv, ct, osl, rfl, lk, hcd⟩ := F.ex
  exact fun s us ws _ l1 l2 => .of_eq (h kV doc pm an cdv ct us ws l1 l2)
theorem de_fnK0 (h : Has X.prog X.w X.K X.mg X.base k x st ps m) (ix : List Nat) (hkw0 : KwOk x st ps 0 ks ix) (hr : Room j X.A) (hj : k ≤ j) (hgd : Qt X.A X.base) (tk : Takes X W) (hg : Gl X x) (hkw : DK X W kws mk)
    (hn' : ∀ ρ S ds S', mk ρ S = .ok ds S' → ds.length = ks.length)
    (hall : (backToKw pos (keywordEach kws X.env)).all (·.1.isSome) = true := by rfl) (hks : (backToKw pos (keywordEach kws X.env)).filterMap (·.1) = ks := by rfl)
    (hdb : (x == ("__debug__" : Str)) = false := by decide) (hpl : ((backTo pos (starEach [] X.env)).any (·.1) || (backToKw pos (keywordEach kws X.env)).any (·.1.isNone)) = false := by rfl) : DE X W (.Call (.Name x p) [] kws pos) (eK m (byIx ix) aNil mk) := by
  obtain ⟨f, fd, F, hm, Fu, hb⟩ := h.ex
  exact de_callK0 F (hr.mono hj) hgd tk hg hm Fu.kp (kb_of Fu hkw0) hkw hn' hall hks hdb hpl
/-- a built-in class as a value -/
theorem de_ty {T : String} (hg : Gl X x) (hm : X.mg x = none) (hv : bootBuiltins x = some (.type T)) (hn : x ≠ "__name__" := by decide) (hd : (x == ("__debug__" : Str)) = false := by decide) : DE X W (.Name x pos) (eC (.ty T)) := PE.const (pe_bltn hg hm hv (show RelV (.ty T) _ from rfl) hn hd) fun _ _ => .ty T
end
theorem takes_no {X : Cx} : Takes X WNo := takes_none5
/-! slices of any kind -/
def oSl (d : D) (lo hi : Option Int) : M D := match d with
  | .tup xs => oSlT (.tup xs) lo hi
  | .str z => oSlS (.str z) lo hi
  | d => oSlL d lo hi
def rSlA (K : PySem.W.Frag) : V → Option Int → Option Int → Hp → VK → Prop := fun x lo hi H Q => rSlL K x lo hi H Q ∨ (rSlT K x lo hi H Q ∨ rSlS x lo hi H Q)
theorem slr_all {X : Cx} : SlR X (rSlA X.K) := sl_list.or (sl_tup.or sl_str)
theorem act_sl {K : PySem.W.Frag} : ActS K (rSlA K) oSl := by
  intro hd as S H v d lo hi w r
  have l : Ret K hd as S H (oSlL d lo hi S) (rSlA K v lo hi H) := (act_slL hd as S H v d lo hi w r).map fun Q q => .inl q
  cases d with
  | tup xs => exact (act_slT hd as S H v _ lo hi w r).map fun Q q => .inr (.inl q)
  | str z => exact (act_slS hd as S H v _ lo hi w r).map fun Q q => .inr (.inr q)
  | _ => exact l
/-- a test by truth -/
def truD (S : Sto) : D → Option Bool
  | .non => some false
  | .bl b => some b
  | .int i => some (i != 0)
  | .str z => if z.length ≤ sizeLine then some ((z.length : Int) != 0) else none
  | d => (seqOf S d).map fun xs => !xs.isEmpty
def bTru (a : EM) : BM := fun ρ => M.bind (a ρ) fun d S => match truD S d with
  | some b => .ok b S
  | none => .stuck
theorem repl_empty {K : PySem.W.Frag} {as : List Addr} {F : Hp} {vs : List V} {ds : List D} (r : RepL K as F vs ds) : ds.isEmpty = vs.isEmpty := by cases r <;> rfl
/-! comparisons as tests -/
section
variable {X : Cx} {W : WX} {a b c : Expr} {ma mb mc : EM} {pos : Pos}
theorem test_of {K : PySem.W.Frag} {mg : Str → Option Value} {W : WX} {me : EM} {hd : Hid} {as : List Addr} {ρ : DL.Env} {S : Sto} {σ : L2.St} {H : Hp} {Q : Bool → Hp → Prop} (rel : REL K hd as ρ S σ H) (po : Post K mg W σ ρ hd as S H (bVal me ρ S) fun b _ _ H' => Q b H') :
    Post K mg W σ ρ hd as S H (me ρ S) fun d as' S' H' => ∀ v, Rep K as' (fz hd as' S' H') v d → ∃ k, v = .bl k ∧ Q k H' := by
  unfold bVal at po
  refine (Post.bind po).imp fun d as1 S1 H1 g rel1 po1 v r => ?_
  rcases mBool_bl r (S := S1) with z | ⟨b, rfl, rfl⟩
  · rw [z] at po1; exact po1.elim
  · exact ⟨b, rfl, po1 as1 H1 .refl rel1⟩
theorem dt_cmp {op : CmpOp} {r : R2} {f : D → D → M D} (ho : OpR X (compareOp op) r) (act : Act2 X.K r f) (ha : DE X W a ma) (hb : DE X W b mb) (hm : behindInMarks op b = false) : DT X W (.Compare a [op] [b] pos) (bVal (e2 f ma mb)) :=
  PT.le (pt_cmpR ho ha hb hm) fun σ H Q ⟨hd, as, ρ, S, rel, po⟩ => tE_seq rel (test_of rel po) fun as1 S1 H1 v1 d1 g1 rel1 r1 po1 => tE_seq rel1 po1 fun as2 S2 H2 v2 d2 g2 rel2 r2 po2 =>
    (act hd as2 S2 H2 v1 v2 d1 d2 rel2.w (r1.grow g2) r2).out (Q := fun z H' => ∃ k, z = V.bl k ∧ Q k H') rel2 po2
theorem dt_chain {op op' : CmpOp} {r r' : R2} {f g : D → D → M D} (ho : OpR X (compareOp op) r) (ho' : OpR X (compareOp op') r') (act : Act2 X.K r f) (act' : Act2 X.K r' g) (ha : DE X W a ma) (hb : DE X W b mb) (hc : DE X W c mc) (hl : lastMarks [op, op'] [b, c] = false := by with_unfolding_all rfl) :
    DT X W (.Compare a [op, op'] [b, c] pos) (bVal (eChain f g ma mb mc)) :=
  PT.le (pt_chain ho ho' ha hb hc hl) fun σ H Q ⟨hd, as, ρ, S, rel, po⟩ => tE_seq rel (test_of rel po) fun as1 S1 H1 v1 d1 g1 rel1 r1 po1 => tE_seq rel1 po1 fun as2 S2 H2 v2 d2 g2 rel2 r2 po2 =>
    tR_seq (act hd as2 S2 H2 v1 v2 d1 d2 rel2.w (r1.grow g2) r2) rel2 po2 fun as3 S3 H3 v3 d3 g3 rel3 r3 po3 => by
      rcases mBool_bl r3 (S := S3) with z | ⟨b, rfl, rfl⟩
      · rw [bind_ap, z] at po3; exact po3.elim
      · refine ⟨b, rfl, ?_⟩
        cases b with
        | true => exact iteT (tE_seq rel3 po3 fun as4 S4 H4 v4 d4 g4 rel4 r4 po4 => (act' hd as4 S4 H4 v2 v4 d2 d4 rel4.w ((r2.grow g3).grow g4) r4).out (Q := fun z H' => ∃ k, z = V.bl k ∧ Q k H') rel4 po4)
        | false => exact iteF (po3 as3 H3 .refl rel3 _ (.bl false))
end
/-! ### sums and products of lists that are changed later -/
def oAddC : D → D → M D := fun d e S => match listOw S d, listOw S e with
  | some xs, some ys => if xs.length + ys.length ≤ sizeLine then .ok (.cell S.length) (S ++ [some (.lst (xs ++ ys))]) else .stuck
  | _, _ => .stuck
theorem act_addC {K : PySem.W.Frag} : Act2 K (rAddA K) oAddC := by
  intro hd as S H v u d e w r1 r2
  unfold oAddC
  cases e1 : listOw S d with
  | none => trivial
  | some xs =>
    cases e2 : listOw S e with
    | none => trivial
    | some ys =>
      dsimp only
      split
      · rename_i hz
        obtain ⟨a, vs, rfl, ha, ra⟩ := seqO w r1 e1
        obtain ⟨b, us, rfl, hb, rb⟩ := seqO w r2 e2
        exact fun Q q => .inr (.inr (.inl ⟨a, b, vs, us, rfl, rfl, ha, hb, by rw [ra.length, rb.length]; exact hz, fun p hp => by
          obtain ⟨w', g, ee⟩ := w.newCell hp (ra.append rb)
          exact q _ _ _ g w' (.cell ee)⟩))
      · trivial
def oMulC : D → D → M D := fun d e S => match listOw S d, e with
  | some xs, .int k => if -(2 ^ 63) ≤ k ∧ k < 2 ^ 63 ∧ xs.length * k.toNat ≤ sizeLine then .ok (.cell S.length) (S ++ [some (.lst (List.replicate k.toNat xs).flatten)]) else .stuck
  | _, _ => .stuck
theorem act_mulC {K : PySem.W.Frag} : Act2 K rMulA oMulC := by
  intro hd as S H v u d e w r1 r2
  unfold oMulC
  cases e1 : listOw S d with
  | none => trivial
  | some xs =>
    cases r2 with
    | int k =>
      dsimp only
      split
      · rename_i hz
        obtain ⟨h1, h2, h3⟩ := hz
        obtain ⟨a, vs, rfl, ha, ra⟩ := seqO w r1 e1
        exact fun Q q => .inr ⟨a, k, vs, rfl, rfl, ha, h1, h2, by rw [ra.length]; exact h3, fun p hp => by
          obtain ⟨w', g, ee⟩ := w.newCell hp (ra.rep k.toNat)
          exact q _ _ _ g w' (.cell ee)⟩
      · trivial
    | _ => trivial
/-! ### a comprehension in a comprehension -/
end
end DL

set_option Elab.async false
set_option linter.all false
set_option maxRecDepth 100000
/-! DLS: first, *others = a list. -/
namespace DL
open PySem PySem.Spec PyProof.Rows L2
noncomputable section
section
variable {prog : Program} {w : World} {A : Around} {E : Value → Shared → Prop} {s : Shared}
/-- the items of a list for a target with a star behind one name -/
theorem star_items {at0 : Addr} {its : Array Value} {R : List Value → Shared → Prop} (isl : s.heap.IsList at0 its) (calm : A.handled = none) (one : 1 ≤ its.size) (few : its.size ≤ 16384)
    (k : ∀ (g : Heap) (t : Nat), (∀ b o, s.heap.get? b = some o → g.get? b = some o) → R (its.toList.take 1 ++ [.ref g.objs.size] ++ []) { s with heap := g.push { cls := .type "list", data := .seq (its.toList.drop 1).toArray }, toks := t }) :
    wpAny (model prog w) A (unpackItems (.ref at0) 2 (some 1)) R E s := by
  obtain ⟨ob, hob, rest⟩ := id isl
  have apart : at0 ≠ s.heap.objs.size := Nat.ne_of_lt (Heap.lt_size hob)
  unfold unpackItems notIterableAtAll
  refine wpAny_bind (wpAny_bind (wpAny_specialOf (PySem.Heap.IsList.typeIs isl) slot_list_iter.lookup (wpAny_pure ?_)))
  rw [if_neg (by simp)]
  refine wpAny_bind (wpAny_holding (wpAny_pyIter_list isl ?_))
  refine wpAny_bind (wpAny_holding (PySem.W.kun_draw apart 1 0 _ _ ⟨_, Heap.get?_push_size _ rfl, rfl, rfl⟩ (isl.push _) (by omega) fun g1 it1 but1 => ?_))
  have isl1 : g1.IsList at0 its := (isl.push _).extBut but1.extBut apart
  obtain ⟨oa, hoa, _⟩ := id it1
  obtain ⟨oc, hoc, _⟩ := id isl1
  have len1 : ((its.toList.drop 0).take 1).length = 1 := by rw [List.drop_zero, List.length_take, Array.length_toList]; omega
  dsimp only
  rw [if_neg (by rw [len1]; omega)]
  refine wpAny_bind (wpAny_holding (PySem.W.kun_collect (s := { s with heap := g1 }) (T := "list_iterator") (.inr (.inr (.inl rfl))) (Walks.list (A := A.in1) calm s.heap.objs.size at0 apart its) (fun j u st => st.1.typeIs) (k := 1) one ⟨it1, isl1⟩ (Heap.lt_size hoa) (Heap.lt_size hoc) (fun g2 t2 keep2 => ?_) (by rw [sizeLine_eq]; omega)))
  have lenr : (its.toList.drop 1).length = its.size - 1 := by rw [List.length_drop, Array.length_toList]
  rw [if_neg (by omega)]
  have tk : (its.toList.drop 1).take ((its.toList.drop 1).length - (2 - 1 - 1)) = its.toList.drop 1 := List.take_of_length_le (by omega)
  have dr : (its.toList.drop 1).drop ((its.toList.drop 1).length - (2 - 1 - 1)) = [] := List.drop_eq_nil_of_le (by omega)
  rw [tk, dr]
  refine wpAny_bind (wpAny_newList (wpAny_pure ?_) (by rw [lenr, sizeLine_eq]; omega))
  rw [List.drop_zero]
  exact k g2 t2 fun b o e => keep2 b o (Nat.ne_of_lt (Heap.lt_size e)) (but1.extBut b o (Nat.ne_of_lt (Heap.lt_size e)) (Heap.get?_push_of_some _ e))
end
/-- x, *y = a list -/
def gStar (K : PySem.W.Frag) (i j : Nat) : TG := fun v σ H Q => ∃ a x xs, v = .ref a ∧ SqL K H a (x :: xs) ∧ xs.length < 16000 ∧ ∀ p, H p = none → Q ((σ.set i (some x)).set j (some (.ref p))) (upd H p (.lst xs))
section
variable {X : Cx} {pos : Pos}
theorem pg_star {t1 t2 : Expr} {sp : Pos} {i j k : Nat} (hc : X.calm = true) (h1 : PG X t1 (gName i)) (h2 : PG X t2 (gName j)) (he : assignEach [t1, .Starred t2 sp] X.env = [(false, assign t1 X.env), (true, assign t2 X.env)])
    (hs : (assignEach [t1, t2] X.env).map (·.2) = [assign t1 X.env, assign t2 X.env]) (hs1 : (assignEach [t1, t2] X.env).map (·.2) = assign t1 X.env :: (assignEach [t2] X.env).map (·.2)) (hs2 : (assignEach [t2] X.env).map (·.2) = assign t2 X.env :: (assignEach [] X.env).map (·.2)) :
    PG X (.Tuple [t1, .Starred t2 sp] k pos) (gStar X.K i j) := by
  refine ⟨fun pins s σ H v u Q I r hw => ?_⟩
  obtain ⟨a, x, xs, e1, hq, hl, hw⟩ := hw
  subst e1
  cases r
  obtain ⟨its, rv, ⟨o, n, ho, ho2, ho3, ho4⟩, hz⟩ := I.list hq
  have hlen := rv.length
  rw [List.length_cons] at hlen
  rw [assign_Tuple]
  refine wpAny_bind (wpAny_standAt ?_)
  unfold unpack
  rw [he]
  refine wpAny_bind (wpAny_holding (star_items (its := its.toArray) ⟨o, ho, ho2, n, ho4⟩ (I.ok.hd hc) (by simp; omega) (by simp; omega) fun g t keep => ?_))
  cases rv with
  | cons r0 rr =>
    rename_i u0 us
    have new : g.get? g.objs.size = none := by
      cases q : g.get? g.objs.size with
      | none => rfl
      | some z => exact absurd (Heap.lt_size q) (Nat.lt_irrefl _)
    have n1 : s.heap.get? g.objs.size = none := by
      cases q : s.heap.get? g.objs.size with
      | none => rfl
      | some z => rw [keep _ _ q] at new; cases new
    have n2 : H g.objs.size = none := by
      cases q : H g.objs.size with
      | none => rfl
      | some z =>
        obtain ⟨y, hy⟩ := objOk_get (I.hok _ _ q)
        rw [hy] at n1; cases n1
    have ok1 : ObjOk X.prog X.w (upd H g.objs.size (.lst xs)) (g.push { cls := .type "list", data := .seq us.toArray }) g.objs.size (.lst xs) := ⟨by rw [sizeLine_eq]; omega, us, 0, rr, Heap.get?_push_size _ rfl⟩
    have I1 : Inv X pins σ (upd H g.objs.size (.lst xs)) { s with heap := g.push { cls := .type "list", data := .seq us.toArray }, toks := t } := I.laidN (fun b o e => Heap.get?_push_of_some _ (keep b o e)) n1 n2 ok1
    have run := (pgs_cons h1 (pgs_cons h2 pgs_nil hs2) hs1).run pins _ σ _ [x, .ref g.objs.size] [u0, .ref g.objs.size] Q I1 (.cons r0 (.cons rfl .nil)) ⟨_, _, rfl, _, _, rfl, rfl, hw _ n2⟩
    rw [hs] at run
    exact run
end
/-- the data -/
def sStar (i j : Nat) (m : EM) : SD := fun ρ S => (m ρ S).to ρ fun d S' => match listOf S' d with
  | some (x :: xs) => if xs.length < 16000 then .ok .nx ((ρ.set i (some x)).set j (some (.lst xs))) S' else .stuck
  | _ => .stuck
section
variable {X : Cx} {W : WX} {e : Expr} {me : EM} {pos tpos p1 p2 sp : Pos} {x y : Str} {i j k : Nat}
theorem ds_star (h : DE X W e me) (h1 : DG X (.Name x p1) (.nm i)) (h2 : DG X (.Name y p2) (.nm j)) (hc : X.calm = true)
    (he : assignEach [.Name x p1, .Starred (.Name y p2) sp] X.env = [(false, assign (.Name x p1) X.env), (true, assign (.Name y p2) X.env)] := by rfl)
    (hs0 : (assignEach [.Name x p1, .Name y p2] X.env).map (·.2) = [assign (.Name x p1) X.env, assign (.Name y p2) X.env] := by rfl)
    (hs1 : (assignEach [.Name x p1, .Name y p2] X.env).map (·.2) = assign (.Name x p1) X.env :: (assignEach [.Name y p2] X.env).map (·.2) := by rfl) (hs2 : (assignEach [.Name y p2] X.env).map (·.2) = assign (.Name y p2) X.env :: (assignEach [] X.env).map (·.2) := by rfl)
    (hs : swapsWithSole [.Tuple [.Name x p1, .Starred (.Name y p2) sp] k tpos] e pos.line X.env = pure false := by rfl) (hw : swappedStores [.Tuple [.Name x p1, .Starred (.Name y p2) sp] k tpos] e X.env = pure none := by rfl)
    (h3 : (assignEach [.Tuple [.Name x p1, .Starred (.Name y p2) sp] k tpos] X.env).map (·.2) = [assign (.Tuple [.Name x p1, .Starred (.Name y p2) sp] k tpos) X.env] := by rfl) :
    DS X W (.Assign [.Tuple [.Name x p1, .Starred (.Name y p2) sp] k tpos] e pos) (sStar i j me) :=
  PS.le (ps_asg h (pg_star hc h1 h2 he hs0 hs1 hs2) hs hw h3) fun Dn σ H ⟨hd, as, ρ, S, rel, po⟩ => tE_to rel po fun as1 S1 H1 v d g rel1 r q => by
    cases e1 : listOf S1 d with
    | none => rw [e1] at q; exact q.elim
    | some zs =>
      rw [e1] at q
      cases zs with
      | nil => exact q.elim
      | cons z zs =>
        by_cases hz : zs.length < 16000
        · simp only [hz, if_true] at q
          obtain ⟨a, vs, rfl, hq, rr⟩ := seqL rel1.w r e1
          cases rr with
          | cons r0 r1 =>
            refine ⟨a, _, _, rfl, hq, by rw [r1.length]; exact hz, fun p hp => ?_⟩
            obtain ⟨w', g', ep⟩ := rel1.w.fresh (o := .lst _) hp
            refine q as1 _ (upd H1 p (.lst _)) g' ⟨w', ?_⟩
            exact ((rel1.grow g' w').s.set (r0.grow g') i).set (.lst ep (r1.grow g')) j
        · simp only [hz, if_false] at q; exact q.elim
end
/-! ### a slot's list is changed no more -/
def frzSlot (i : Nat) : RS → RS
  | .ok .nx ρ S => match ρ[i]? with
    | some (some (.cell n)) => match S[n]? with
      | some (some (.lst xs)) => .ok .nx (ρ.set i (some (.lst xs))) (S.set n none)
      | _ => .stuck
    | _ => .stuck
  | r => r
def sThenFrz (i : Nat) (m : SD) : SD := fun ρ S => frzSlot i (m ρ S)
end
end DL

set_option Elab.async false
set_option linter.all false
set_option maxRecDepth 100000
set_option maxHeartbeats 2000000
/-! DX: errors as data: raised, caught, kept, asked. -/
namespace DL
open PySem PySem.Spec PyProof.Rows L2
/-! ### a caught error is kept -/
theorem erO_ok {P : Program} {w : World} {H : Hp} {h : Heap} {a : Addr} {cls : Value} {d : Option Addr} {oe : Obj} {vs : Array Value} (e : h.get? a = some oe) (z : Zc cls d oe) (hd : oe.data = .fields vs) : ObjOk P w H h a (ErO cls d a) :=
  ⟨⟨oe, vs, e, z, hd⟩, ⟨oe, e⟩, fun _ _ ⟨o, v, q, r⟩ k => ⟨o, v, k o q, r⟩⟩
theorem erO_at {P : Program} {w : World} {H : Hp} {h : Heap} {a : Addr} {cls : Value} {d : Option Addr} (hok : HOk P w H h) (he : H a = some (ErO cls d a)) : ∃ (oe : Obj) (vs : Array Value), h.get? a = some oe ∧ Zc cls d oe ∧ oe.data = .fields vs := by
  have x : ObjOk P w H h a (.ext fun h => ∃ (oe : Obj) (vs : Array Value), h.get? a = some oe ∧ Zc cls d oe ∧ oe.data = .fields vs) := hok a _ he
  exact x.1
section
variable {X : Cx} {pins : List (Addr × Obj)} {σ : L2.St} {H : Hp} {s : Shared}
theorem Inv.track {a : Addr} {cls : Value} {d : Option Addr} {oe : Obj} {vs : Array Value} (I : Inv X pins σ H s) (na : H a = none) (h0 : X.s_0.heap.get? a = none) (hp : ∀ p ∈ X.pn ++ pins, p.1 ≠ a)
    (e : s.heap.get? a = some oe) (z : Zc cls d oe) (hd : oe.data = .fields vs) (nL : a ≠ X.env.locals) : Inv X pins σ (upd H a (ErO cls d a)) s := by
  have ne : ∀ {b : Addr} {u : HO}, H b = some u → b ≠ a := fun {b u} q z => by rw [z, na] at q; cases q
  have n0 : ∀ {b : Addr} {o : Obj}, X.s_0.heap.get? b = some o → b ≠ a := fun {b o} q z => by rw [z, h0] at q; cases q
  refine ⟨I.ok, I.os, I.bare, ⟨I.base.keep, I.base.slot, fun b o q n hx => ?_, I.base.there, fun b xs q => ?_, fun b o u q => ?_, fun b ps q => ?_⟩, I.loc, I.cell, ?_, fun x c q => ?_, fun p hm => ?_, fun b u q => ?_, I.len⟩
  · rw [upd_ne (n0 q)]; exact I.base.free b o q n hx
  · have := I.base.tups b xs q; rw [upd_ne (ne this)]; exact this
  · have := I.base.frzs b o u q; rw [upd_ne (ne this)]; exact this
  · obtain ⟨m, this⟩ := I.base.tbls b ps q; exact ⟨m, by rw [upd_ne (ne this)]; exact this⟩
  · rw [upd_ne (Ne.symm nL)]; exact I.free
  · have hc : c ≠ a := fun z => by
      obtain ⟨v, o, ho, hdc⟩ := I.cell x c q
      rw [z, e] at ho; cases ho
      rw [hd] at hdc; cases hdc
    rw [upd_ne hc]; exact I.freeC x c q
  · obtain ⟨e1, n1, r⟩ := I.pin p hm
    exact ⟨e1, by rw [upd_ne (hp p hm)]; exact n1, r⟩
  · by_cases hb : b = a
    · subst hb
      rw [upd_same] at q; cases q
      exact erO_ok e z hd
    · rw [upd_ne hb] at q
      exact (I.hok b u q).stay (fun c v _ q => q) (fun c q => by rw [upd_ne (ne q)]; exact q) fun c xs q => by rw [upd_ne (ne q)]; exact q
theorem Inv.suite0 (I : Inv X pins σ H s) (a : Addr) : Inv (X.suite a (X.pn ++ pins)) [] σ H s :=
  ⟨I.ok.suite _ _, I.os, I.bare, I.base, I.loc, I.cell, I.free, I.freeC, fun p hp => I.pin p (by rw [List.append_nil] at hp; exact hp), I.hok, I.len⟩
theorem Inv.unsuite0 {a : Addr} (I : Inv (X.suite a (X.pn ++ pins)) [] σ H s) (ok : X.Ok) : Inv X pins σ H s :=
  ⟨ok, I.os, I.bare, I.base, I.loc, I.cell, I.free, I.freeC, fun p hp => I.pin p (List.mem_append_left _ hp), I.hok, I.len⟩
end
/-- what the clause 'except x as n' wishes of an error of the body: slot i is n's; the error is kept -/
def wKeep (K : PySem.W.Frag) (c : Value) (i : Nat) (ts : TS) (Wout : WX) (D : Ends) : WX := fun cls d σ H =>
  ∃ b, PySem.W.exmOne K cls c = some b ∧ (b = true → ∀ a, H a = none → ts { nx := fun σ' H' => D.nx (σ'.set i none) H', rt := D.rt, bk := fun σ' H' => D.bk (σ'.set i none) H', ct := fun σ' H' => D.ct (σ'.set i none) H' } (σ.set i (some (.ref a))) (upd H a (ErO cls d a))) ∧
    (b = false → Wout cls d σ H)
section
variable {X : Cx} {x n : Str} {c : Value} {i : Nat} {body suite : List Stmt} {b₀ : Stmt} {np pos pos' : Pos} {tb : WX → TS} {ts : TS} {Wout : WX}
theorem ps_try_keep (hs : X.stack = X.env :: X.outer) (hf : X.env.frame = some X.env.locals) (hN : X.N.Nodup) (hi : X.N[i]? = some n) (hln : X.env.kindOf n = some .local) (hc : Names X x c) (tk : Takes X Wout) (hx0 : X.ex = [])
    (hb : ∀ (W : WX) (pn : List (Addr × Obj)) (xe : Value → Shared → Prop), Takes (X.tr pn xe) W → PassesOwn (model X.prog X.w) X.A X.env xe → PSs (X.tr pn xe) body (tb W))
    (hsu : ∀ (a : Addr) (pn : List (Addr × Obj)), PSs (X.suite a pn) (b₀ :: suite) ts) :
    PS X (.Try body [.ExceptHandler (some (.Name x np)) (some n) (b₀ :: suite) pos'] [] [] pos) (fun D σ H => tb (wKeep X.K c i ts Wout D) D σ H) := by
  refine ⟨fun pins s σ H D I h => ?_⟩
  have ok := I.ok
  have hfr : X.A.frames = some (X.env :: X.outer) := by rw [ok.frames, hs]
  have hloc : Loc X.env.scope n := .inl hln
  refine wpAny_Try_except ?_
  refine wpAny_mono ((hb (wKeep X.K c i ts Wout D) (X.pn ++ pins) (fun e s₁ => wpAny (model X.prog X.w) X.A (noteFrame e X.env) (fun _ s₂ => wpAny (model X.prog X.w) X.A (setFlight e none) (fun _ s₃ =>
    wpAny (model X.prog X.w) X.A (handleBy e X.env [.ExceptHandler (some (.Name x np)) (some n) (b₀ :: suite) pos']) (SP X pins D) X.xe s₃) X.xe s₂) X.xe s₁) (fun u s' xx => ?_) PassesOwn.looking).run [] s σ H D (I.toTry _) h) (fun f s1 hsp => ?_) (fun e s1 he => he)
  · -- the catch
    obtain ⟨a, B, sI, pins', σ', H', cls, d, rfl, J', nb, up, sky, na, os, ag, b, hb1, hyes, hno⟩ := xx
    have J : Inv X pins σ' H' sI := J'.ofTry ok
    have sky' : Sky B (X.env :: X.outer) a (Zc cls d) X.env.locals s'.heap := by rw [← hs]; exact sky
    have hBa : B.get? a = none := by
      rcases sky' with ⟨_, hn, _⟩ | fl | hh
      · exact hn
      · exact fl.2.1
      · exact hh.2.1
    show wpAny (model X.prog X.w) X.A (noteFrame (.ref a) X.env) _ _ _
    refine Sky.land Zc.steady hfr hf sky' fun h3 fl3 up3 => ?_
    have J3 : Inv X pins σ' H' { s' with heap := h3 } := J.landed nb fl3.1 (up.trans up3) os ag
    obtain ⟨oe3, vs3, he3, hz3, hd3⟩ := fl3.there
    have notFr : ∀ {h : Heap} {o : Obj} {vs : Array Value}, h.FunFrames B (X.env :: X.outer) → h.get? a = some o → o.data = .fields vs → a ∉ frs (X.env :: X.outer) := fun {h o vs} ff e dd hm => by
      obtain ⟨_, o', e', hnf⟩ := ff.mem hm
      rw [e] at e'; cases e'
      exact hnf _ dd
    have nfr := notFr fl3.2.2.1 he3 hd3
    have nL : a ≠ X.env.locals := fun z => nfr (List.mem_filterMap.mpr ⟨X.env, List.mem_cons_self, by rw [hf, z]⟩)
    have nF : a ∉ X.fs := fun hm => by
      obtain ⟨e, he, q⟩ := List.mem_filterMap.mp hm
      exact nfr (List.mem_filterMap.mpr ⟨e, List.mem_cons_of_mem _ he, q⟩)
    have nI : sI.heap.get? a = none := by
      cases e : sI.heap.get? a with
      | none => rfl
      | some o =>
        have := nb a o e (by rw [hs]; exact nfr)
        rw [hBa] at this; cases this
    have n0 : X.ex = [] → X.s_0.heap.get? a = none := fun hx => by
      cases e : X.s_0.heap.get? a with
      | none => rfl
      | some o =>
        obtain ⟨o', e1⟩ := J.base.there a o e (by rw [hx]; exact fun z => nomatch z)
        rw [nI] at e1; cases e1
    have hpin : ∀ p ∈ X.pn ++ pins, p.1 ≠ a := fun p hm z => by
      have := (J.pin p hm).1
      rw [z, nI] at this; cases this
    have S3 := J3.suite he3 hd3 na nL nF
    refine wpAny_handleBy_cons (codeAny_handlers_test ?_) (by intro q; cases q)
    have LT : PySem.W.Looks (model X.prog X.w) h3 (typeOf (.ref a)) cls := fun A Q E s k q => wpAny_typeOf_ref (k _ _ he3) (by rw [hz3.1]; exact q)
    have LM := PySem.W.exm_one (M := model X.prog X.w) (J3.kIn) LT hb1
    have test : ∀ {Q : Value → Shared → Prop} {E : Value → Shared → Prop}, Q c { s' with heap := h3 } → wpAny (model X.prog X.w) (X.A.mark (some (.ref a))) (eval (.Name x np) X.env) Q E { s' with heap := h3 } := fun {Q E} q => by
      obtain ⟨hg, hdbg, hm | ⟨hm, hv, hnn⟩⟩ := hc
      · exact ld_glob (X := X.suite a ((a, oe3) :: (X.pn ++ pins))) S3 hg hm q hdbg
      · exact ld_blt (X := X.suite a ((a, oe3) :: (X.pn ++ pins))) S3 hg hm hv q hnn hdbg
    refine test (LM.here ?_)
    cases b with
    | true =>
      refine codeAny_handlers_suite_as ?_
      refine HandSPX.lands_againZ fl3 fun h4 fl4 up4 => ?_
      have J4 : Inv X pins σ' H' { s' with heap := h4 } := J.landed nb fl4.1 ((up.trans up3).trans up4) os ag
      obtain ⟨oe4, vs4, he4, hz4, hd4⟩ := fl4.there
      have hex : X.ex = [] := hx0
      have T4 := Inv.track J4 na (n0 hex) hpin he4 hz4 hd4 nL
      have S4 := Inv.suite0 T4 a
      refine store_ok (X := X.suite a (X.pn ++ pins)) (v := .ref a) S4 hN hi hloc rfl (fun s5 S5 => ?_) (.inr hln)
      refine wpAny_mono ((hsu a (X.pn ++ pins)).run [] s5 _ _ _ S5 (hyes rfl a na)) (fun f s6 hsp => ?_) (fun _ _ z => False.elim z)
      have end_ : ∀ {σ6 : L2.St} {H6 : Hp} {Q : Shared → Prop}, Inv (X.suite a (X.pn ++ pins)) [] σ6 H6 s6 → (∀ s7, Inv X pins (σ6.set i none) H6 s7 → Q s7) →
          wpAny (model X.prog X.w) X.A (do bindName X.env n .none; unbindBehindTheSuite X.env n pos') (fun _ s7 => Q s7) X.xe s6 := fun {σ6 H6 Q} S6 hq => gone_ok (Inv.unsuite0 S6 ok) hN hi hln hq
      cases f with
      | next =>
        obtain ⟨σ6, H6, S6, q6⟩ := hsp
        exact end_ S6 fun s7 J7 => ⟨_, _, J7, q6⟩
      | brk =>
        obtain ⟨σ6, H6, S6, q6⟩ := hsp
        exact end_ S6 fun s7 J7 => ⟨_, _, J7, q6⟩
      | cont =>
        obtain ⟨σ6, H6, S6, q6⟩ := hsp
        exact end_ S6 fun s7 J7 => ⟨_, _, J7, q6⟩
      | ret u =>
        obtain ⟨v6, σ6, H6, S6, r6, q6⟩ := hsp
        exact end_ S6 fun s7 J7 => ⟨_, _, _, J7, r6, q6⟩
    | false =>
      show wpAny _ X.A (handleBy (.ref a) X.env []) _ _ _
      refine wpAny_handleBy_nil ?_
      obtain ⟨k1, k2, k3, oe, vs, T, oT, ts', he, hz, hd, h1, hr⟩ := id fl3
      unfold PySem.passOn
      refine wpAny_bind (wpAny_field he hd h1 ?_)
      rw [if_neg (show ¬ ((Value.ref T == Value.none) = true) from by simp)]
      have fin : wpAny (model X.prog X.w) X.A (setFlight (.ref a) X.env.frame) (fun _ s4 => wpAny (model X.prog X.w) X.A (throw (.ref a) : Sem Flow) (SP X pins D) X.xe s4) X.xe { s' with heap := h3 } := by
        rw [hf]
        refine HandSPX.setFlight_upZ fl3 fun h4 hh4 up4 => wpAny_throw (tk _ _ ?_)
        exact ⟨a, B, sI, pins, σ', H', cls, d, rfl, J, nb, (up.trans up3).trans up4, .inr (.inr (by rw [hs]; exact hh4)), na, os, ag, hno rfl⟩
      first
        | exact wpAny_bind (wpAny_pure (wpAny_bind fin))
        | exact wpAny_bind fin
  · cases f with
    | next =>
      obtain ⟨σ', H', J', q⟩ := hsp
      exact wpAny_execs_nil ⟨σ', H', J'.ofTry ok, q⟩
    | brk =>
      obtain ⟨σ', H', J', q⟩ := hsp
      exact ⟨σ', H', J'.ofTry ok, q⟩
    | cont =>
      obtain ⟨σ', H', J', q⟩ := hsp
      exact ⟨σ', H', J'.ofTry ok, q⟩
    | ret u =>
      obtain ⟨v, σ', H', J', r, q⟩ := hsp
      exact ⟨v, σ', H', J'.ofTry ok, r, q⟩
end
end DL

set_option Elab.async false
set_option linter.all false
set_option maxRecDepth 100000
set_option maxHeartbeats 2000000
/-! DX2: errors, as the text's statements do to data. -/
namespace DL
open PySem PySem.Spec PyProof.Rows L2
/-! ### try .. except X as n -/
def goneS (i : Nat) : RS → RS
  | .ok f ρ S => .ok f (ρ.set i none) S
  | _ => .stuck
def sTryAs (tbl : Str → Option Bool) (i : Nat) (b h : SD) : SD := fun ρ S => match b ρ S with
  | .exc x ρ1 S1 => match tbl x.name with
    | some true => goneS i (h (ρ1.set i (some (.err x.name x.ks x.vs))) S1)
    | some false => .exc x ρ1 S1
    | none => .stuck
  | r => r
def TblX (K : PySem.W.Frag) (c : Value) (tbl : Str → Option Bool) : Prop := ∀ n b, tbl n = some b → ∀ cls, ClsK K n cls → PySem.W.exmOne K cls c = some b
theorem Slots.wipe1 {K : PySem.W.Frag} {as : List Addr} {F : Hp} {σ : L2.St} {ρ : Env} (h : Slots K as F σ ρ) (i : Nat) : Slots K as F (σ.set i none) (ρ.set i none) := by
  refine ⟨by simp [h.len], fun j d e => ?_⟩
  by_cases hij : i = j
  · subst hij
    by_cases hi : i < ρ.length
    · rw [List.getElem?_set_self hi] at e; cases e
    · rw [List.getElem?_eq_none (by simpa using Nat.le_of_not_lt hi)] at e; cases e
  · rw [List.getElem?_set_ne hij] at e
    obtain ⟨v, e1, r⟩ := h.at_ j d e
    exact ⟨v, by rw [List.getElem?_set_ne hij]; exact e1, r⟩
theorem REL.wipe1 {K : PySem.W.Frag} {hd : Hid} {as : List Addr} {ρ : Env} {S : Sto} {σ : L2.St} {H : Hp} (h : REL K hd as ρ S σ H) (i : Nat) : REL K hd as (ρ.set i none) S (σ.set i none) H := ⟨h.w, h.s.wipe1 i⟩
theorem Slots.put {K : PySem.W.Frag} {as : List Addr} {F : Hp} {σ : L2.St} {ρ : Env} {v : V} {d : D} (h : Slots K as F σ ρ) (i : Nat) (r : Rep K as F v d) : Slots K as F (σ.set i (some v)) (ρ.set i (some d)) := h.set r i
section
variable {X : Cx} {W : WX} {x n : Str} {c : Value} {i : Nat} {body suite : List Stmt} {b₀ : Stmt} {np pos pos' : Pos} {mb mh : SD} {tbl : Str → Option Bool}
theorem try_step {K : PySem.W.Frag} {mg : Str → Option Value} {Wout : WX} (ht : TblX K c tbl) {D : Ends} {σ : L2.St} {H : Hp} (h : tS K mg Wout (sTryAs tbl i mb mh) D σ H) : tS K mg (wKeep K c i (tS K mg WNo mh) Wout D) mb D σ H := by
  obtain ⟨hd, as, ρ, S, rel, po⟩ := h
  refine ⟨hd, as, ρ, S, rel, ?_⟩
  unfold sTryAs at po
  cases e : mb ρ S with
  | stuck => rw [e] at po; exact po.elim
  | ok f ρ1 S1 =>
    rw [e] at po
    cases f <;> exact po
  | exc xd ρ1 S1 =>
    rw [e] at po
    intro as' cls dd σ' H' g rel' xr
    dsimp only at po
    cases et : tbl xd.name with
    | none => rw [et] at po; exact po.elim
    | some b =>
      rw [et] at po
      have hb := ht _ _ et cls xr.1
      cases b with
      | false => exact ⟨false, hb, (fun z => by cases z), fun _ => po as' cls dd σ' H' g rel' xr⟩
      | true =>
        refine ⟨true, hb, fun _ a ha => ?_, fun z => by cases z⟩
        obtain ⟨w1, g1, e1⟩ := rel'.w.fresh (o := ErO cls dd a) ha
        obtain ⟨hk, _, us, hD, hR⟩ := xr
        have rep : Rep K as' (fz hd as' S1 (upd H' a (ErO cls dd a))) (.ref a) (.err xd.name xd.ks xd.vs) := .err e1 hk (hD.same g1.same) (hR.grow g1)
        refine ⟨hd, as', _, S1, ⟨w1, (rel'.grow g1 w1).s.set rep i⟩, ?_⟩
        dsimp only at po
        cases eh : mh (ρ1.set i (some (.err xd.name xd.ks xd.vs))) S1 with
        | stuck => rw [eh] at po; exact po.elim
        | exc y ρ2 S2 => rw [eh] at po; exact po.elim
        | ok f ρ2 S2 =>
          rw [eh] at po
          cases f with
          | nx => exact fun as2 σ2 H2 g2 r2 => po as2 _ H2 ((g.trans g1).trans g2) (r2.wipe1 i)
          | brk => exact fun as2 σ2 H2 g2 r2 => po as2 _ H2 ((g.trans g1).trans g2) (r2.wipe1 i)
          | cnt => exact fun as2 σ2 H2 g2 r2 => po as2 _ H2 ((g.trans g1).trans g2) (r2.wipe1 i)
          | ret d => exact fun as2 v H2 g2 w2 r2 => po as2 v H2 ((g.trans g1).trans g2) w2 r2
theorem ds_try (hs : X.stack = X.env :: X.outer) (hf : X.env.frame = some X.env.locals) (hN : X.N.Nodup) (hi : X.N[i]? = some n) (hln : X.env.kindOf n = some .local) (hc : Names X x c) (tk : Takes X W) (hx0 : X.ex = []) (ht : TblX X.K c tbl)
    (hb : ∀ (W : WX) (pn : List (Addr × Obj)) (xe : Value → Shared → Prop), Takes (X.tr pn xe) W → PassesOwn (model X.prog X.w) X.A X.env xe → DSs (X.tr pn xe) W body mb)
    (hsu : ∀ (a : Addr) (pn : List (Addr × Obj)), DSs (X.suite a pn) WNo (b₀ :: suite) mh) :
    DS X W (.Try body [.ExceptHandler (some (.Name x np)) (some n) (b₀ :: suite) pos'] [] [] pos) (sTryAs tbl i mb mh) :=
  PS.le (ps_try_keep (tb := fun W => tS X.K X.mg W mb) (ts := tS X.K X.mg WNo mh) hs hf hN hi hln hc tk hx0 hb hsu) fun D σ H h => try_step ht h
end
/-! ### the text's classes -/
/-! ### isinstance of an error -/
def ErIs (H : Hp) (a C : Addr) (d : Option Addr) : Prop := H a = some (ErO (.ref C) d a) ∧ (d = none ∨ ∃ dd fs, d = some dd ∧ H dd = some (.xd fs))
theorem erIs_inst {X : Cx} {pins : List (Addr × Obj)} {σ : L2.St} {H : Hp} {s : Shared} {a C : Addr} {d : Option Addr} (I : Inv X pins σ H s) (h : ErIs H a C d) : ∃ oe od, PySem.W.InstAt s.heap a oe C od := by
  obtain ⟨ha, hd⟩ := h
  obtain ⟨oe, vs, e, z, hf⟩ := erO_at I.hok ha
  rcases hd with rfl | ⟨dd, fs, rfl, hx⟩
  · refine ⟨oe, none, ⟨e, z.1, by unfold PySem.W.notCls; rw [hf] <;> rfl, by rw [z.2]; trivial⟩⟩
  · have ox : ObjOk X.prog X.w H s.heap dd (.xd fs) := I.hok dd _ hx
    obtain ⟨mA, hns, hr⟩ := ox
    obtain ⟨od, ho, hl⟩ := lookIn_ns hns
    exact ⟨oe, some od, ⟨e, z.1, by unfold PySem.W.notCls; rw [hf] <;> rfl, by rw [z.2]; exact ho⟩⟩
def rIsX (K : PySem.W.Frag) : List V → Hp → VK → Prop := fun xs H Q => ∃ (a C : Addr) (d : Option Addr) (c : V) (cv : Value) (b : Bool), xs = [.ref a, c] ∧ ErIs H a C d ∧ ExcC K C ∧ (PySem.W.clsIn K C).isSome = true ∧ (∀ u, RelV c u → u = cv) ∧ PySem.W.kitOne K (.ref C) cv = some b ∧ Q (.bl b) H
theorem call_isX {X : Cx} : CallR X (.builtin "isinstance") (rIsX X.K) := by
  intro pins s σ H xs us Q I r h
  obtain ⟨a, C, d, c, cv, b, rfl, hE, hC, hcl, hcv, e, q⟩ := h
  cases r with
  | cons rx rr =>
    cases rr with
    | cons rt rr =>
      cases rr
      cases rx
      have ec := hcv _ rt
      subst ec
      obtain ⟨oe, od, J⟩ := erIs_inst I hE
      exact PySem.W.kia_one (PySem.W.kitx_exc hcl hC.hg hC.hk hC.hs hC.ha hC.hn hC.ht hC.hm) I.kIn J e (fun z => nomatch z) fun tk => ⟨.bl b, H, I.kept (t' := tk) fun _ _ z => z, rfl, q⟩
/-- tc: of the text's classes; tt: of built-in ones -/
def fIsiX (tc : Str → Str → Option Bool) (tt : Str → String → Option Bool) : List D → M D := fun ds => match ds with
  | [.err n _ _, .cls c] => fun S => match tc n c with
    | some b => .ok (.bl b) S
    | none => .stuck
  | [.err n _ _, .ty c] => fun S => match tt n c with
    | some b => .ok (.bl b) S
    | none => .stuck
  | _ => fIsi ds
structure TblI (K : PySem.W.Frag) (tc : Str → Str → Option Bool) (tt : Str → String → Option Bool) : Prop where
  c : ∀ n c b, tc n c = some b → ∀ cls, ClsK K n cls → ∃ C, cls = .ref C ∧ ExcC K C ∧ (PySem.W.clsIn K C).isSome = true ∧ ∀ D, ClsK K c (.ref D) → PySem.W.kitOne K (.ref C) (.ref D) = some b
  t : ∀ n t b, tt n t = some b → ∀ cls, ClsK K n cls → ∃ C, cls = .ref C ∧ ExcC K C ∧ (PySem.W.clsIn K C).isSome = true ∧ PySem.W.kitOne K (.ref C) (.type t) = some b
theorem callR_or {X : Cx} {f : Value} {r1 r2 : List V → Hp → VK → Prop} (h1 : CallR X f r1) (h2 : CallR X f r2) : CallR X f (fun xs H Q => r1 xs H Q ∨ r2 xs H Q) := fun pins s σ H xs us Q I r h => h.elim (h1 pins s σ H xs us Q I r) (h2 pins s σ H xs us Q I r)
/-! ### an error's field -/
def oFld (ok : Str → Str → Bool) (f : Str) : D → M D
  | .err n ks vs => fun S => if ok n f then (match (ks.zip vs).lookup f with
    | some d => .ok d S
    | none => .stuck) else .stuck
  | _ => fun _ => .stuck
def TblF (K : PySem.W.Frag) (ok : Str → Str → Bool) : Prop := ∀ n f, ok n f = true → ∀ cls, ClsK K n cls → ∃ C, cls = .ref C ∧ XfC K C ∧ PySem.W.findIn K (.ref C) f = some none
def tXfA (K : PySem.W.Frag) (f : Str) (te : TE) : TE := fun σ H Q => te σ H fun x H1 => ∃ (a C dd : Addr) (fs : List (Str × V)) (v : V), x = .ref a ∧ H1 a = some (ErO (.ref C) (some dd) a) ∧ XfC K C ∧ PySem.W.findIn K (.ref C) f = some none ∧ H1 dd = some (.xd fs) ∧ fs.lookup f = some v ∧ Q v H1
end DL

set_option Elab.async false
set_option linter.all false
set_option maxRecDepth 100000
set_option maxHeartbeats 2000000
/-! DX3: errors are made and raised. -/
namespace DL
open PySem PySem.Spec PyProof.Rows L2
/-! ### a class without an own __init__ -/
def sRaise0 (n : Str) : SD := fun ρ S => .exc ⟨n, [], []⟩ ρ S
/-! ### a class with an own __init__ -/
/-- Base.__init__(self, ..), Base an own class over ValueError -/
theorem pe_baseInit {X : Cx} {e : Expr} {es : List Expr} {ta : TA} {B : Str} {CB : Addr} {p1 p2 pos : Pos} {pl : Sem Bool} (hg : Gl X B) (hm : X.mg B = some (.ref CB)) (sp : PySem.W.specialIn X.K (.ref CB) "__getattribute__" = some (some (.builtin "type.__getattribute__")))
    (rd : PySem.W.readsIn X.K CB (.type "type") = true) (fc : PySem.W.findCls X.K (.ref CB) (.type "type") "__init__" = some (.val (.builtin "ValueError.__init__"))) (ha : PA X (e :: es) ta)
    (hc : eval (.Call (.Attribute (.Name B p1) "__init__" p2) (e :: es) [] pos) X.env = (do
      let ov ← eval (.Name B p1) X.env
      standAt p2.atName
      let (f, first) ← holding [ov] (getMethod ov "__init__" pl)
      callWith pos f first (backTo pos (starEach (e :: es) X.env)) (backToKw pos (keywordEach [] X.env))) := by rfl)
    (hdb : (B == ("__debug__" : Str)) = false := by decide)
    (he : starEach (e :: es) X.env = (false, eval e X.env) :: starEach es X.env := by rfl) (hpl : (backTo pos (starEach es X.env)).any (·.1) = false := by rfl) :
    PE X (.Call (.Attribute (.Name B p1) "__init__" p2) (e :: es) [] pos) (tVeI X.K ta) := by
  refine ⟨fun pins s σ H Q I h => ?_⟩
  refine PySem.W.methodCall_KW (ld_glob I hg hm ?_ hdb) hc
  refine PySem.W.method_cls I.kIn sp ?_
  refine PySem.W.cls_value I.kIn rd fc (by decide +kernel) ?_
  show wpAny _ _ (callWith pos (Value.builtin "ValueError.__init__") [] (backTo pos (starEach (e :: es) X.env)) []) _ _ _
  refine PyProof.Rows.callWith_method1 (thn (ha.run pos pins _ σ H _ (I.tok _) h) fun us s1 ⟨vs, H1, I1, r1, a, C, ws, ev, hl, T, ea, q⟩ => ?_) he hpl
  subst ev
  cases r1 with
  | @cons _ u0 _ ur ra rw' =>
    obtain rfl : u0 = Value.ref a := ra
    have hlen : ur.length ≤ sizeLine := by
      rw [← Paired.length rw', sizeLine_eq]
      omega
    exact oinit_ok T I1 ea hlen fun s' J => ⟨.non, H1, J, rfl, q⟩
/-- what the text says of the base class -/
structure BaseK (K : PySem.W.Frag) (mg : Str → Option Value) (B : Str) (CB : Addr) : Prop where
  gB : mg B = some (.ref CB)
  sp : PySem.W.specialIn K (.ref CB) "__getattribute__" = some (some (.builtin "type.__getattribute__"))
  rd : PySem.W.readsIn K CB (.type "type") = true
  fc : PySem.W.findCls K (.ref CB) (.type "type") "__init__" = some (.val (.builtin "ValueError.__init__"))
/-- __init__(self, f): .. self.f = f -/
def spI1 (C : Addr) (f : Str) : Sp := fun vs H Q _ => ∃ (a : Addr) (y : V), vs = [.ref a, y] ∧ H a = some (exo a C none) ∧ ∀ dx, H dx = none → dx ≠ a → Q .non (upd (upd H dx (exd dx [(f, y)])) a (exo a C (some dx)))
def spI2 (C : Addr) (f g : Str) : Sp := fun vs H Q _ => ∃ (a : Addr) (y z : V), vs = [.ref a, y, z] ∧ H a = some (exo a C none) ∧ ∀ dx, H dx = none → dx ≠ a → Q .non (upd (upd (upd H dx (exd dx [(f, y)])) a (exo a C (some dx))) dx (exd dx [(g, z), (f, y)]))
section
variable {P : Program} {w : World} {K : PySem.W.Frag} {mg : Str → Option Value} {base : Heap}
theorem init1_ok {st : Stmt} {qual f B : Str} {C CB fI : Addr} {fd : FuncData} {t : TE} (F : Fun K "__init__" qual st fI fd) (Sc : FnScope ["self", f] ["self", f] (defScope st)) (O : OexC K C) (hno : PySem.W.findIn K (.ref C) f = some none)
    (hb : ∀ (cdv : Value) (A : Around) (outer : List PySem.Env) (s : Shared) (H : Hp) (E : XK), ∃ m : Str, PSs (cxOf (L2.CX P w) P w K mg base ["self", f] qual (defScope st) fI cdv A outer s H E) (defBody st) (tSeq (tDrop (tVeI K (tCons (tVar 0) (tCons (tC (.str m)) tNil)))) (tOst K f (tVar 0) (tVar 1)))) :
    FnOk P w K mg base (L2.CX P w) 1 fI fd ["self", f] (spI1 C f) := by
  refine F.okX Sc (fun vs H Q E h => ?_) (fun cdv A outer s H vs Q E hr h => ?_)
  · obtain ⟨a, y, rfl, _⟩ := h; rfl
  · obtain ⟨m, pb⟩ := hb cdv A outer s H E
    refine ⟨_, pb, ?_⟩
    obtain ⟨a, y, rfl, ea, k⟩ := h
    refine ⟨_, rfl, a, C, [.str m], rfl, by simp, O, ea, ?_⟩
    refine ⟨_, rfl, _, rfl, a, C, rfl, O, hno, .inl ⟨ea, fun dx n ne => ?_⟩⟩
    exact k dx n ne
theorem init2_ok {st : Stmt} {qual f g B : Str} {C CB fI : Addr} {fd : FuncData} {t : TE} (F : Fun K "__init__" qual st fI fd) (Sc : FnScope ["self", f, g] ["self", f, g] (defScope st)) (O : OexC K C) (hno : PySem.W.findIn K (.ref C) f = some none) (hno2 : PySem.W.findIn K (.ref C) g = some none)
    (hb : ∀ (cdv : Value) (A : Around) (outer : List PySem.Env) (s : Shared) (H : Hp) (E : XK), ∃ m : Str, PSs (cxOf (L2.CX P w) P w K mg base ["self", f, g] qual (defScope st) fI cdv A outer s H E) (defBody st) (tSeq (tDrop (tVeI K (tCons (tVar 0) (tCons (tC (.str m)) tNil)))) (tSeq (tOst K f (tVar 0) (tVar 1)) (tOst K g (tVar 0) (tVar 2))))) :
    FnOk P w K mg base (L2.CX P w) 1 fI fd ["self", f, g] (spI2 C f g) := by
  refine F.okX Sc (fun vs H Q E h => ?_) (fun cdv A outer s H vs Q E hr h => ?_)
  · obtain ⟨a, y, z, rfl, _⟩ := h; rfl
  · obtain ⟨m, pb⟩ := hb cdv A outer s H E
    refine ⟨_, pb, ?_⟩
    obtain ⟨a, y, z, rfl, ea, k⟩ := h
    refine ⟨_, rfl, a, C, [.str m], rfl, by simp, O, ea, ?_⟩
    refine ⟨_, rfl, _, rfl, a, C, rfl, O, hno, .inl ⟨ea, fun dx n ne => ?_⟩⟩
    refine ⟨_, rfl, _, rfl, a, C, rfl, O, hno2, .inr ⟨dx, [(f, y)], upd_same, ?_, (by simp), ?_⟩⟩
    · rw [upd_ne ne]; exact upd_same
    · exact k dx n ne
end
/-- what the text says of a class of errors with an own __init__ of these fields -/
structure ErK (P : Program) (w : World) (K : PySem.W.Frag) (mg : Str → Option Value) (base : Heap) (n : Str) (ps : List Str) (sp : Addr → Sp) : Prop where
  ex : ∃ (C fI : Addr) (fd : FuncData), mg n = some (.ref C) ∧ ClsK K n (.ref C) ∧ OexC K C ∧ PySem.W.findIn K (.ref C) "__init__" = some (some (.ref fI)) ∧ PySem.W.typeIn K (.ref fI) = some (.type "function") ∧
    FnOk P w K mg base (L2.CX P w) 1 fI fd ps (sp C) ∧ Binds K fd ps []
def sRaise1 (n f : Str) (a : AM) : SD := fun ρ S => (a ρ S).to ρ fun ds S1 => match ds with
  | [d] => .exc ⟨n, [f], [d]⟩ ρ S1
  | _ => .stuck
def sRaise2 (n f g : Str) (a : AM) : SD := fun ρ S => (a ρ S).to ρ fun ds S1 => match ds with
  | [d, e] => .exc ⟨n, [g, f], [e, d]⟩ ρ S1
  | _ => .stuck
theorem passesF {X : Cx} : Passes (L2.CX X.prog X.w) X (fun _ _ _ => False) := fun _ _ _ _ _ _ _ ⟨_, _, _, _, _, _, _, _, _, _, _, _, z⟩ => z.elim
section
variable {X : Cx} {W : WX} {n f g : Str} {e : Expr} {es : List Expr} {ma : AM} {p pos pos2 : Pos} {j : Nat}
theorem ds_raise1 (hc : X.calm = true) (tk : Takes X W) (T : ErK X.prog X.w X.K X.mg X.base n ["self", f] (fun C => spI1 C f)) (hr : Room j X.A) (hj : 2 ≤ j) (hg : Gl X n) (ha : DA X W (e :: es) ma) (hdb : (n == ("__debug__" : Str)) = false := by decide)
    (he : starEach (e :: es) X.env = (false, eval e X.env) :: starEach es X.env := by rfl) (hpl : (backTo pos (starEach es X.env)).any (·.1) = false := by rfl) :
    DS X W (.Raise (some (.Call (.Name n p) (e :: es) [] pos)) none pos2) (sRaise1 n f ma) := by
  obtain ⟨C, fI, fd, gC, hk, O, iC, tI, F, hb⟩ := T.ex
  refine PS.le (ps_raise hc tk (pmk_oex O iC tI F (hr.mono hj) hb .nil passesF hg gC ha hdb he hpl)) fun D σ H ⟨hd, as, ρ, S, rel, po⟩ => ?_
  refine tA_to rel po fun as1 S1 H1 vs ds g1 rel1 r1 po1 => ?_
  split at po1
  · rename_i d
    cases r1 with
    | cons r1 rr =>
      cases rr
      rename_i v
      refine ⟨by simp, fun a na => ⟨a, v, rfl, upd_same, fun dx nd ne => ⟨rfl, dx, [(f, v)], upd_same, ?_, ?_, ?_⟩⟩⟩
      · rw [upd_ne ne]; exact upd_same
      · rw [← nd]
        exact (upd_ne ne).symm
      · have hdx : H1 dx = none := by rw [← nd]; exact (upd_ne ne).symm
        have eH : upd (L2.del (upd (upd (upd H1 a (exo a C none)) dx (exd dx [(f, v)])) a (exo a C (some dx))) a) dx (.xd [(f, v)]) = upd H1 dx (.xd [(f, v)]) := by
          funext b
          by_cases hb : b = dx
          · rw [hb, upd_same, upd_same]
          · rw [upd_ne hb, upd_ne hb]
            by_cases hba : b = a
            · rw [hba, L2.del_same, na]
            · rw [L2.del_ne hba, upd_ne hba, upd_ne hb, upd_ne hba]
        rw [eH]
        obtain ⟨w1, g2, e2⟩ := rel1.w.fresh (o := .xd [(f, v)]) hdx
        exact po1 as1 (.ref C) (some dx) σ _ g2 (rel1.grow g2 w1) ⟨hk, gC, [v], .inr ⟨dx, rfl, rfl, e2⟩, .cons (r1.grow g2) .nil⟩
  · exact po1.elim
theorem ds_raise2 (hc : X.calm = true) (tk : Takes X W) (T : ErK X.prog X.w X.K X.mg X.base n ["self", f, g] (fun C => spI2 C f g)) (hr : Room j X.A) (hj : 2 ≤ j) (hg : Gl X n) (ha : DA X W (e :: es) ma) (hdb : (n == ("__debug__" : Str)) = false := by decide)
    (he : starEach (e :: es) X.env = (false, eval e X.env) :: starEach es X.env := by rfl) (hpl : (backTo pos (starEach es X.env)).any (·.1) = false := by rfl) :
    DS X W (.Raise (some (.Call (.Name n p) (e :: es) [] pos)) none pos2) (sRaise2 n f g ma) := by
  obtain ⟨C, fI, fd, gC, hk, O, iC, tI, F, hb⟩ := T.ex
  refine PS.le (ps_raise hc tk (pmk_oex O iC tI F (hr.mono hj) hb .nil passesF hg gC ha hdb he hpl)) fun D σ H ⟨hd, as, ρ, S, rel, po⟩ => ?_
  refine tA_to rel po fun as1 S1 H1 vs ds g1 rel1 r1 po1 => ?_
  split at po1
  · rename_i d d'
    cases r1 with
    | cons r1 rr =>
      cases rr with
      | cons r2 rr =>
        cases rr
        rename_i v v'
        refine ⟨by simp, fun a na => ⟨a, v, v', rfl, upd_same, fun dx nd ne => ⟨rfl, dx, [(g, v'), (f, v)], ?_, upd_same, ?_, ?_⟩⟩⟩
        · rw [upd_ne (Ne.symm ne)]; exact upd_same
        · rw [← nd]
          exact (upd_ne ne).symm
        · have hdx : H1 dx = none := by rw [← nd]; exact (upd_ne ne).symm
          have eH : upd (L2.del (upd (upd (upd (upd H1 a (exo a C none)) dx (exd dx [(f, v)])) a (exo a C (some dx))) dx (exd dx [(g, v'), (f, v)])) a) dx (.xd [(g, v'), (f, v)]) = upd H1 dx (.xd [(g, v'), (f, v)]) := by
            funext b
            by_cases hb : b = dx
            · rw [hb, upd_same, upd_same]
            · rw [upd_ne hb, upd_ne hb]
              by_cases hba : b = a
              · rw [hba, L2.del_same, na]
              · rw [L2.del_ne hba, upd_ne hb, upd_ne hba, upd_ne hb, upd_ne hba]
          rw [eH]
          obtain ⟨w1, g2, e2⟩ := rel1.w.fresh (o := .xd [(g, v'), (f, v)]) hdx
          exact po1 as1 (.ref C) (some dx) σ _ g2 (rel1.grow g2 w1) ⟨hk, gC, [v', v], .inr ⟨dx, rfl, rfl, e2⟩, .cons (r2.grow g2) (.cons (r1.grow g2) .nil)⟩
  · exact po1.elim
end
end DL
namespace DL
open PySem PySem.Spec PyProof.Rows L2
/-! ### tables, from facts -/
theorem clsK_eq {K : PySem.W.Frag} {n : Str} {cls : Value} {C : Addr} (h : ClsK K n cls) (a : PySem.W.nsIn K mainGlobals n = some (some (.ref C))) : cls = .ref C := by
  have := h.symm.trans a
  simpa using this
theorem look_mem {α β : Type} [BEq α] [LawfulBEq α] {a : α} {b : β} : ∀ {l : List (α × β)}, l.lookup a = some b → (a, b) ∈ l
  | [], h => by simp at h
  | (x, y) :: l, h => by
    simp only [List.lookup] at h
    split at h
    · rename_i e
      have := eq_of_beq e
      subst this; cases h; simp
    · exact List.mem_cons_of_mem _ (look_mem h)
theorem tblX_mk {K : PySem.W.Frag} {c : Value} {l : List (Str × Bool)} (h : ∀ p ∈ l, ∀ cls, ClsK K p.1 cls → PySem.W.exmOne K cls c = some p.2) : TblX K c (fun n => List.lookup n l) := fun n b e cls hc => h (n, b) (look_mem e) cls hc
theorem tblC_mk {K : PySem.W.Frag} {l : List ((Str × Str) × Bool)} (h : ∀ p ∈ l, ∀ cls, ClsK K p.1.1 cls → ∃ C, cls = .ref C ∧ ExcC K C ∧ (PySem.W.clsIn K C).isSome = true ∧ ∀ D, ClsK K p.1.2 (.ref D) → PySem.W.kitOne K (.ref C) (.ref D) = some p.2) :
    ∀ n c b, (fun n c => List.lookup (n, c) l) n c = some b → ∀ cls, ClsK K n cls → ∃ C, cls = .ref C ∧ ExcC K C ∧ (PySem.W.clsIn K C).isSome = true ∧ ∀ D, ClsK K c (.ref D) → PySem.W.kitOne K (.ref C) (.ref D) = some b := fun n c b e cls hc => h ((n, c), b) (look_mem e) cls hc
theorem tblT_mk {K : PySem.W.Frag} {l : List ((Str × String) × Bool)} (h : ∀ p ∈ l, ∀ cls, ClsK K p.1.1 cls → ∃ C, cls = .ref C ∧ ExcC K C ∧ (PySem.W.clsIn K C).isSome = true ∧ PySem.W.kitOne K (.ref C) (.type p.1.2) = some p.2) :
    ∀ n t b, (fun n t => List.lookup (n, t) l) n t = some b → ∀ cls, ClsK K n cls → ∃ C, cls = .ref C ∧ ExcC K C ∧ (PySem.W.clsIn K C).isSome = true ∧ PySem.W.kitOne K (.ref C) (.type t) = some b := fun n c b e cls hc => h ((n, c), b) (look_mem e) cls hc
theorem tblF_mk {K : PySem.W.Frag} {l : List (Str × Str)} (h : ∀ p ∈ l, ∀ cls, ClsK K p.1 cls → ∃ C, cls = .ref C ∧ XfC K C ∧ PySem.W.findIn K (.ref C) p.2 = some none) : TblF K (fun n f => decide ((n, f) ∈ l)) := fun n f e cls hc => h (n, f) (of_decide_eq_true e) cls hc
theorem kit_ty {K : PySem.W.Frag} {C : Addr} {T : String} {b : Bool} (km : PySem.W.kitMeta T = true) (s : PySem.W.subIn K (.ref C) (.type T) = some b) : PySem.W.kitOne K (.ref C) (.type T) = some b := by
  unfold PySem.W.kitOne
  rw [if_neg (by simp)]
  show (if PySem.W.kitMeta T = true then PySem.W.subIn K (.ref C) (.type T) else none) = some b
  rw [if_pos km]; exact s
/-- a class statement's body -/
def clsBody : Stmt → List Stmt
  | .ClassDef _ _ _ b .. => b
  | _ => []
end DL

set_option Elab.async false
set_option linter.all false
set_option maxRecDepth 100000
set_option maxHeartbeats 2000000
/-! DY: str of what can be shown; == with an empty list. -/
namespace DL
open PySem PySem.Spec PyProof.Rows L2
def rStrR (K : PySem.W.Frag) : List V → Hp → VK → Prop := fun xs H Q => (∃ a, xs = [.str a] ∧ Q (.str a) H) ∨ ∃ v d, xs = [v] ∧ (∀ a, v ≠ .str a) ∧ Dr K H v d ∧ d.showable = true ∧ d.depth ≤ 62 ∧ d.shown.length ≤ sizeLine ∧ Q (.str d.shown) H
theorem call_strA {X : Cx} (hg : Qt X.A X.base) (hu : X.A.units + 66 < cLine) : CallR X (.type "str") (rStrR X.K) := by
  intro pins s σ H xs us Q I r h
  rcases h with ⟨a, rfl, q⟩ | ⟨v, d, rfl, hv, hd, h1, h3, h4, q⟩
  · obtain ⟨u, rfl, t, rfl⟩ := vals1 r
    exact PySem.P.str_of_str ⟨.str a, H, I, ⟨t, rfl⟩, q⟩
  obtain ⟨u, rfl, ru⟩ := vals1 r
  obtain ⟨as, rd, ns⟩ := Dr.reads I hg.s d v u hd ru
  cases hd with
  | non => cases ru; exact PySem.P.str_of_none ⟨.str _, H, I.tok _, ⟨_, rfl⟩, q⟩
  | bl b =>
    cases ru
    refine PySem.P.str_of_bool ⟨.str _, H, I.tok _, ⟨_, rfl⟩, ?_⟩
    cases b <;> exact q
  | int i =>
    obtain ⟨t, rfl⟩ := ru
    exact PySem.P.str_of_int (by simpa [PyData.showable] using h1) ⟨.str _, H, I.tok _, ⟨_, rfl⟩, q⟩
  | str x => exact absurd rfl (hv x)
  | lst a b =>
    cases ru
    exact str_of_reads rd h1 (fun _ => ns) hg.g (by omega) (fun _ _ e => e) (fun h' t tk hk => ⟨.str _, H, I.kept hk, ⟨_, rfl⟩, q⟩) h4
  | tup a b =>
    cases ru
    exact str_of_reads rd h1 (fun _ => ns) hg.g (by omega) (fun _ _ e => e) (fun h' t tk hk => ⟨.str _, H, I.kept hk, ⟨_, rfl⟩, q⟩) h4
  | dE a =>
    cases ru
    exact str_of_reads rd h1 (fun _ => ns) hg.g (by omega) (fun _ _ e => e) (fun h' t tk hk => ⟨.str _, H, I.kept hk, ⟨_, rfl⟩, q⟩) h4
def isStrD : D → Bool
  | .str _ => true
  | _ => false
def fStrR : List D → M D
  | [d] => fun S => match d with
    | .str x => .ok (.str x) S
    | _ => if (topD S d).pr 60 && (topD S d).shows then .ok (.str (topD S d).shown) S else .stuck
  | _ => fun _ => .stuck
theorem act_strR {K : PySem.W.Frag} : ActL K (rStrR K) fStrR := by
  intro hd as S H vs ds w r
  match ds, r with
  | [], _ => trivial
  | [d], r =>
    obtain ⟨v, rfl, a⟩ := rep1 r
    have gen : (∀ x, v ≠ .str x) → Ret K hd as S H (if (topD S d).pr 60 && (topD S d).shows then .ok (.str (topD S d).shown) S else .stuck) (rStrR K [v] H) := fun nv => by
      split
      · rename_i h
        simp only [Bool.and_eq_true, D.shows, decide_eq_true_eq] at h
        have h2 := D.pr_depth h.1
        exact .now w (.str _) fun Q q => .inr ⟨v, _, rfl, nv, a.drNow w h.1, h.2.1, by omega, h.2.2, q⟩
      · trivial
    cases d with
    | str x =>
      cases a
      exact .now w (.str _) fun Q q => .inl ⟨_, rfl, q⟩
    | non => refine gen fun x e => ?_; subst e; cases a
    | bl _ => refine gen fun x e => ?_; subst e; cases a
    | int _ => refine gen fun x e => ?_; subst e; cases a
    | tup _ => refine gen fun x e => ?_; subst e; cases a
    | lst _ => refine gen fun x e => ?_; subst e; cases a
    | ro _ => refine gen fun x e => ?_; subst e; cases a
    | cell _ => refine gen fun x e => ?_; subst e; cases a
    | ty _ => refine gen fun x e => ?_; subst e; cases a
    | dE => refine gen fun x e => ?_; subst e; cases a
    | err _ _ _ => refine gen fun x e => ?_; subst e; cases a
    | cls _ => refine gen fun x e => ?_; subst e; cases a
  | _ :: _ :: _, _ => trivial
/-! == with an empty list -/
def rEqZ (K : PySem.W.Frag) : R2 := fun x y H Q => ∃ a b xs, x = .ref a ∧ y = .ref b ∧ SqL K H a xs ∧ SqL K H b [] ∧ Q (.bl xs.isEmpty) H
theorem opr_eqZ {X : Cx} (hu : X.A.units + 64 < cLine) : OpR X (compareOp .Eq) (rEqZ X.K) := by
  intro pins s σ H x y v u Q I rx ry h
  obtain ⟨a, b, xs, rfl, rfl, ha, hb, q⟩ := h
  cases rx; cases ry
  obtain ⟨its, rv, hl, _⟩ := I.list ha
  obtain ⟨its2, rv2, hl2, _⟩ := I.list hb
  have e1 := rv.length
  have e2 := rv2.length
  have hl' : s.heap.IsList a its.toArray := let ⟨o, n, ho, hc, _, hd⟩ := hl; ⟨o, ho, hc, n, hd⟩
  have hl2' : s.heap.IsList b its2.toArray := let ⟨o, n, ho, hc, _, hd⟩ := hl2; ⟨o, ho, hc, n, hd⟩
  cases xs with
  | nil =>
    simp only [List.length_nil] at e1 e2
    have z1 := List.eq_nil_of_length_eq_zero (by omega : its.length = 0)
    have z2 := List.eq_nil_of_length_eq_zero (by omega : its2.length = 0)
    subst z1 z2
    exact SeqAt.eq_listAt (e := fun _ => true) hl' hl2' rfl (by omega) (fun j h1 h2 => absurd h1 (by simp)) ⟨.bl _, H, I, rfl, q⟩
  | cons z zs =>
    simp only [List.length_nil, List.length_cons] at e1 e2
    exact SeqAt.eq_list_lengthsAt hl' hl2' (by simp; omega) (by omega) ⟨.bl _, H, I, rfl, q⟩
def oEqZ : D → D → M D
  | d, .lst [] => fun S => match listOf S d with
    | some xs => .ok (.bl xs.isEmpty) S
    | none => .stuck
  | _, _ => fun _ => .stuck
theorem act_eqZ {K : PySem.W.Frag} : Act2 K (rEqZ K) oEqZ := by
  intro hd as S H v u d e w r1 r2
  unfold oEqZ
  split
  · cases e1 : listOf S d with
    | none => trivial
    | some xs =>
      obtain ⟨a, vs, rfl, q, rr⟩ := seqL w r1 e1
      have rz := r2
      obtain ⟨b, us, rfl, q2, rr2⟩ := seqL w r2 (show listOf S (.lst []) = some [] from rfl)
      cases rr2
      have e3 : xs.isEmpty = vs.isEmpty := by cases rr <;> rfl
      dsimp only
      exact .now w (.bl _) fun Q q3 => ⟨a, b, vs, rfl, rfl, q, q2, by rw [← e3]; exact q3⟩
  · trivial
end DL

set_option Elab.async false
set_option linter.all false
set_option maxRecDepth 100000
set_option maxHeartbeats 2000000
/-! DD: defs with defaults, and their calls. -/
namespace DL
open PySem PySem.Spec PyProof.Rows L2
noncomputable section
section
variable {P : Program} {w : World} {K : PySem.W.Frag} {mg : Str → Option Value} {base : Heap}
/-- a def's body, walked -/
theorem FunD.okG {x qual : Str} {st : Stmt} {f : Addr} {fd : FuncData} {N ps : List Str} {k : Nat} {m : SD} {dvs : List V} {kws : List (Str × V)} (F : L2.FunD K x qual (defArgs st) (defBody st) (defScope st) dvs kws f fd) (Sc : FnScope N ps (defScope st))
    (hbody : ∀ (cdv : Value) (A : Around) (outer : List PySem.Env) (s : Shared) (H : Hp) (E : XK), Room k (A.deeper (envOfC qual (defScope st) s.heap.objs.size f cdv)) → Qt (A.deeper (envOfC qual (defScope st) s.heap.objs.size f cdv)) base →
      DSs (cxOf (L2.CX P w) P w K mg base N qual (defScope st) f cdv A outer s H E) (WOf E) (defBody st) m) : FnG P w K mg base (k + 1) f fd ps (runFn N.length ps.length m) := by
  obtain ⟨oc, od, dV, kV, doc, pm, an, cdv, ct, osl, rfl, lk, hcd, _, _⟩ := F.ex
  refine ⟨fun ds S => ?_, fun A outer s H args us vs Q E hr hg e0 hb r hsp => ?_⟩
  · unfold runFn
    split
    · exact .inr (by assumption)
    · exact .inl rfl
  have hin : K.In s.heap := e0.mod.kin.keeps fun b o e => (e0.bs b o e).1
  have hnl : s.heap.NoLimit := e0.mod.nolimit.keeps fun b o e => (e0.bs b o e).1
  have kinds : ∀ y ∈ ps.zip us, (defScope st).names.lookup y.1 = some .local ∨ ((defScope st).names.lookup y.1 = some .cell ∧ ((cellsFrom (s.heap.objs.size + 1) (defScope st).names []).lookup y.1).isSome = true) := fun y hy =>
    (Sc.par y.1 (List.of_mem_zip hy).1).imp id fun q => ⟨q, PySem.W.cellsFrom_some _ _ _ (.inl q)⟩
  refine codeAny_call_function hr.depth (hin _ _ lk) rfl Sc.co Sc.gen rfl (PySem.W.codeRec_of hin hcd) (hb _ _ _ _ (wpAny_newFunctionEnv_cells Sc.kind kinds fun env he s1 ic => ?_))
  subst he
  refine ⟨hnl.keeps ic.toInCall.keep, codeAny_func ?_⟩
  have dl := hbody cdv A outer s H E (hr.deeper _) ⟨by simpa [Around.deeper] using hg.g, hg.s⟩
  obtain ⟨hd, as, S, ds, wl, rd, ms⟩ := hsp
  have hn : ds.length = ps.length := by
    by_cases hn : ds.length = ps.length
    · exact hn
    · unfold runFn at ms
      rw [if_neg hn] at ms; exact ms.elim
  have hl : vs.length = ps.length := by rw [rd.length]; exact hn
  have I : Inv (cxOf (L2.CX P w) P w K mg base N qual (defScope st) f cdv A outer s H E) [] (L2.start N vs) H s1 := inv_start Sc hr.hd e0 hl r ic
  have rel : REL K hd as (ds.map some ++ List.replicate (N.length - ds.length) none) S (L2.start N vs) H := ⟨wl, start_slots rd⟩
  have fin : ∀ {d : D} {S' : Sto}, (∀ as' v H', Grow hd as S H as' (trim S d S') H' → Wld K hd as' (trim S d S') H' → Rep K as' (fz hd as' (trim S d S') H') v d → Q v H') →
      ∀ as' v H', Grow hd as S H as' S' H' → Wld K hd as' S' H' → Rep K as' (fz hd as' S' H') v d → Q v H' := fun {d S'} h as' v H' g w' r' => by
    obtain ⟨as2, w2, g2, r2⟩ := wl.trim g w' r'
    exact h as2 v H' g2 w2 r2
  have run := dl.run [] s1 (L2.start N vs) H { nx := fun _ H' => Q .non H', rt := Q } I ⟨hd, as, _, S, rel, ?_⟩
  · refine wpAny_mono run (fun fl s' hs => ?_) fun e s' hs => hs
    cases fl with
    | ret u =>
      obtain ⟨v, σ', H', J, rv, q⟩ := hs
      exact ⟨v, H', J.os, J.bare, J.base, J.hok, rv, q⟩
    | next =>
      obtain ⟨σ', H', J, q⟩ := hs
      exact ⟨V.non, H', J.os, J.bare, J.base, J.hok, rfl, q⟩
    | brk => obtain ⟨_, _, _, q⟩ := hs; exact q.elim
    | cont => obtain ⟨_, _, _, q⟩ := hs; exact q.elim
  · unfold runFn at ms
    rw [if_pos hn] at ms
    cases em : m (ds.map some ++ List.replicate (N.length - ds.length) none) S with
    | ok fl ρ' S' =>
      rw [em] at ms
      cases fl with
      | nx => exact fun as' σ' H' g rel' => fin ms as' .non H' g rel'.w .non
      | ret d => exact fun as' v H' g w' r' => fin ms as' v H' g w' r'
      | brk => exact ms.elim
      | cnt => exact ms.elim
    | exc x ρ' S' =>
      rw [em] at ms
      exact fun as' cls dd σ' H' g rel' xr => ms as' cls dd H' g rel'.w xr
    | stuck => rw [em] at ms; exact ms.elim
end
/-- positional values, keywords' values, and the defaults behind them, in the parameters' order -/
def byIxD {α : Type} (ix : List Nat) (dd : List α) (us ws : List α) : List α := byIx ix us (ws ++ dd)
def KBD (K : PySem.W.Frag) (fd : FuncData) (ps : List Str) (n : Nat) (ks : List Str) (ix : List Nat) (zd : List V) : Prop := ∃ dus : List Value, Vals zd dus ∧ ∀ (s : Shared) (us ws : List Value), K.In s.heap → us.length = n → ws.length = ks.length → BindsTo s fd ⟨us, ks.zip ws⟩ (ps.zip (byIx ix us (ws ++ dus)))
section
variable {X : Cx} {W : WX} {k : Nat} {f : Addr} {fd : FuncData} {ps ks : List Str} {m : FM} {x : Str} {p pos : Pos} {e : Expr} {es : List Expr} {kws : List Keyword} {mr mk : AM}
theorem de_callD {n : Nat} {ix : List Nat} {zd : List V} {dd : List D} (F : FnG X.prog X.w X.K X.mg X.base k f fd ps m) (hr : Room k X.A) (hgd : Qt X.A X.base) (tk : Takes X W) (hg : Gl X x) (hm : X.mg x = some (.ref f)) (hk : PySem.W.keepIn X.K (.ref f) = true) (hb : KBD X.K fd ps n ks ix zd) (hrep : ∀ (as : List Addr) (F : Hp), RepL X.K as F zd dd) (ha : DA X W (e :: es) mr) (hkw : DK X W kws mk)
    (hn : ∀ ρ S ds S', mr ρ S = .ok ds S' → ds.length = n) (hn' : ∀ ρ S ds S', mk ρ S = .ok ds S' → ds.length = ks.length)
    (hall : (backToKw pos (keywordEach kws X.env)).all (·.1.isSome) = true := by rfl) (hks : (backToKw pos (keywordEach kws X.env)).filterMap (·.1) = ks := by rfl)
    (hdb : (x == ("__debug__" : Str)) = false := by decide) (he : starEach (e :: es) X.env = (false, eval e X.env) :: starEach es X.env := by rfl)
    (hpl : ((backTo pos (starEach (e :: es) X.env)).any (·.1) || (backToKw pos (keywordEach kws X.env)).any (·.1.isNone)) = false := by rfl) : DE X W (.Call (.Name x p) (e :: es) kws pos) (eK m (byIxD ix dd) mr mk) := by
  obtain ⟨dus, rdu, hb⟩ := hb
  refine ⟨fun pins s σ H Q I ⟨hd, as, ρ, S, rel, po⟩ => wpAny_Call_Name_kw (ld_glob I hg hm (PySem.W.callWith_KW (h₀ := X.base) I.ok.mod.kin hk hall (thn (ha.run pos pins s σ H (fun vs H1 => vs.length = n ∧ tA X.K X.mg W mk σ H1 fun zs H2 => zs.length = ks.length ∧ spM X.K X.mg m (byIx ix vs (zs ++ zd)) H2 Q fun cls d H' => W cls d σ H') I ?_)
    fun us s1 ⟨vs, H1, I1, r, l1, q⟩ => thn (hkw.run pos pins s1 σ H1 _ I1 q) fun ws s2 ⟨zs, H2, I2, rz, l2, q2⟩ => ⟨I2.kIn, ?_⟩) hpl he) hdb)⟩
  · refine ⟨hd, as, ρ, S, rel, ?_⟩
    cases em : mr ρ S with
    | exc z S1 => simp only [eK, bind_ap, em, R.bind_exc] at po; exact po
    | stuck => simp only [eK, bind_ap, em, R.bind_stuck] at po; exact po.elim
    | ok ds S1 =>
      simp only [eK, bind_ap, em, R.bind_ok] at po
      intro as1 H1 g1 rel1 vs r1
      refine ⟨by rw [r1.length]; exact hn _ _ _ _ em, hd, as1, ρ, S1, rel1, ?_⟩
      cases ek : mk ρ S1 with
      | exc z S2 =>
        rw [ek] at po
        exact fun as' cls dd H' g rel' xr => po as' cls dd H' (g1.trans g) rel' xr
      | stuck => rw [ek] at po; exact po.elim
      | ok es' S2 =>
        rw [ek] at po
        intro as2 H2 g2 rel2 zs r2
        exact ⟨by rw [r2.length]; exact hn' _ _ _ _ ek, sp_of rel2 (byIx_rep (r1.grow g2) (r2.append (hrep _ _)) ix) (Post.later (r := m (byIxD ix dd ds es') S2) po (g1.trans g2))⟩
  · rw [hks]
    exact run_fnG F hr hgd tk (args := ⟨us, ks.zip ws⟩) (us := byIx ix us (ws ++ dus)) (hb s2 us ws I2.kIn (by rw [← r.length]; exact l1) (by rw [← rz.length]; exact l2)) I2 (byIx_vals r (rz.append rdu) ix) (fun _ _ _ z => z) q2
end
structure HasD (P : Program) (w : World) (K : PySem.W.Frag) (mg : Str → Option Value) (base : Heap) (k : Nat) (x : Str) (st : Stmt) (ps : List Str) (dvs : List V) (kds : List (Str × V)) (m : FM) : Prop where
  ex : ∃ f fd, FnG P w K mg base k f fd ps m ∧ mg x = some (.ref f) ∧ L2.FunD K x x (defArgs st) (defBody st) (defScope st) dvs kds f fd
structure DefAtD (K : PySem.W.Frag) (mg : Str → Option Value) (x : Str) (st : Stmt) (ps : List Str) (dvs : List V) (kds : List (Str × V)) : Prop where
  ex : ∃ f fd, L2.FunD K x x (defArgs st) (defBody st) (defScope st) dvs kds f fd ∧ mg x = some (.ref f)
theorem has_ofD {P : Program} {w : World} {K : PySem.W.Frag} {mg : Str → Option Value} {base : Heap} {k : Nat} {x : Str} {st : Stmt} {N ps : List Str} {m : SD} {dvs : List V} {kds : List (Str × V)} (h : DefAtD K mg x st ps dvs kds) (Sc : FnScope N ps (defScope st))
    (hbody : ∀ (f : Addr) (cdv : Value) (A : Around) (outer : List PySem.Env) (s : Shared) (H : Hp) (E : XK), Room k (A.deeper (envOfC x (defScope st) s.heap.objs.size f cdv)) → Qt (A.deeper (envOfC x (defScope st) s.heap.objs.size f cdv)) base →
      DSs (cxOf (L2.CX P w) P w K mg base N x (defScope st) f cdv A outer s H E) (WOf E) (defBody st) m) : HasD P w K mg base (k + 1) x st ps dvs kds (runFn N.length ps.length m) := by
  obtain ⟨f, fd, F, hm⟩ := h.ex
  exact ⟨f, fd, FunD.okG F Sc (hbody f), hm, F⟩
section
variable {K : PySem.W.Frag} {x : Str} {st : Stmt} {ps ks : List Str} {n : Nat} {ix : List Nat} {dvs : List V} {kds : List (Str × V)} {f : Addr} {fd : FuncData}
/-- keyword-only ones, ms of which lack -/
theorem kbd_k (ms : List (Str × V)) (F : L2.FunD K x x (defArgs st) (defBody st) (defScope st) [] kds f fd) (hk : kds ≠ []) (hms : ∀ q ∈ ms, q ∈ kds)
    (h : ∀ (D : Addr) (doc pm : Value) (an : Option Addr) (cdv ct : Value) (us ws mv : List Value), us.length = n → ws.length = ks.length → mv.length = ms.length →
      KwChain D ((ms.map (·.1)).zip mv) (bindArgs (PySem.W.fnOf x x (defArgs st) (defBody st) (defScope st) .none (.ref D) doc pm an cdv ct) ⟨us, ks.zip ws⟩) (ps.zip (byIx ix us (ws ++ mv)))) : KBD K fd ps n ks ix (ms.map (·.2)) := by
  obtain ⟨oc, od, dV, kV, doc, pm, an, cdv, ct, osl, rfl, lk, hcd, hD, hK⟩ := F.ex
  rcases hD with ⟨_, rfl⟩ | ⟨e, _⟩
  · rcases hK with e | ⟨D, rfl, hq⟩
    · exact absurd e hk
    · obtain ⟨mv, hl, rk, hks⟩ := kwd_vals (ms := ms) fun q hm => hq q (hms q hm)
      refine ⟨mv, rk, fun s us ws X l1 l2 => ?_⟩
      exact BindsTo.of_looks fun M => KwChain.looks X hks (h D doc pm an cdv ct us ws mv l1 l2 hl)
  · exact absurd rfl e
end
section
variable {X : Cx} {W : WX} {j k n : Nat} {ps ks : List Str} {m : FM} {x : Str} {st : Stmt} {p pos : Pos} {e : Expr} {es : List Expr} {kws : List Keyword} {mr mk : AM} {dvs zd : List V} {kds : List (Str × V)} {dd : List D}
theorem de_fnD (h : HasD X.prog X.w X.K X.mg X.base k x st ps dvs kds m) (ix : List Nat) (hb : ∀ {f : Addr} {fd : FuncData}, L2.FunD X.K x x (defArgs st) (defBody st) (defScope st) dvs kds f fd → KBD X.K fd ps n ks ix zd) (hrep : ∀ (as : List Addr) (F : Hp), RepL X.K as F zd dd) (hr : Room j X.A) (hj : k ≤ j) (hgd : Qt X.A X.base) (tk : Takes X W) (hg : Gl X x) (ha : DA X W (e :: es) mr) (hkw : DK X W kws mk)
    (hn : ∀ ρ S ds S', mr ρ S = .ok ds S' → ds.length = n) (hn' : ∀ ρ S ds S', mk ρ S = .ok ds S' → ds.length = ks.length)
    (hall : (backToKw pos (keywordEach kws X.env)).all (·.1.isSome) = true := by rfl) (hks : (backToKw pos (keywordEach kws X.env)).filterMap (·.1) = ks := by rfl)
    (hdb : (x == ("__debug__" : Str)) = false := by decide) (he : starEach (e :: es) X.env = (false, eval e X.env) :: starEach es X.env := by rfl)
    (hpl : ((backTo pos (starEach (e :: es) X.env)).any (·.1) || (backToKw pos (keywordEach kws X.env)).any (·.1.isNone)) = false := by rfl) : DE X W (.Call (.Name x p) (e :: es) kws pos) (eK m (byIxD ix dd) mr mk) := by
  obtain ⟨f, fd, F, hm, Fu⟩ := h.ex
  exact de_callD F (hr.mono hj) hgd tk hg hm Fu.kp (hb Fu) hrep ha hkw hn hn' hall hks hdb he hpl
end
/-- of keyword-only ones -/
theorem funD_k {K : PySem.W.Frag} {x qual : Str} {st : Stmt} {f D : Addr} {oc : Value} {od an : Option Addr} {osl : Array (Option Value)} {doc pm cdv ct : Value} {kds : List (Str × V)} (l : K.lookup f = some ⟨oc, od, .func (PySem.W.fnOf x qual (defArgs st) (defBody st) (defScope st) .none (.ref D) doc pm an cdv ct), osl⟩)
    (c : PySem.W.codeIn K cdv qual = true) (k : PySem.W.keepIn K (.ref f) = true) (h : ∀ q ∈ kds, ∃ u, PySem.W.nsIn K D q.1 = some (some u) ∧ RelV q.2 u) : L2.FunD K x qual (defArgs st) (defBody st) (defScope st) [] kds f (PySem.W.fnOf x qual (defArgs st) (defBody st) (defScope st) .none (.ref D) doc pm an cdv ct) :=
  ⟨⟨oc, od, _, _, doc, pm, an, cdv, ct, osl, rfl, l, c, .inl ⟨rfl, rfl⟩, .inr ⟨D, rfl, h⟩⟩, k⟩
end
end DL

set_option Elab.async false
set_option linter.all false
set_option maxRecDepth 100000
set_option maxHeartbeats 2000000
/-! DT: texts: methods, signs one by one, f-strings, int of a text, or between values. -/
namespace DL
open PySem PySem.Spec PyProof.Rows L2
noncomputable section
/-! ### methods -/
def chkS (d : D) (_ : Sto) : Bool := match d with
  | .str _ => true
  | _ => false
theorem ty_str {K : PySem.W.Frag} : TyOk K "str" chkS := by
  intro hd as S H v d w r h
  cases r <;> first | rfl | (simp [chkS] at h)
def mSplit : D → List D → M D
  | .str a, [.str b] => fun S => if (b.length == 0) = false ∧ a.length + 2 ≤ sizeLine then .ok (.lst ((Txt.split a b).map .str)) S else .stuck
  | _, _ => fun _ => .stuck
def mWords : D → List D → M D
  | .str a, [] => fun S => if a.length + 2 ≤ sizeLine then .ok (.lst ((Txt.words a).map .str)) S else .stuck
  | _, _ => fun _ => .stuck
def mPart : D → List D → M D
  | .str a, [.str b] => fun S => if (b.length == 0) = false ∧ a.length ≤ sizeLine then .ok (.tup [.str (Txt.partition a b).1, .str (Txt.partition a b).2.1, .str (Txt.partition a b).2.2]) S else .stuck
  | _, _ => fun _ => .stuck
def mStarts : D → List D → M D
  | .str a, [.str b] => fun S => .ok (.bl (Txt.startswith a b)) S
  | _, _ => fun _ => .stuck
def mEnds : D → List D → M D
  | .str a, [.str b] => fun S => .ok (.bl (Txt.endswith a b)) S
  | _, _ => fun _ => .stuck
def mStrip : D → List D → M D
  | .str a, [] => fun S => if a.length ≤ sizeLine then .ok (.str (Txt.strip a)) S else .stuck
  | _, _ => fun _ => .stuck
def strsD : List D → Option (List Str)
  | [] => some []
  | .str x :: ds => (strsD ds).map (x :: ·)
  | _ :: _ => none
def mJoin : D → List D → M D
  | .str a, [d] => fun S => match (seqOf S d).bind strsD with
    | some ys => if (ys.map (·.length)).sum + ys.length * a.length ≤ 16777216 then .ok (.str (Txt.join a ys)) S else .stuck
    | none => .stuck
  | _, _ => fun _ => .stuck
section
variable {K : PySem.W.Frag}
theorem repl_strs {as : List Addr} {F : Hp} : ∀ ys : List Str, RepL K as F (ys.map V.str) (ys.map D.str)
  | [] => .nil
  | y :: ys => .cons (.str y) (repl_strs ys)
theorem strs_rep {as : List Addr} {F : Hp} : ∀ {ds : List D} {vs : List V} {ys : List Str}, RepL K as F vs ds → strsD ds = some ys → vs = ys.map V.str
  | [], _, _, r, h => by cases r; cases h; rfl
  | d :: ds, _, ys, r, h => by
    cases r with
    | cons a b =>
      cases a with
      | str x =>
        simp only [strsD, Option.map_eq_some_iff] at h
        obtain ⟨zs, e, rfl⟩ := h
        rw [strs_rep b e]; rfl
      | _ => cases h
theorem act_split : ActM K (fun x xs H Q => ∃ a b, x = .str a ∧ xs = [.str b] ∧ (b.length == 0) = false ∧ a.length + 2 ≤ sizeLine ∧ rNewStrs (Txt.split a b) H Q) mSplit := by
  intro hd as S H v vs d ds w r rs
  unfold mSplit
  split
  · split
    · rename_i h
      cases r
      obtain ⟨u, rfl, ru⟩ := rep1 rs
      cases ru
      exact Ret.fresh (o := .lst ((Txt.split _ _).map V.str)) w (fun p e g => .lst e (repl_strs _)) fun Q q => ⟨_, _, rfl, rfl, h.1, h.2, q⟩
    · trivial
  · trivial
theorem act_starts : ActM K (fun x xs H Q => ∃ a b, x = .str a ∧ xs = [.str b] ∧ Q (.bl (Txt.startswith a b)) H) mStarts := by
  intro hd as S H v vs d ds w r rs
  unfold mStarts
  split
  · cases r
    obtain ⟨u, rfl, ru⟩ := rep1 rs
    cases ru
    exact .now w (.bl _) fun Q q => ⟨_, _, rfl, rfl, q⟩
  · trivial
theorem act_ends : ActM K (fun x xs H Q => ∃ a b, x = .str a ∧ xs = [.str b] ∧ Q (.bl (Txt.endswith a b)) H) mEnds := by
  intro hd as S H v vs d ds w r rs
  unfold mEnds
  split
  · cases r
    obtain ⟨u, rfl, ru⟩ := rep1 rs
    cases ru
    exact .now w (.bl _) fun Q q => ⟨_, _, rfl, rfl, q⟩
  · trivial
theorem act_join : ActM K (fun x xs H Q => ∃ a p, ∃ ys : List Str, x = .str a ∧ xs = [.ref p] ∧ (SqL K H p (ys.map V.str) ∨ SqT K H p (ys.map V.str)) ∧
    (ys.map (·.length)).sum + ys.length * a.length ≤ 16777216 ∧ Q (.str (Txt.join a ys)) H) mJoin := by
  intro hd as S H v vs d ds w r rs
  unfold mJoin
  split
  · rename_i a e
    obtain ⟨u, rfl, ru⟩ := rep1 rs
    cases hs : seqOf S e with
    | none => trivial
    | some xs =>
      show Ret K hd as S H (match strsD xs with
        | some ys => _
        | none => _) _
      cases hx : strsD xs with
      | none => trivial
      | some ys =>
        dsimp only
        split
        · rename_i h
          cases r
          obtain ⟨p, us, rfl, sq, rr⟩ := seqS w ru hs
          have e := strs_rep rr hx
          subst e
          exact .now w (.str _) fun Q q => ⟨_, p, ys, rfl, rfl, sq, h, q⟩
        · trivial
  · trivial
end
/-! ### int of a text -/
def fIntX : List D → M D
  | [.int i] => fun S => .ok (.int i) S
  | [.bl k] => fun S => .ok (.int (if k then 1 else 0)) S
  | [.str a] => fun S => match PySem.intText? a with
    | some n => if a.length ≤ 640 then .ok (.int n) S else .stuck
    | none => .stuck
  | _ => fun _ => .stuck
def rIntX : List V → Hp → VK → Prop := fun xs H Q => ((∃ i, xs = [.int i] ∧ Q (.int i) H) ∨ ∃ k, xs = [.bl k] ∧ Q (.int (if k then 1 else 0)) H) ∨ ∃ a n, xs = [.str a] ∧ PySem.intText? a = some n ∧ a.length ≤ 640 ∧ Q (.int n) H
theorem call_intX {X : Cx} : CallR X (.type "int") rIntX := callR_or call_int1 call_int_str
theorem act_intX {K : PySem.W.Frag} : ActL K rIntX fIntX := by
  intro hd as S H vs ds w r
  unfold fIntX
  split
  · obtain ⟨v, rfl, a⟩ := rep1 r
    cases a
    exact .now w (.int _) fun Q q => .inl (.inl ⟨_, rfl, q⟩)
  · obtain ⟨v, rfl, a⟩ := rep1 r
    cases a
    exact .now w (.int _) fun Q q => .inl (.inr ⟨_, rfl, q⟩)
  · obtain ⟨v, rfl, a⟩ := rep1 r
    cases a
    split
    · rename_i n e
      split
      · rename_i h
        exact .now w (.int _) fun Q q => .inr ⟨_, _, rfl, e, h, q⟩
      · trivial
    · trivial
  · trivial
/-! ### or between values -/
def eOrV (a b : EM) : EM := fun ρ => M.bind (a ρ) fun d S => match truD S d with
  | some true => .ok d S
  | some false => b ρ S
  | none => .stuck
section
variable {X : Cx} {W : WX} {e e2 : Expr} {me : EM} {es rest : List Expr} {pos : Pos} {ma mb : EM}
theorem de_orV {a b : Expr} (ha : DE X W a ma) (hb : DE X W (.BoolOp .Or (b :: es) pos) mb) : DE X W (.BoolOp .Or (a :: b :: es) pos) (eOrV ma mb) :=
  PE.le (pe_orT ha hb) fun σ H Q ⟨hd, as, ρ, S, rel, po⟩ => tE_seq rel po fun as1 S1 H1 v1 d1 g1 rel1 r1 po1 => by
    cases et : truD S1 d1 with
    | none => simp only [et] at po1; exact po1.elim
    | some k =>
      refine ⟨k, ?_, ?_⟩
      · have seq : ∀ xs, seqOf S1 d1 = some xs → k = !xs.isEmpty → TruV X.K v1 H1 k := fun xs e eb => by
          obtain ⟨a, vs, rfl, sq, r⟩ := seqS rel1.w r1 e
          rw [repl_empty r] at eb
          exact sq.elim (fun z => .inl ⟨vs, z, eb⟩) fun z => .inr (.inl ⟨vs, z, eb⟩)
        cases r1 with
        | non => cases et; rfl
        | bl b => cases et; rfl
        | int i => cases et; rfl
        | str z =>
          simp only [truD] at et
          split at et
          · rename_i hz
            cases et
            exact ⟨hz, rfl⟩
          · cases et
        | tup q r => simp only [truD, Option.map_eq_some_iff] at et; obtain ⟨xs, e1, e2⟩ := et; exact seq xs e1 e2.symm
        | lst q r => simp only [truD, Option.map_eq_some_iff] at et; obtain ⟨xs, e1, e2⟩ := et; exact seq xs e1 e2.symm
        | ro q r => simp only [truD, Option.map_eq_some_iff] at et; obtain ⟨xs, e1, e2⟩ := et; exact seq xs e1 e2.symm
        | cell q => simp only [truD, Option.map_eq_some_iff] at et; obtain ⟨xs, e1, e2⟩ := et; exact seq xs e1 e2.symm
        | _ => cases et
      · cases k with
        | true => simp only [et] at po1; exact iteT (po1 as1 H1 .refl rel1 _ r1)
        | false => simp only [et] at po1; exact iteF (tE_last rel1 po1)
end
/-! ### f-strings -/
def fmtD : D → Option Str
  | .str y => if y.length ≤ sizeLine then some y else none
  | .int i => if i.natAbs.log2 < 1920 then some (toString i) else none
  | _ => none
def eFmt (a : EM) : EM := fun ρ => M.bind (a ρ) fun d S => match fmtD d with
  | some y => .ok (.str y) S
  | none => .stuck
def jsL : List EM → Str → EM
  | [], acc => fun _ S => .ok (.str acc) S
  | m :: ms, acc => fun ρ => M.bind (m ρ) fun d => match d with
    | .str y => if (acc ++ y).length ≤ sizeLine then jsL ms (acc ++ y) ρ else fun _ => .stuck
    | _ => fun _ => .stuck
def eJs (ms : List EM) : EM := jsL ms Str.empty
section
variable {X : Cx} {W : WX} {e : Expr} {me : EM} {es : List Expr} {pos : Pos}
theorem de_fmt (h : DE X W e me) : DE X W (.FormattedValue e (-1) none pos) (eFmt me) :=
  PE.le (pe_fmt h) fun σ H Q ⟨hd, as, ρ, S, rel, po⟩ => tE_seq rel po fun as1 S1 H1 v1 d1 g1 rel1 r1 po1 => by
    cases ef : fmtD d1 with
    | none => simp only [ef] at po1; exact po1.elim
    | some y =>
      simp only [ef] at po1
      have q := po1 as1 H1 .refl rel1 _ (.str y)
      cases r1 with
      | str z =>
        simp only [fmtD] at ef
        split at ef
        · rename_i hz
          cases ef
          exact .inl ⟨_, rfl, hz, q⟩
        · cases ef
      | int i =>
        simp only [fmtD] at ef
        split at ef
        · rename_i hz
          cases ef
          exact .inr ⟨_, rfl, hz, q⟩
        · cases ef
      | _ => cases ef
inductive DJ (X : Cx) (W : WX) : List Expr → List EM → Prop where
  | nil : DJ X W [] []
  | cons {e : Expr} {m : EM} {es : List Expr} {ms : List EM} (h : DE X W e m) (r : DJ X W es ms) : DJ X W (e :: es) (m :: ms)
theorem DJ.pj {ms : List EM} (h : DJ X W es ms) : PJ X es (ms.map (tE X.K X.mg W)) := by
  induction h with
  | nil => exact .nil
  | cons h r ih => exact .cons h ih
theorem js_le : ∀ (ms : List EM) (acc : Str) {σ : L2.St} {H : Hp} {Q : VK}, tE X.K X.mg W (jsL ms acc) σ H Q → tJs (ms.map (tE X.K X.mg W)) acc σ H fun out H1 => Q (.str out) H1
  | [], acc, σ, H, Q, ⟨hd, as, ρ, S, rel, po⟩ => po as H .refl rel _ (.str acc)
  | m :: ms, acc, σ, H, Q, ⟨hd, as, ρ, S, rel, po⟩ => tE_seq rel po fun as1 S1 H1 v1 d1 g1 rel1 r1 po1 => by
    cases r1 with
    | str y =>
      dsimp only at po1
      by_cases hz : (acc ++ y).length ≤ sizeLine
      · rw [if_pos hz] at po1
        exact ⟨y, rfl, hz, js_le ms (acc ++ y) (tE_last rel1 po1)⟩
      · rw [if_neg hz] at po1; exact po1.elim
    | _ => exact po1.elim
theorem de_joined {v1 v2 : Expr} {rest : List Expr} {ms : List EM} (h : DJ X W (v1 :: v2 :: rest) ms) : DE X W (.JoinedStr (v1 :: v2 :: rest) pos) (eJs ms) :=
  PE.le (pe_joined h.pj) fun σ H Q q => js_le ms Str.empty q
end
/-! ### signs one by one -/
def signsD (z : Str) : List D := z.cps.toList.map fun c => .str ⟨#[c]⟩
def mItS (d : D) : M ItD := match d with
  | .str z => fun S => .ok (itL (signsD z)) S
  | _ => fun _ => .stuck
theorem jok_str {K : PySem.W.Frag} {hd : Hid} {as : List Addr} {S : Sto} {H : Hp} {z : Str} : JOk K as (fz hd as S H) (Its z) (itL (signsD z)) := by
  intro i hd' as' S' H' pre sm w
  show match some (signsD z)[i]? with
    | none => True
    | some none => _
    | some (some d) => _
  unfold signsD
  rw [List.getElem?_map]
  cases e : z.cps.toList[i]? with
  | none =>
    have : z.cps.toList.length ≤ i := List.getElem?_eq_none_iff.mp e
    show z.cps.size ≤ i
    simpa using this
  | some c =>
    have hi := (List.getElem?_eq_some_iff.mp e).1
    refine ⟨show i < z.cps.size by simpa using hi, fun y H2 hy => ?_⟩
    obtain ⟨rfl, c', e2, rfl⟩ := hy
    have : c' = c := by
      rw [Array.getElem?_toList] at e
      rw [e] at e2; exact (Option.some.inj e2).symm
    subst this
    exact ⟨w, .refl, .str _⟩
theorem di_str {X : Cx} {W : WX} {tg e : Expr} {me : EM} (h : DE X W e me) : DI X W tg e (imOf mItS me) := PI.le (pi_str h) fun σ H Rk ⟨hd, as, ρ, S, rel, po⟩ => tE_seq rel po fun as1 S1 H1 v d g1 rel1 r po1 => by
  cases r with
  | str z => exact ⟨z, rfl, po1 as1 H1 .refl rel1 _ jok_str⟩
  | _ => exact po1.elim
end
end DL

set_option Elab.async false
set_option linter.all false
set_option maxRecDepth 100000
set_option maxHeartbeats 2000000
/-! DR: a range with a step; list.count of truths. -/
namespace DL
open PySem PySem.Spec PyProof.Rows L2
noncomputable section
def mItR3 : List D → M ItD
  | [.int i, .int j, .int c] => fun S => if c ≠ 0 ∧ c.natAbs < 1073741824 ∧ Builtin.Range.small i j c = true ∧ Builtin.Range.rangeSize i j c = ((Builtin.Range.rangeSize i j c).toNat : Int) then .ok (itL ((List.range (Builtin.Range.rangeSize i j c).toNat).map fun k : Nat => D.int (i + k * c))) S else .stuck
  | _ => fun _ => .stuck
/-! ### list.count of a truth -/
def eqbl (k : Bool) (v : Value) : Bool := match v with
  | .bool n => n == k
  | _ => false
def rCntB (K : PySem.W.Frag) : V → List V → Hp → VK → Prop := fun x xs H Q => ∃ (p : Addr) (bs : List Bool) (k : Bool), x = .ref p ∧ xs = [.bl k] ∧ SqL K H p (bs.map V.bl) ∧ Q (.int (bs.count k : Nat)) H
def mCountB : D → List D → M D
  | d, [.bl k] => fun S => match (listOf S d).bind blsOf with
    | some bs => .ok (.int (bs.count k : Nat)) S
    | none => .stuck
  | _, _ => fun _ => .stuck
end
end DL

set_option Elab.async false
set_option linter.all false
set_option maxRecDepth 100000
/-! DU: a, b, .. = a list. -/
namespace DL
open PySem PySem.Spec PyProof.Rows L2
noncomputable section
/-- (a, b, ..) = a list of that length -/
def gLstT (K : PySem.W.Frag) (n : Nat) (t : TGs) : TG := fun v σ H Q => ∃ a xs, v = .ref a ∧ SqL K H a xs ∧ xs.length = n ∧ t xs σ H Q
def sAsgL (ts : List Tg) (m : EM) : SD := fun ρ S => (m ρ S).to ρ fun d S' => match listOf S' d with
  | some ds => if ds.length = ts.length then (match asgL ts ds ρ with
    | some ρ' => .ok .nx ρ' S'
    | none => .stuck) else .stuck
  | none => .stuck
section
variable {X : Cx} {W : WX} {e : Expr} {me : EM} {pos tpos : Pos} {es : List Expr} {ts : List Tg} {k n : Nat}
end
end
end DL

set_option Elab.async false
set_option linter.all false
set_option maxRecDepth 100000
set_option maxHeartbeats 1000000
/-! DO: objects of own classes: fields, methods, made. -/
namespace DL
open PySem PySem.Spec PyProof.Rows L2
noncomputable section
/-- which fields of which classes are the object's own -/
def TblO (K : PySem.W.Frag) (fi : Str → Str → Bool) : Prop := ∀ n f, fi n f = true → ∀ Ca, ClsK K n (.ref Ca) → Cls K Ca ∧ NoAttr K Ca f
def putD (f : Str) (v : D) : List (Str × D) → List (Str × D)
  | [] => [(f, v)]
  | (g, x) :: r => if g = f then (g, v) :: r else (g, x) :: putD f v r
section
variable {K : PySem.W.Frag} {as : List Addr} {F : Hp} {f : Str}
end
/-! fields -/
def oFldI (fi : Str → Str → Bool) (f : Str) : D → M D := fun d S => match d with
  | .cell n => match S[n]? with
    | some (some (.ins C fs)) => if fi C f = true then (match fs.lookup f with
      | some v => .ok v S
      | none => .stuck) else .stuck
    | _ => .stuck
  | _ => .stuck
def sFldI (fi : Str → Str → Bool) (f : Str) (mo mv : EM) : SD := fun ρ S => (mv ρ S).to ρ fun d S1 => (mo ρ S1).to ρ fun o S2 => match o with
  | .cell n => match S2[n]? with
    | some (some (.ins C fs)) => if fi C f = true ∧ fs.length < 1000 then .ok .nx ρ (S2.set n (some (.ins C (putD f d fs)))) else .stuck
    | _ => .stuck
  | _ => .stuck
section
variable {X : Cx} {W : WX} {e o value : Expr} {me mo mv : EM} {pos pos' : Pos} {f : Str} {fi : Str → Str → Bool}
end
/-! methods -/
def eMo (C m : Str) (fm : FM) (mo : EM) (ma : AM) : EM := fun ρ => M.bind (mo ρ) fun o S => match o with
  | .cell n => match S[n]? with
    | some (some (.ins C' fs)) => if C' = C ∧ fs.lookup m = none then (ma ρ S).bind fun ds S1 => fm (.cell n :: ds) S1 else .stuck
    | _ => .stuck
  | _ => .stuck
/-- what the text says of a method -/
structure MethD (P : Program) (w : World) (K : PySem.W.Frag) (mg : Str → Option Value) (base : Heap) (k : Nat) (C m : Str) (ps : List Str) (fm : FM) : Prop where
  ex : ∃ (Ca f : Addr) (fd : FuncData), ClsK K C (.ref Ca) ∧ Cls K Ca ∧ Meth K Ca m f ∧ FnG P w K mg base k f fd ps fm ∧ Binds K fd ps []
section
variable {X : Cx} {W : WX} {k j : Nat} {C m : Str} {fm : FM} {o e : Expr} {es : List Expr} {mo : EM} {ma : AM} {pos apos : Pos} {ps : List Str} {pl : Sem Bool}
end
/-! made -/
def eMk (C : Str) (fm : FM) (ma : AM) : EM := fun ρ => M.bind (ma ρ) fun ds S => (fm (.cell S.length :: ds) (S ++ [some (.ins C [])])).bind fun d S' => match d with
  | .non => .ok (.cell S.length) S'
  | _ => .stuck
structure MakeD (P : Program) (w : World) (K : PySem.W.Frag) (mg : Str → Option Value) (base : Heap) (k : Nat) (C : Str) (ps : List Str) (fm : FM) : Prop where
  ex : ∃ (Ca f : Addr) (fd : FuncData), mg C = some (.ref Ca) ∧ ClsK K C (.ref Ca) ∧ Mk K Ca f ∧ FnG P w K mg base k f fd ps fm ∧ Binds K fd ps []
section
variable {X : Cx} {W : WX} {k j : Nat} {C : Str} {fm : FM} {e : Expr} {es : List Expr} {ma : AM} {pos p : Pos} {ps : List Str}
end
/-! what the text says of methods -/
structure MethAt (K : PySem.W.Frag) (C m : Str) (qual : Str) (st : Stmt) (ps : List Str) : Prop where
  ex : ∃ (Ca f : Addr) (fd : FuncData), ClsK K C (.ref Ca) ∧ Cls K Ca ∧ Meth K Ca m f ∧ Fun K m qual st f fd ∧ Binds K fd ps []
structure MakeAt (K : PySem.W.Frag) (mg : Str → Option Value) (C : Str) (qual : Str) (st : Stmt) (ps : List Str) : Prop where
  ex : ∃ (Ca f : Addr) (fd : FuncData), mg C = some (.ref Ca) ∧ ClsK K C (.ref Ca) ∧ Mk K Ca f ∧ Fun K "__init__" qual st f fd ∧ Binds K fd ps []
section
variable {P : Program} {w : World} {K : PySem.W.Frag} {mg : Str → Option Value} {base : Heap} {k : Nat} {C x qual : Str} {st : Stmt} {N ps : List Str} {m : SD}
end
/-! a told tuple whose lists are changed no more -/
def mFrzL : List D → M (List D)
  | [] => fun S => .ok [] S
  | d :: ds => fun S => (mFrz d S).bind fun x S1 => (mFrzL ds S1).bind fun xs S2 => .ok (x :: xs) S2
def mFrzT : D → M D
  | .tup xs => fun S => (mFrzL xs S).bind fun ys S1 => .ok (.tup ys) S1
  | d => fun S => .ok d S
/-- f() -/
theorem de_fn0 {X : Cx} {W : WX} {k j : Nat} {x : Str} {st : Stmt} {ps : List Str} {m : FM} {p pos : Pos} (h : Has X.prog X.w X.K X.mg X.base k x st ps m) (hr : Room j X.A) (hj : k ≤ j) (hgd : Qt X.A X.base) (tk : Takes X W) (hg : Gl X x)
    (hdb : (x == ("__debug__" : Str)) = false := by decide) : DE X W (.Call (.Name x p) [] [] pos) (eL m aNil) := by
  obtain ⟨f, fd, F, hm, Fu, hb⟩ := h.ex
  exact de_call0 F (hr.mono hj) hgd tk hg hm Fu.kp hb hdb
end
end DL

set_option Elab.async false
set_option linter.all false
set_option maxRecDepth 100000
set_option maxHeartbeats 1000000
/-! DV: isinstance by a tuple of classes; more methods of lists. -/
namespace DL
open PySem PySem.Spec PyProof.Rows L2
noncomputable section
/-! ### isinstance of an error, by a tuple of classes -/
def rIsXT (K : PySem.W.Frag) : List V → Hp → VK → Prop := fun xs H Q => ∃ (a C : Addr) (d : Option Addr) (tp : Addr) (cs : List V) (us : List Value) (b : Bool), xs = [.ref a, .ref tp] ∧ ErIs H a C d ∧ ExcC K C ∧ (PySem.W.clsIn K C).isSome = true ∧ SqT K H tp cs ∧ (∀ its, Vals cs its → its = us) ∧ PySem.W.kitAny K (.ref C) us = some b ∧ Q (.bl b) H
theorem call_isXT {X : Cx} : CallR X (.builtin "isinstance") (rIsXT X.K) := by
  intro pins s σ H xs us Q I r h
  obtain ⟨a, C, d, tp, cs, ws, b, rfl, hE, hC, hcl, hT, hcv, e, q⟩ := h
  obtain ⟨u1, u2, rfl, r1, r2⟩ := vals2 r
  cases (show u1 = Value.ref a from r1)
  cases (show u2 = Value.ref tp from r2)
  obtain ⟨oe, od, J⟩ := erIs_inst I hE
  obtain ⟨its, rv, ⟨o, h1, h2, n, h3⟩, _⟩ := I.tuple hT
  have e3 := hcv its rv
  subst e3
  obtain ⟨oc, od', dt, sl⟩ := o
  simp only at h2 h3
  subst h2 h3
  exact PySem.W.kia_tup (PySem.W.kitx_exc hcl hC.hg hC.hk hC.hs hC.ha hC.hn hC.ht hC.hm) I.kIn J h1 e (fun z => nomatch z) fun tk => ⟨.bl b, H, I.kept (t' := tk) fun _ _ z => z, rfl, q⟩
/-- of classes in a row -/
def anyT (tc : Str → Str → Option Bool) (tt : Str → String → Option Bool) (n : Str) : List D → Option Bool
  | [] => some false
  | .cls c :: r => match tc n c, anyT tc tt n r with
    | some b, some b' => some (b || b')
    | _, _ => none
  | .ty c :: r => match tt n c, anyT tc tt n r with
    | some b, some b' => some (b || b')
    | _, _ => none
  | _ :: _ => none
def fIsiT (tc : Str → Str → Option Bool) (tt : Str → String → Option Bool) : List D → M D := fun ds => match ds with
  | [.err n _ _, .tup (c :: cs)] => fun S => match anyT tc tt n (c :: cs) with
    | some b => .ok (.bl b) S
    | none => .stuck
  | _ => fun _ => .stuck
/-! ### methods of lists -/
theorem rep0 {K : PySem.W.Frag} {as : List Addr} {F : Hp} {vs : List V} (r : RepL K as F vs []) : vs = [] := by cases r; rfl
def mInsert : D → List D → M D
  | .cell n, [.int i, x] => fun S => match S[n]? with
    | some (some (.lst xs)) => if xs.length < sizeLine ∧ 0 ≤ i ∧ i < 2 ^ 63 then .ok .non (S.set n (some (.lst (xs.take i.toNat ++ [x] ++ xs.drop i.toNat)))) else .stuck
    | _ => .stuck
  | _, _ => fun _ => .stuck
def rInsert : V → List V → Hp → VK → Prop := fun x vs H Q => ∃ (l : Addr) (xs : List V) (i : Int) (y : V), x = .ref l ∧ vs = [.int i, y] ∧ H l = some (.lst xs) ∧ xs.length < sizeLine ∧ 0 ≤ i ∧ i < 2 ^ 63 ∧
    Q .non (upd H l (.lst (xs.take i.toNat ++ [y] ++ xs.drop i.toNat)))
def mPop : D → List D → M D
  | .cell n, [] => fun S => match S[n]? with
    | some (some (.lst xs)) => match xs[xs.length - 1]? with
      | some y => .ok y (S.set n (some (.lst xs.dropLast)))
      | none => .stuck
    | _ => .stuck
  | _, _ => fun _ => .stuck
theorem RepL.dropLast {K : PySem.W.Frag} {as : List Addr} {F : Hp} {ds : List D} {vs : List V} (h : RepL K as F vs ds) : RepL K as F vs.dropLast ds.dropLast := by
  rw [List.dropLast_eq_take, List.dropLast_eq_take, h.length]
  exact h.take _
theorem act_pop {K : PySem.W.Frag} : ActM K rPop mPop := by
  intro hd as S H v vs d ds w r rs
  unfold mPop
  split
  · rename_i n
    split
    · rename_i xs e
      split
      · rename_i y hy
        have := rep0 rs
        subst this
        cases r with
        | cell q =>
          obtain ⟨a, ws, e1, e2, r⟩ := w.at_ n xs e
          rw [q] at e1; cases e1
          obtain ⟨w', g⟩ := w.write e q r.dropLast
          obtain ⟨u, hu, ru⟩ := r.get hy
          exact fun Q k => ⟨_, ws, u, rfl, rfl, e2, by rw [r.length]; exact hu, k _ _ _ g w' (ru.grow g)⟩
      · trivial
    · trivial
  · trivial
def mClear : D → List D → M D
  | .cell n, [] => fun S => match S[n]? with
    | some (some (.lst _)) => .ok .non (S.set n (some (.lst [])))
    | _ => .stuck
  | _, _ => fun _ => .stuck
end
end DL

set_option Elab.async false
set_option linter.all false
set_option maxRecDepth 100000
/-! slices with a step; str.rpartition; list.index; a module's table of texts: its items, its look-up -/
namespace DL
open PySem PySem.Spec PyProof.Rows L2

/-! ### xs[lo:hi:c] -/
/-- the places that a slice picks -/
def ixs3 (lo hi st : Option Int) (n : Nat) : List Nat := sliceRange (sliceBounds lo hi st n).1 (sliceBounds lo hi st n).2.1 (sliceBounds lo hi st n).2.2
def pick3 {α : Type} (xs : List α) (lo hi st : Option Int) : List α := (ixs3 lo hi st xs.length).filterMap (xs[·]?)
theorem pick3_size {α : Type} (xs : List α) (lo hi st : Option Int) : (pick3 xs lo hi st).length ≤ xs.length := by
  have h := slicePick_size_le ((xs.map fun _ => (Value.none : Value)).toArray) lo hi st
  have e : (slicePick ((xs.map fun _ => (Value.none : Value)).toArray) lo hi st).size = (pick3 xs lo hi st).length := by
    unfold slicePick pick3 ixs3
    rw [List.size_toArray, List.size_toArray, List.length_map]
    generalize sliceRange _ _ _ = l
    induction l with
    | nil => rfl
    | cons i l ih =>
      cases q : xs[i]? with
      | none =>
        rw [List.filterMap_cons_none q, List.filterMap_cons_none (by simp [q])]
        exact ih
      | some x =>
        rw [List.filterMap_cons_some q, List.filterMap_cons_some (b := Value.none) (by simp [q]), List.length_cons, List.length_cons, ih]
  rw [e, List.size_toArray, List.length_map] at h
  exact h
theorem vals_pick {vs : List V} {its : List Value} (r : Vals vs its) (l : List Nat) : Vals (l.filterMap (vs[·]?)) (l.filterMap (its[·]?)) := by
  induction l with
  | nil => exact .nil
  | cons i l ih =>
    cases q : vs[i]? with
    | none =>
      have : its[i]? = none := by
        rw [List.getElem?_eq_none_iff] at q ⊢
        rw [← r.length]; exact q
      rw [List.filterMap_cons_none q, List.filterMap_cons_none this]
      exact ih
    | some v =>
      obtain ⟨u, e, ru⟩ := r.get q
      rw [List.filterMap_cons_some q, List.filterMap_cons_some e]
      exact .cons ru ih
theorem RepL.pick_ {K : PySem.W.Frag} {as : List Addr} {F : Hp} {vs : List V} {ds : List D} (r : RepL K as F vs ds) (l : List Nat) : RepL K as F (l.filterMap (vs[·]?)) (l.filterMap (ds[·]?)) := by
  induction l with
  | nil => exact .nil
  | cons i l ih =>
    cases q : ds[i]? with
    | none =>
      have : vs[i]? = none := by
        rw [List.getElem?_eq_none_iff] at q ⊢
        rw [r.length]; exact q
      rw [List.filterMap_cons_none q, List.filterMap_cons_none this]
      exact ih
    | some d =>
      obtain ⟨v, e, rv⟩ := r.get q
      rw [List.filterMap_cons_some q, List.filterMap_cons_some e]
      exact .cons rv ih
def rSl3 (K : PySem.W.Frag) (c : Int) : V → Option Int → Option Int → Hp → VK → Prop := fun x lo hi H Q => ∃ a xs, x = .ref a ∧ SqL K H a xs ∧ ∀ p, H p = none → Q (.ref p) (upd H p (.lst (pick3 xs lo hi (some c))))
/-- a step that is written: what it is -/
def StepIs (X : Cx) (e : Expr) (c : Int) : Prop := PO X (some e) fun _ H Q => Q (some c) H
section
variable {X : Cx} {W : WX}
theorem step_nat {c : Int} {j : Nat} {p : Pos} : StepIs X (.Constant (.int c) j p) c := PO.le (po_some pe_int) fun σ H Q q => ⟨_, rfl, q⟩
theorem pe_slice3 {e st : Expr} {te : TE} {lo hi : Option Expr} {tl th : TO} {c : Int} {p2 pos : Pos} (h0 : c ≠ 0) (he : PE X e te) (hl : PO X lo tl) (hu : PO X hi th) (hs : StepIs X st c) :
    PE X (.Subscript e (.Slice lo hi (some st) p2) pos) (tSl (rSl3 X.K c) te tl th) := by
  refine ⟨fun pins s σ H Q I h => ?_⟩
  refine Subscript_ (thn (he.run pins s σ H _ I h) fun v s1 ⟨x, H1, I1, r1, q1⟩ => ?_)
  refine wpAny_Slice (thn (hl.run pins s1 σ H1 _ I1 q1) fun vl s2 ⟨l, H2, I2, pl, q2⟩ => thn (hu.run pins s2 σ H2 _ I2 q2) fun vu s3 ⟨u, H3, I3, pu, q3⟩ => ?_)
  refine thn (hs.run pins s3 σ H3 (fun o H4 => o = some c ∧ H4 = H3) I3 ⟨rfl, rfl⟩) fun vs s4 ⟨o, H4, I4, ps, eo, e4⟩ => ?_
  subst eo e4
  obtain ⟨a, xs, rfl, hx, q⟩ := q3
  cases r1
  have I5 : Inv X pins σ H4 { s4 with heap := s4.heap.push { cls := .type "slice", data := .fields #[vl, vu, vs] } } := I4.kept (t' := s4.toks) fun b ob q => Heap.get?_push_of_some _ q
  obtain ⟨its, r, ht, hz⟩ := I5.list hx
  have hlen := r.length
  show wpAny (model X.prog X.w) X.A (subscriptTail e (.Slice lo hi (some st) p2) (.ref a) (.ref s4.heap.objs.size)) (EP X pins σ Q) X.xe { s4 with heap := s4.heap.push { cls := .type "slice", data := .fields #[vl, vu, vs] } }
  refine tail_any (ops := [.ref a, .ref s4.heap.objs.size]) ht.isList.typeIs (PySem.slot_list_getitem.lookup) ?_ (by with_unfolding_all rfl)
  refine wpAny_getItem_list_slice ht.isList (Heap.IsSliceOf.new _ vl vu vs) pl pu ps (fun z => h0 (Option.some.inj z)) ?_ (by rw [List.size_toArray]; omega)
  have e : slicePick its.toArray l u (some c) = (pick3 its l u (some c)).toArray := by
    unfold slicePick pick3 ixs3
    rw [List.size_toArray]
    have e2 : (fun x : Nat => its.toArray[x]?) = fun x : Nat => its[x]? := funext fun x => by simp
    rw [e2]
  rw [e]
  refine ⟨.ref _, _, I5.laid (t' := s4.toks) (o := .lst (pick3 xs l u (some c))) (fun b ob q => Heap.get?_push_of_some _ q) (Nat.le_refl _) ?_, rfl, q _ (I5.hok.fresh (Nat.le_refl _))⟩
  exact ⟨Nat.le_trans (pick3_size _ _ _ _) hz, _, 0, by
    unfold pick3
    rw [hlen]
    exact vals_pick r _, Heap.get?_push_size _ rfl⟩
end
def oSl3 (c : Int) (d : D) (lo hi : Option Int) : M D := fun S => match listOf S d with
  | some xs => .ok (.lst (pick3 xs lo hi (some c))) S
  | none => .stuck
theorem act_sl3 {K : PySem.W.Frag} {c : Int} : ActS K (rSl3 K c) (oSl3 c) := by
  intro hd as S H v d lo hi w r
  unfold oSl3
  cases e : listOf S d with
  | none => trivial
  | some xs =>
    obtain ⟨a, vs, rfl, hq, r⟩ := seqL w r e
    refine .fresh w (fun p ep g => .lst ep ?_) fun Q q => ⟨a, vs, rfl, hq, q⟩
    have r2 := (r.pick_ (ixs3 lo hi (some c) xs.length)).grow g
    have e2 : (ixs3 lo hi (some c) xs.length).filterMap (vs[·]?) = pick3 vs lo hi (some c) := by
      unfold pick3
      rw [r.length]
    rw [e2] at r2
    exact r2
section
variable {X : Cx} {W : WX}
theorem de_slice3 {e st : Expr} {me : EM} {lo hi : Option Expr} {ml mh : OM} {c : Int} {p2 pos : Pos} (h0 : c ≠ 0) (he : DE X W e me) (hl : DO X W lo ml) (hu : DO X W hi mh) (hs : StepIs X st c) :
    DE X W (.Subscript e (.Slice lo hi (some st) p2) pos) (eSl (oSl3 c) me ml mh) :=
  PE.le (pe_slice3 h0 he hl hu hs) fun σ H Q ⟨hd, as, ρ, S, rel, po⟩ => tE_seq rel po fun as1 S1 H1 v1 d1 g1 rel1 r1 po1 => tO_seq rel1 po1 fun as2 S2 H2 i g2 rel2 po2 => tO_seq rel2 po2 fun as3 S3 H3 j g3 rel3 po3 =>
    (act_sl3 hd as3 S3 H3 v1 d1 i j rel3.w ((r1.grow g2).grow g3)).out rel3 po3
end

/-! ### str.rpartition, list.index of a text -/
theorem mt_rpartition {X : Cx} : MtR X "str.rpartition" (fun x xs H Q => ∃ a b, x = .str a ∧ xs = [.str b] ∧ (b.length == 0) = false ∧ a.length ≤ sizeLine ∧
    ∀ p, H p = none → Q (.ref p) (upd H p (.tup [.str (Txt.rpartition a b).1, .str (Txt.rpartition a b).2.1, .str (Txt.rpartition a b).2.2]))) := by
  intro pins s σ H x xs v us Q I rx rs h
  obtain ⟨a, b, rfl, rfl, hb, hz, h⟩ := h
  obtain ⟨t, rfl⟩ := rx
  cases rs with
  | cons r1 rs =>
    cases rs
    obtain ⟨u, rfl⟩ := r1
    refine call_meets F.slot_str_rpartition (typeIs_str _ _ _) F.entry_str_rpartition (F.args_str_rpartition_2 _ _) (meets_str_rpartition a b t u hb hz) ?_
    unfold Txt.rpartition at h
    revert h
    cases Builtin.Str.lastOccurrence a b 0 a.length with
    | none => intro h; exact laid_parts I h
    | some i => intro h; exact laid_parts I h
def mRPart : D → List D → M D
  | .str a, [.str b] => fun S => if (b.length == 0) = false ∧ a.length ≤ sizeLine then .ok (.tup [.str (Txt.rpartition a b).1, .str (Txt.rpartition a b).2.1, .str (Txt.rpartition a b).2.2]) S else .stuck
  | _, _ => fun _ => .stuck
theorem act_rpart {K : PySem.W.Frag} : ActM K (fun x xs H Q => ∃ a b, x = .str a ∧ xs = [.str b] ∧ (b.length == 0) = false ∧ a.length ≤ sizeLine ∧
    ∀ p, H p = none → Q (.ref p) (upd H p (.tup [.str (Txt.rpartition a b).1, .str (Txt.rpartition a b).2.1, .str (Txt.rpartition a b).2.2]))) mRPart := by
  intro hd as S H v vs d ds w r rs
  unfold mRPart
  split
  · split
    · rename_i h
      cases r
      obtain ⟨u, rfl, ru⟩ := rep1 rs
      cases ru
      exact Ret.fresh (o := .tup [.str _, .str _, .str _]) w (fun p e g => .tup (.inl (.inl e)) (.cons (.str _) (.cons (.str _) (.cons (.str _) .nil)))) fun Q q => ⟨_, _, rfl, rfl, h.1, h.2, q⟩
    · trivial
  · trivial
def mIndexS : D → List D → M D
  | d, [.str b] => fun S => match (listOf S d).bind strsD with
    | some ys => (match ys.findIdx? (· == b) with
      | some j => .ok (.int (j : Nat)) S
      | none => .stuck)
    | none => .stuck
  | _, _ => fun _ => .stuck
theorem act_indexS {K : PySem.W.Frag} : ActM K (rIndex K) mIndexS := by
  intro hd as S H v vs d ds w r rs
  unfold mIndexS
  split
  · rename_i b
    obtain ⟨u, rfl, ru⟩ := rep1 rs
    cases ru
    cases hl : listOf S d with
    | none => trivial
    | some xs =>
      show Ret K hd as S H (match strsD xs with
        | some ys => _
        | none => _) _
      cases hx : strsD xs with
      | none => trivial
      | some ys =>
        dsimp only
        cases hj : ys.findIdx? (· == b) with
        | none => trivial
        | some j =>
          obtain ⟨a, us, rfl, hq, rr⟩ := seqL w r hl
          have e := strs_rep rr hx
          subst e
          obtain ⟨hlt, h1, h2⟩ := List.findIdx?_eq_some_iff_getElem.mp hj
          refine .now w (.int _) fun Q q => ⟨a, ys.map V.str, .str b, j, .str ys[j], rfl, rfl, hq, rfl, ?_, ?_, ?_, fun m z' hm hz => ?_, q⟩
          · exact List.all_eq_true.mpr fun z hz => by obtain ⟨y, _, rfl⟩ := List.mem_map.mp hz; rfl
          · rw [List.getElem?_map, List.getElem?_eq_getElem hlt]; rfl
          · exact h1
          · have hm2 : m < ys.length := Nat.lt_trans hm hlt
            rw [List.getElem?_map, List.getElem?_eq_getElem hm2] at hz
            cases hz
            have := h2 m hm
            show (ys[m] == b) = false
            simpa using this
  · trivial
/-! ### a module's table of texts -/
def RowsK (P : Params) : List DictEntry → List (Str × Str) → Prop
  | [], [] => True
  | e :: r, kv :: q => (∃ t t2, e.key = .str kv.1 t ∧ e.hash = PyData.keyHash P kv.1 ∧ e.val = .str kv.2 t2) ∧ RowsK P r q
  | _, _ => False
structure KTab (K : PySem.W.Frag) (w : World) (a : Addr) (tb : List (Str × Str)) : Prop where
  ex : ∃ es n, K.lookup a = some ⟨.type "dict", none, .dict es n, #[]⟩ ∧ RowsK w.params es.toList tb
  low : (a == sysModules) = false
  nd : (tb.map (·.1)).Nodup
  get : ∀ kv ∈ tb, ∃ t, PySem.W.nsIn K a kv.1 = some (some (.str kv.2 t))
theorem rows_lit {P : Params} : ∀ {es : List DictEntry} {tb : List (Str × Str)}, RowsK P es tb → PySem.W.KeysLit P es
  | [], _, _ => trivial
  | _ :: _, [], h => h.elim
  | _ :: _, _ :: _, ⟨⟨t, _, h1, h2, _⟩, h⟩ => ⟨⟨_, t, h1, h2⟩, rows_lit h⟩
theorem rows_pairs {prog : Program} {w : World} : ∀ {es : List DictEntry} {tb : List (Str × Str)}, RowsK w.params es tb →
    ∃ vs : List (Str × Value), PySem.Pairs (strKind prog w) es vs ∧ vs.map (·.1) = tb.map (·.1) ∧ ∀ (i : Nat) (k v : Str), tb[i]? = some (k, v) → ∃ t, vs[i]? = some (k, .str v t)
  | [], [], _ => ⟨[], .nil, rfl, fun i k v e => by simp at e⟩
  | [], _ :: _, h => h.elim
  | _ :: _, [], h => h.elim
  | e :: es, kv :: tb, ⟨⟨t, t2, h1, h2, h3⟩, h⟩ => by
    obtain ⟨vs, p, e1, g⟩ := rows_pairs (prog := prog) h
    refine ⟨(kv.1, .str kv.2 t2) :: vs, .cons (by rw [h1]; exact strKind_is prog w _ t) h3 p, by simp [e1], fun i k v ei => ?_⟩
    cases i with
    | zero =>
      simp only [List.getElem?_cons_zero, Option.some.injEq] at ei
      subst ei
      exact ⟨t2, rfl⟩
    | succ i =>
      simp only [List.getElem?_cons_succ] at ei ⊢
      exact g i k v ei
section
variable {X : Cx} {pins : List (Addr × Obj)} {σ : L2.St} {H : Hp} {s : Shared} {d : Addr} {tb : List (Str × Str)}
theorem ktab_at {h : Heap} {K : PySem.W.Frag} {prog : Program} {w : World} (T : KTab K w d tb) (I : K.In h) : ∃ (es : Array DictEntry) (n : Nat) (vs : List (Str × Value)), h.DictAt (strKind prog w) d vs n ∧ vs.length = tb.length ∧
    ∀ (i : Nat) (k v : Str), tb[i]? = some (k, v) → ∃ t, vs[i]? = some (k, .str v t) := by
  obtain ⟨es, n, hl, hr⟩ := T.ex
  obtain ⟨vs, p, e1, g⟩ := rows_pairs (prog := prog) hr
  refine ⟨es, n, vs, ⟨_, es, I _ _ hl, ⟨rfl, rfl, rfl⟩, rfl, fun e he => ?_, p, by rw [e1]; exact T.nd⟩, by have := congrArg List.length e1; simpa using this, g⟩
  obtain ⟨x, t, h1, h2⟩ := (rows_lit hr).all e (Array.mem_toList_iff.mpr he)
  exact ⟨x, by rw [h1]; exact strKind_is prog w x t, h2⟩
end
/-- the table's items, each in a new pair -/
def Itb (tb : List (Str × Str)) : It :=
  ⟨fun i _ => i < tb.length, fun i H x H' => ∃ T k v, tb[i]? = some (k, v) ∧ x = .ref T ∧ H T = none ∧ H' = upd H T (.tup [.str k, .str v]), fun i _ => tb.length ≤ i⟩
theorem turn_tab {prog : Program} {w : World} {K : PySem.W.Frag} {elts : List Expr} {kk : Nat} {tpos : Pos} {d : Addr} {tb : List (Str × Str)} {n : Nat} (it : Addr) (T : KTab K w d tb) (hn : ∃ es, K.lookup d = some ⟨.type "dict", none, .dict es n, #[]⟩) :
    Turn prog w K (.Tuple elts kk tpos) (Itb tb) [it] it (fun i h => ∃ ok ov, IsItemIter h it d i tb.length n ok ov) where
  mem := by simp
  obj := fun i h st b hb => by
    have e : b = it := by simpa using hb
    subst e
    obtain ⟨ok, ov, e⟩ := st
    exact ⟨_, e, fun v z => nomatch z⟩
  keep := fun i h h' st k => let ⟨ok, ov, e⟩ := st; ⟨ok, ov, k it (by simp) _ e⟩
  item := by
    intro X hP hw hK hc i pins s σ H E I hf st hg
    subst hP hw hK
    obtain ⟨es, m, vs, hm, hl, g⟩ := ktab_at (prog := X.prog) T I.kIn
    obtain ⟨es0, hn⟩ := hn
    have en : m = n := by
      obtain ⟨o, es1, h1, _, h2, _⟩ := id hm
      rw [I.kIn _ _ hn] at h1
      cases h1
      cases h2
      rfl
    subst en
    obtain ⟨⟨k, v⟩, hkv⟩ : ∃ p, tb[i]? = some p := ⟨tb[i], List.getElem?_eq_getElem hg⟩
    obtain ⟨t, hu⟩ := g i k v hkv
    obtain ⟨ok, ov, he⟩ := st
    rw [← hl] at he
    have hlt : it < s.heap.objs.size := Heap.lt_size he
    refine wpAny_pyNext_items_item he hm hu fun key h' hkey ho hT hz hk => ?_
    refine ⟨_, rfl, wpAny_letOwnedTupleGo_items (s := { s with heap := h' }) ho fun h'' he' sb => ?_⟩
    have hT2 : h''.get? s.heap.objs.size = some { cls := .type "tuple", data := .seq #[key, .str v t] } := (sb.2 _ (Nat.ne_of_gt hlt)).trans hT
    obtain ⟨t2, rfl⟩ := Value.isStrOf_shape (show Value.isStrOf k key = true from hkey)
    have new : ObjOk X.prog X.w (upd H s.heap.objs.size (.tup [.str k, .str v])) h'' s.heap.objs.size (.tup [.str k, .str v]) :=
      ⟨by show 2 ≤ sizeLine; decide, [.str k t2, .str v t], .cons ⟨_, rfl⟩ (.cons ⟨_, rfl⟩ .nil), ⟨_, hT2, rfl, _, rfl⟩⟩
    have I1 : L2.Inv X pins σ (upd H s.heap.objs.size (.tup [.str k, .str v])) { s with heap := h'' } :=
      I.turnedNew (t' := s.toks) (ch := [it]) (fun b ob hb e => (sb.2 b (by simpa using hb)).trans (hk b ob (by simpa using hb) e)) hf (Nat.le_refl _) new
    refine ⟨.ref s.heap.objs.size, _, I1, rfl, ⟨_, k, v, hkv, rfl, I.hok.fresh (Nat.le_refl _), rfl⟩, ⟨.str k t2, .str v t, ?_⟩, fun b hb => ?_⟩
    · rw [← hl]; exact he'
    · have e : b = it := by simpa using hb
      rw [e, upd_ne (Nat.ne_of_lt hlt)]
      exact (hf it (by simp)).1
  done := by
    intro X hP hw hK hc i pins s σ H E I hf st hg
    subst hP hw hK
    obtain ⟨f0, f1, f2, f3, f4, f5⟩ := hf it (by simp)
    obtain ⟨es, m, vs, hm, hl, g⟩ := ktab_at (prog := X.prog) T I.kIn
    obtain ⟨es0, hn⟩ := hn
    have en : m = n := by
      obtain ⟨o, es1, h1, _, h2, _⟩ := id hm
      rw [I.kIn _ _ hn] at h1
      cases h1
      cases h2
      rfl
    subst en
    obtain ⟨ok, ov, he⟩ := st
    rw [← hl] at he
    have hg2 : tb.length ≤ i := hg
    exact wpAny_pyNext_items_end (I.ok.hd hc) he hm (List.getElem?_eq_none (by omega)) fun h' eb => ⟨rfl, I.turned (t' := s.toks) (fun b ob hb e => eb b ob hb e) f0 f1 f3 f4 f5⟩
  self := fun A i s Q E st h => let ⟨_, _, e⟩ := st; PySem.W.kcp_self e h
section
variable {X : Cx} {W : WX} {tb : List (Str × Str)} {d : Addr}
theorem pi_tab {e : Expr} {elts : List Expr} {kk : Nat} {tpos apos cpos : Pos} (he : PE X e (tC (.ref d))) (T : KTab X.K X.w d tb) (hbase : attributeBase e "items" X.env (eval e X.env) = eval e X.env := by rfl) (hline : (apos.endLine == cpos.line) = true := by rfl) :
    PI X (.Tuple elts kk tpos) (.Call (.Attribute e "items" apos) [] [] cpos) (fun _ H R => R (Itb tb) H) := by
  refine ⟨fun pins s σ H R I h => ?_⟩
  refine wpAny_Call_method (T := "dict") (id := "dict.items") hbase rfl hline F.plainAttrs_dict F.slot_dict_items F.type_dict_items (thn (he.run pins s σ H (fun x H1 => x = .ref d ∧ H1 = H) I ⟨rfl, rfl⟩) fun u s1 ⟨x, H1, I1, rx, ex, eH⟩ => ?_)
  subst ex eH
  obtain rfl : u = Value.ref d := rx
  obtain ⟨es, n, vs, hm, hl, g⟩ := ktab_at (prog := X.prog) T I1.kIn
  have hn : ∃ es, X.K.lookup d = some ⟨.type "dict", none, .dict es n, #[]⟩ := by
    obtain ⟨es0, n0, hl0, _⟩ := T.ex
    obtain ⟨o, es1, h1, _, h2, _⟩ := id hm
    rw [I1.kIn _ _ hl0] at h1
    cases h1
    cases h2
    exact ⟨_, hl0⟩
  refine ⟨hm.dictOf.typeIs, hm.dictOf.mapOf.noDict, ?_⟩
  have I2 : L2.Inv X pins σ H1 { s1 with heap := s1.heap.push { cls := .type "dict_items", data := .fields #[.ref d] } } := I1.kept (t' := s1.toks) fun b ob q => Heap.get?_push_of_some _ q
  have fin : wpAny (model X.prog X.w) X.A (pyIter (.ref s1.heap.objs.size)) (PIE X pins σ (.Tuple elts kk tpos) R) X.xe { s1 with heap := s1.heap.push { cls := .type "dict_items", data := .fields #[.ref d] } } := by
    refine wpAny_pyIter_items (d := d) (knd := strKind X.prog X.w) ⟨_, Heap.get?_push_size _ rfl, rfl, rfl⟩ (hm.keep fun b ob q => Heap.get?_push_of_some _ q) (pi_one (tk := s1.toks) I2 _ (turn_tab _ T hn) ⟨.none, .none, ?_⟩ h)
    rw [← hl]
    exact Heap.get?_push_size _ rfl
  show wpAny _ _ (callWith cpos (.builtin "dict.items") [.ref d] [] []) _ X.xe s1
  exact method_meetsIn F.slot_dict_items F.entry_dict_items rfl (PySem.evalArgs_none ⟨rfl, hm.dictOf.typeIs, F.args_dict_items_1 _, _, meets_dict_items (strKind X.prog X.w) d T.low, ⟨vs, hm.dictOf⟩, fin⟩)
def imTab (tb : List (Str × Str)) : IM := fun _ S => .ok (itL (tb.map fun kv => .tup [.str kv.1, .str kv.2])) S
theorem jok_tab {K : PySem.W.Frag} {as : List Addr} {F : Hp} : JOk K as F (Itb tb) (itL (tb.map fun kv => .tup [.str kv.1, .str kv.2])) := by
  intro i hd as' S H pre sm w
  show match (some (tb.map fun kv => D.tup [.str kv.1, .str kv.2])[i]? : Option (Option D)) with
    | none => True
    | some none => _
    | some (some d) => _
  rw [List.getElem?_map]
  cases e : tb[i]? with
  | none => exact List.getElem?_eq_none_iff.mp e
  | some kv =>
    refine ⟨(List.getElem?_eq_some_iff.mp e).1, fun x H' hy => ?_⟩
    obtain ⟨T, k, v, e2, rfl, hT, rfl⟩ := hy
    rw [e] at e2
    cases e2
    obtain ⟨w', g, e3⟩ := w.fresh (o := .tup [.str k, .str v]) hT
    exact ⟨w', g, .tup (.inl (.inl e3)) (.cons (.str _) (.cons (.str _) .nil))⟩
theorem di_tab {x : Str} {p : Pos} {elts : List Expr} {kk : Nat} {tpos apos cpos : Pos} (hg : Gl X x) (h : ∃ a, X.mg x = some (.ref a) ∧ KTab X.K X.w a tb) (hd : (x == ("__debug__" : Str)) = false := by decide)
    (hbase : attributeBase (.Name x p) "items" X.env (eval (.Name x p) X.env) = eval (.Name x p) X.env := by rfl) (hline : (apos.endLine == cpos.line) = true := by rfl) :
    DI X W (.Tuple elts kk tpos) (.Call (.Attribute (.Name x p) "items" apos) [] [] cpos) (imTab tb) := by
  obtain ⟨a, hm, T⟩ := h
  exact PI.le (pi_tab (pe_glob hg hm rfl hd) T hbase hline) fun σ H R ⟨hd, as, ρ, S, rel, po⟩ => po as H .refl rel _ jok_tab
def oTab (tb : List (Str × Str)) : D → M D
  | .str k => fun S => match tb.lookup k with
    | some v => .ok (.str v) S
    | none => .stuck
  | _ => fun _ => .stuck
theorem lookup_mem {k v : Str} : ∀ {l : List (Str × Str)}, l.lookup k = some v → (k, v) ∈ l
  | [], h => by cases h
  | (a, b) :: l, h => by
    rw [List.lookup_cons] at h
    split at h
    · rename_i e
      cases h
      rw [eq_of_beq e]
      exact List.mem_cons_self ..
    · exact List.mem_cons_of_mem _ (lookup_mem h)
theorem de_tab {x : Str} {e : Expr} {me : EM} {p pos : Pos} (hg : Gl X x) (h : ∃ a, X.mg x = some (.ref a) ∧ KTab X.K X.w a tb) (he : DE X W e me) (hs : PlainIx e := by intro _ _; rfl) (hd : (x == ("__debug__" : Str)) = false := by decide) :
    DE X W (.Subscript (.Name x p) e pos) (e1 (oTab tb) me) := by
  obtain ⟨a, hm, T⟩ := h
  refine PE.le (pe_ix ix_kdict (pe_glob (v := .ref a) hg hm rfl hd) he hs) fun σ H Q ⟨hd, as, ρ, S, rel, po⟩ => tE_seq rel po fun as1 S1 H1 v1 d1 g1 rel1 r1 po1 => ?_
  unfold oTab at po1
  split at po1
  · rename_i k
    split at po1
    · rename_i v hv
      cases r1
      obtain ⟨es, n, hl, hr⟩ := T.ex
      obtain ⟨t, ht⟩ := T.get _ (lookup_mem hv)
      exact ⟨a, k, .str v, rfl, rfl, ⟨es, n, _, hl, rows_lit hr, ht, ⟨_, rfl⟩⟩, po1 as1 H1 .refl rel1 _ (.str _)⟩
    · exact po1.elim
  · exact po1.elim
end
end DL

set_option Elab.async false
set_option linter.all false
set_option maxRecDepth 100000
set_option maxHeartbeats 4000000
/-! DX4: errors of own classes that keep things, over other built-in classes than ValueError (after HandS' ExcInit, for any root). -/
namespace DL
open PySem PySem.Spec PyProof.Rows L2
/-! ### a root of errors -/
structure RootR (B newId initId : String) (tl : List Value) : Prop where
  F : ExcBaseFacts B newId initId tl
  st : StoreFacts B tl "object.__setattr__" "object"
  ty : typeOf (.type B) = pure (.type "type")
section
open PySem.W PySem.HandSPX Builtin Builtin.ObjectAttr
variable {prog : Program} {w : World} {A : Around} {R : Result → Shared → Prop} {h0 : Heap} {gs : Array GenState} {dr : Drawn} {tk0 : Nat} {os : OsState}
variable {B newId initId : String} {tl : List Value}
end
/-! ### a class over such a root -/
structure OexR (newId : String) (tl : List Value) (K : PySem.W.Frag) (C : Addr) : Prop where
  cls : ∃ nm q N bs sn sub ab col dd k0 k1 k2 k3 k5, K.lookup C = some (excClassObj nm q C N bs tl true sn sub ab col dd k0 k1 k2 k3 k5 newId)
  sa : PySem.W.findIn K (.ref C) "__setattr__" = some (some (.builtin "object.__setattr__"))
  exC : PySem.W.subIn K (.ref C) (.type "BaseException") = some true
  tyC : PySem.W.typeIn K (.ref C) = some (.type "type")
  kC : PySem.W.keepIn K (.ref C) = true
section
variable {B newId initId : String} {tl : List Value}
variable {X : Cx} {pins : List (Addr × Obj)} {σ : L2.St} {H : Hp} {s : Shared} {a C : Addr} {f : Str} {y : V} {u : Value} {Q : Unit → Shared → Prop} {E : Value → Shared → Prop} {A : Around}
end
/-! ### readings and rules -/
def tRtI (newId : String) (tl : List Value) (K : PySem.W.Frag) (ta : TA) : TE := fun σ H Q => ta σ H fun vs H1 => ∃ (a C : Addr) (ws : List V), vs = .ref a :: ws ∧ ws.length ≤ 1000 ∧ OexR newId tl K C ∧ H1 a = some (exo a C none) ∧ Q .non H1
def tRtO (newId : String) (tl : List Value) (K : PySem.W.Frag) (f : Str) (to te : TE) : TS := fun D σ H => te σ H fun y H1 => to σ H1 fun x H2 => ∃ a C : Addr, x = .ref a ∧ OexR newId tl K C ∧ PySem.W.findIn K (.ref C) f = some none ∧
  H2 a = some (exo a C none) ∧ ∀ dx, H2 dx = none → dx ≠ a → D.nx σ (upd (upd H2 dx (exd dx [(f, y)])) a (exo a C (some dx)))
section
variable {B newId initId : String} {tl : List Value}
variable {X : Cx} {o e : Expr} {es : List Expr} {to te : TE} {ta : TA} {f : Str} {p p' p1 p2 pos : Pos}
end
section
variable {P : Program} {w : World} {K : PySem.W.Frag} {mg : Str → Option Value} {base : Heap}
variable {B newId initId : String} {tl : List Value}
/-- what the text says of a class of errors over another root, with one thing kept -/
structure ErR (newId : String) (tl : List Value) (P : Program) (w : World) (K : PySem.W.Frag) (mg : Str → Option Value) (base : Heap) (n f : Str) : Prop where
  ex : ∃ (C fI : Addr) (fd : FuncData), mg n = some (.ref C) ∧ ClsK K n (.ref C) ∧ OexR newId tl K C ∧ PySem.W.findIn K (.ref C) "__init__" = some (some (.ref fI)) ∧ PySem.W.typeIn K (.ref fI) = some (.type "function") ∧
    FnOk P w K mg base (L2.CX P w) 1 fI fd ["self", f] (spI1 C f) ∧ Binds K fd ["self", f] []
end
section
variable {B newId initId : String} {tl : List Value}
variable {X : Cx} {W : WX} {n f : Str} {e : Expr} {es : List Expr} {ma : AM} {p pos pos2 : Pos} {j : Nat}
end
end DL

set_option Elab.async false
set_option linter.all false
set_option maxRecDepth 100000
set_option maxHeartbeats 4000000
/-! DX5: zip(xs, ys, strict=True), after the kit's way with zip(xs, ys). -/
namespace DL
open PySem PySem.Spec PyProof.Rows L2
/-! ### a type called with keywords -/
section
variable {M : Model} {A : Around} {E : Value → Shared → Prop} {s : Shared}
end
section
variable {prog : Program} {w : World} {A : Around} {E : Value → Shared → Prop} {s : Shared}
end
/-! ### the strict zip's object -/
abbrev IsZs (h : Heap) (z TI TO : Addr) (f0 : Value) : Prop :=
  h.get? z = some { cls := .type "zip", dict := none, data := .fields #[f0, .bool false, .bool true, .ref TI, .ref TO], slots := #[] }
section
variable {prog : Program} {w : World} {A : Around} {E : Value → Shared → Prop} {s : Shared}
end
/-! ### made -/
abbrev kwS : List (Str × Value) := [(Str.ofString "strict", .bool true)]
abbrev zsH5 (h : Heap) (l1 l2 : Addr) : Heap := (zipH4 h l1 l2).push { cls := .type "zip", data := .fields #[.none, .bool false, .bool true, .ref (zipH2 h l1 l2).objs.size, .ref (zipH3 h l1 l2).objs.size] }
section
variable {prog : Program} {w : World} {A : Around} {E : Value → Shared → Prop} {s : Shared}
end
/-! ### walked -/
def Itzs (K : PySem.W.Frag) (a b : Addr) : It :=
  ⟨(Itz K a b).go, (Itz K a b).yld, fun i H => ∃ xs ys : List V, SqL K H a xs ∧ SqL K H b ys ∧ xs.length ≤ i ∧ ys.length ≤ i⟩
def iZs (K : PySem.W.Frag) (ta tk : TA) : TI := fun σ H R => ta σ H fun vs H1 => tk σ H1 fun ks H2 => ∃ a b xs ys, vs = [.ref a, .ref b] ∧ ks = [.bl true] ∧ SqL K H2 a xs ∧ SqL K H2 b ys ∧ R (Itzs K a b) H2
/-! ### as data -/
def itZS (d e : D) (k : Nat) : ItD := ⟨fun i S => match listOf S d, listOf S e with
  | some xs, some ys => if xs.length = ys.length then some ((zipD xs ys)[i]?) else none
  | _, _ => none, k + 1⟩
def mItZS : List D → M ItD
  | [d, e] => fun S => match frozenL d, frozenL e with
    | some xs, some ys => if xs.length = ys.length then .ok (itL (zipD xs ys)) S else .stuck
    | _, _ => match listOf S d, listOf S e with
      | some xs, some ys => .ok (itZS d e (zipD xs ys).length) S
      | _, _ => .stuck
  | _ => fun _ => .stuck
def imZS (m k : AM) : IM := fun ρ => M.bind (m ρ) fun ds => M.bind (k ρ) fun ks => match ks with
  | [.bl true] => mItZS ds
  | _ => fun _ => .stuck
end DL

set_option Elab.async false
set_option linter.all false
set_option maxRecDepth 100000
set_option maxHeartbeats 4000000
/-! DX6: defs that call themselves; list(range(..)); [f, g][i](..); tables made by a comprehension, asked by in; xs[i], y = .. -/
namespace DL
open PySem PySem.Spec PyProof.Rows L2
noncomputable section
/-! ### a def that calls itself -/
theorem FnG.none {P : Program} {w : World} {K : PySem.W.Frag} {mg : Str → Option Value} {base : Heap} {k : Nat} {f : Addr} {fd : FuncData} {ps : List Str} : FnG P w K mg base k f fd ps (fun _ _ => .stuck) :=
  ⟨fun _ _ => .inl rfl, fun _ _ _ _ _ _ _ _ _ _ _ _ _ _ ⟨_, _, _, _, _, _, z⟩ => z.elim⟩
theorem Has.none {P : Program} {w : World} {K : PySem.W.Frag} {mg : Str → Option Value} {base : Heap} {k : Nat} {x : Str} {st : Stmt} {ps : List Str} (h : DefAt K mg x st ps) : Has P w K mg base k x st ps (fun _ _ => .stuck) := by
  obtain ⟨f, fd, F, hm, hb⟩ := h.ex
  exact ⟨f, fd, .none, hm, F, hb⟩
/-- n turns of a body with a hole -/
def recF (n np : Nat) (d : FM → SD) : Nat → FM
  | 0 => fun _ _ => .stuck
  | k + 1 => runFn n np (d (recF n np d k))
/-! ### list(range(..)) -/
def mLRng : List D → M D
  | [.int j] => fun S => if -(2 ^ 62) ≤ j ∧ j < 2 ^ 62 ∧ j.toNat ≤ 2 ^ 24 then .ok (.lst ((List.range j.toNat).map fun i : Nat => D.int i)) S else .stuck
  | _ => fun _ => .stuck
def mLRngC : List D → M D
  | [.int j] => fun S => if -(2 ^ 62) ≤ j ∧ j < 2 ^ 62 ∧ j.toNat ≤ 2 ^ 24 then .ok (.cell S.length) (S ++ [some (.lst ((List.range j.toNat).map fun i : Nat => D.int i))]) else .stuck
  | _ => fun _ => .stuck
section
variable {X : Cx} {W : WX} {e : Expr} {me : EM} {p p2 pos pos2 : Pos}
end
/-! ### [f, g][i](..) -/
def eCs (fs : List FM) (ix : EM) (a : AM) : EM := fun ρ S => (ix ρ S).bind fun d S1 => match d with
  | .int i => match L2.atI fs i with
    | some m => (a ρ S1).bind m
    | none => .stuck
  | _ => .stuck
section
variable {X : Cx} {W : WX} {j k1 k2 : Nat} {ps1 ps2 : List Str} {m1 m2 : FM} {x1 x2 : Str} {st1 st2 : Stmt} {p1 p2 lp sp pos : Pos} {ie e : Expr} {es : List Expr} {mi : EM} {mr : AM}
end
end
end DL

set_option Elab.async false
set_option linter.all false
set_option maxRecDepth 100000
set_option maxHeartbeats 4000000
/-! DX7: tables made by a comprehension; in, not in. -/
namespace DL
open PySem PySem.Spec PyProof.Rows L2
noncomputable section
def keyD : D → Option Key
  | .int i => some (.inl i)
  | .str s => some (.inr s)
  | _ => none
def putKD (kvs : List (Key × D)) (k : Key) (v : D) : List (Key × D) :=
  if (kvs.any fun kv => decide (kv.1 = k)) = true then kvs.map (fun kv => if kv.1 = k then (kv.1, v) else kv) else kvs ++ [(k, v)]
def dcLoop (nx : Nat → Sto → Option (Option D)) (T : Tg) (c : BM) (ek ev : EM) (ρ : Env) : Nat → Nat → List (Key × D) → M (List (Key × D))
  | 0, _, _, _ => .stuck
  | n + 1, i, acc, S => match nx i S with
    | none => .stuck
    | some none => .ok acc S
    | some (some d) => match asg T d ρ with
      | none => .stuck
      | some ρ' => (c ρ' S).bind fun b S1 => if b then (ek ρ' S1).bind fun x S2 => (ev ρ' S2).bind fun y S3 => (match keyD x with
          | some k => if acc.length < sizeLine then dcLoop nx T c ek ev ρ n (i + 1) (putKD acc k y) S3 else .stuck
          | none => .stuck) else dcLoop nx T c ek ev ρ n (i + 1) acc S1
def eDc (im : IM) (T : Tg) (c : BM) (ek ev : EM) (vs : List Nat) : EM := fun ρ => M.bind (im ρ) fun it S => (noX (dcLoop it.nx T c ek ev (wipeD ρ vs) it.fu 0 [] S)).bind fun kvs S' => .ok (.cell S'.length) (S' ++ [some (.dK kvs)])
section
variable {X : Cx} {W : WX} {kx vx tg iter : Expr} {ifs : List Expr} {scope : Scope} {own : List (Str × Nat)} {pos spos : Pos} {im : IM} {T : Tg} {mt : BM} {mk me : EM}
end
/-! ### in, not in -/
def inK (neg : Bool) (x t : D) (S : Sto) : R Bool := match keyD x, t with
  | some k, .cell n => match S[n]? with
    | some (some (.dK kvs)) => .ok ((kvs.any fun kv => decide (kv.1 = k)) != neg) S
    | _ => .stuck
  | _, _ => .stuck
def bInK (neg : Bool) (a b : EM) : BM := fun ρ => M.bind (a ρ) fun x => M.bind (b ρ) fun t => inK neg x t
section
variable {X : Cx} {W : WX} {a b : Expr} {ma mb : EM} {pos : Pos}
end
/-! ### a def with keyword-only parameters that must be given -/
theorem kbd_n {K : PySem.W.Frag} {x : Str} {st : Stmt} {f : Addr} {fd : FuncData} {ps ks : List Str} {n : Nat} {ix : List Nat} {kds : List (Str × V)} (F : L2.FunD K x x (defArgs st) (defBody st) (defScope st) [] kds f fd)
    (h : ∀ (kV doc pm : Value) (an : Option Addr) (cdv ct : Value) (us ws : List Value), us.length = n → ws.length = ks.length → bindArgs (PySem.W.fnOf x x (defArgs st) (defBody st) (defScope st) .none kV doc pm an cdv ct) ⟨us, ks.zip ws⟩ = pure (ps.zip (byIx ix us ws))) : KBD K fd ps n ks ix [] := by
  obtain ⟨oc, od, dV, kV, doc, pm, an, cdv, ct, osl, rfl, lk, hcd, hD, hK⟩ := F.ex
  rcases hD with ⟨_, rfl⟩ | ⟨e, _⟩
  · refine ⟨[], .nil, fun s us ws X l1 l2 => ?_⟩
    rw [List.append_nil]
    exact BindsTo.of_eq (h kV doc pm an cdv ct us ws l1 l2)
  · exact absurd rfl e
theorem funD_n {K : PySem.W.Frag} {x qual : Str} {st : Stmt} {f : Addr} {oc kV : Value} {od an : Option Addr} {osl : Array (Option Value)} {doc pm cdv ct : Value} (l : K.lookup f = some ⟨oc, od, .func (PySem.W.fnOf x qual (defArgs st) (defBody st) (defScope st) .none kV doc pm an cdv ct), osl⟩)
    (c : PySem.W.codeIn K cdv qual = true) (k : PySem.W.keepIn K (.ref f) = true) : L2.FunD K x qual (defArgs st) (defBody st) (defScope st) [] [] f (PySem.W.fnOf x qual (defArgs st) (defBody st) (defScope st) .none kV doc pm an cdv ct) :=
  ⟨⟨oc, od, _, _, doc, pm, an, cdv, ct, osl, rfl, l, c, .inl ⟨rfl, rfl⟩, .inl rfl⟩, k⟩
end
end DL

set_option Elab.async false
set_option linter.all false
set_option maxRecDepth 100000
set_option maxHeartbeats 2000000
/-! DX8: lists that are changed within others: shown, compared, changed no more. -/
namespace DL
open PySem PySem.Spec PyProof.Rows L2
noncomputable section
/-- what a value is now, cells read to a depth -/
def deepD (S : Sto) : Nat → D → D
  | 0, d => d
  | n + 1, d => match d with
    | .cell m => (match S[m]? with
      | some (some (.lst xs)) => .lst (xs.map (deepD S n))
      | _ => .cell m)
    | .tup xs => .tup (xs.map (deepD S n))
    | .lst xs => .lst (xs.map (deepD S n))
    | .ro xs => .ro (xs.map (deepD S n))
    | d => d
mutual
theorem deep_pr {S : Sto} : ∀ {d : D} {n k : Nat}, d.pr k = true → deepD S n d = d
  | d, 0, _, _ => rfl
  | .non, n + 1, _, _ => rfl
  | .bl b, n + 1, _, _ => rfl
  | .int i, n + 1, _, _ => rfl
  | .str s, n + 1, _, _ => rfl
  | .dE, n + 1, _, _ => rfl
  | .tup xs, n + 1, k, h => by
    simp only [D.pr, Bool.and_eq_true] at h
    show D.tup (xs.map (deepD S n)) = .tup xs
    rw [deep_prL h.2]
  | .lst xs, n + 1, k, h => by
    simp only [D.pr, Bool.and_eq_true] at h
    show D.lst (xs.map (deepD S n)) = .lst xs
    rw [deep_prL h.2]
  | .ro xs, n + 1, k, h => by
    simp only [D.pr, Bool.and_eq_true] at h
    show D.ro (xs.map (deepD S n)) = .ro xs
    rw [deep_prL h.2]
  | .cell m, n + 1, k, h => by simp [D.pr] at h
  | .ty _, n + 1, k, h => by simp [D.pr] at h
  | .err _ _ _, n + 1, k, h => by simp [D.pr] at h
  | .cls _, n + 1, k, h => by simp [D.pr] at h
theorem deep_prL {S : Sto} : ∀ {xs : List D} {n k : Nat}, D.prL k xs = true → xs.map (deepD S n) = xs
  | [], _, _, _ => rfl
  | x :: xs, n, k, h => by
    simp only [D.prL, Bool.and_eq_true] at h
    rw [List.map_cons, deep_pr h.1, deep_prL h.2]
end
section
variable {K : PySem.W.Frag} {hd : Hid} {as : List Addr} {S : Sto} {H : Hp}
theorem Rep.drDeep (w : Wld K hd as S H) : ∀ {n : Nat} {d : D} {v : V} {k : Nat}, Rep K as (fz hd as S H) v d → (deepD S n d).pr k = true → Dr K H v (deepD S n d).py
  | 0, d, v, k, r, p => Rep.dr fz_same p r
  | n + 1, d, v, k, r, p => by
    have all : ∀ {xs : List D} {vs : List V} {k : Nat}, RepL K as (fz hd as S H) vs xs → D.prL k (xs.map (deepD S n)) = true → DrL K H vs (D.pyL (xs.map (deepD S n))) := by
      intro xs
      induction xs with
      | nil => intro vs k h _; cases h; exact .nil
      | cons x xs ih =>
        intro vs k h p
        simp only [List.map_cons, D.prL, Bool.and_eq_true] at p
        cases h with
        | cons q r => exact .cons (Rep.drDeep w q p.1) (ih r p.2)
    cases r with
    | cell q =>
      rename_i m a
      unfold deepD at p ⊢
      cases e : S[m]? with
      | none => simp [e, D.pr] at p
      | some z =>
        cases z with
        | none => simp [e, D.pr] at p
        | some c =>
          cases c with
          | ins _ _ => simp [e, D.pr] at p
          | dK _ => simp [e, D.pr] at p
          | lst xs =>
            simp only [e, D.pr, Bool.and_eq_true] at p ⊢
            obtain ⟨b, vs, e1, e2, r⟩ := w.at_ m xs e
            rw [q] at e1; cases e1
            simp only [D.py]
            exact .lst (.inl (.inl e2)) (all r p.2)
    | tup q r =>
      have p : (D.tup (_ : List D)).pr k = true := p
      simp only [D.pr, Bool.and_eq_true] at p
      show Dr K H _ (D.tup (_ : List D)).py
      simp only [D.py]
      exact .tup (same_t fz_same q) (all r p.2)
    | lst q r =>
      have p : (D.lst (_ : List D)).pr k = true := p
      simp only [D.pr, Bool.and_eq_true] at p
      show Dr K H _ (D.lst (_ : List D)).py
      simp only [D.py]
      exact .lst (.inl (.inl (fz_same _ _ q))) (all r p.2)
    | ro q r =>
      have p : (D.ro (_ : List D)).pr k = true := p
      simp only [D.pr, Bool.and_eq_true] at p
      show Dr K H _ (D.ro (_ : List D)).py
      simp only [D.py]
      exact .lst (same_l fz_same q) (all r p.2)
    | non => exact Rep.dr (k := k) (K := K) (as := as) (F := fz hd as S H) fz_same p .non
    | bl b => exact Rep.dr (k := k) (K := K) (as := as) (F := fz hd as S H) fz_same p (.bl b)
    | int i => exact Rep.dr (k := k) (K := K) (as := as) (F := fz hd as S H) fz_same p (.int i)
    | str s => exact Rep.dr (k := k) (K := K) (as := as) (F := fz hd as S H) fz_same p (.str s)
    | dE q => exact Rep.dr (k := k) (K := K) (as := as) (F := fz hd as S H) fz_same p (.dE q)
    | ty x => simp [deepD, D.pr] at p
    | err => simp [deepD, D.pr] at p
    | cls => simp [deepD, D.pr] at p
theorem Rep.dpDeep (w : Wld K hd as S H) : ∀ {n : Nat} {d : D} {v : V} {k : Nat}, Rep K as (fz hd as S H) v d → (deepD S n d).pl k = true → Dp K H v (deepD S n d).py
  | 0, d, v, k, r, p => dp_mono fz_same (Rep.dp p r)
  | n + 1, d, v, k, r, p => by
    have all : ∀ {xs : List D} {vs : List V} {k : Nat}, RepL K as (fz hd as S H) vs xs → D.plL k (xs.map (deepD S n)) = true → DpAll K H vs (D.pyL (xs.map (deepD S n))) := by
      intro xs
      induction xs with
      | nil => intro vs k h _; cases h; exact .nil
      | cons x xs ih =>
        intro vs k h p
        simp only [List.map_cons, D.plL, Bool.and_eq_true] at p
        cases h with
        | cons q r => exact .cons (Rep.dpDeep w q p.1) (ih r p.2)
    cases r with
    | cell q =>
      rename_i m a
      unfold deepD at p ⊢
      cases e : S[m]? with
      | none => simp [e, D.pl] at p
      | some z =>
        cases z with
        | none => simp [e, D.pl] at p
        | some c =>
          cases c with
          | ins _ _ => simp [e, D.pl] at p
          | dK _ => simp [e, D.pl] at p
          | lst xs =>
            simp only [e, D.pl, Bool.and_eq_true] at p ⊢
            obtain ⟨b, vs, e1, e2, r⟩ := w.at_ m xs e
            rw [q] at e1; cases e1
            simp only [D.py]
            exact .lst (.inl (.inl e2)) (all r p.2)
    | tup q r =>
      have p : (D.tup (_ : List D)).pl k = true := p
      simp only [D.pl, Bool.and_eq_true] at p
      show Dp K H _ (D.tup (_ : List D)).py
      simp only [D.py]
      exact .tup (same_t fz_same q) (all r p.2)
    | lst q r =>
      have p : (D.lst (_ : List D)).pl k = true := p
      simp only [D.pl, Bool.and_eq_true] at p
      show Dp K H _ (D.lst (_ : List D)).py
      simp only [D.py]
      exact .lst (.inl (.inl (fz_same _ _ q))) (all r p.2)
    | ro q r =>
      have p : (D.ro (_ : List D)).pl k = true := p
      simp only [D.pl, Bool.and_eq_true] at p
      show Dp K H _ (D.ro (_ : List D)).py
      simp only [D.py]
      exact .lst (same_l fz_same q) (all r p.2)
    | non => exact dp_mono (F := fz hd as S H) fz_same (Rep.dp (k := k) (as := as) p .non)
    | bl b => exact dp_mono (F := fz hd as S H) fz_same (Rep.dp (k := k) (as := as) p (.bl b))
    | int i => exact dp_mono (F := fz hd as S H) fz_same (Rep.dp (k := k) (as := as) p (.int i))
    | str s => exact dp_mono (F := fz hd as S H) fz_same (Rep.dp (k := k) (as := as) p (.str s))
    | dE q => simp [deepD, D.pl] at p
    | ty x => simp [deepD, D.pl] at p
    | err => simp [deepD, D.pl] at p
    | cls => simp [deepD, D.pl] at p
end
/-! ### repr, == and != of such -/
def fReprD : List D → M D
  | [d] => fun S => if (deepD S 12 d).pr 60 && (deepD S 12 d).shows then .ok (.str (deepD S 12 d).shown) S else .stuck
  | _ => fun _ => .stuck
theorem act_reprD {K : PySem.W.Frag} : ActL K (rRepr K) fReprD := by
  intro hd as S H vs ds w r
  match ds, r with
  | [], _ => trivial
  | [d], r =>
    simp only [fReprD]
    split
    · rename_i h
      obtain ⟨v, rfl, a⟩ := rep1 r
      simp only [Bool.and_eq_true, D.shows, decide_eq_true_eq] at h
      have h2 := D.pr_depth h.1
      exact .now w (.str _) fun Q q => ⟨v, _, rfl, a.drDeep w h.1, h.2.1, by omega, h.2.2, q⟩
    · trivial
  | _ :: _ :: _, _ => trivial
def oEqDp (d e : D) : M D := fun S => match eqD d e (deepD S 12 d) (deepD S 12 e) with
  | some b => .ok (.bl b) S
  | none => .stuck
def oNeDp (d e : D) : M D := fun S => match eqD d e (deepD S 12 d) (deepD S 12 e) with
  | some b => .ok (.bl (!b)) S
  | none => .stuck
theorem act_eqDp {K : PySem.W.Frag} : Act2 K (rEqA K) oEqDp := by
  intro hd as S H v u d e w r1 r2
  unfold oEqDp
  cases eb : eqD d e (deepD S 12 d) (deepD S 12 e) with
  | none => trivial
  | some b =>
    dsimp only
    rcases eqD_cases eb with ⟨x, y, rfl, rfl, rfl⟩ | ⟨h1, h2, rfl⟩
    · cases r1; cases r2
      refine .now w (.bl _) fun Q q => .inl ⟨rfl, ?_⟩
      have : decide (V.str x = V.str y) = decide (x = y) := by simp
      rw [this]; exact q
    · exact .now w (.bl _) fun Q q => .inr ⟨_, _, r1.dpDeep w h1, r2.dpDeep w h2, D.pl_shaped h1, D.pl_shaped h2, q⟩
theorem act_neDp {K : PySem.W.Frag} : Act2 K (rNeA K) oNeDp := by
  intro hd as S H v u d e w r1 r2
  unfold oNeDp
  cases eb : eqD d e (deepD S 12 d) (deepD S 12 e) with
  | none => trivial
  | some b =>
    dsimp only
    rcases eqD_cases eb with ⟨x, y, rfl, rfl, rfl⟩ | ⟨h1, h2, rfl⟩
    · cases r1; cases r2
      refine .now w (.bl _) fun Q q => .inl ⟨rfl, ?_⟩
      have : decide (V.str x = V.str y) = decide (x = y) := by simp
      rw [this]; exact q
    · exact .now w (.bl _) fun Q q => .inr ⟨_, _, r1.dpDeep w h1, r2.dpDeep w h2, D.pl_shaped h1, D.pl_shaped h2, q⟩
/-! ### changed no more, to a depth -/
def frzM (f : D → Sto → Option (D × Sto)) : List D → Sto → Option (List D × Sto)
  | [], S => some ([], S)
  | x :: xs, S => (f x S).bind fun p => (frzM f xs p.2).map fun q => (p.1 :: q.1, q.2)
def frzN : Nat → D → Sto → Option (D × Sto)
  | 0, d, S => some (d, S)
  | n + 1, d, S => match d with
    | .cell m => (match S[m]? with
      | some (some (.lst xs)) => (frzM (frzN n) xs (S.set m none)).map fun p => (.lst p.1, p.2)
      | _ => none)
    | .tup xs => (frzM (frzN n) xs S).map fun p => (.tup p.1, p.2)
    | .lst xs => (frzM (frzN n) xs S).map fun p => (.lst p.1, p.2)
    | d => some (d, S)
def mFrzDp (d : D) : M D := fun S => match frzN 12 d S with
  | some (e, S') => .ok e S'
  | none => .stuck
section
variable {K : PySem.W.Frag} {hd : Hid} {as : List Addr}
def FrzOk (K : PySem.W.Frag) (hd : Hid) (as : List Addr) (f : D → Sto → Option (D × Sto)) : Prop := ∀ {d e : D} {S S' : Sto} {H : Hp} {v : V}, Wld K hd as S H → Rep K as (fz hd as S H) v d → f d S = some (e, S') → Wld K hd as S' H ∧ Grow hd as S H as S' H ∧ Rep K as (fz hd as S' H) v e
theorem frzM_ok {f : D → Sto → Option (D × Sto)} (one : FrzOk K hd as f) : ∀ {xs ys : List D} {S S' : Sto} {H : Hp} {vs : List V}, Wld K hd as S H → RepL K as (fz hd as S H) vs xs → frzM f xs S = some (ys, S') → Wld K hd as S' H ∧ Grow hd as S H as S' H ∧ RepL K as (fz hd as S' H) vs ys
  | [], ys, S, S', H, vs, w, r, h => by
    simp only [frzM, Option.some.injEq, Prod.mk.injEq] at h
    obtain ⟨rfl, rfl⟩ := h
    cases r
    exact ⟨w, .refl, .nil⟩
  | x :: xs, ys, S, S', H, vs, w, r, h => by
    cases r with
    | cons rx rr =>
      simp only [frzM] at h
      obtain ⟨⟨y, S1⟩, e1, h⟩ := Option.bind_eq_some_iff.mp h
      obtain ⟨⟨zs, S2⟩, e2, h⟩ := Option.map_eq_some_iff.mp h
      cases h
      obtain ⟨w1, g1, r1⟩ := one w rx e1
      obtain ⟨w2, g2, r2⟩ := frzM_ok one w1 (rr.grow g1) e2
      exact ⟨w2, g1.trans g2, .cons (r1.grow g2) r2⟩
theorem frzN_ok : ∀ (n : Nat), FrzOk K hd as (frzN n)
  | 0, d, e, S, S', H, v, w, r, h => by
    simp only [frzN, Option.some.injEq, Prod.mk.injEq] at h
    obtain ⟨rfl, rfl⟩ := h
    exact ⟨w, .refl, r⟩
  | n + 1, d, e, S, S', H, v, w, r, h => by
    have same : some (d, S) = some (e, S') → Wld K hd as S' H ∧ Grow hd as S H as S' H ∧ Rep K as (fz hd as S' H) v e := fun h => by
      cases h; exact ⟨w, .refl, r⟩
    cases r with
    | cell q =>
      rename_i m a
      unfold frzN at h
      cases em : S[m]? with
      | none => simp [em] at h
      | some z =>
        cases z with
        | none => simp [em] at h
        | some c =>
          cases c with
          | ins _ _ => simp [em] at h
          | dK _ => simp [em] at h
          | lst xs =>
            simp only [em] at h
            obtain ⟨⟨ys, S2⟩, e2, h⟩ := Option.map_eq_some_iff.mp h
            cases h
            obtain ⟨w1, g1, r1⟩ := w.freeze em q
            cases r1 with
            | lst f1 rl =>
              obtain ⟨w2, g2, r2⟩ := frzM_ok (frzN_ok n) w1 rl e2
              exact ⟨w2, g1.trans g2, .lst (g2.same _ _ f1) r2⟩
    | tup q rl =>
      have h : (frzM (frzN n) _ S).map _ = _ := h
      obtain ⟨⟨ys, S2⟩, e2, h⟩ := Option.map_eq_some_iff.mp h
      cases h
      obtain ⟨w2, g2, r2⟩ := frzM_ok (frzN_ok n) w rl e2
      exact ⟨w2, g2, .tup (same_t g2.same q) r2⟩
    | lst q rl =>
      have h : (frzM (frzN n) _ S).map _ = _ := h
      obtain ⟨⟨ys, S2⟩, e2, h⟩ := Option.map_eq_some_iff.mp h
      cases h
      obtain ⟨w2, g2, r2⟩ := frzM_ok (frzN_ok n) w rl e2
      exact ⟨w2, g2, .lst (g2.same _ _ q) r2⟩
    | non => exact same h
    | bl _ => exact same h
    | int _ => exact same h
    | str _ => exact same h
    | ty _ => exact same h
    | ro _ _ => exact same h
    | dE _ => exact same h
    | err _ _ _ _ => exact same h
    | cls _ => exact same h
end
end
end DL

set_option Elab.async false
set_option linter.all false
set_option maxRecDepth 100000
set_option maxHeartbeats 2000000
/-! DX9: a name's data is changed no more behind a statement, cells within it too. -/
namespace DL
open PySem PySem.Spec PyProof.Rows L2
noncomputable section
def frzSlotD (i : Nat) : RS → RS
  | .ok .nx ρ S => match ρ[i]? with
    | some (some d) => match frzN 12 d S with
      | some (e, S') => .ok .nx (ρ.set i (some e)) S'
      | none => .stuck
    | _ => .stuck
  | r => r
def sThenFrzD (i : Nat) (m : SD) : SD := fun ρ S => frzSlotD i (m ρ S)
theorem ds_thenFrzD {X : Cx} {W : WX} {st : Stmt} {m : SD} (i : Nat) (h : DS X W st m) : DS X W st (sThenFrzD i m) := PS.le h fun Dn σ H ⟨hd, as, ρ, S, rel, po⟩ => ⟨hd, as, ρ, S, rel, by
  unfold sThenFrzD at po
  generalize m ρ S = r at po
  match r, po with
  | .ok .nx ρ' S', po =>
    intro as' σ' H' g rel'
    simp only [frzSlotD] at po
    cases e1 : ρ'[i]? with
    | none => rw [e1] at po; exact po.elim
    | some o =>
      cases o with
      | none => rw [e1] at po; exact po.elim
      | some d =>
        simp only [e1] at po
        cases e2 : frzN 12 d S' with
        | none => simp only [e2] at po; exact po.elim
        | some q =>
          obtain ⟨e, S2⟩ := q
          simp only [e2] at po
          obtain ⟨v, ev, rv⟩ := rel'.s.at_ i _ e1
          obtain ⟨w', g', r'⟩ := frzN_ok 12 rel'.w rv e2
          have sl := rel'.s.mono g'.pre g'.same
          refine po as' σ' H' (g.trans g') ⟨w', by rw [List.length_set]; exact sl.len, fun j d ej => ?_⟩
          by_cases hj : i = j
          · subst hj
            rw [List.getElem?_set_self (List.getElem?_eq_some_iff.mp e1).1] at ej
            cases ej
            exact ⟨_, ev, r'⟩
          · rw [List.getElem?_set_ne hj] at ej
            exact sl.at_ j d ej
  | .ok (.ret d) ρ' S', po => exact po
  | .ok .brk ρ' S', po => exact po
  | .ok .cnt ρ' S', po => exact po
  | .exc x ρ' S', po => exact po
  | .stuck, po => exact po⟩
/-! ### != with an empty list -/
def rNeZ (K : PySem.W.Frag) : R2 := fun x y H Q => ∃ a b xs, x = .ref a ∧ y = .ref b ∧ SqL K H a xs ∧ SqL K H b [] ∧ Q (.bl (!xs.isEmpty)) H
def oNeZ : D → D → M D
  | d, .lst [] => fun S => match listOf S d with
    | some xs => .ok (.bl (!xs.isEmpty)) S
    | none => .stuck
  | _, _ => fun _ => .stuck
/-! ### t + u for tuples of any length -/
def oAddU : D → D → M D
  | .tup xs, .tup ys => fun S => if xs.length + ys.length ≤ sizeLine then .ok (.tup (xs ++ ys)) S else .stuck
  | d, e => oAdd d e
def rAddU (K : PySem.W.Frag) : R2 := fun x y H Q => rAddA K x y H Q ∨ rCatA K x y H Q
end
end DL

set_option Elab.async false
set_option linter.all false
set_option maxRecDepth 100000
set_option maxHeartbeats 2000000
/-! DY1: an int times a list. -/
namespace DL
open PySem PySem.Spec PyProof.Rows L2
noncomputable section
def rRepR : R2 := fun x y H Q => ∃ l k xs, y = .ref l ∧ x = .int k ∧ H l = some (.lst xs) ∧ -(2 ^ 63) ≤ k ∧ k < 2 ^ 63 ∧ xs.length * k.toNat ≤ sizeLine ∧
  ∀ p, H p = none → Q (.ref p) (upd H p (.lst (List.replicate k.toNat xs).flatten))
def oMulR : D → D → M D
  | .int k, d => fun S => match listOw S d with
    | some xs => if -(2 ^ 63) ≤ k ∧ k < 2 ^ 63 ∧ xs.length * k.toNat ≤ sizeLine then .ok (.lst (List.replicate k.toNat xs).flatten) S else .stuck
    | none => .stuck
  | _, _ => fun _ => .stuck
end
end DL

set_option Elab.async false
set_option linter.all false
set_option maxRecDepth 100000
set_option maxHeartbeats 2000000
/-! DY2: o[i], x = a list of two. -/
namespace DL
open PySem PySem.Spec PyProof.Rows L2
noncomputable section
def sAsgSN (mo mi : EM) (k : Nat) (m : EM) : SD := fun ρ S => (m ρ S).to ρ fun d S1 => match listOf S1 d with
  | some [x, y] => (mo ρ S1).to ρ fun o S2 => (mi ρ S2).to ρ fun i S3 => match setD o i x S3 with
    | some S4 => .ok .nx (ρ.set k (some y)) S4
    | none => .stuck
  | _ => .stuck
section
variable {X : Cx} {W : WX} {e o i : Expr} {me mo mi : EM} {pos tpos p2 p3 : Pos} {kk : Nat} {x : Str}
end
end
end DL

set_option Elab.async false
set_option linter.all false
set_option maxRecDepth 100000
set_option maxHeartbeats 4000000
/-! DY3: sorted(set(xs)) of a list of ints. -/
namespace DL
open PySem PySem.Spec PyProof.Rows L2
noncomputable section
section
variable {P : Program} {w : World} {A : Around} {E : Value → Shared → Prop} {s : Shared}
end

/-- put into a rising list -/
def insS (x : Int) : List Int → List Int
  | [] => [x]
  | y :: ys => if x < y then x :: y :: ys else if x = y then y :: ys else y :: insS x ys
def sortSet (ns : List Int) : List Int := ns.foldr insS []
def rSS (K : PySem.W.Frag) : V → Hp → VK → Prop := fun x H1 Q => ∃ (l : Addr) (ns : List Int), x = .ref l ∧ SqL K H1 l (ns.map V.int) ∧ ns.length < 64 ∧ ∀ p : Addr, H1 p = none → Q (.ref p) (upd H1 p (.lst ((sortSet ns).map V.int)))
def tSS (K : PySem.W.Frag) (ta : TE) : TE := fun σ H Q => ta σ H fun x H1 => rSS K x H1 Q
def mSortSet (d : D) : M D := fun S => match (listOf S d).bind intsOf with
  | some ns => if ns.length < 64 then .ok (.lst ((sortSet ns).map .int)) S else .stuck
  | none => .stuck
def mIndexI : D → List D → M D
  | d, [.int b] => fun S => match (listOf S d).bind intsOf with
    | some ys => (match ys.findIdx? (· == b) with
      | some j => .ok (.int (j : Nat)) S
      | none => .stuck)
    | none => .stuck
  | _, _ => fun _ => .stuck
end
end DL

set_option Elab.async false
set_option linter.all false
set_option maxRecDepth 100000
set_option maxHeartbeats 2000000
/-! DY4: for x, (y, *others) in ... -/
namespace DL
open PySem PySem.Spec PyProof.Rows L2
noncomputable section
def asgSt (i0 i1 i2 : Nat) (d : D) (ρ : Env) (S : Sto) : Option Env := match d with
  | .tup [x, y] => match listOf S y with
    | some (p :: fs) => if fs.length < 16000 then some (((ρ.set i0 (some x)).set i1 (some p)).set i2 (some (.lst fs))) else none
    | _ => none
  | _ => none
def forLoopSt (nx : Nat → Sto → Option (Option D)) (i0 i1 i2 : Nat) (b : SD) : Nat → Nat → SD
  | 0, _, _, _ => .stuck
  | n + 1, i, ρ, S => match nx i S with
    | none => .stuck
    | some none => .ok .nx ρ S
    | some (some d) => match asgSt i0 i1 i2 d ρ S with
      | none => .stuck
      | some ρ' => match b ρ' S with
        | .ok .nx ρ2 S2 => forLoopSt nx i0 i1 i2 b n (i + 1) ρ2 S2
        | .ok .cnt ρ2 S2 => forLoopSt nx i0 i1 i2 b n (i + 1) ρ2 S2
        | .ok .brk ρ2 S2 => .ok .nx ρ2 S2
        | r => r
def sForSt (im : IM) (i0 i1 i2 : Nat) (b : SD) : SD := fun ρ S => (im ρ S).to ρ fun it S' => forLoopSt it.nx i0 i1 i2 b it.fu 0 ρ S'
def gSt3 (K : PySem.W.Frag) (i0 i1 i2 : Nat) : TG := gTup K 2 (gCons (gName i0) (gCons (gStar K i1 i2) gNil))
section
variable {X : Cx} {W : WX} {tg iter : Expr} {body : List Stmt} {im : IM} {ms : SD} {pos tpos p0 p1 p2 sp : Pos} {x y z : Str} {i0 i1 i2 k k2 : Nat}
end
end
end DL

set_option Elab.async false
set_option linter.all false
set_option maxRecDepth 100000
/-! DZ1: a def that is called by another name of it (y = x at the module's top, x bound anew later). -/
namespace DL
open PySem PySem.Spec PyProof.Rows L2
noncomputable section
structure DefAtA (K : PySem.W.Frag) (mg : Str → Option Value) (y x : Str) (st : Stmt) (ps : List Str) : Prop where
  ex : ∃ f fd, Fun K x x st f fd ∧ mg y = some (.ref f) ∧ Binds K fd ps []
structure HasA (P : Program) (w : World) (K : PySem.W.Frag) (mg : Str → Option Value) (base : Heap) (k : Nat) (y x : Str) (st : Stmt) (ps : List Str) (m : FM) : Prop where
  ex : ∃ f fd, FnG P w K mg base k f fd ps m ∧ mg y = some (.ref f) ∧ Fun K x x st f fd ∧ Binds K fd ps []
section
variable {X : Cx} {W : WX} {j k n : Nat} {ps ks : List Str} {m : FM} {y x : Str} {st : Stmt} {p pos : Pos} {e : Expr} {es : List Expr} {kws : List Keyword} {mr mk : AM} {ix : List Nat}
end
end
end DL

set_option Elab.async false
set_option linter.all false
set_option maxRecDepth 100000
/-! DZ2: lists that are changed, lent as data to an expression that tells something flat and leaves no trace. -/
namespace DL
open PySem PySem.Spec PyProof.Rows L2
noncomputable section
def D.flat : D → Bool
  | .non | .bl _ | .int _ | .str _ => true
  | _ => false
def offS (S : Sto) : Sto := S.map fun _ => none
def asD (S : Sto) (ρ : Env) : Env := ρ.map (Option.map (deepD S 12))
open Classical in
/-- every list that is changed is data meanwhile -/
def eBor (m : EM) : EM := fun ρ S => match m (asD S ρ) (offS S) with
  | .ok d S' => if D.flat d = true ∧ S' = offS S then .ok d S else .stuck
  | _ => .stuck
/-- what is no list is hidden meanwhile -/
def hidL (as : List Addr) (S : Sto) (H : Hp) : Hid := (List.range S.length).filterMap fun n => match S[n]? with
  | some (some (.lst _)) => none
  | some (some _) => match as[n]? with
    | some a => (H a).map fun o => (a, o)
    | none => none
  | _ => none
section
variable {K : PySem.W.Frag} {hd : Hid} {as : List Addr} {S : Sto} {H : Hp}
end
end
end DL

set_option Elab.async false
set_option linter.all false
set_option maxRecDepth 100000
set_option maxHeartbeats 2000000
/-! DZ3: several except clauses, each of which keeps the error in a name. -/
namespace DL
open PySem PySem.Spec PyProof.Rows L2
/-- what the clauses wish of an error of the body, one after the other -/
def wKeeps (K : PySem.W.Frag) (Wout : WX) (D : Ends) : List (Value × Nat × TS) → WX
  | [] => Wout
  | (c, i, ts) :: r => wKeep K c i ts (wKeeps K Wout D r) D
inductive HdsK (X : Cx) : List ExceptHandler → List (Value × Nat × TS) → Prop
  | nil : HdsK X [] []
  | cons {x n : Str} {c : Value} {i : Nat} {ts : TS} {b₀ : Stmt} {suite : List Stmt} {np pos' : Pos} {hds : List ExceptHandler} {l : List (Value × Nat × TS)} (hi : X.N[i]? = some n) (hln : X.env.kindOf n = some .local) (hc : Names X x c)
      (hsu : ∀ (a : Addr) (pn : List (Addr × Obj)), PSs (X.suite a pn) (b₀ :: suite) ts) (r : HdsK X hds l) :
      HdsK X (.ExceptHandler (some (.Name x np)) (some n) (b₀ :: suite) pos' :: hds) ((c, i, ts) :: l)
section
variable {X : Cx} {body : List Stmt} {h₀ : ExceptHandler} {hds : List ExceptHandler} {l : List (Value × Nat × TS)} {pos : Pos} {tb : WX → TS} {Wout : WX}
end
/-! ### as data -/
abbrev TryL := List ((Str → Option Bool) × Nat × SD)
def sTries (b : SD) : TryL → SD
  | [] => b
  | (tbl, i, h) :: r => sTries (sTryAs tbl i b h) r
inductive HdsD (X : Cx) : List ExceptHandler → TryL → List (Value × Nat × TS) → Prop
  | nil : HdsD X [] [] []
  | cons {x n : Str} {c : Value} {i : Nat} {tbl : Str → Option Bool} {mh : SD} {b₀ : Stmt} {suite : List Stmt} {np pos' : Pos} {hds : List ExceptHandler} {l : TryL} {l2 : List (Value × Nat × TS)} (hi : X.N[i]? = some n) (hln : X.env.kindOf n = some .local) (hc : Names X x c) (ht : TblX X.K c tbl)
      (hsu : ∀ (a : Addr) (pn : List (Addr × Obj)), DSs (X.suite a pn) WNo (b₀ :: suite) mh) (r : HdsD X hds l l2) :
      HdsD X (.ExceptHandler (some (.Name x np)) (some n) (b₀ :: suite) pos' :: hds) ((tbl, i, mh) :: l) ((c, i, tS X.K X.mg WNo mh) :: l2)
theorem HdsD.keeps {X : Cx} {hds : List ExceptHandler} {l : TryL} {l2 : List (Value × Nat × TS)} (h : HdsD X hds l l2) : HdsK X hds l2 := by
  induction h with
  | nil => exact .nil
  | cons hi hln hc ht hsu r ih => exact .cons hi hln hc hsu ih
end DL

set_option Elab.async false
set_option linter.all false
set_option maxRecDepth 100000
set_option maxHeartbeats 4000000
/-! DZ4: zip(xs, ys, zs, strict=True). Printed by mkdz4.py. -/
namespace DL
open PySem PySem.Spec PyProof.Rows L2
structure Z3Apart (z TI TO i1 i2 i3 l1 l2 l3 : Addr) : Prop where
  TIz : TI ≠ z
  TOz : TO ≠ z
  i1z : i1 ≠ z
  i2z : i2 ≠ z
  i3z : i3 ≠ z
  TITO : TI ≠ TO
  TIi1 : TI ≠ i1
  TIi2 : TI ≠ i2
  TIi3 : TI ≠ i3
  TOi1 : TO ≠ i1
  TOi2 : TO ≠ i2
  TOi3 : TO ≠ i3
  i1i2 : i1 ≠ i2
  i1i3 : i1 ≠ i3
  i2i3 : i2 ≠ i3
  l1z : l1 ≠ z
  l1TO : l1 ≠ TO
  l1i1 : l1 ≠ i1
  l1i2 : l1 ≠ i2
  l1i3 : l1 ≠ i3
  l2z : l2 ≠ z
  l2TO : l2 ≠ TO
  l2i1 : l2 ≠ i1
  l2i2 : l2 ≠ i2
  l2i3 : l2 ≠ i3
  l3z : l3 ≠ z
  l3TO : l3 ≠ TO
  l3i1 : l3 ≠ i1
  l3i2 : l3 ≠ i2
  l3i3 : l3 ≠ i3
abbrev IsTri (h : Heap) (T : Addr) (a b c : Value) : Prop := h.get? T = some { cls := .type "tuple", data := .seq #[a, b, c] }
section
variable {prog : Program} {w : World} {A : Around} {E : Value → Shared → Prop} {s : Shared}
end
/-! ### made -/
abbrev z3H1 (h : Heap) (l1 : Addr) : Heap := h.push { cls := .type "list_iterator", data := .fields #[.ref l1, .int 0 0] }
abbrev z3H2 (h : Heap) (l1 l2 : Addr) : Heap := (z3H1 h l1).push { cls := .type "list_iterator", data := .fields #[.ref l2, .int 0 0] }
abbrev z3H3 (h : Heap) (l1 l2 l3 : Addr) : Heap := (z3H2 h l1 l2).push { cls := .type "list_iterator", data := .fields #[.ref l3, .int 0 0] }
abbrev z3H4 (h : Heap) (l1 l2 l3 : Addr) : Heap := (z3H3 h l1 l2 l3).push { cls := .type "tuple", data := .seq #[.ref h.objs.size, .ref (z3H1 h l1).objs.size, .ref (z3H2 h l1 l2).objs.size] }
abbrev z3H5 (h : Heap) (l1 l2 l3 : Addr) : Heap := (z3H4 h l1 l2 l3).push { cls := .type "tuple", data := .seq #[.none, .none, .none] }
abbrev z3H6 (h : Heap) (l1 l2 l3 : Addr) : Heap := (z3H5 h l1 l2 l3).push { cls := .type "zip", data := .fields #[.none, .bool false, .bool true, .ref (z3H3 h l1 l2 l3).objs.size, .ref (z3H4 h l1 l2 l3).objs.size] }
section
variable {prog : Program} {w : World} {A : Around} {E : Value → Shared → Prop} {s : Shared}
end
/-! ### walked -/
def Itz3 (K : PySem.W.Frag) (a b c : Addr) : It :=
  ⟨fun i H => ∃ (xs ys us : List V) (x y u : V), SqL K H a xs ∧ SqL K H b ys ∧ SqL K H c us ∧ xs[i]? = some x ∧ ys[i]? = some y ∧ us[i]? = some u,
    fun i H v H' => ∃ T x y u, v = .ref T ∧ H T = none ∧ H' = upd H T (.tup [x, y, u]) ∧ (∀ xs, SqL K H a xs → xs[i]? = some x) ∧ (∀ ys, SqL K H b ys → ys[i]? = some y) ∧ ∀ us, SqL K H c us → us[i]? = some u,
    fun i H => ∃ xs ys us : List V, SqL K H a xs ∧ SqL K H b ys ∧ SqL K H c us ∧ xs.length ≤ i ∧ ys.length ≤ i ∧ us.length ≤ i⟩
def iZ3 (K : PySem.W.Frag) (ta tk : TA) : TI := fun σ H R => ta σ H fun vs H1 => tk σ H1 fun ks H2 => ∃ a b c xs ys us, vs = [.ref a, .ref b, .ref c] ∧ ks = [.bl true] ∧ SqL K H2 a xs ∧ SqL K H2 b ys ∧ SqL K H2 c us ∧ R (Itz3 K a b c) H2
/-! ### as data -/
def zip3D : List D → List D → List D → List D
  | x :: xs, y :: ys, z :: zs => .tup [x, y, z] :: zip3D xs ys zs
  | _, _, _ => []
def mItZ3 : List D → M ItD
  | [d, e, f] => fun S => match frozenL d, frozenL e, frozenL f with
    | some xs, some ys, some zs => if xs.length = ys.length ∧ ys.length = zs.length then .ok (itL (zip3D xs ys zs)) S else .stuck
    | _, _, _ => .stuck
  | _ => fun _ => .stuck
def imZ3 (m k : AM) : IM := fun ρ => M.bind (m ρ) fun ds => M.bind (k ρ) fun ks => match ks with
  | [.bl true] => mItZ3 ds
  | _ => fun _ => .stuck
end DL

set_option Elab.async false
set_option linter.all false
set_option maxRecDepth 100000
set_option maxHeartbeats 2000000
/-! DZ5: isinstance(None, a class of the text). -/
namespace DL
open PySem PySem.Spec PyProof.Rows L2
def fIsiN (tn : List Str) (tc : Str → Str → Option Bool) (tt : Str → String → Option Bool) : List D → M D
  | [.non, .cls c] => fun S => if c ∈ tn then .ok (.bl false) S else .stuck
  | ds => fIsiX tc tt ds
def TblN (K : PySem.W.Frag) (tn : List Str) : Prop := ∀ c ∈ tn, ∀ D, ClsK K c (.ref D) → PySem.W.kitOne K (.type "NoneType") (.ref D) = some false
def rIsN (K : PySem.W.Frag) : List V → Hp → VK → Prop := fun xs H Q => ∃ (c : V) (cv : Value), xs = [.non, c] ∧ (∀ u, RelV c u → u = cv) ∧ PySem.W.kitOne K (.type "NoneType") cv = some false ∧ Q (.bl false) H
theorem call_isN {X : Cx} : CallR X (.builtin "isinstance") (rIsN X.K) := by
  intro pins s σ H xs us Q I r h
  obtain ⟨c, cv, rfl, hcv, e, q⟩ := h
  cases r with
  | cons rx rr =>
    cases rr with
    | cons rt rr =>
      cases rr
      cases rx
      have ec := hcv _ rt
      subst ec
      exact PySem.W.kia_one PySem.W.kitx_none I.kIn trivial e (fun z => nomatch z) fun tk => ⟨.bl false, H, I.kept (t' := tk) fun _ _ z => z, rfl, q⟩
end DL

set_option Elab.async false
set_option linter.all false
set_option maxRecDepth 100000
set_option maxHeartbeats 2000000
/-! DZ6: t[::-1] of a tuple. -/
namespace DL
open PySem PySem.Spec PyProof.Rows L2 HT
section
variable {prog : Program} {w : World} {A : Around} {E : Value → Shared → Prop} {s : Shared}
end
def rSlR (K : PySem.W.Frag) : V → Option Int → Option Int → Hp → VK → Prop := fun x lo hi H Q => ∃ a xs, x = .ref a ∧ lo = none ∧ hi = none ∧ SqT K H a xs ∧ ∀ p, H p = none → Q (.ref p) (upd H p (.tup xs.reverse))
section
variable {X : Cx} {W : WX}
end
def oSlR (d : D) (lo hi : Option Int) : M D := match d, lo, hi with
  | .tup xs, none, none => fun S => .ok (.tup xs.reverse) S
  | _, _, _ => fun _ => .stuck
section
variable {X : Cx} {W : WX}
end
end DL

set_option Elab.async false
set_option linter.all false
set_option maxRecDepth 100000
set_option maxHeartbeats 4000000
/-! DZ7: sorted({x for x in xs}), xs a list of ints (after the kit's walk for a set of truth values). -/
namespace DL
open PySem PySem.Spec PyProof.Rows L2
noncomputable section
section
variable {X : Cx}
/-- the set's walk: the set of the ints met -/
def rScI (w : World) (K : PySem.W.Frag) (Q : VK) : It → Hp → Prop := fun J H1 => ∃ (l : Addr) (ns : List Int), J = Itl K l ∧ SqL K H1 l (ns.map V.int) ∧ ns.length + 1 < scanBound ∧
  ∀ D c, H1 D = none → c ≤ ns.length → Q (.ref D) (upd H1 D (SetO w D (fun j => decide (j ∈ ns)) c))
def tScI (w : World) (K : PySem.W.Frag) (te : TE) : TE := fun σ H Q => iList K te σ H (rScI w K Q)
end
/-! ### sorted of it -/
section
variable {X : Cx}
def rSC (w : World) (K : PySem.W.Frag) (Q : VK) : It → Hp → Prop := rScI w K fun v H => ∃ (D : Addr) (ns : List Int) (c : Nat), v = .ref D ∧ H D = some (SetO w D (fun j => decide (j ∈ ns)) c) ∧ c < 64 ∧ ∀ p : Addr, H p = none → Q (.ref p) (upd H p (.lst ((sortSet ns).map V.int)))
def tSC (w : World) (K : PySem.W.Frag) (te : TE) : TE := fun σ H Q => iList K te σ H (rSC w K Q)
end
end
end DL

set_option Elab.async false
set_option linter.all false
set_option maxRecDepth 100000
/-! DZ8: a test to which lists are lent (after DZ2's de_bor). -/
namespace DL
open PySem PySem.Spec PyProof.Rows L2
noncomputable section
end
end DL

set_option Elab.async false
set_option linter.all false
set_option maxRecDepth 100000
set_option maxHeartbeats 2000000
/-! DZ9: xs[i] += e, ints, the place told from the front. -/
namespace DL
open PySem PySem.Spec PyProof.Rows L2
noncomputable section
def rGetL (K : PySem.W.Frag) : V → V → Hp → VK → Prop := fun x y H Q => ∃ p xs i z, x = .ref p ∧ y = .int i ∧ 0 ≤ i ∧ SqL K H p xs ∧ xs[i.toNat]? = some z ∧ Q z H
def mGetN (x k : D) : M D := fun S => match listOf S x, k with
  | some xs, .int i => if 0 ≤ i then (match xs[i.toNat]? with
    | some z => .ok z S
    | none => .stuck) else .stuck
  | _, _ => .stuck
def sSubAug (f : D → D → M D) (mo mi mv : EM) : SD := fun ρ S => (mo ρ S).to ρ fun x S1 => (mi ρ S1).to ρ fun k S2 => (mGetN x k S2).to ρ fun z S3 => (mv ρ S3).to ρ fun y S4 => (f z y S4).to ρ fun w S5 => match setD x k w S5 with
  | some S6 => .ok .nx ρ S6
  | none => .stuck
end
end DL

set_option Elab.async false
set_option linter.all false
set_option maxRecDepth 100000
set_option maxHeartbeats 2000000
/-! DZ10: for x, *others in .. (after DY4). -/
namespace DL
open PySem PySem.Spec PyProof.Rows L2
noncomputable section
def asgS2 (i1 i2 : Nat) (d : D) (ρ : Env) (S : Sto) : Option Env := match listOf S d with
  | some (p :: fs) => if fs.length < 16000 then some ((ρ.set i1 (some p)).set i2 (some (.lst fs))) else none
  | _ => none
def forLoopS2 (nx : Nat → Sto → Option (Option D)) (i1 i2 : Nat) (b : SD) : Nat → Nat → SD
  | 0, _, _, _ => .stuck
  | n + 1, i, ρ, S => match nx i S with
    | none => .stuck
    | some none => .ok .nx ρ S
    | some (some d) => match asgS2 i1 i2 d ρ S with
      | none => .stuck
      | some ρ' => match b ρ' S with
        | .ok .nx ρ2 S2 => forLoopS2 nx i1 i2 b n (i + 1) ρ2 S2
        | .ok .cnt ρ2 S2 => forLoopS2 nx i1 i2 b n (i + 1) ρ2 S2
        | .ok .brk ρ2 S2 => .ok .nx ρ2 S2
        | r => r
def sForS2 (im : IM) (i1 i2 : Nat) (b : SD) : SD := fun ρ S => (im ρ S).to ρ fun it S' => forLoopS2 it.nx i1 i2 b it.fu 0 ρ S'
section
variable {X : Cx} {W : WX} {tg iter : Expr} {body : List Stmt} {im : IM} {ms : SD} {pos tpos p0 p1 p2 sp : Pos} {x y z : Str} {i1 i2 k k2 : Nat}
end
end
end DL

set_option Elab.async false
set_option linter.all false
set_option maxRecDepth 100000
set_option maxHeartbeats 2000000
/-! DZ11: x, (y, *others) = e. -/
namespace DL
open PySem PySem.Spec PyProof.Rows L2
noncomputable section
def sAsgSt (i0 i1 i2 : Nat) (m : EM) : SD := fun ρ S => (m ρ S).to ρ fun d S' => match asgSt i0 i1 i2 d ρ S' with
  | some ρ' => .ok .nx ρ' S'
  | none => .stuck
section
variable {X : Cx} {W : WX} {e : Expr} {me : EM} {pos tpos p0 p1 p2 sp p3 : Pos} {x y z : Str} {i0 i1 i2 k k2 : Nat}
end
end
end DL

set_option Elab.async false
set_option linter.all false
set_option maxRecDepth 100000
set_option maxHeartbeats 2000000
/-! DZ12: except clauses with and without a name for the error. -/
namespace DL
open PySem PySem.Spec PyProof.Rows L2
def wKeep0 (K : PySem.W.Frag) (c : Value) (ts : TS) (Wout : WX) (D : Ends) : WX := fun cls d σ H =>
  ∃ b, PySem.W.exmOne K cls c = some b ∧ (b = true → ts D σ H) ∧ (b = false → Wout cls d σ H)
/-- what the clauses wish of an error of the body, one after the other -/
def wKeeps0 (K : PySem.W.Frag) (Wout : WX) (D : Ends) : List (Value × Option Nat × TS) → WX
  | [] => Wout
  | (c, some i, ts) :: r => wKeep K c i ts (wKeeps0 K Wout D r) D
  | (c, none, ts) :: r => wKeep0 K c ts (wKeeps0 K Wout D r) D
inductive HdsK0 (X : Cx) : List ExceptHandler → List (Value × Option Nat × TS) → Prop
  | nil : HdsK0 X [] []
  | cons {x n : Str} {c : Value} {i : Nat} {ts : TS} {b₀ : Stmt} {suite : List Stmt} {np pos' : Pos} {hds : List ExceptHandler} {l : List (Value × Option Nat × TS)} (hi : X.N[i]? = some n) (hln : X.env.kindOf n = some .local) (hc : Names X x c)
      (hsu : ∀ (a : Addr) (pn : List (Addr × Obj)), PSs (X.suite a pn) (b₀ :: suite) ts) (r : HdsK0 X hds l) :
      HdsK0 X (.ExceptHandler (some (.Name x np)) (some n) (b₀ :: suite) pos' :: hds) ((c, some i, ts) :: l)
  | cons0 {x : Str} {c : Value} {ts : TS} {b₀ : Stmt} {suite : List Stmt} {np pos' : Pos} {hds : List ExceptHandler} {l : List (Value × Option Nat × TS)} (hc : Names X x c)
      (hsu : ∀ (a : Addr) (pn : List (Addr × Obj)), PSs (X.suite a pn) (b₀ :: suite) ts) (r : HdsK0 X hds l) :
      HdsK0 X (.ExceptHandler (some (.Name x np)) none (b₀ :: suite) pos' :: hds) ((c, none, ts) :: l)
section
variable {X : Cx} {body : List Stmt} {h₀ : ExceptHandler} {hds : List ExceptHandler} {l : List (Value × Option Nat × TS)} {pos : Pos} {tb : WX → TS} {Wout : WX}
end
/-! ### as data -/
/-- a clause that gives the error no name -/
def sTryN (tbl : Str → Option Bool) (b h : SD) : SD := fun ρ S => match b ρ S with
  | .exc x ρ1 S1 => match tbl x.name with
    | some true => (match h ρ1 S1 with
      | .exc _ _ _ => .stuck
      | r => r)
    | some false => .exc x ρ1 S1
    | none => .stuck
  | r => r
abbrev TryL0 := List ((Str → Option Bool) × Option Nat × SD)
def sTries0 (b : SD) : TryL0 → SD
  | [] => b
  | (tbl, some i, h) :: r => sTries0 (sTryAs tbl i b h) r
  | (tbl, none, h) :: r => sTries0 (sTryN tbl b h) r
inductive HdsD0 (X : Cx) : List ExceptHandler → TryL0 → List (Value × Option Nat × TS) → Prop
  | nil : HdsD0 X [] [] []
  | cons {x n : Str} {c : Value} {i : Nat} {tbl : Str → Option Bool} {mh : SD} {b₀ : Stmt} {suite : List Stmt} {np pos' : Pos} {hds : List ExceptHandler} {l : TryL0} {l2 : List (Value × Option Nat × TS)} (hi : X.N[i]? = some n) (hln : X.env.kindOf n = some .local) (hc : Names X x c) (ht : TblX X.K c tbl)
      (hsu : ∀ (a : Addr) (pn : List (Addr × Obj)), DSs (X.suite a pn) WNo (b₀ :: suite) mh) (r : HdsD0 X hds l l2) :
      HdsD0 X (.ExceptHandler (some (.Name x np)) (some n) (b₀ :: suite) pos' :: hds) ((tbl, some i, mh) :: l) ((c, some i, tS X.K X.mg WNo mh) :: l2)
  | cons0 {x : Str} {c : Value} {tbl : Str → Option Bool} {mh : SD} {b₀ : Stmt} {suite : List Stmt} {np pos' : Pos} {hds : List ExceptHandler} {l : TryL0} {l2 : List (Value × Option Nat × TS)} (hc : Names X x c) (ht : TblX X.K c tbl)
      (hsu : ∀ (a : Addr) (pn : List (Addr × Obj)), DSs (X.suite a pn) WNo (b₀ :: suite) mh) (r : HdsD0 X hds l l2) :
      HdsD0 X (.ExceptHandler (some (.Name x np)) none (b₀ :: suite) pos' :: hds) ((tbl, none, mh) :: l) ((c, none, tS X.K X.mg WNo mh) :: l2)
theorem HdsD0.keeps {X : Cx} {hds : List ExceptHandler} {l : TryL0} {l2 : List (Value × Option Nat × TS)} (h : HdsD0 X hds l l2) : HdsK0 X hds l2 := by
  induction h with
  | nil => exact .nil
  | cons hi hln hc ht hsu r ih => exact .cons hi hln hc hsu ih
  | cons0 hc ht hsu r ih => exact .cons0 hc hsu ih
end DL

set_option Elab.async false
set_option linter.all false
set_option maxRecDepth 100000
set_option maxHeartbeats 2000000
/-! DZ13: a slice of a list as a list that is changed. -/
namespace DL
open PySem PySem.Spec PyProof.Rows L2
def oSlC (d : D) (lo hi : Option Int) : M D := fun S => match listOf S d with
  | some xs => .ok (.cell S.length) (S ++ [some (.lst (cutD xs lo hi))])
  | none => .stuck
end DL

set_option Elab.async false
set_option linter.all false
set_option maxRecDepth 100000
set_option maxHeartbeats 2000000
/-! DZ14: methods called with keywords, with defaults; objects made with keywords. -/
namespace DL
open PySem PySem.Spec PyProof.Rows L2
noncomputable section
def eMoK (C m : Str) (fm : FM) (ix : List Nat) (dd : List D) (mo : EM) (mr mk : AM) : EM := fun ρ => M.bind (mo ρ) fun o S => match o with
  | .cell n => match S[n]? with
    | some (some (.ins C' fs)) => if C' = C ∧ fs.lookup m = none then (mr ρ S).bind fun ds S1 => (mk ρ S1).bind fun es S2 => fm (byIxD ix dd (.cell n :: ds) es) S2 else .stuck
    | _ => .stuck
  | _ => .stuck
/-- what the text says of a method with defaults -/
structure MethDD (P : Program) (w : World) (K : PySem.W.Frag) (mg : Str → Option Value) (base : Heap) (k : Nat) (C m qual : Str) (st : Stmt) (ps : List Str) (dvs : List V) (kds : List (Str × V)) (fm : FM) : Prop where
  ex : ∃ (Ca f : Addr) (fd : FuncData), ClsK K C (.ref Ca) ∧ Cls K Ca ∧ Meth K Ca m f ∧ FnG P w K mg base k f fd ps fm ∧ L2.FunD K m qual (defArgs st) (defBody st) (defScope st) dvs kds f fd
structure MethAtD (K : PySem.W.Frag) (C m : Str) (qual : Str) (st : Stmt) (dvs : List V) (kds : List (Str × V)) : Prop where
  ex : ∃ (Ca f : Addr) (fd : FuncData), ClsK K C (.ref Ca) ∧ Cls K Ca ∧ Meth K Ca m f ∧ L2.FunD K m qual (defArgs st) (defBody st) (defScope st) dvs kds f fd
structure MakeDD (P : Program) (w : World) (K : PySem.W.Frag) (mg : Str → Option Value) (base : Heap) (k : Nat) (C qual : Str) (st : Stmt) (ps : List Str) (dvs : List V) (kds : List (Str × V)) (fm : FM) : Prop where
  ex : ∃ (Ca f : Addr) (fd : FuncData), mg C = some (.ref Ca) ∧ ClsK K C (.ref Ca) ∧ Mk K Ca f ∧ FnG P w K mg base k f fd ps fm ∧ L2.FunD K "__init__" qual (defArgs st) (defBody st) (defScope st) dvs kds f fd
structure MakeAtD (K : PySem.W.Frag) (mg : Str → Option Value) (C : Str) (qual : Str) (st : Stmt) (dvs : List V) (kds : List (Str × V)) : Prop where
  ex : ∃ (Ca f : Addr) (fd : FuncData), mg C = some (.ref Ca) ∧ ClsK K C (.ref Ca) ∧ Mk K Ca f ∧ L2.FunD K "__init__" qual (defArgs st) (defBody st) (defScope st) dvs kds f fd
section
variable {P : Program} {w : World} {K : PySem.W.Frag} {mg : Str → Option Value} {base : Heap} {k : Nat} {C x qual : Str} {st : Stmt} {N ps : List Str} {m : SD} {dvs : List V} {kds : List (Str × V)}
end
section
variable {K : PySem.W.Frag} {x qual : Str} {st : Stmt} {ps ks : List Str} {n : Nat} {ix : List Nat} {dvs : List V} {kds : List (Str × V)} {f : Addr} {fd : FuncData}
end
section
variable {X : Cx} {W : WX} {k j n : Nat} {C m qual : Str} {st : Stmt} {fm : FM} {o e : Expr} {es : List Expr} {kws : List Keyword} {mo : EM} {mr mk : AM} {pos apos p : Pos} {ps ks : List Str} {pl : Sem Bool} {ix : List Nat} {dvs zd : List V} {kds : List (Str × V)} {dd : List D}
end
/-! made -/
def eMkK (C : Str) (fm : FM) (ix : List Nat) (dd : List D) (mr mk : AM) : EM := fun ρ => M.bind (mr ρ) fun ds S => (mk ρ S).bind fun es S1 => (fm (byIxD ix dd (.cell S1.length :: ds) es) (S1 ++ [some (.ins C [])])).bind fun d S' => match d with
  | .non => .ok (.cell S1.length) S'
  | _ => .stuck
section
variable {X : Cx} {W : WX} {k j n : Nat} {C qual : Str} {st : Stmt} {fm : FM} {e : Expr} {es : List Expr} {kws : List Keyword} {mr mk : AM} {pos p : Pos} {ps ks : List Str} {ix : List Nat} {dvs zd : List V} {kds : List (Str × V)} {dd : List D}
end
end
end DL

set_option Elab.async false
set_option linter.all false
set_option maxRecDepth 100000
set_option maxHeartbeats 2000000
/-! DZ15: len(o), o == p by own __len__, __eq__. -/
namespace DL
open PySem PySem.Spec PyProof.Rows L2
noncomputable section
def rLenO (K : PySem.W.Frag) (mg : Str → Option Value) (fm : FM) (Ca : Addr) : List V → Hp → VK → Prop := fun vs H Q => ∃ a dx fs, vs = [.ref a] ∧ H a = some (.ins Ca dx fs) ∧ spM K mg fm [.ref a] H (fun v H' => ∃ i : Int, v = .int i ∧ 0 ≤ i ∧ i < 2 ^ 63 ∧ Q (.int i) H') fun _ _ _ => False
def fLenO (C : Str) (fm : FM) : List D → M D := fun ds S => match ds with
  | [.cell n] => (match S[n]? with
    | some (some (.ins C' _)) => if C' = C then (match fm [.cell n] S with
      | .ok (.int i) S' => if 0 ≤ i ∧ i < 2 ^ 63 then .ok (.int i) S' else .stuck
      | _ => .stuck) else .stuck
    | _ => .stuck)
  | _ => .stuck
section
variable {X : Cx} {W : WX} {k j : Nat} {C m : Str} {fm : FM} {Ca f : Addr} {fd : FuncData} {ps : List Str}
end
end
end DL

set_option Elab.async false
set_option linter.all false
set_option maxRecDepth 100000
set_option maxHeartbeats 4000000
/-! DZ16: zip(xs, ys, zs) without strict. Printed by mkdz16.py. -/
namespace DL
open PySem PySem.Spec PyProof.Rows L2
section
variable {prog : Program} {w : World} {A : Around} {E : Value → Shared → Prop} {s : Shared}
end
/-! ### made -/
abbrev z3pH1 (h : Heap) (l1 : Addr) : Heap := h.push { cls := .type "list_iterator", data := .fields #[.ref l1, .int 0 0] }
abbrev z3pH2 (h : Heap) (l1 l2 : Addr) : Heap := (z3pH1 h l1).push { cls := .type "list_iterator", data := .fields #[.ref l2, .int 0 0] }
abbrev z3pH3 (h : Heap) (l1 l2 l3 : Addr) : Heap := (z3pH2 h l1 l2).push { cls := .type "list_iterator", data := .fields #[.ref l3, .int 0 0] }
abbrev z3pH4 (h : Heap) (l1 l2 l3 : Addr) : Heap := (z3pH3 h l1 l2 l3).push { cls := .type "tuple", data := .seq #[.ref h.objs.size, .ref (z3pH1 h l1).objs.size, .ref (z3pH2 h l1 l2).objs.size] }
abbrev z3pH5 (h : Heap) (l1 l2 l3 : Addr) : Heap := (z3pH4 h l1 l2 l3).push { cls := .type "tuple", data := .seq #[.none, .none, .none] }
abbrev z3pH6 (h : Heap) (l1 l2 l3 : Addr) : Heap := (z3pH5 h l1 l2 l3).push { cls := .type "zip", data := .fields #[.none, .bool false, .bool false, .ref (z3pH3 h l1 l2 l3).objs.size, .ref (z3pH4 h l1 l2 l3).objs.size] }
section
variable {prog : Program} {w : World} {A : Around} {E : Value → Shared → Prop} {s : Shared}
end
def Itz3p (K : PySem.W.Frag) (a b c : Addr) : It :=
  ⟨fun i H => ∃ (xs ys us : List V) (x y u : V), SqL K H a xs ∧ SqL K H b ys ∧ SqL K H c us ∧ xs[i]? = some x ∧ ys[i]? = some y ∧ us[i]? = some u,
    fun i H v H' => ∃ T x y u, v = .ref T ∧ H T = none ∧ H' = upd H T (.tup [x, y, u]) ∧ (∀ xs, SqL K H a xs → xs[i]? = some x) ∧ (∀ ys, SqL K H b ys → ys[i]? = some y) ∧ ∀ us, SqL K H c us → us[i]? = some u,
    fun i H => ∃ xs ys us : List V, SqL K H a xs ∧ SqL K H b ys ∧ SqL K H c us ∧ (xs.length ≤ i ∨ ys.length ≤ i)⟩
def iZ3p (K : PySem.W.Frag) (ta : TA) : TI := fun σ H R => ta σ H fun vs H2 => ∃ a b c xs ys us, vs = [.ref a, .ref b, .ref c] ∧ SqL K H2 a xs ∧ SqL K H2 b ys ∧ SqL K H2 c us ∧ R (Itz3p K a b c) H2
/-! ### as data -/
def mItZ3p : List D → M ItD
  | [d, e, f] => fun S => match frozenL d, frozenL e, frozenL f with
    | some xs, some ys, some zs => if min xs.length ys.length ≤ zs.length then .ok (itL (zip3D xs ys zs)) S else .stuck
    | _, _, _ => .stuck
  | _ => fun _ => .stuck
end DL

set_option Elab.async false
set_option linter.all false
set_option maxRecDepth 100000
/-! DZ17: len(set(xs)) of ints. -/
namespace DL
open PySem PySem.Spec PyProof.Rows L2
noncomputable section
def rLS (K : PySem.W.Frag) : V → Hp → VK → Prop := fun v H Q => ∃ (l : Addr) (ns : List Int), v = .ref l ∧ SqL K H l (ns.map V.int) ∧ ns.length ≤ 4000 ∧ Q (.int ((PyProof.Rows.firstMet (fun i => ns.getD i 0) ns.length).length : Nat)) H
def mLenSet (d : D) : M D := fun S => match (listOf S d).bind intsOf with
  | some ns => if ns.length ≤ 4000 then .ok (.int ((PyProof.Rows.firstMet (fun i => ns.getD i 0) ns.length).length : Nat)) S else .stuck
  | none => .stuck
end
end DL

set_option Elab.async false
set_option linter.all false
set_option maxRecDepth 100000
/-! DZ18: sorted(xs) of ints. -/
namespace DL
open PySem PySem.Spec PyProof.Rows L2
noncomputable section
def sortI (ns : List Int) : List Int := ns.mergeSort fun a b => decide (a ≤ b)
def fSortI : List D → M D
  | [d] => fun S => match (listOf S d).bind intsOf with
    | some ns => .ok (.lst ((sortI ns).map .int)) S
    | none => .stuck
  | _ => fun _ => .stuck
end
end DL

set_option Elab.async false
set_option linter.all false
set_option maxRecDepth 100000
/-! DZ19: xs.pop(i). -/
namespace DL
open PySem PySem.Spec PyProof.Rows L2
noncomputable section
def mPopAt : D → List D → M D
  | .cell n, [.int i] => fun S => match S[n]? with
    | some (some (.lst xs)) => match xs[i.toNat]? with
      | some y => if 0 ≤ i ∧ i < 2 ^ 63 then .ok y (S.set n (some (.lst (xs.eraseIdx i.toNat)))) else .stuck
      | none => .stuck
    | _ => .stuck
  | _, _ => fun _ => .stuck
end
end DL

set_option Elab.async false
set_option linter.all false
set_option maxRecDepth 100000
/-! DZ20: xs.remove(i), a list of ints. -/
namespace DL
open PySem PySem.Spec PyProof.Rows L2
noncomputable section
def mRemI : D → List D → M D
  | .cell n, [.int k] => fun S => match S[n]? with
    | some (some (.lst xs)) => match intsOf xs with
      | some ns => match ns.findIdx? (· == k) with
        | some j => .ok .non (S.set n (some (.lst (xs.eraseIdx j))))
        | none => .stuck
      | none => .stuck
    | _ => .stuck
  | _, _ => fun _ => .stuck
end
end DL

set_option Elab.async false
set_option linter.all false
set_option maxRecDepth 100000
set_option maxHeartbeats 4000000
/-! DZ21: a name of a def's own that stands for one of two defs of the text (f = [g, h][i]), called -/
namespace DL
open PySem PySem.Spec PyProof.Rows L2
noncomputable section
/-- which of two defs the data names -/
def pick2 (x1 x2 : Str) (m1 m2 : FM) : D → Option FM
  | .cls n => if n = x1 then some m1 else if n = x2 then some m2 else none
  | _ => none
def eCl (x1 x2 : Str) (m1 m2 : FM) (mv : EM) (a : AM) : EM := fun ρ S => (mv ρ S).bind fun d S1 => match pick2 x1 x2 m1 m2 d with
  | some m => (a ρ S1).bind m
  | none => .stuck
def eClK (x1 x2 : Str) (m1 m2 : FM) (ix : List Nat) (mv : EM) (b : AM) : EM := fun ρ S => (mv ρ S).bind fun d S1 => match pick2 x1 x2 m1 m2 d with
  | some m => (b ρ S1).bind fun es => m (byIx ix [] es)
  | none => .stuck
section
variable {X : Cx} {W : WX} {j k1 k2 : Nat} {ps1 ps2 ks : List Str} {m1 m2 : FM} {x1 x2 y : Str} {st1 st2 : Stmt} {p pos : Pos} {e : Expr} {es : List Expr} {kws : List Keyword} {mv : EM} {mr mk : AM}
/-- the def of the text that a name stands for, as a thing -/
abbrev NmK (X : Cx) (x : Str) : Prop := ∃ C, X.mg x = some (.ref C) ∧ ClsK X.K x (.ref C)
end
/-! ### how these walk (Ok) stands in DQ3 -/
end
end DL

set_option Elab.async false
set_option linter.all false
set_option maxRecDepth 100000
set_option maxHeartbeats 4000000
/-! DZ22: an empty table == a list: False; list.index and sorted, xs.pop(i) as Ok rules stand in Pq1 -/
namespace PySem.SeqAt
open AutoSeq1 (wpAny_loadPart')
open MeetsSeq
section
variable {A : Around} {s : Shared}
end
end PySem.SeqAt
namespace DL
open PySem PySem.Spec PyProof.Rows L2
noncomputable section
/-- an empty table == a list -/
def rEqE (K : PySem.W.Frag) : R2 := fun x y H Q => ∃ a b xs, x = .ref a ∧ y = .ref b ∧ Rd H a (.dK []) ∧ SqL K H b xs ∧ Q (.bl false) H
def oEqE (d e : D) : M D := match d with
  | .dE => fun S => match listOf S e with
    | some _ => .ok (.bl false) S
    | none => .stuck
  | d => oEqDp d e
def rEqAE (K : PySem.W.Frag) : R2 := fun x y H Q => rEqA K x y H Q ∨ rEqE K x y H Q
end
end DL

set_option Elab.async false
set_option linter.all false
set_option maxRecDepth 100000
set_option maxHeartbeats 4000000
/-! DZ23: except (C1, C2) as n: the clause's classes a tuple -/
namespace DL
open PySem PySem.Spec PyProof.Rows L2
/-- what an except's expression comes to, and whether the error is of it -/
def HEv (X : Cx) (tt : Expr) (cs : List Value) : Prop := ∀ (a : Addr) (pn : List (Addr × Obj)) (σ : L2.St) (H : Hp) (s : Shared) (cls : Value) (b : Bool), Inv (X.suite a pn) [] σ H s → PySem.W.Looks (model X.prog X.w) s.heap (typeOf (.ref a)) cls → PySem.W.exmAny X.K cls cs = some b →
  ∀ {Q : Bool → Shared → Prop} {E E2 : Value → Shared → Prop}, (∀ h', (∀ q o, s.heap.get? q = some o → h'.get? q = some o) → Q b { s with heap := h' }) →
    wpAny (model X.prog X.w) (X.A.mark (some (.ref a))) (eval tt X.env) (fun c s₁ => wpAny (model X.prog X.w) (X.A.mark (some (.ref a))) (excMatches (.ref a) c) Q E2 s₁) E s
/-- what the clause wishes of an error of the body: slot i is n's; the error is kept -/
def wKeepT (K : PySem.W.Frag) (cs : List Value) (i : Nat) (ts : TS) (Wout : WX) (D : Ends) : WX := fun cls d σ H =>
  ∃ b, PySem.W.exmAny K cls cs = some b ∧ (b = true → ∀ a, H a = none → ts { nx := fun σ' H' => D.nx (σ'.set i none) H', rt := D.rt, bk := fun σ' H' => D.bk (σ'.set i none) H', ct := fun σ' H' => D.ct (σ'.set i none) H' } (σ.set i (some (.ref a))) (upd H a (ErO cls d a))) ∧
    (b = false → Wout cls d σ H)
def TblT (K : PySem.W.Frag) (cs : List Value) (tbl : Str → Option Bool) : Prop := ∀ n b, tbl n = some b → ∀ cls, ClsK K n cls → PySem.W.exmAny K cls cs = some b
def orT (t t' : Str → Option Bool) : Str → Option Bool := fun n => match t n, t' n with
  | some a, some b => some (a || b)
  | _, _ => none
def noT : Str → Option Bool := fun _ => some false
section
variable {X : Cx} {tt : Expr} {n : Str} {cs : List Value} {i : Nat} {body suite : List Stmt} {b₀ : Stmt} {pos pos' : Pos} {tb : WX → TS} {ts : TS} {Wout : WX}
end
section
variable {X : Cx} {W : WX} {tt : Expr} {n : Str} {cs : List Value} {i : Nat} {body suite : List Stmt} {b₀ : Stmt} {pos pos' : Pos} {mb mh : SD} {tbl : Str → Option Bool}
end
end DL

set_option Elab.async false
set_option linter.all false
set_option maxRecDepth 100000
/-! DZ24: sorted(xs) of pairs of ints. -/
namespace DL
open PySem PySem.Spec PyProof.Rows L2
noncomputable section
def ple (a b : Int × Int) : Bool := decide (a.1 < b.1) || (decide (a.1 = b.1) && decide (a.2 ≤ b.2))
def sortP (ps : List (Int × Int)) : List (Int × Int) := ps.mergeSort ple
def prD (p : Int × Int) : D := .tup [.int p.1, .int p.2]
def prsOf : List D → Option (List (Int × Int))
  | [] => some []
  | .tup [.int i, .int j] :: r => (prsOf r).map ((i, j) :: ·)
  | _ :: _ => none
/-- x is a pair that holds these two ints -/
def PairAt (K : PySem.W.Frag) (H : Hp) (x : V) (p : Int × Int) : Prop := ∃ t, x = .ref t ∧ SqT K H t [.int p.1, .int p.2]
/-- sorted(xs), xs pairs of ints: a new list of the same pairs, sorted -/
def rSortPD (K : PySem.W.Frag) : List V → Hp → VK → Prop := fun vs H Q => ∃ (a : Addr) (xs : List V) (ps : List (Int × Int)), vs = [V.ref a] ∧ SqL K H a xs ∧ xs.length = ps.length ∧ (∀ z ∈ xs.zip ps, PairAt K H z.1 z.2) ∧
  ∀ (zs : List (V × (Int × Int))) p, zs.Perm (xs.zip ps) → zs.map (·.2) = sortP ps → H p = none → Q (.ref p) (upd H p (.lst (zs.map (·.1))))
section
variable {X : Cx}
end
def fSortP : List D → M D
  | [d] => fun S => match (listOf S d).bind prsOf with
    | some ps => .ok (.lst ((sortP ps).map prD)) S
    | none => .stuck
  | _ => fun _ => .stuck
end
end DL

set_option Elab.async false
set_option linter.all false
set_option maxRecDepth 100000
/-! DZ25: x in xs, x and the items data of any depth. -/
namespace DL
open PySem PySem.Spec PyProof.Rows L2
noncomputable section
def inDp (S : Sto) (d e : D) : Option Bool := match topD S e with
  | .lst xs => if (topD S d).pl 60 && (D.lst xs).pl 60 then some ((D.pyL xs).any fun z => PyData.eqv z (topD S d).py) else none
  | _ => none
def oInD (d e : D) : M D := fun S => match inDp S d e with
  | some b => .ok (.bl b) S
  | none => .stuck
def oNotInD (d e : D) : M D := fun S => match inDp S d e with
  | some b => .ok (.bl (!b)) S
  | none => .stuck
end
end DL

set_option Elab.async false
set_option linter.all false
set_option maxRecDepth 100000
set_option maxHeartbeats 4000000
/-! DZ26: errors that are made and not raised: X(..) as a thing. -/
namespace DL
open PySem PySem.Spec PyProof.Rows L2
noncomputable section
/-! ### what is made is kept -/
def eErr0 (n : Str) (a : EM) : EM := fun ρ S => (a ρ S).bind fun _ S1 => .ok (.err n [] []) S1
def eErr1 (n f : Str) (a : AM) : EM := fun ρ S => (a ρ S).bind fun ds S1 => match ds with
  | [d] => .ok (.err n [f] [d]) S1
  | _ => .stuck
def eErr2 (n f g : Str) (a : AM) : EM := fun ρ S => (a ρ S).bind fun ds S1 => match ds with
  | [d, e] => .ok (.err n [g, f] [e, d]) S1
  | _ => .stuck
section
variable {X : Cx} {W : WX} {n f g : Str} {e : Expr} {es : List Expr} {ma : AM} {me : EM} {p pos pos2 : Pos} {j : Nat}
end
section
variable {B newId initId : String} {tl : List Value}
variable {X : Cx} {W : WX} {n f : Str} {e : Expr} {es : List Expr} {ma : AM} {p pos pos2 : Pos} {j : Nat}
end
end
end DL

set_option Elab.async false
set_option linter.all false
set_option maxRecDepth 100000
set_option maxHeartbeats 4000000
/-! DZ27 (printed by mkdz27.py): errors of own classes over KeyError, whose __new__ is another class's (after HandS' Exc and DX4). -/
namespace PySem
namespace HandSPX
open Builtin Builtin.ObjectAttr
/-- what __init__ of a built-in error wants -/
structure InitX (B initId : String) (bm : List Value) : Prop where
  hasB : bm.contains (.type B) = true
  init : Slot B "__init__" initId
  initEntry : entryFor table initId = some Builtin.«BaseException.__init__»
  initSplit : splitId initId = some (B, "__init__")
  initKind : builtinKind initId = some .slot
  initRow : Manifest.signature? initId = some ⟨.positional, "*", B, .self, [⟨"args", .varPos, false⟩]⟩
  noStar : (B != "*") = true
section
variable {M : Model} {A : Around} {E : Value → Shared → Prop} {h : Heap} {g : Array GenState} {d : Drawn} {t : Nat} {os : OsState}
variable {nm q : Str} {C N : Addr} {bs bm bmB : List Value} {hdct : Bool} {sn : List Str} {sub : List Value} {ab : Bool} {col : Option Bool} {dd : Option Addr} {k0 k1 k2 k3 k5 : Option Value} {B newId initId : String}
end
section
variable {prog : Program} {w : World} {A : Around} {E : Value → Shared → Prop} {R : Result → Shared → Prop} {h : Heap} {g : Array GenState} {d : Drawn} {t : Nat} {os : OsState}
variable {nm q : Str} {C N : Addr} {bs bm bmB : List Value} {hdct : Bool} {sn : List Str} {sub : List Value} {ab : Bool} {col : Option Bool} {dd : Option Addr} {k0 k1 k2 k3 k5 : Option Value} {B newId initId : String}
end
end HandSPX
end PySem
namespace DL
namespace KX
open PySem PySem.Spec PyProof.Rows L2
/-! ### a root of errors -/
structure RootR (B newId initId : String) (tl : List Value) : Prop where
  fn : ∃ BN iN bmN, ExcBaseFacts BN newId iN bmN ∧ tl.contains (.type BN) = true ∧ tl.contains (.type "AttributeError") = false ∧ tl.contains (.type "NameError") = false
  ix : PySem.HandSPX.InitX B initId tl
  st : StoreFacts B tl "object.__setattr__" "object"
  ty : typeOf (.type B) = pure (.type "type")
section
open PySem.W PySem.HandSPX Builtin Builtin.ObjectAttr
variable {prog : Program} {w : World} {A : Around} {R : Result → Shared → Prop} {h0 : Heap} {gs : Array GenState} {dr : Drawn} {tk0 : Nat} {os : OsState}
variable {B newId initId : String} {tl : List Value}
end
/-! ### a class over such a root -/
structure OexR (newId : String) (tl : List Value) (K : PySem.W.Frag) (C : Addr) : Prop where
  cls : ∃ nm q N bs sn sub ab col dd k0 k1 k2 k3 k5, K.lookup C = some (excClassObj nm q C N bs tl true sn sub ab col dd k0 k1 k2 k3 k5 newId)
  sa : PySem.W.findIn K (.ref C) "__setattr__" = some (some (.builtin "object.__setattr__"))
  exC : PySem.W.subIn K (.ref C) (.type "BaseException") = some true
  tyC : PySem.W.typeIn K (.ref C) = some (.type "type")
  kC : PySem.W.keepIn K (.ref C) = true
section
variable {B newId initId : String} {tl : List Value}
variable {X : Cx} {pins : List (Addr × Obj)} {σ : L2.St} {H : Hp} {s : Shared} {a C : Addr} {f : Str} {y : V} {u : Value} {Q : Unit → Shared → Prop} {E : Value → Shared → Prop} {A : Around}
end
/-! ### readings and rules -/
def tRtI (newId : String) (tl : List Value) (K : PySem.W.Frag) (ta : TA) : TE := fun σ H Q => ta σ H fun vs H1 => ∃ (a C : Addr) (ws : List V), vs = .ref a :: ws ∧ ws.length ≤ 1000 ∧ OexR newId tl K C ∧ H1 a = some (exo a C none) ∧ Q .non H1
def tRtO (newId : String) (tl : List Value) (K : PySem.W.Frag) (f : Str) (to te : TE) : TS := fun D σ H => te σ H fun y H1 => to σ H1 fun x H2 => ∃ a C : Addr, x = .ref a ∧ OexR newId tl K C ∧ PySem.W.findIn K (.ref C) f = some none ∧
  H2 a = some (exo a C none) ∧ ∀ dx, H2 dx = none → dx ≠ a → D.nx σ (upd (upd H2 dx (exd dx [(f, y)])) a (exo a C (some dx)))
section
variable {B newId initId : String} {tl : List Value}
variable {X : Cx} {o e : Expr} {es : List Expr} {to te : TE} {ta : TA} {f : Str} {p p' p1 p2 pos : Pos}
end
section
variable {P : Program} {w : World} {K : PySem.W.Frag} {mg : Str → Option Value} {base : Heap}
variable {B newId initId : String} {tl : List Value}
/-- what the text says of a class of errors over another root, with one thing kept -/
structure ErR (newId : String) (tl : List Value) (P : Program) (w : World) (K : PySem.W.Frag) (mg : Str → Option Value) (base : Heap) (n f : Str) : Prop where
  ex : ∃ (C fI : Addr) (fd : FuncData), mg n = some (.ref C) ∧ ClsK K n (.ref C) ∧ OexR newId tl K C ∧ PySem.W.findIn K (.ref C) "__init__" = some (some (.ref fI)) ∧ PySem.W.typeIn K (.ref fI) = some (.type "function") ∧
    FnOk P w K mg base (L2.CX P w) 1 fI fd ["self", f] (spI1 C f) ∧ Binds K fd ["self", f] []
end
section
variable {B newId initId : String} {tl : List Value}
variable {X : Cx} {W : WX} {n f : Str} {e : Expr} {es : List Expr} {ma : AM} {p pos pos2 : Pos} {j : Nat}
end
noncomputable section
section
variable {B newId initId : String} {tl : List Value}
variable {X : Cx} {W : WX} {n f : Str} {e : Expr} {es : List Expr} {ma : AM} {p pos pos2 : Pos} {j : Nat}
end
end
end KX
end DL

set_option Elab.async false
set_option linter.all false
set_option maxRecDepth 100000
/-! DZ28: <= of two texts. -/
namespace DL
open PySem PySem.Spec PyProof.Rows L2
noncomputable section
/-- x <= y, texts -/
def oLeS : D → D → M D
  | .str a, .str b => fun S => .ok (.bl (!decide (b.cps.toList < a.cps.toList))) S
  | _, _ => fun _ => .stuck
section
variable {S : Sto} {P : D → Sto → Prop} {a b : Str}
end
end
end DL

set_option Elab.async false
set_option linter.all false
set_option maxRecDepth 100000
/-! DZ29: C(k = v, ..): an object made by keywords alone. -/
namespace DL
open PySem PySem.Spec PyProof.Rows L2
noncomputable section
variable {X : Cx} {W : WX} {k j n : Nat} {C qual : Str} {st : Stmt} {fm : FM} {kws : List Keyword} {mk : AM} {pos p : Pos} {ps ks : List Str} {ix : List Nat} {dvs zd : List V} {kds : List (Str × V)} {dd : List D}
end
end DL

set_option Elab.async false
set_option linter.all false
set_option maxRecDepth 100000
/-! DZ30: *others, last = a tuple. -/
namespace DL
open PySem PySem.Spec PyProof.Rows L2
noncomputable section
section
variable {prog : Program} {w : World} {A : Around} {E : Value → Shared → Prop} {s : Shared}
end
/-- *x, y = a tuple -/
def gStarF (K : PySem.W.Frag) (i j : Nat) : TG := fun v σ H Q => ∃ a x xs, v = .ref a ∧ SqT K H a (xs ++ [x]) ∧ xs.length < 16000 ∧ ∀ p, H p = none → Q ((σ.set i (some (.ref p))).set j (some x)) (upd H p (.lst xs))
section
variable {X : Cx} {pos : Pos}
end
/-- the data -/
def sStarF (i j : Nat) (m : EM) : SD := fun ρ S => (m ρ S).to ρ fun d S' => match d with
  | .tup ds => match ds.getLast? with
    | some x => if ds.length < 16000 then .ok .nx ((ρ.set i (some (.lst ds.dropLast))).set j (some x)) S' else .stuck
    | none => .stuck
  | _ => .stuck
section
variable {X : Cx} {W : WX} {e : Expr} {me : EM} {pos tpos p1 p2 sp : Pos} {x y : Str} {i j k : Nat}
end
end
end DL

set_option Elab.async false
set_option linter.all false
set_option maxRecDepth 100000
/-! DZ31: first, *others = a list: the others a list of their own (a cell). -/
namespace DL
open PySem PySem.Spec PyProof.Rows L2
noncomputable section
def sStarC (i j : Nat) (m : EM) : SD := fun ρ S => (m ρ S).to ρ fun d S' => match listOf S' d with
  | some (x :: xs) => if xs.length < 16000 then .ok .nx ((ρ.set i (some x)).set j (some (.cell S'.length))) (S' ++ [some (.lst xs)]) else .stuck
  | _ => .stuck
section
variable {X : Cx} {W : WX} {e : Expr} {me : EM} {pos tpos p1 p2 sp : Pos} {x y : Str} {i j k : Nat}
theorem ds_starC (h : DE X W e me) (h1 : DG X (.Name x p1) (.nm i)) (h2 : DG X (.Name y p2) (.nm j)) (hc : X.calm = true)
    (he : assignEach [.Name x p1, .Starred (.Name y p2) sp] X.env = [(false, assign (.Name x p1) X.env), (true, assign (.Name y p2) X.env)] := by rfl)
    (hs0 : (assignEach [.Name x p1, .Name y p2] X.env).map (·.2) = [assign (.Name x p1) X.env, assign (.Name y p2) X.env] := by rfl)
    (hs1 : (assignEach [.Name x p1, .Name y p2] X.env).map (·.2) = assign (.Name x p1) X.env :: (assignEach [.Name y p2] X.env).map (·.2) := by rfl) (hs2 : (assignEach [.Name y p2] X.env).map (·.2) = assign (.Name y p2) X.env :: (assignEach [] X.env).map (·.2) := by rfl)
    (hs : swapsWithSole [.Tuple [.Name x p1, .Starred (.Name y p2) sp] k tpos] e pos.line X.env = pure false := by rfl) (hw : swappedStores [.Tuple [.Name x p1, .Starred (.Name y p2) sp] k tpos] e X.env = pure none := by rfl)
    (h3 : (assignEach [.Tuple [.Name x p1, .Starred (.Name y p2) sp] k tpos] X.env).map (·.2) = [assign (.Tuple [.Name x p1, .Starred (.Name y p2) sp] k tpos) X.env] := by rfl) :
    DS X W (.Assign [.Tuple [.Name x p1, .Starred (.Name y p2) sp] k tpos] e pos) (sStarC i j me) :=
  PS.le (ps_asg h (pg_star hc h1 h2 he hs0 hs1 hs2) hs hw h3) fun Dn σ H ⟨hd, as, ρ, S, rel, po⟩ => tE_to rel po fun as1 S1 H1 v d g rel1 r q => by
    cases e1 : listOf S1 d with
    | none => rw [e1] at q; exact q.elim
    | some zs =>
      rw [e1] at q
      cases zs with
      | nil => exact q.elim
      | cons z zs =>
        by_cases hz : zs.length < 16000
        · simp only [hz, if_true] at q
          obtain ⟨a, vs, rfl, hq, rr⟩ := seqL rel1.w r e1
          cases rr with
          | cons r0 r1 =>
            refine ⟨a, _, _, rfl, hq, by rw [r1.length]; exact hz, fun p hp => ?_⟩
            obtain ⟨w', g', ep⟩ := rel1.w.newCell hp r1
            refine q _ _ (upd H1 p (.lst _)) g' ⟨w', ?_⟩
            exact ((rel1.grow g' w').s.set (r0.grow g') i).set (.cell ep) j
        · simp only [hz, if_false] at q; exact q.elim
end
end
end DL

set_option Elab.async false
set_option linter.all false
set_option maxRecDepth 100000
/-! DP: what a mirror comes to, step by step (a wish behind each step). -/
namespace DL
open PySem PySem.Spec PyProof.Rows
noncomputable section
structure Ok {α : Type} (r : R α) (P : α → Sto → Prop) : Prop where
  out : match r with
    | .ok a S => P a S
    | _ => False
structure OkS (r : RS) (P : Flw → Env → Sto → Prop) : Prop where
  out : match r with
    | .ok f ρ S => P f ρ S
    | _ => False
theorem ok1 {α : Type} {a : α} {S : Sto} {P : α → Sto → Prop} (q : P a S) : Ok (.ok a S) P := ⟨q⟩
theorem okS1 {f : Flw} {ρ : Env} {S : Sto} {P : Flw → Env → Sto → Prop} (q : P f ρ S) : OkS (.ok f ρ S) P := ⟨q⟩
theorem Ok.bind {α β : Type} {r : R α} {f : α → M β} {P : β → Sto → Prop} (h : Ok r fun a S => Ok (f a S) P) : Ok (r.bind f) P := by
  cases r with
  | ok a S => exact h.out
  | exc x S => exact h.out.elim
  | stuck => exact h.out.elim
theorem Ok.to {α : Type} {r : R α} {ρ : Env} {k : α → Sto → RS} {P : Flw → Env → Sto → Prop} (h : Ok r fun a S => OkS (k a S) P) : OkS (r.to ρ k) P := by
  cases r with
  | ok a S => exact h.out
  | exc x S => exact h.out.elim
  | stuck => exact h.out.elim
theorem Ok.imp {α : Type} {r : R α} {P Q : α → Sto → Prop} (h : Ok r P) (k : ∀ a S, P a S → Q a S) : Ok r Q := by
  cases r with
  | ok a S => exact ⟨k a S h.out⟩
  | exc x S => exact h.out.elim
  | stuck => exact h.out.elim
theorem Ok.get {α : Type} {r : R α} {P : α → Sto → Prop} (h : Ok r P) : ∃ a S, r = .ok a S ∧ P a S := by
  cases r with
  | ok a S => exact ⟨a, S, rfl, h.out⟩
  | exc x S => exact h.out.elim
  | stuck => exact h.out.elim
theorem Ok.of {α : Type} {r : R α} {P : α → Sto → Prop} {a : α} {S : Sto} (e : r = .ok a S) (h : P a S) : Ok r P := by rw [e]; exact ⟨h⟩
theorem OkS.imp {r : RS} {P Q : Flw → Env → Sto → Prop} (h : OkS r P) (k : ∀ f ρ S, P f ρ S → Q f ρ S) : OkS r Q := by
  cases r with
  | ok f ρ S => exact ⟨k f ρ S h.out⟩
  | exc x ρ S => exact h.out.elim
  | stuck => exact h.out.elim
section
variable {ρ : Env} {S : Sto} {P : D → Sto → Prop} {PB : Bool → Sto → Prop} {PL : List D → Sto → Prop} {PS : Flw → Env → Sto → Prop}
theorem k_var {i : Nat} {d : D} (h : ρ[i]? = some (some d)) (q : P d S) : Ok (eVar i ρ S) P := by unfold eVar; rw [h]; exact ⟨q⟩
theorem k_c {d : D} (q : P d S) : Ok (eC d ρ S) P := ⟨q⟩
theorem k_e1 {f : D → M D} {a : EM} (h : Ok (a ρ S) fun x S1 => Ok (f x S1) P) : Ok (e1 f a ρ S) P := Ok.bind h
theorem k_e2 {f : D → D → M D} {a b : EM} (h : Ok (a ρ S) fun x S1 => Ok (b ρ S1) fun y S2 => Ok (f x y S2) P) : Ok (e2 f a b ρ S) P := Ok.bind (h.imp fun _ _ q => Ok.bind q)
theorem k_nil (q : PL [] S) : Ok (aNil ρ S) PL := ⟨q⟩
theorem k_cons {a : EM} {r : AM} (h : Ok (a ρ S) fun x S1 => Ok (r ρ S1) fun xs S2 => PL (x :: xs) S2) : Ok (aCons a r ρ S) PL := Ok.bind (h.imp fun _ _ q => Ok.bind (q.imp fun _ _ z => ok1 z))
theorem k_L {f : List D → M D} {a : AM} (h : Ok (a ρ S) fun xs S1 => Ok (f xs S1) P) : Ok (eL f a ρ S) P := Ok.bind h
theorem k_K {m : FM} {g : List D → List D → List D} {a b : AM} (h : Ok (a ρ S) fun xs S1 => Ok (b ρ S1) fun ys S2 => Ok (m (g xs ys) S2) P) : Ok (eK m g a b ρ S) P := Ok.bind (h.imp fun _ _ q => Ok.bind q)
theorem k_Mt {chk : D → Sto → Bool} {f : D → List D → M D} {o : EM} {a : AM} (h : Ok (o ρ S) fun x S1 => chk x S1 = true ∧ Ok (a ρ S1) fun xs S2 => Ok (f x xs S2) P) : Ok (eMt chk f o a ρ S) P := Ok.bind (h.imp fun _ _ q => by rw [if_pos q.1]; exact Ok.bind q.2)
theorem k_tup {xs : List D} (hz : xs.length ≤ sizeLine) (q : P (.tup xs) S) : Ok (mTup xs S) P := by unfold mTup; rw [if_pos hz]; exact ⟨q⟩
theorem k_lst {xs : List D} (hz : xs.length ≤ sizeLine) (q : P (.lst xs) S) : Ok (mLst xs S) P := by unfold mLst; rw [if_pos hz]; exact ⟨q⟩
theorem k_cell {xs : List D} (hz : xs.length ≤ sizeLine) (q : P (.cell S.length) (S ++ [some (.lst xs)])) : Ok (mCell xs S) P := by unfold mCell; rw [if_pos hz]; exact ⟨q⟩
theorem k_bVal {a : EM} (h : Ok (a ρ S) fun x S1 => Ok (mBool x S1) PB) : Ok (bVal a ρ S) PB := Ok.bind h
theorem k_mBool {b : Bool} (q : PB b S) : Ok (mBool (.bl b) S) PB := ⟨q⟩
theorem k_bNot {a : BM} (h : Ok (a ρ S) fun b S1 => PB (!b) S1) : Ok (bNot a ρ S) PB := Ok.bind (h.imp fun _ _ q => ok1 q)
theorem k_bAnd {a b : BM} (h : Ok (a ρ S) fun x S1 => if x = true then Ok (b ρ S1) PB else PB false S1) : Ok (bAnd a b ρ S) PB := Ok.bind (h.imp fun x S1 q => by cases x <;> first | exact ok1 q | exact q)
theorem k_bOr {a b : BM} (h : Ok (a ρ S) fun x S1 => if x = true then PB true S1 else Ok (b ρ S1) PB) : Ok (bOr a b ρ S) PB := Ok.bind (h.imp fun x S1 q => by cases x <;> first | exact ok1 q | exact q)
theorem k_eAnd {a b : EM} (h : Ok (a ρ S) fun d S1 => Ok (mBool d S1) fun x S2 => if x = true then Ok (b ρ S2) P else P (.bl false) S2) : Ok (eAnd a b ρ S) P := Ok.bind (h.imp fun d S1 q => Ok.bind (q.imp fun x S2 q => by cases x <;> first | exact ok1 q | exact q))
theorem k_eOr {a b : EM} (h : Ok (a ρ S) fun d S1 => Ok (mBool d S1) fun x S2 => if x = true then P (.bl true) S2 else Ok (b ρ S2) P) : Ok (eOr a b ρ S) P := Ok.bind (h.imp fun d S1 q => Ok.bind (q.imp fun x S2 q => by cases x <;> first | exact ok1 q | exact q))
theorem k_eNot {a : EM} (h : Ok (a ρ S) fun d S1 => Ok (mBool d S1) fun x S2 => P (.bl (!x)) S2) : Ok (eNot a ρ S) P := Ok.bind (h.imp fun d S1 q => Ok.bind (q.imp fun x S2 q => ok1 q))
theorem k_eIf {c : BM} {a b : EM} (h : Ok (c ρ S) fun x S1 => if x = true then Ok (a ρ S1) P else Ok (b ρ S1) P) : Ok (eIf c a b ρ S) P := Ok.bind (h.imp fun x S1 q => by cases x <;> exact q)
theorem k_chain {f g : D → D → M D} {a b c : EM} (h : Ok (a ρ S) fun x S1 => Ok (b ρ S1) fun y S2 => Ok (f x y S2) fun z S3 => Ok (mBool z S3) fun k S4 => if k = true then Ok (c ρ S4) fun w S5 => Ok (g y w S5) P else P (.bl false) S4) : Ok (eChain f g a b c ρ S) P :=
  Ok.bind (h.imp fun x S1 q => Ok.bind (q.imp fun y S2 q => Ok.bind (q.imp fun z S3 q => Ok.bind (q.imp fun k S4 q => by
    cases k with
    | true => exact Ok.bind q
    | false => exact ok1 q))))
theorem k_oNone {PO : Option Int → Sto → Prop} (q : PO none S) : Ok (oNone ρ S) PO := ⟨q⟩
theorem k_oSome {PO : Option Int → Sto → Prop} {a : EM} (h : Ok (a ρ S) fun d S1 => ∃ i, d = .int i ∧ PO (some i) S1) : Ok (oSome a ρ S) PO := Ok.bind (h.imp fun d S1 ⟨i, e, q⟩ => by subst e; exact ⟨q⟩)
theorem k_Sl {f : D → Option Int → Option Int → M D} {a : EM} {l u : OM} (h : Ok (a ρ S) fun x S1 => Ok (l ρ S1) fun i S2 => Ok (u ρ S2) fun j S3 => Ok (f x i j S3) P) : Ok (eSl f a l u ρ S) P := Ok.bind (h.imp fun x S1 q => Ok.bind (q.imp fun i S2 q => Ok.bind q))
theorem k_frzC {n : Nat} {xs : List D} (h : S[n]? = some (some (.lst xs))) (q : P (.lst xs) (S.set n none)) : Ok (mFrz (.cell n) S) P := by unfold mFrz; dsimp only; rw [h]; exact ⟨q⟩
/-! statements -/
theorem k_seq {a b : SD} (h : OkS (a ρ S) fun f ρ1 S1 => match f with
  | .nx => OkS (b ρ1 S1) PS
  | f => PS f ρ1 S1) : OkS (sSeq a b ρ S) PS := by
  unfold sSeq
  cases e : a ρ S with
  | exc x ρ1 S1 => rw [e] at h; exact h.out.elim
  | stuck => rw [e] at h; exact h.out.elim
  | ok f ρ1 S1 => rw [e] at h; cases f <;> first | exact h.out | exact ⟨h.out⟩
theorem k_nx (q : PS .nx ρ S) : OkS (sNx ρ S) PS := ⟨q⟩
theorem k_brk (q : PS .brk ρ S) : OkS (sBrk ρ S) PS := ⟨q⟩
theorem k_cnt (q : PS .cnt ρ S) : OkS (sCnt ρ S) PS := ⟨q⟩
theorem k_ret {m : EM} (h : Ok (m ρ S) fun d S1 => PS (.ret d) ρ S1) : OkS (sRet m ρ S) PS := Ok.to (h.imp fun _ _ => okS1)
theorem k_retN (q : PS (.ret .non) ρ S) : OkS (sRetN ρ S) PS := ⟨q⟩
theorem k_set {i : Nat} {m : EM} (h : Ok (m ρ S) fun d S1 => PS .nx (ρ.set i (some d)) S1) : OkS (sSet i m ρ S) PS := Ok.to (h.imp fun _ _ => okS1)
theorem k_expr {m : EM} (h : Ok (m ρ S) fun d S1 => PS .nx ρ S1) : OkS (sExpr m ρ S) PS := Ok.to (h.imp fun _ _ => okS1)
theorem k_if {c : BM} {a b : SD} (h : Ok (c ρ S) fun k S1 => if k = true then OkS (a ρ S1) PS else OkS (b ρ S1) PS) : OkS (sIf c a b ρ S) PS := Ok.to (h.imp fun k S1 q => by cases k <;> exact q)
theorem k_par {i j : Nat} {m : AM} (h : Ok (m ρ S) fun ds S1 => ∃ x y, ds = [x, y] ∧ PS .nx ((ρ.set i (some x)).set j (some y)) S1) : OkS (sPar i j m ρ S) PS := Ok.to (h.imp fun ds S1 ⟨x, y, e, q⟩ => by subst e; exact ⟨q⟩)
theorem k_asg {T : Tg} {m : EM} (h : Ok (m ρ S) fun d S1 => ∃ ρ1, asg T d ρ = some ρ1 ∧ PS .nx ρ1 S1) : OkS (sAsg T m ρ S) PS := Ok.to (h.imp fun d S1 ⟨ρ1, e, q⟩ => by rw [e]; exact ⟨q⟩)
theorem k_star {i j : Nat} {m : EM} (h : Ok (m ρ S) fun d S1 => ∃ x xs, DL.listOf S1 d = some (x :: xs) ∧ xs.length < 16000 ∧ PS .nx ((ρ.set i (some x)).set j (some (.lst xs))) S1) : OkS (sStar i j m ρ S) PS := Ok.to (h.imp fun d S1 ⟨x, xs, e, hz, q⟩ => by rw [e]; dsimp only; rw [if_pos hz]; exact ⟨q⟩)
theorem k_sub {f : D → D → D → Sto → Option Sto} {o i m : EM} (h : Ok (m ρ S) fun v S1 => Ok (o ρ S1) fun x S2 => Ok (i ρ S2) fun k S3 => ∃ S4, f x k v S3 = some S4 ∧ PS .nx ρ S4) : OkS (sSub f o i m ρ S) PS :=
  Ok.to (h.imp fun v S1 q => Ok.to (q.imp fun x S2 q => Ok.to (q.imp fun k S3 ⟨S4, e, q⟩ => by rw [e]; exact ⟨q⟩)))
/-- a def's call, from its body -/
theorem k_fn {n np : Nat} {m : SD} {ds : List D} (hn : ds.length = np) (h : OkS (m (ds.map some ++ List.replicate (n - np) none) S) fun f ρ' S' => match f with
  | .nx => P .non (trim S .non S')
  | .ret d => P d (trim S d S')
  | _ => False) : Ok (runFn n np m ds S) P := by
  unfold runFn
  rw [if_pos hn, hn]
  cases e : m (ds.map some ++ List.replicate (n - np) none) S with
  | exc x ρ1 S1 => rw [e] at h; exact h.out.elim
  | stuck => rw [e] at h; exact h.out.elim
  | ok f ρ1 S1 => rw [e] at h; cases f <;> first | exact ⟨h.out⟩ | exact h.out.elim
/-! loops over a fixed list -/
theorem k_forL {T : Tg} {b : SD} {xs : List D} (I : Nat → Env → Sto → Prop) (h0 : I 0 ρ S)
    (hs : ∀ i ρ S d, xs[i]? = some d → I i ρ S → ∃ ρ', asg T d ρ = some ρ' ∧ OkS (b ρ' S) fun f ρ2 S2 => match f with
      | .nx => I (i + 1) ρ2 S2
      | .cnt => I (i + 1) ρ2 S2
      | .brk => PS .nx ρ2 S2
      | .ret d => PS (.ret d) ρ2 S2)
    (hd : ∀ ρ S, I xs.length ρ S → PS .nx ρ S) : OkS (forLoop (itL xs).nx T b (itL xs).fu 0 ρ S) PS := by
  have go : ∀ (k i : Nat) (ρ : Env) (S : Sto), k + i = xs.length + 1 → i ≤ xs.length → I i ρ S → OkS (forLoop (itL xs).nx T b k i ρ S) PS := by
    intro k
    induction k with
    | zero => intro i ρ S e l _; omega
    | succ k ih =>
      intro i ρ S e l hI
      unfold forLoop
      show OkS (match some xs[i]? with
        | none => _
        | some none => _
        | some (some d) => _) PS
      by_cases hi : i < xs.length
      · obtain ⟨ρ', ea, hb⟩ := hs i ρ S xs[i] (List.getElem?_eq_getElem hi) hI
        rw [List.getElem?_eq_getElem hi]
        dsimp only
        rw [ea]
        dsimp only
        cases eb : b ρ' S with
        | exc x ρ1 S1 => rw [eb] at hb; exact hb.out.elim
        | stuck => rw [eb] at hb; exact hb.out.elim
        | ok f ρ1 S1 =>
          rw [eb] at hb
          cases f with
          | nx => exact ih (i + 1) ρ1 S1 (by omega) hi hb.out
          | cnt => exact ih (i + 1) ρ1 S1 (by omega) hi hb.out
          | brk => exact ⟨hb.out⟩
          | ret d => exact ⟨hb.out⟩
      · have : i = xs.length := by omega
        subst this
        rw [List.getElem?_eq_none (Nat.le_refl _)]
        exact ⟨hd ρ S hI⟩
  exact go (xs.length + 1) 0 ρ S (by omega) (Nat.zero_le _) h0
theorem k_for {im : IM} {T : Tg} {b : SD} (h : Ok (im ρ S) fun it S1 => OkS (forLoop it.nx T b it.fu 0 ρ S1) PS) : OkS (sFor im T b ρ S) PS := Ok.to h
/-! comprehensions over a fixed list -/
theorem k_lcL {T : Tg} {c : BM} {e : EM} {xs : List D} {ρw : Env} (I : Nat → List D → Sto → Prop) (h0 : I 0 [] S)
    (hs : ∀ i acc S d, xs[i]? = some d → I i acc S → ∃ ρ', asg T d ρw = some ρ' ∧ Ok (c ρ' S) fun k S1 => if k = true then Ok (e ρ' S1) fun y S2 => acc.length < sizeLine ∧ I (i + 1) (acc ++ [y]) S2 else I (i + 1) acc S1)
    (hd : ∀ acc S, I xs.length acc S → PL acc S) : Ok (lcLoop (itL xs).nx T c e ρw (itL xs).fu 0 [] S) PL := by
  have go : ∀ (k i : Nat) (acc : List D) (S : Sto), k + i = xs.length + 1 → i ≤ xs.length → I i acc S → Ok (lcLoop (itL xs).nx T c e ρw k i acc S) PL := by
    intro k
    induction k with
    | zero => intro i acc S e l _; omega
    | succ k ih =>
      intro i acc S el l hI
      unfold lcLoop
      show Ok (match some xs[i]? with
        | none => _
        | some none => _
        | some (some d) => _) PL
      by_cases hi : i < xs.length
      · obtain ⟨ρ', ea, hb⟩ := hs i acc S xs[i] (List.getElem?_eq_getElem hi) hI
        rw [List.getElem?_eq_getElem hi]
        dsimp only
        rw [ea]
        dsimp only
        refine Ok.bind (hb.imp fun k S1 q => ?_)
        cases k with
        | false => exact ih (i + 1) acc S1 (by omega) hi q
        | true => exact Ok.bind (q.imp fun y S2 q2 => by rw [if_pos q2.1]; exact ih (i + 1) _ S2 (by omega) hi q2.2)
      · have : i = xs.length := by omega
        subst this
        rw [List.getElem?_eq_none (Nat.le_refl _)]
        exact ⟨hd acc S hI⟩
  exact go (xs.length + 1) 0 [] S (by omega) (Nat.zero_le _) h0
theorem noX_ok {α : Type} {r : R α} {Q : α → Sto → Prop} (h : Ok r Q) : Ok (noX r) Q := by
  cases r with
  | ok a S => exact h
  | exc x S => exact h.out.elim
  | stuck => exact h.out.elim
theorem k_lc {im : IM} {T : Tg} {c : BM} {e : EM} {vs : List Nat} (h : Ok (im ρ S) fun it S1 => Ok (lcLoop it.nx T c e (wipeD ρ vs) it.fu 0 [] S1) fun xs S2 => P (.lst xs) S2) : Ok (eLc im T c e vs ρ S) P := Ok.bind (h.imp fun it S1 q => Ok.bind ((noX_ok q).imp fun _ _ => ok1))
theorem k_lcC {im : IM} {T : Tg} {c : BM} {e : EM} {vs : List Nat} (h : Ok (im ρ S) fun it S1 => Ok (lcLoop it.nx T c e (wipeD ρ vs) it.fu 0 [] S1) fun xs S2 => P (.cell S2.length) (S2 ++ [some (.lst xs)])) : Ok (eLcC im T c e vs ρ S) P := Ok.bind (h.imp fun it S1 q => Ok.bind ((noX_ok q).imp fun _ _ => ok1))
theorem k_imOf {PI : ItD → Sto → Prop} {f : D → M ItD} {m : EM} (h : Ok (m ρ S) fun d S1 => Ok (f d S1) PI) : Ok (imOf f m ρ S) PI := Ok.bind h
theorem k_imOfA {PI : ItD → Sto → Prop} {f : List D → M ItD} {m : AM} (h : Ok (m ρ S) fun d S1 => Ok (f d S1) PI) : Ok (imOfA f m ρ S) PI := Ok.bind h
theorem k_yes (q : PB true S) : Ok (bYes ρ S) PB := ⟨q⟩
end
/-! operations -/
section
variable {S : Sto} {P : D → Sto → Prop} {i j : Int} {a b : Bool} {x y : Str} {xs ys : List D}
theorem o_add (q : P (.int (i + j)) S) : Ok (oAdd (.int i) (.int j) S) P := ⟨q⟩
theorem o_sub (q : P (.int (i - j)) S) : Ok (oSub (.int i) (.int j) S) P := ⟨q⟩
theorem o_mul (h : IntMulOk i j) (q : P (.int (i * j)) S) : Ok (oMul (.int i) (.int j) S) P := by
  unfold oMul
  dsimp only
  rw [if_pos h]; exact ⟨q⟩
theorem o_fdiv (h : j ≠ 0) (h2 : j.natAbs.log2 < 9000) (q : P (.int (i.fdiv j)) S) : Ok (oFdiv (.int i) (.int j) S) P := by
  show Ok (opI _ _ _ _ S) P
  unfold opI
  dsimp only
  rw [if_pos (show CDivA i j from ⟨h, h2⟩)]; exact ⟨q⟩
theorem o_mod (h : j ≠ 0) (q : P (.int (i.fmod j)) S) : Ok (oMod (.int i) (.int j) S) P := by
  show Ok (opI _ _ _ _ S) P
  unfold opI
  dsimp only
  rw [if_pos h]; exact ⟨q⟩
theorem o_pow (h : L2.CPow i j) (q : P (.int (i ^ j.toNat)) S) : Ok (oPow (.int i) (.int j) S) P := by
  show Ok (opI _ _ _ _ S) P
  unfold opI
  dsimp only
  rw [if_pos h]; exact ⟨q⟩
theorem o_lt (q : P (.bl (decide (i < j))) S) : Ok (oLt (.int i) (.int j) S) P := ⟨q⟩
theorem o_le (q : P (.bl (decide (i ≤ j))) S) : Ok (oLe (.int i) (.int j) S) P := ⟨q⟩
theorem o_gt (q : P (.bl (decide (j < i))) S) : Ok (oGt (.int i) (.int j) S) P := ⟨q⟩
theorem o_ge (q : P (.bl (decide (j ≤ i))) S) : Ok (oGe (.int i) (.int j) S) P := ⟨q⟩
theorem o_neg (q : P (.int (-i)) S) : Ok (oNeg (.int i) S) P := ⟨q⟩
theorem o_addL (hz : xs.length + ys.length ≤ sizeLine) (q : P (.lst (xs ++ ys)) S) : Ok (oAdd (.lst xs) (.lst ys) S) P := by
  show Ok (oCat (.lst xs) (.lst ys) S) P
  unfold oCat
  show Ok (if xs.length + ys.length ≤ sizeLine then _ else _) P
  rw [if_pos hz]; exact ⟨q⟩
theorem o_eqI (q : P (.bl (decide (i = j))) S) : Ok (oEq (.int i) (.int j) S) P := by
  have e : PyData.eqv (D.int i).py (D.int j).py = decide (i = j) := by simp [D.py, PyData.eqv]; rfl
  first | unfold oEq | unfold oNe
  simp only [topD, eqD, D.pl, Bool.and_self, if_true, e]
  exact ⟨q⟩
theorem o_neI (q : P (.bl (!decide (i = j))) S) : Ok (oNe (.int i) (.int j) S) P := by
  have e : PyData.eqv (D.int i).py (D.int j).py = decide (i = j) := by simp [D.py, PyData.eqv]; rfl
  first | unfold oEq | unfold oNe
  simp only [topD, eqD, D.pl, Bool.and_self, if_true, e]
  exact ⟨q⟩
theorem o_eqS (q : P (.bl (decide (x = y))) S) : Ok (oEq (.str x) (.str y) S) P := ⟨q⟩
theorem o_neS (q : P (.bl (!decide (x = y))) S) : Ok (oNe (.str x) (.str y) S) P := ⟨q⟩
theorem o_eqB (q : P (.bl (decide (a = b))) S) : Ok (oEq (.bl a) (.bl b) S) P := by
  have e : PyData.eqv (D.bl a).py (D.bl b).py = decide (a = b) := by cases a <;> cases b <;> simp [D.py, PyData.eqv]
  first | unfold oEq | unfold oNe
  simp only [topD, eqD, D.pl, Bool.and_self, if_true, e]
  exact ⟨q⟩
theorem o_ix {d v : D} (h : (seqOf S d).bind (fun xs => L2.atI xs i) = some v) (q : P v S) : Ok (oIx d (.int i) S) P := by
  cases d <;> first
    | (simp [seqOf, listOf] at h; done)
    | (show Ok (match (seqOf S _).bind (fun xs => L2.atI xs i) with
        | some x => _
        | none => _) P
       rw [h]; exact ⟨q⟩)
theorem o_lenL {d : D} (h : seqOf S d = some xs) (q : P (.int xs.length) S) : Ok (fLen [d] S) P := by
  cases d <;> first
    | (simp [seqOf, listOf] at h; done)
    | (simp only [fLen, h]; exact ⟨q⟩)
theorem o_abs (q : P (.int i.natAbs) S) : Ok (fAbs [.int i] S) P := by
  refine ⟨?_⟩
  show P (.int (if i < 0 then -i else i)) S
  have : (if i < 0 then -i else i) = (i.natAbs : Int) := by split <;> omega
  rw [this]; exact q
theorem o_max2 (q : P (.int (max i j)) S) : Ok (fMax2 [.int i, .int j] S) P := by
  refine ⟨?_⟩
  show P (.int (if j > i then j else i)) S
  have : (if j > i then j else i) = max i j := by split <;> omega
  rw [this]; exact q
theorem o_min2 (q : P (.int (min i j)) S) : Ok (fMin2 [.int i, .int j] S) P := by
  refine ⟨?_⟩
  show P (.int (if j < i then j else i)) S
  have : (if j < i then j else i) = min i j := by split <;> omega
  rw [this]; exact q
theorem o_intB (q : P (.int (if a then 1 else 0)) S) : Ok (fInt [.bl a] S) P := ⟨q⟩
theorem o_intI (q : P (.int i) S) : Ok (fInt [.int i] S) P := ⟨q⟩
theorem o_sl {d : D} {lo hi : Option Int} (h : listOf S d = some xs) (q : P (.lst (cutD xs lo hi)) S) : Ok (oSl d lo hi S) P := by
  cases d <;> first
    | (simp [seqOf, listOf] at h; done)
    | (simp only [oSl, oSlL, h]; exact ⟨q⟩)
theorem o_app {n : Nat} {d : D} (h : S[n]? = some (some (.lst xs))) (hz : xs.length < sizeLine) (q : P .non (S.set n (some (.lst (xs ++ [d]))))) : Ok (mAppend (.cell n) [d] S) P := by
  unfold mAppend
  dsimp only
  rw [h]
  dsimp only
  rw [if_pos hz]; exact ⟨q⟩
theorem o_repL (h : IntMulOk 0 0 ∨ True) (h1 : -(2 ^ 63) ≤ i) (h2 : i < 2 ^ 63) (hz : xs.length * i.toNat ≤ sizeLine) (q : P (.lst (List.replicate i.toNat xs).flatten) S) : Ok (oMul (.lst xs) (.int i) S) P := by
  unfold oMul
  show Ok (if -(2 ^ 63) ≤ i ∧ i < 2 ^ 63 ∧ xs.length * i.toNat ≤ sizeLine then _ else _) P
  rw [if_pos ⟨h1, h2, hz⟩]; exact ⟨q⟩
theorem o_isi {d : D} {c k : String} {r : Bool} (h : kindD S d = some k) (e : L2.kitB k c = some r) (q : P (.bl r) S) : Ok (fIsi [d, .ty c] S) P := by
  unfold fIsi
  dsimp only
  rw [h]
  dsimp only
  rw [e]; exact ⟨q⟩
theorem o_all {d : D} {bs : List Bool} (h : (listOf S d).bind blsOf = some bs) (q : P (.bl (bs.all id)) S) : Ok (fAll [d] S) P := by
  unfold fAll
  dsimp only
  rw [h]; exact ⟨q⟩
theorem o_sum {d : D} {ns : List Int} (h : (listOf S d).bind intsOf = some ns) (q : P (.int ns.sum) S) : Ok (fSum [d] S) P := by
  unfold fSum
  dsimp only
  rw [h]; exact ⟨q⟩
end
/-! what is walked -/
section
variable {S : Sto} {PI : ItD → Sto → Prop} {i j : Int} {xs ys : List D}
theorem i_list (q : PI (itL xs) S) : Ok (mItL (.lst xs) S) PI := ⟨q⟩
theorem i_ro (q : PI (itL xs) S) : Ok (mItL (.ro xs) S) PI := ⟨q⟩
theorem i_rng1 (h1 : -(2 ^ 62) ≤ j) (h2 : j < 2 ^ 62) (q : PI (itL ((List.range j.toNat).map fun i : Nat => D.int i)) S) : Ok (mItR1 [.int j] S) PI := by
  unfold mItR1
  dsimp only
  rw [if_pos ⟨h1, h2⟩]; exact ⟨q⟩
theorem i_enum (q : PI (itL (enumD xs)) S) : Ok (mItE [.lst xs] S) PI := ⟨q⟩
end
end
end DL

set_option Elab.async false
set_option linter.all false
set_option maxRecDepth 100000
/-! DM: plain mathematics: sizes, fractions in lowest terms. -/
namespace DL
open PySem PySem.Spec PyProof.Rows
noncomputable section
/-! ### sizes -/
/-- below 2 ^ k in size -/
def Sz (k : Nat) (i : Int) : Prop := i.natAbs < 2 ^ k
theorem Sz.mono {k l : Nat} {i : Int} (h : Sz k i) (hl : k ≤ l) : Sz l i := Nat.lt_of_lt_of_le h (Nat.pow_le_pow_right (by decide) hl)
theorem Sz.mul {k l : Nat} {i j : Int} (h : Sz k i) (g : Sz l j) : Sz (k + l) (i * j) := by
  unfold Sz at *
  rw [Int.natAbs_mul, Nat.pow_add]
  exact Nat.mul_lt_mul'' h g
theorem Sz.neg {k : Nat} {i : Int} (h : Sz k i) : Sz k (-i) := by unfold Sz at *; omega
theorem Sz.log {k : Nat} {i : Int} (h : Sz k i) (hk : 0 < k) : i.natAbs.log2 < k := by
  by_cases h0 : i.natAbs = 0
  · rw [h0]; simpa using hk
  · exact (Nat.log2_lt h0).mpr h
theorem Sz.bits {k : Nat} {i : Int} (h : Sz k i) (hk : 0 < k) : Builtin.Int.intBits i ≤ k := by
  unfold Builtin.Int.intBits
  have := h.log hk
  first
    | omega
    | (split <;> omega)
theorem Sz.mulOk {k l : Nat} {i j : Int} (h : Sz k i) (g : Sz l j) (hk : k ≤ 2 ^ 20 := by decide) (hl : l ≤ 2 ^ 20 := by decide) : IntMulOk i j := by
  by_cases h0 : 0 < k
  · by_cases h1 : 0 < l
    · exact .of_bits (Nat.le_trans (h.bits h0) hk) (Nat.le_trans (g.bits h1) hl)
    · exact .of_bits (Nat.le_trans (h.bits h0) hk) (Nat.le_trans ((g.mono (Nat.le_of_lt (by omega : l < 1))).bits (by decide)) (by decide))
  · exact .of_bits (Nat.le_trans ((h.mono (Nat.le_of_lt (by omega : k < 1))).bits (by decide)) (by decide)) (Nat.le_trans ((g.mono (Nat.le_max_left l 1)).bits (by omega)) (by omega))
/-! ### lowest terms -/
abbrev Fr := Int × Int
def Nrm (f : Fr) : Prop := 0 < f.2 ∧ Int.gcd f.1 f.2 = 1
def lowF (t b : Int) : Fr := if b < 0 then (t.fdiv (-(Int.gcd t b : Int)), b.fdiv (-(Int.gcd t b : Int))) else (t.fdiv (Int.gcd t b), b.fdiv (Int.gcd t b))
def plusF (f g : Fr) : Fr := lowF (f.1 * g.2 + g.1 * f.2) (f.2 * g.2)
def timesF (f g : Fr) : Fr := lowF (f.1 * g.1) (f.2 * g.2)
/-- a fraction, tops below 2 ^ k, bottoms below 2 ^ l -/
structure FrS (k l : Nat) (f : Fr) : Prop where
  n : Nrm f
  t : Sz k f.1
  b : Sz l f.2
theorem FrS.mono {k l k' l' : Nat} {f : Fr} (h : FrS k l f) (hk : k ≤ k') (hl : l ≤ l') : FrS k' l' f := ⟨h.n, h.t.mono hk, h.b.mono hl⟩
end
end DL

set_option Elab.async false
set_option linter.all false
set_option maxRecDepth 100000
/-! DN: data that can be shown; comprehensions. -/
namespace DL
open PySem PySem.Spec PyProof.Rows
noncomputable section
/-- what `repr` needs -/
structure Dat (k b : Nat) (d : D) : Prop where
  pl : d.pl k = true
  sh : d.py.showable = true
  lf : d.py.leavesShort 1921 = true
  bk : d.py.bulk ≤ b
structure DatL (k b : Nat) (xs : List D) : Prop where
  pl : D.plL k xs = true
  sh : PyData.showableAll (D.pyL xs) = true
  lf : PyData.leavesShortAll 1921 (D.pyL xs) = true
  bk : PyData.bulkAll (D.pyL xs) ≤ b
theorem Dat.mono {k b c : Nat} {d : D} (h : Dat k b d) (l : b ≤ c) : Dat k c d := ⟨h.pl, h.sh, h.lf, Nat.le_trans h.bk l⟩
theorem DatL.nil {k : Nat} : DatL k 0 [] := ⟨rfl, rfl, rfl, Nat.le_refl _⟩
theorem DatL.cons {k b c : Nat} {x : D} {xs : List D} (h : Dat k b x) (g : DatL k c xs) : DatL k (b + 1 + c) (x :: xs) := by
  refine ⟨?_, ?_, ?_, ?_⟩
  · simp only [D.plL, h.pl, g.pl, Bool.and_self]
  · simp only [D.pyL, PyData.showableAll, h.sh, g.sh, Bool.and_self]
  · simp only [D.pyL, PyData.leavesShortAll, h.lf, g.lf, Bool.and_self]
  · have := h.bk; have := g.bk
    simp only [D.pyL, PyData.bulkAll]; omega
theorem DatL.all {k b : Nat} : ∀ {xs : List D} {n : Nat}, (∀ x ∈ xs, Dat k b x) → xs.length ≤ n → DatL k (n * (b + 1)) xs
  | [], _, _, _ => ⟨rfl, rfl, rfl, Nat.zero_le _⟩
  | x :: xs, 0, _, l => absurd l (by simp)
  | x :: xs, n + 1, h, l => by
    have g := DatL.cons (h x (by simp)) (DatL.all (xs := xs) (n := n) (fun y hy => h y (by simp [hy])) (by simpa using l))
    rw [Nat.add_mul, Nat.one_mul, Nat.add_comm]
    exact g
theorem DatL.mono {k b c : Nat} {d : List D} (h : DatL k b d) (l : b ≤ c) : DatL k c d := ⟨h.pl, h.sh, h.lf, Nat.le_trans h.bk l⟩
theorem Dat.int {k m : Nat} {i : Int} (h : Sz m i) (hm : 0 < m) (hl : m ≤ 1920) : Dat k 0 (.int i) := by
  have l : i.natAbs.log2 < 1920 := Nat.lt_of_lt_of_le (h.log hm) hl
  refine ⟨rfl, by simp [D.py, PyData.showable, l], ?_, Nat.le_refl _⟩
  simp only [D.py, PyData.leavesShort, decide_eq_true_eq]
  exact PyProof.Rows.int_text_len_1921 l
theorem Dat.bl {k : Nat} {b : Bool} : Dat k 0 (.bl b) := ⟨rfl, rfl, rfl, Nat.le_refl _⟩
theorem Dat.non {k : Nat} : Dat k 0 .non := ⟨rfl, rfl, rfl, Nat.le_refl _⟩
theorem Dat.str {k : Nat} {s : Str} (h : PyData.strOk s = true) : Dat k s.length (.str s) := by
  refine ⟨h, rfl, ?_, Nat.le_refl _⟩
  simp only [D.py, PyData.leavesShort, List.all_eq_true, decide_eq_true_eq]
  intro c hc
  have h' : s.cps.all (· < 0x110000) = true := h
  rw [Array.all_eq_true'] at h'
  have := h' c (by simpa using hc)
  simp only [decide_eq_true_eq] at this
  omega
theorem Dat.lst {k b : Nat} {xs : List D} (h : DatL k b xs) : Dat (k + 1) b (.lst xs) := ⟨by simp only [D.pl, Nat.add_sub_cancel, h.pl]; simp, by simp only [D.py, PyData.showable]; exact h.sh, by simp only [D.py, PyData.leavesShort]; exact h.lf, by simp only [D.py, PyData.bulk]; exact h.bk⟩
theorem Dat.tup {k b : Nat} {xs : List D} (h : DatL k b xs) : Dat (k + 1) b (.tup xs) := ⟨by simp only [D.pl, Nat.add_sub_cancel, h.pl]; simp, by simp only [D.py, PyData.showable]; exact h.sh, by simp only [D.py, PyData.leavesShort]; exact h.lf, by simp only [D.py, PyData.bulk]; exact h.bk⟩
/-- what `repr` needs, an empty table among it -/
structure DatE (k b : Nat) (d : D) : Prop where
  pl : d.pr k = true
  sh : d.py.showable = true
  lf : d.py.leavesShort 1921 = true
  bk : d.py.bulk ≤ b
structure DatEL (k b : Nat) (xs : List D) : Prop where
  pl : D.prL k xs = true
  sh : PyData.showableAll (D.pyL xs) = true
  lf : PyData.leavesShortAll 1921 (D.pyL xs) = true
  bk : PyData.bulkAll (D.pyL xs) ≤ b
theorem DatE.mono {k b c : Nat} {d : D} (h : DatE k b d) (l : b ≤ c) : DatE k c d := ⟨h.pl, h.sh, h.lf, Nat.le_trans h.bk l⟩
theorem DatEL.nil {k : Nat} : DatEL k 0 [] := ⟨rfl, rfl, rfl, Nat.le_refl _⟩
theorem DatEL.cons {k b c : Nat} {x : D} {xs : List D} (h : DatE k b x) (g : DatEL k c xs) : DatEL k (b + 1 + c) (x :: xs) := by
  refine ⟨?_, ?_, ?_, ?_⟩
  · simp only [D.prL, h.pl, g.pl, Bool.and_self]
  · simp only [D.pyL, PyData.showableAll, h.sh, g.sh, Bool.and_self]
  · simp only [D.pyL, PyData.leavesShortAll, h.lf, g.lf, Bool.and_self]
  · have := h.bk; have := g.bk
    simp only [D.pyL, PyData.bulkAll]; omega
theorem DatEL.all {k b : Nat} : ∀ {xs : List D} {n : Nat}, (∀ x ∈ xs, DatE k b x) → xs.length ≤ n → DatEL k (n * (b + 1)) xs
  | [], _, _, _ => ⟨rfl, rfl, rfl, Nat.zero_le _⟩
  | x :: xs, 0, _, l => absurd l (by simp)
  | x :: xs, n + 1, h, l => by
    have g := DatEL.cons (h x (by simp)) (DatEL.all (xs := xs) (n := n) (fun y hy => h y (by simp [hy])) (by simpa using l))
    rw [Nat.add_mul, Nat.one_mul, Nat.add_comm]
    exact g
theorem DatEL.mono {k b c : Nat} {d : List D} (h : DatEL k b d) (l : b ≤ c) : DatEL k c d := ⟨h.pl, h.sh, h.lf, Nat.le_trans h.bk l⟩
theorem DatE.int {k m : Nat} {i : Int} (h : Sz m i) (hm : 0 < m) (hl : m ≤ 1920) : DatE k 0 (.int i) := by
  have l : i.natAbs.log2 < 1920 := Nat.lt_of_lt_of_le (h.log hm) hl
  refine ⟨rfl, by simp [D.py, PyData.showable, l], ?_, Nat.le_refl _⟩
  simp only [D.py, PyData.leavesShort, decide_eq_true_eq]
  exact PyProof.Rows.int_text_len_1921 l
theorem DatE.bl {k : Nat} {b : Bool} : DatE k 0 (.bl b) := ⟨rfl, rfl, rfl, Nat.le_refl _⟩
theorem DatE.non {k : Nat} : DatE k 0 .non := ⟨rfl, rfl, rfl, Nat.le_refl _⟩
theorem DatE.str {k : Nat} {s : Str} (h : PyData.strOk s = true) : DatE k s.length (.str s) := by
  refine ⟨h, rfl, ?_, Nat.le_refl _⟩
  simp only [D.py, PyData.leavesShort, List.all_eq_true, decide_eq_true_eq]
  intro c hc
  have h' : s.cps.all (· < 0x110000) = true := h
  rw [Array.all_eq_true'] at h'
  have := h' c (by simpa using hc)
  simp only [decide_eq_true_eq] at this
  omega
theorem DatE.lst {k b : Nat} {xs : List D} (h : DatEL k b xs) : DatE (k + 1) b (.lst xs) := ⟨by simp only [D.pr, Nat.add_sub_cancel, h.pl]; simp, by simp only [D.py, PyData.showable]; exact h.sh, by simp only [D.py, PyData.leavesShort]; exact h.lf, by simp only [D.py, PyData.bulk]; exact h.bk⟩
theorem DatE.tup {k b : Nat} {xs : List D} (h : DatEL k b xs) : DatE (k + 1) b (.tup xs) := ⟨by simp only [D.pr, Nat.add_sub_cancel, h.pl]; simp, by simp only [D.py, PyData.showable]; exact h.sh, by simp only [D.py, PyData.leavesShort]; exact h.lf, by simp only [D.py, PyData.bulk]; exact h.bk⟩
theorem DatE.dE {k : Nat} : DatE (k + 1) 0 .dE := ⟨by simp [D.pr], rfl, rfl, Nat.le_refl _⟩
theorem Dat.e {k b : Nat} {d : D} (h : Dat k b d) : DatE k b d := ⟨D.pr_of h.pl, h.sh, h.lf, h.bk⟩
theorem DatL.e {k b : Nat} {d : List D} (h : DatL k b d) : DatEL k b d := ⟨D.prL_of h.pl, h.sh, h.lf, h.bk⟩
theorem DatE.shows {b : Nat} {k : Nat} {d : D} (h : DatE k b d) (hb : b ≤ 8000) : d.shows = true := by
  have := PyData.shown_le_bulk 1921 (by decide) d.py h.lf
  have e : (1921 + 2) * d.py.bulk ≤ 1923 * 8000 := Nat.mul_le_mul (Nat.le_refl _) (Nat.le_trans h.bk hb)
  unfold D.shows
  rw [h.sh, sizeLine_eq]
  simp
  omega
theorem Dat.shows {b : Nat} {k : Nat} {d : D} (h : Dat k b d) (hb : b ≤ 8000) : d.shows = true := h.e.shows hb
mutual
theorem pl_up : ∀ {d : D} {k m : Nat}, k ≤ m → d.pl k = true → d.pl m = true
  | .non, _, _, _, _ => rfl
  | .bl b, _, _, _, _ => rfl
  | .int i, _, _, _, _ => rfl
  | .str s, _, _, _, h => by simpa [D.pl] using h
  | .tup xs, k, m, l, h => by
    simp only [D.pl, Bool.and_eq_true, decide_eq_true_eq] at h ⊢
    exact ⟨by omega, plL_up (by omega) h.2⟩
  | .lst xs, k, m, l, h => by
    simp only [D.pl, Bool.and_eq_true, decide_eq_true_eq] at h ⊢
    exact ⟨by omega, plL_up (by omega) h.2⟩
  | .ro xs, k, m, l, h => by
    simp only [D.pl, Bool.and_eq_true, decide_eq_true_eq] at h ⊢
    exact ⟨by omega, plL_up (by omega) h.2⟩
  | .cell n, _, _, _, h => by simp [D.pl] at h
  | .ty n, _, _, _, h => by simp [D.pl] at h
  | .err _ _ _, _, _, _, h => by simp [D.pl] at h
  | .cls _, _, _, _, h => by simp [D.pl] at h
  | .dE, _, _, _, h => by simp [D.pl] at h
theorem plL_up : ∀ {ds : List D} {k m : Nat}, k ≤ m → D.plL k ds = true → D.plL m ds = true
  | [], _, _, _, _ => rfl
  | d :: ds, k, m, l, h => by
    simp only [D.plL, Bool.and_eq_true] at h ⊢
    exact ⟨pl_up l h.1, plL_up l h.2⟩
end
mutual
theorem pr_up : ∀ {d : D} {k m : Nat}, k ≤ m → d.pr k = true → d.pr m = true
  | .non, _, _, _, _ => rfl
  | .bl b, _, _, _, _ => rfl
  | .int i, _, _, _, _ => rfl
  | .str s, _, _, _, h => by simpa [D.pr] using h
  | .tup xs, k, m, l, h => by
    simp only [D.pr, Bool.and_eq_true, decide_eq_true_eq] at h ⊢
    exact ⟨by omega, prL_up (by omega) h.2⟩
  | .lst xs, k, m, l, h => by
    simp only [D.pr, Bool.and_eq_true, decide_eq_true_eq] at h ⊢
    exact ⟨by omega, prL_up (by omega) h.2⟩
  | .ro xs, k, m, l, h => by
    simp only [D.pr, Bool.and_eq_true, decide_eq_true_eq] at h ⊢
    exact ⟨by omega, prL_up (by omega) h.2⟩
  | .cell n, _, _, _, h => by simp [D.pr] at h
  | .ty n, _, _, _, h => by simp [D.pr] at h
  | .err _ _ _, _, _, _, h => by simp [D.pr] at h
  | .cls _, _, _, _, h => by simp [D.pr] at h
  | .dE, k, m, l, h => by
    simp only [D.pr, decide_eq_true_eq] at h ⊢
    omega
theorem prL_up : ∀ {ds : List D} {k m : Nat}, k ≤ m → D.prL k ds = true → D.prL m ds = true
  | [], _, _, _, _ => rfl
  | d :: ds, k, m, l, h => by
    simp only [D.prL, Bool.and_eq_true] at h ⊢
    exact ⟨pr_up l h.1, prL_up l h.2⟩
end
theorem Dat.up {k m b : Nat} {d : D} (h : Dat k b d) (l : k ≤ m) : Dat m b d := ⟨pl_up l h.pl, h.sh, h.lf, h.bk⟩
theorem DatL.up {k m b : Nat} {d : List D} (h : DatL k b d) (l : k ≤ m) : DatL m b d := ⟨plL_up l h.pl, h.sh, h.lf, h.bk⟩
theorem DatE.up {k m b : Nat} {d : D} (h : DatE k b d) (l : k ≤ m) : DatE m b d := ⟨pr_up l h.pl, h.sh, h.lf, h.bk⟩
/-! ### lists of one make -/
theorem made {α : Type} {Q : α → Prop} {g : α → D} : ∀ {xs : List D}, (∀ d ∈ xs, ∃ f, Q f ∧ d = g f) → ∃ l : List α, (∀ f ∈ l, Q f) ∧ xs = l.map g
  | [], _ => ⟨[], by simp, rfl⟩
  | x :: xs, h => by
    obtain ⟨f, q, e⟩ := h x (by simp)
    obtain ⟨l, ql, el⟩ := made (xs := xs) fun d hd => h d (by simp [hd])
    refine ⟨f :: l, ?_, by rw [e, el]; rfl⟩
    intro g hg
    rcases List.mem_cons.mp hg with rfl | hg
    · exact q
    · exact ql g hg
theorem blsOf_map : ∀ bs : List Bool, blsOf (bs.map D.bl) = some bs
  | [] => rfl
  | b :: bs => by simp only [List.map_cons, blsOf, blsOf_map bs]; rfl
theorem cut_to (xs : List D) (k : Nat) : cutD xs none (some (k : Int)) = xs.take k := by
  unfold cutD
  rw [HT.sIx_nat, HT.sIx_none]
  by_cases h : k ≤ xs.length
  · rw [Nat.min_eq_left h]; simp
  · rw [Nat.min_eq_right (by omega), List.take_of_length_le (by simp), List.take_of_length_le (by omega)]; simp
theorem rng_get {n i : Nat} {d : D} (h : ((List.range n).map fun i : Nat => D.int i)[i]? = some d) : ∃ z : Int, 0 ≤ z ∧ z < n ∧ d = .int z := by
  rw [List.getElem?_map] at h
  cases e : (List.range n)[i]? with
  | none => rw [e] at h; exact absurd h (by simp)
  | some a =>
    rw [e] at h
    have := List.mem_range.mp (List.mem_of_getElem? e)
    exact ⟨a, by omega, by omega, by simpa using h.symm⟩
theorem getElem?_map_some {α : Type} {f : α → D} {l : List α} {i : Nat} {d : D} (h : (l.map f)[i]? = some d) : ∃ a, l[i]? = some a ∧ d = f a := by
  rw [List.getElem?_map] at h
  cases e : l[i]? with
  | none => rw [e] at h; exact absurd h (by simp)
  | some a => rw [e] at h; exact ⟨a, rfl, by simpa using h.symm⟩
/-! ### comprehensions -/
section
variable {T : Tg} {c : BM} {e : EM} {ρw : Env} {S : Sto} {PL : List D → Sto → Prop}
theorem lc_map {α : Type} {l : List α} {f g : α → D} (hz : l.length ≤ sizeLine)
    (hs : ∀ a ∈ l, ∃ ρ', asg T (f a) ρw = some ρ' ∧ Ok (e ρ' S) fun y S2 => y = g a ∧ S2 = S) (k : PL (l.map g) S) : Ok (lcLoop (itL (l.map f)).nx T bYes e ρw (itL (l.map f)).fu 0 [] S) PL := by
  refine k_lcL (fun i acc S' => acc = (l.take i).map g ∧ S' = S) ⟨by simp, rfl⟩ ?_ ?_
  · intro i acc S' d hd ⟨e1, e2⟩
    obtain ⟨a, ha, rfl⟩ := getElem?_map_some hd
    have hm := List.mem_of_getElem? ha
    have hi := (List.getElem?_eq_some_iff.mp ha).1
    obtain ⟨ρ', h1, h2⟩ := hs a hm
    refine ⟨ρ', h1, ?_⟩
    refine k_yes ?_
    rw [if_pos rfl, e2]
    refine h2.imp fun y S2 ⟨hy, hS⟩ => ⟨?_, ?_, hS⟩
    · rw [e1]; simp; omega
    · rw [e1, hy, List.take_add_one, ha]; simp
  · intro acc S' ⟨e1, e2⟩
    rw [e1, e2]
    simpa using k
/-- a walk over what stays, kept in a cell or not -/
theorem k_forN {T : Tg} {b : SD} {xs : List D} {nx : Nat → Sto → Option (Option D)} {fu : Nat} {ρ : DL.Env} {PS : Flw → DL.Env → Sto → Prop} (I : Nat → DL.Env → Sto → Prop) (hf : fu = xs.length + 1) (h0 : I 0 ρ S)
    (hx : ∀ i ρ S, I i ρ S → nx i S = some xs[i]?)
    (hs : ∀ i ρ S d, xs[i]? = some d → I i ρ S → ∃ ρ', asg T d ρ = some ρ' ∧ OkS (b ρ' S) fun f ρ2 S2 => match f with
      | .nx => I (i + 1) ρ2 S2
      | .cnt => I (i + 1) ρ2 S2
      | .brk => PS .nx ρ2 S2
      | .ret d => PS (.ret d) ρ2 S2)
    (hd : ∀ ρ S, I xs.length ρ S → PS .nx ρ S) : OkS (forLoop nx T b fu 0 ρ S) PS := by
  have go : ∀ (k i : Nat) (ρ : DL.Env) (S : Sto), k + i = xs.length + 1 → i ≤ xs.length → I i ρ S → OkS (forLoop nx T b k i ρ S) PS := by
    intro k
    induction k with
    | zero => intro i ρ S e l _; omega
    | succ k ih =>
      intro i ρ S e l hI
      unfold forLoop
      rw [hx i ρ S hI]
      by_cases hi : i < xs.length
      · obtain ⟨ρ', ea, hb⟩ := hs i ρ S xs[i] (List.getElem?_eq_getElem hi) hI
        rw [List.getElem?_eq_getElem hi]
        dsimp only
        rw [ea]
        dsimp only
        cases eb : b ρ' S with
        | exc x ρ1 S1 => rw [eb] at hb; exact hb.out.elim
        | stuck => rw [eb] at hb; exact hb.out.elim
        | ok f ρ1 S1 =>
          rw [eb] at hb
          cases f with
          | nx => exact ih (i + 1) ρ1 S1 (by omega) hi hb.out
          | cnt => exact ih (i + 1) ρ1 S1 (by omega) hi hb.out
          | brk => exact ⟨hb.out⟩
          | ret d => exact ⟨hb.out⟩
      · have : i = xs.length := by omega
        subst this
        rw [List.getElem?_eq_none (Nat.le_refl _)]
        exact ⟨hd ρ S hI⟩
  rw [hf]
  exact go (xs.length + 1) 0 ρ S (by omega) (Nat.zero_le _) h0
theorem k_lcN {xs : List D} {nx : Nat → Sto → Option (Option D)} {fu : Nat} (I : Nat → List D → Sto → Prop) (hf : fu = xs.length + 1) (h0 : I 0 [] S) (hx : ∀ i acc S, I i acc S → nx i S = some xs[i]?)
    (hs : ∀ i acc S d, xs[i]? = some d → I i acc S → ∃ ρ', asg T d ρw = some ρ' ∧ Ok (c ρ' S) fun k S1 => if k = true then Ok (e ρ' S1) fun y S2 => acc.length < sizeLine ∧ I (i + 1) (acc ++ [y]) S2 else I (i + 1) acc S1)
    (hd : ∀ acc S, I xs.length acc S → PL acc S) : Ok (lcLoop nx T c e ρw fu 0 [] S) PL := by
  have go : ∀ (k i : Nat) (acc : List D) (S : Sto), k + i = xs.length + 1 → i ≤ xs.length → I i acc S → Ok (lcLoop nx T c e ρw k i acc S) PL := by
    intro k
    induction k with
    | zero => intro i acc S e l _; omega
    | succ k ih =>
      intro i acc S el l hI
      unfold lcLoop
      rw [hx i acc S hI]
      by_cases hi : i < xs.length
      · obtain ⟨ρ', ea, hb⟩ := hs i acc S xs[i] (List.getElem?_eq_getElem hi) hI
        rw [List.getElem?_eq_getElem hi]
        dsimp only
        rw [ea]
        dsimp only
        refine Ok.bind (hb.imp fun k S1 q => ?_)
        cases k with
        | false => exact ih (i + 1) acc S1 (by omega) hi q
        | true => exact Ok.bind (q.imp fun y S2 q2 => by rw [if_pos q2.1]; exact ih (i + 1) _ S2 (by omega) hi q2.2)
      · have : i = xs.length := by omega
        subst this
        rw [List.getElem?_eq_none (Nat.le_refl _)]
        exact ⟨hd acc S hI⟩
  rw [hf]
  exact go (xs.length + 1) 0 [] S (by omega) (Nat.zero_le _) h0
theorem lc_mapN {α : Type} {l : List α} {f g : α → D} {nx : Nat → Sto → Option (Option D)} {fu : Nat} (hf : fu = l.length + 1) (hx : ∀ i, nx i S = some (l.map f)[i]?) (hz : l.length ≤ sizeLine)
    (hs : ∀ a ∈ l, ∃ ρ', asg T (f a) ρw = some ρ' ∧ Ok (e ρ' S) fun y S2 => y = g a ∧ S2 = S) (k : PL (l.map g) S) : Ok (lcLoop nx T bYes e ρw fu 0 [] S) PL := by
  refine k_lcN (xs := l.map f) (fun i acc S' => acc = (l.take i).map g ∧ S' = S) (by simpa using hf) ⟨by simp, rfl⟩ (fun i acc S' h => by rw [h.2]; exact hx i) ?_ ?_
  · intro i acc S' d hd ⟨e1, e2⟩
    obtain ⟨a, ha, rfl⟩ := getElem?_map_some hd
    have hm := List.mem_of_getElem? ha
    have hi := (List.getElem?_eq_some_iff.mp ha).1
    obtain ⟨ρ', h1, h2⟩ := hs a hm
    refine ⟨ρ', h1, ?_⟩
    refine k_yes ?_
    rw [if_pos rfl, e2]
    refine h2.imp fun y S2 ⟨hy, hS⟩ => ⟨?_, ?_, hS⟩
    · rw [e1]; simp; omega
    · rw [e1, hy, List.take_add_one, ha]; simp
  · intro acc S' ⟨e1, e2⟩
    rw [e1, e2]
    simpa using k
theorem i_cell {n : Nat} {xs : List D} {PI : ItD → Sto → Prop} (h : S[n]? = some (some (.lst xs))) (q : PI (itC n xs.length) S) : Ok (mItL (.cell n) S) PI := by
  unfold mItL
  dsimp only
  rw [h]; exact ⟨q⟩
theorem itC_nx {n i k : Nat} {xs : List D} (h : S[n]? = some (some (.lst xs))) : (itC n k).nx i S = some xs[i]? := by
  unfold itC
  dsimp only
  rw [h]
/-- each step draws, whatever is drawn keeps `R` -/
theorem lc_any {xs : List D} {Q : D → Prop} {R : Sto → Prop} (hz : xs.length ≤ sizeLine) (h0 : R S)
    (hs : ∀ d ∈ xs, ∀ S1, R S1 → ∃ ρ', asg T d ρw = some ρ' ∧ Ok (e ρ' S1) fun y S2 => Q y ∧ R S2) (k : ∀ ys S', ys.length = xs.length → (∀ y ∈ ys, Q y) → R S' → PL ys S') : Ok (lcLoop (itL xs).nx T bYes e ρw (itL xs).fu 0 [] S) PL := by
  refine k_lcL (fun i acc S' => acc.length = i ∧ (∀ y ∈ acc, Q y) ∧ R S') ⟨rfl, by simp, h0⟩ ?_ ?_
  · intro i acc S' d hd ⟨e1, e2, e3⟩
    have hm := List.mem_of_getElem? hd
    have hi := (List.getElem?_eq_some_iff.mp hd).1
    obtain ⟨ρ', h1, h2⟩ := hs d hm S' e3
    refine ⟨ρ', h1, ?_⟩
    refine k_yes ?_
    rw [if_pos rfl]
    refine h2.imp fun y S2 ⟨hy, hS⟩ => ⟨by omega, by simp [e1], ?_, hS⟩
    intro z hz
    rcases List.mem_append.mp hz with hz | hz
    · exact e2 z hz
    · rw [List.mem_singleton.mp hz]; exact hy
  · intro acc S' ⟨e1, e2, e3⟩
    exact k acc S' e1 e2 e3
end
theorem k_ifT {c a b : Prop} [Decidable c] (h : c) (q : a) : if c then a else b := by rw [if_pos h]; exact q
theorem k_ifF {c a b : Prop} [Decidable c] (h : ¬c) (q : b) : if c then a else b := by rw [if_neg h]; exact q
theorem k_seqQ {a b : SD} {ρ : DL.Env} {S : Sto} {PS : Flw → DL.Env → Sto → Prop} (Q : Flw → DL.Env → Sto → Prop) (h : OkS (a ρ S) Q) (k : ∀ f ρ1 S1, Q f ρ1 S1 → match f with
  | .nx => OkS (b ρ1 S1) PS
  | f => PS f ρ1 S1) : OkS (sSeq a b ρ S) PS := k_seq (h.imp k)
/-- two branches meet -/
theorem k_ite {c : Prop} [Decidable c] {r1 r2 : RS} {PS : Flw → DL.Env → Sto → Prop} (Q : Flw → DL.Env → Sto → Prop) (h1 : c → OkS r1 Q) (h2 : ¬c → OkS r2 Q) (h : ∀ f ρ S, Q f ρ S → PS f ρ S) : if c then OkS r1 PS else OkS r2 PS := by
  by_cases hc : c
  · rw [if_pos hc]; exact (h1 hc).imp h
  · rw [if_neg hc]; exact (h2 hc).imp h
/-! ### great numbers of turns -/
end
end DL

set_option Elab.async false
set_option linter.all false
set_option maxRecDepth 100000
/-! DQ: rules for the walk that goes by itself. -/
namespace DL
open PySem PySem.Spec PyProof.Rows
noncomputable section
theorem k_condD {p : Prop} [Decidable p] {a b : Prop} (ht : p → a) (hf : ¬p → b) : if decide p = true then a else b := by
  by_cases h : p
  · rw [if_pos (by simpa using h)]; exact ht h
  · rw [if_neg (by simpa using h)]; exact hf h
theorem all_nil {Q : D → Prop} : ∀ d ∈ ([] : List D), Q d := fun _ h => absurd h (by simp)
theorem all_cons {Q : D → Prop} {x : D} {xs : List D} (h : Q x) (g : ∀ d ∈ xs, Q d) : ∀ d ∈ x :: xs, Q d := List.forall_mem_cons.mpr ⟨h, g⟩
/-- an int of a size -/
def In (k : Nat) (d : D) : Prop := ∃ i, Sz k i ∧ d = .int i
mutual
/-- what can be shown holds no cell -/
theorem bel_pr {m : Nat} : ∀ {d : D} {k : Nat}, d.pr k = true → d.bel m = true
  | .non, _, _ => rfl
  | .bl b, _, _ => rfl
  | .int i, _, _ => rfl
  | .str s, _, _ => rfl
  | .tup xs, k, h => by
    simp only [D.pr, Bool.and_eq_true] at h
    simp only [D.bel]; exact belL_pr h.2
  | .lst xs, k, h => by
    simp only [D.pr, Bool.and_eq_true] at h
    simp only [D.bel]; exact belL_pr h.2
  | .ro xs, k, h => by
    simp only [D.pr, Bool.and_eq_true] at h
    simp only [D.bel]; exact belL_pr h.2
  | .cell n, _, h => by simp [D.pr] at h
  | .ty n, _, h => by simp [D.pr] at h
  | .err _ _ _, _, h => by simp [D.pr] at h
  | .cls _, _, h => by simp [D.pr] at h
  | .dE, k, h => rfl
theorem belL_pr {m : Nat} : ∀ {ds : List D} {k : Nat}, D.prL k ds = true → D.belL m ds = true
  | [], _, _ => rfl
  | d :: ds, k, h => by
    simp only [D.prL, Bool.and_eq_true] at h
    simp only [D.belL, Bool.and_eq_true]
    exact ⟨bel_pr h.1, belL_pr h.2⟩
end
theorem belL_all {m : Nat} : ∀ {ds : List D}, (∀ d ∈ ds, d.bel m = true) → D.belL m ds = true
  | [], _ => rfl
  | d :: ds, h => by
    simp only [D.belL, Bool.and_eq_true]
    exact ⟨h d (by simp), belL_all fun e he => h e (by simp [he])⟩
end
end DL

set_option Elab.async false
set_option linter.all false
set_option maxRecDepth 100000
/-! DE: what a mirror raises, step by step; a kept error. -/
namespace DL
open PySem PySem.Spec PyProof.Rows
noncomputable section
structure Ex {α : Type} (r : R α) (Q : XD → Sto → Prop) : Prop where
  out : match r with
    | .exc x S => Q x S
    | _ => False
structure ExS (r : RS) (Q : XD → Env → Sto → Prop) : Prop where
  out : match r with
    | .exc x ρ S => Q x ρ S
    | _ => False
theorem Ex.imp {α : Type} {r : R α} {P Q : XD → Sto → Prop} (h : Ex r P) (k : ∀ x S, P x S → Q x S) : Ex r Q := by
  cases r with
  | exc x S => exact ⟨k x S h.out⟩
  | ok a S => exact h.out.elim
  | stuck => exact h.out.elim
theorem ExS.imp {r : RS} {P Q : XD → Env → Sto → Prop} (h : ExS r P) (k : ∀ x ρ S, P x ρ S → Q x ρ S) : ExS r Q := by
  cases r with
  | exc x ρ S => exact ⟨k x ρ S h.out⟩
  | ok f ρ S => exact h.out.elim
  | stuck => exact h.out.elim
section
variable {ρ : Env} {S : Sto} {Q : XD → Sto → Prop} {QS : XD → Env → Sto → Prop} {P : D → Sto → Prop} {PS : Flw → Env → Sto → Prop}
/-! expressions: the call itself raises -/
/-! statements -/
/-! try -/
theorem k_tryO {tbl : Str → Option Bool} {i : Nat} {b h : SD} (hb : OkS (b ρ S) PS) : OkS (sTryAs tbl i b h ρ S) PS := by
  unfold sTryAs
  cases e : b ρ S with
  | exc x ρ1 S1 => rw [e] at hb; exact hb.out.elim
  | stuck => rw [e] at hb; exact hb.out.elim
  | ok f ρ1 S1 => rw [e] at hb; exact ⟨hb.out⟩
/-! a kept error is asked -/
end
end
end DL

set_option Elab.async false
set_option linter.all false
set_option maxRecDepth 100000
/-! DQ2: more rules. -/
namespace DL
open PySem PySem.Spec PyProof.Rows
noncomputable section
section
variable {ρ : Env} {S : Sto} {PS : Flw → Env → Sto → Prop}
theorem k_asgL {ts : List Tg} {m : EM} (h : Ok (m ρ S) fun d S1 => ∃ ds ρ1, listOf S1 d = some ds ∧ ds.length = ts.length ∧ asgL ts ds ρ = some ρ1 ∧ PS .nx ρ1 S1) : OkS (sAsgL ts m ρ S) PS := Ok.to (h.imp fun d S1 ⟨ds, ρ1, e1, e2, e3, q⟩ => by simp only [e1, e2, if_true, e3]; exact ⟨q⟩)
theorem k_whileN {c : BM} {b : SD} (I : Nat → Env → Sto → Prop) (K : Nat) (hK : K < FU) (h0 : I 0 ρ S)
    (hs : ∀ j ρ S, j ≤ K → I j ρ S → Ok (c ρ S) fun k S1 => if k = true then OkS (b ρ S1) fun f ρ2 S2 => match f with
      | .nx => j < K ∧ I (j + 1) ρ2 S2
      | .cnt => j < K ∧ I (j + 1) ρ2 S2
      | .brk => PS .nx ρ2 S2
      | .ret d => PS (.ret d) ρ2 S2 else PS .nx ρ S1) : OkS (sWhile c b ρ S) PS := by
  have go : ∀ (k j : Nat) (ρ : Env) (S : Sto), j ≤ K → K < j + k → I j ρ S → OkS (whLoop c b k ρ S) PS := by
    intro k
    induction k with
    | zero => intro j ρ S l l2 _; omega
    | succ k ih =>
      intro j ρ S l l2 hI
      unfold whLoop
      refine Ok.to ((hs j ρ S l hI).imp fun x S1 q => ?_)
      cases x with
      | false => exact ⟨q⟩
      | true =>
        rw [if_pos rfl] at q ⊢
        cases eb : b ρ S1 with
        | exc x ρ1 S1 => rw [eb] at q; exact q.out.elim
        | stuck => rw [eb] at q; exact q.out.elim
        | ok f ρ1 S1 =>
          rw [eb] at q
          cases f with
          | nx => exact ih (j + 1) ρ1 S1 q.out.1 (by omega) q.out.2
          | cnt => exact ih (j + 1) ρ1 S1 q.out.1 (by omega) q.out.2
          | brk => exact ⟨q.out⟩
          | ret d => exact ⟨q.out⟩
  exact go FU 0 ρ S (Nat.zero_le _) (by omega) h0
end
section
variable {ρ : Env} {S : Sto} {P : D → Sto → Prop}
theorem o_lenC {n : Nat} {xs : List D} (h : S[n]? = some (some (.lst xs))) (q : P (.int xs.length) S) : Ok (fLen [.cell n] S) P := o_lenL (by simp only [seqOf, DL.listOf, h]) q
theorem setD_at {n j : Nat} {xs : List D} {v : D} {i : Int} (h : S[n]? = some (some (.lst xs))) (hi : i = (j : Int)) (hj : j < xs.length) : setD (.cell n) (.int i) v S = some (S.set n (some (.lst (xs.set j v)))) := by
  subst hi
  have e : L2.ixN xs.length (j : Int) = some j := by unfold L2.ixN; rw [if_pos (by omega), if_pos (by omega)]; simp
  unfold setD
  simp only [h, e]
theorem i_enumC {n : Nat} {xs : List D} {PI : ItD → Sto → Prop} (h : S[n]? = some (some (.lst xs))) (q : PI (itE (.cell n) (enumD xs).length) S) : Ok (mItE [.cell n] S) PI := by
  unfold mItE
  simp only [frozenL, DL.listOf, h]
  exact ⟨q⟩
theorem itE_nx {n i k : Nat} {xs : List D} (h : S[n]? = some (some (.lst xs))) : (itE (.cell n) k).nx i S = some (enumD xs)[i]? := by
  simp only [itE, DL.listOf, h]
theorem o_pop {n : Nat} {xs : List D} {d : D} (h : S[n]? = some (some (.lst (xs ++ [d])))) (q : P d (S.set n (some (.lst xs)))) : Ok (mPop (.cell n) [] S) P := by
  unfold mPop
  simp only [h]
  rw [show (xs ++ [d])[(xs ++ [d]).length - 1]? = some d by simp]
  refine ⟨?_⟩
  rw [List.dropLast_concat]
  exact q
end
end
end DL

set_option Elab.async false
set_option linter.all false
set_option maxRecDepth 100000
/-! HXW: a law's end over the head by one kernel run. -/
namespace DL
open PySem PySem.Spec PyProof.Rows L2
theorem rows_of {P : Params} : ∀ {es : List DictEntry} {tb : List (Str × Str)}, es.map HX.entOf = HX.tabV P tb → RowsK P es tb
  | [], [], _ => trivial
  | [], _ :: _, h => by cases h
  | _ :: _, [], h => by cases h
  | e :: r, kv :: q, h => by
    have h1 : HX.entOf e :: r.map HX.entOf = some (kv.1, PyData.keyHash P kv.1, kv.2) :: HX.tabV P q := h
    injection h1 with h2 h3
    refine ⟨?_, rows_of h3⟩
    unfold HX.entOf at h2
    split at h2
    · rename_i x t ek
      split at h2
      · rename_i v t2 ev
        have h4 := Option.some.inj h2
        obtain ⟨h5, h6⟩ := Prod.mk.inj h4
        obtain ⟨h7, h8⟩ := Prod.mk.inj h6
        exact ⟨t, t2, by rw [ek, h5], h7, by rw [ev, h8]⟩
      · cases h2
    · cases h2
theorem tab_ok {fb : List HX.Bf} {fn : List He.FnD} {ft : List HX.TbF} {w : World} {K : PySem.W.Frag} (c : HX.SaysZ fb fn ft w K) (i : Nat) {t : HX.TbF} (h : ft[i]? = some t := by rfl) : ∃ es n, K.lookup (t.1 K) = some ⟨.type "dict", none, .dict es n, #[]⟩ ∧ RowsK w.params es.toList t.2 := by
  obtain ⟨es, n, e1, e2⟩ := HX.tabW_ok (c.tab i h)
  exact ⟨es, n, e1, rows_of e2⟩
theorem walk_ofZ {l : PySem.W.OpenLaw} {n k : Nat} {q : Program} {loose : List Str} {XP : (Str → Option Value) → Heap → Prop} {YP : World → Heap → Prop} {d : DefRec} {m : FM} {x : Str}
    (hi : importsNone q = true) (hn : l.most = some n) (hn2 : n ≤ sizeLine) (hdf : d.params.defaults = []) (hr : Room k callerA)
    (F : ∀ (w : World) (mg : Str → Option Value) (fa : Addr) (h : Heap), YP w h → h.Ns mainGlobals mg → mg d.name = some (.ref fa) →
      ∃ K : PySem.W.Frag, K.In h ∧ ∃ fd : FuncData, (∀ (s : Shared) (u : Value), BindsTo s fd ⟨[u], []⟩ [(x, u)]) ∧ ∀ base : Heap, K.In base → base.Ns mainGlobals mg → FnG l.prog w K mg base k fa fd [x] m)
    (hm : ∀ ns : List Int, ns.length ≤ n → ∃ S', m [.ro (ns.map D.int)] [] = .ok (.bl true) S') : PySem.W.WalkO q loose XP YP l.row.toRowW d [] (fun f vs => PySem.call f vs) :=
  Att.attach_call hn hdf fun w s₀ s₁ mg mb fa o pm cd doc a vs ns G Y ho hd hcd hmg hobj hints hlen hg => by
    obtain ⟨K, KX, fd, hb, hF⟩ := F w mg fa _ Y G.T.g hmg
    obtain ⟨S', e⟩ := hm ns hlen
    exact law_callG KX G.T.g G.T.b G.T.builtins G.T.nolimit ((G.T.seer hi).mods.elim fun mm h => ⟨mm, h.1⟩) hg hobj hints (Nat.le_trans hlen hn2) hr hF hb e
end DL

set_option Elab.async false
set_option linter.all false
set_option maxRecDepth 100000
/-! printed by gen.py: what each def of law_k22_programs_written does to data -/
namespace Lw
open PySem DL
noncomputable section
def c_FIGURES : D := (.str "0123456789")
def c_MOST_NUMBERS_wishes : D := (.int 8)
def c_LEAST : D := (.str "least")
def c_JUST : D := (.str "just")
def c_LETTERS : D := (.str "abcdefghijklmnopqrstuvwxyz")
def c_MOST_NUMBERS_programs : D := (.int 3)
def c_MOST_PLACES : D := (.int 6)
def c_MOST_ROWS : D := (.int 10)
def c_MOST_WISHES : D := (.int 12)
def c_BEHIND : D := (.str "'")
def c_ENDS : List (Str × Str) := [("least", " >= 0"), ("just", " = 0")]
def txL_NoText : List (Str × Bool) := [("NoNumber", false), ("NoProgram", false), ("NoText", true)]
def tx_NoText : Str → Option Bool := fun n => List.lookup n txL_NoText
def tcL : List ((Str × Str) × Bool) := []
def tc : Str → Str → Option Bool := fun n c => List.lookup (n, c) tcL
def ttL : List ((Str × String) × Bool) := []
def tt : Str → String → Option Bool := fun n c => List.lookup (n, c) ttL
def foL : List (Str × Str) := []
def fo : Str → Str → Bool := fun n f => decide ((n, f) ∈ foL)
def fiL : List (Str × Str) := []
def fi : Str → Str → Bool := fun n f => decide ((n, f) ∈ fiL)
/-- _law_pool(_law_script, _law_k): 0 _law_script, 1 _law_k, 2 _law_cell, 3 _law_mixed -/
def d__law_pool : SD := (sSeq (sSet 2 (eC (.int 0))) (sSeq (sIf (bVal (e2 oLt (eVar 1) (eL fLen (aCons (eVar 0) aNil)))) (sSet 2 (e2 oIx (eVar 0) (eVar 1))) sNx) (sSeq (sSet 3 (e2 oMod (e2 oMul (e2 oAdd (e2 oAdd (e2 oMod (eVar 2) (eC (.int 2147483629))) (e2 oMul (e2 oMul (eC (.int 6151)) (eVar 1)) (eVar 1))) (eC (.int 29))) (eC (.int 48271))) (eC (.int 2147483647)))) (sSeq (sIf (bVal (e2 oLt (eVar 2) (e2 oPow (eC (.int 10)) (eC (.int 18))))) (sSet 2 (eC (.int 0))) sNx) (sRet (eL mCell (aCons (eVar 2) (aCons (e2 oAdd (e2 oMod (e2 oMul (eVar 3) (eVar 3)) (eC (.int 2147483587))) (eC (.int 3))) aNil))))))))
def f__law_pool : FM := runFn 4 2 d__law_pool
/-- _law_take(_law_pool_here, _law_many): 0 _law_pool_here, 1 _law_many, 2 _law_found -/
def d__law_take : SD := (sSeq (sIf (bVal (e2 oGt (e2 oIx (eVar 0) (eC (.int 0))) (eC (.int 0)))) (sSeq (sSet 2 (e2 oMod (e2 oIx (eVar 0) (eC (.int 0))) (eVar 1))) (sSeq (sSub setD (eVar 0) (eC (.int 0)) (e2 oFdiv (e2 oIx (eVar 0) (eC (.int 0))) (eVar 1))) (sRet (eVar 2)))) sNx) (sSeq (sSub setD (eVar 0) (eC (.int 1)) (e2 oMod (e2 oAdd (e2 oMul (e2 oIx (eVar 0) (eC (.int 1))) (eC (.int 48271))) (eC (.int 12347))) (eC (.int 2147483647)))) (sRet (e2 oMod (e2 oFdiv (e2 oMod (e2 oMul (e2 oIx (eVar 0) (eC (.int 1))) (e2 oIx (eVar 0) (eC (.int 1)))) (eC (.int 2147483629))) (eC (.int 64))) (eVar 1)))))
def f__law_take : FM := runFn 3 2 d__law_take
/-- _law_names(_law_pool_here, _law_many, _law_most): 0 _law_pool_here, 1 _law_many, 2 _law_most, 3 _law_found, 4 _law_k, 5 _law_word, 6 _law_turn -/
def d__law_names : SD := (sSeq (sSet 3 (eL mCell aNil)) (sSeq (sFor (imOfA mItR1 (aCons (eVar 1) aNil)) (.nm 4) (sSeq (sSet 5 (eC (.str ""))) (sSeq (sFor (imOfA mItR1 (aCons (eL f__law_take (aCons (eVar 0) (aCons (eVar 2) aNil))) aNil)) (.nm 6) (sSet 5 (e2 oAdd (eVar 5) (e2 oIx (eC (.str "abcdefghijklmnopqrstuvwxyz")) (eL f__law_take (aCons (eVar 0) (aCons (eC (.int 26)) aNil))))))) (sExpr (eMt chkL mAppend (eVar 3) (aCons (e2 oAdd (eVar 5) (e2 oIx (eC (.str "xyzuvw")) (eVar 4))) aNil)))))) (sRet (e1 mFrz (eVar 3)))))
def f__law_names : FM := runFn 7 3 d__law_names
/-- _law_factor(_law_pool_here): 0 _law_pool_here -/
def d__law_factor : SD := (sSeq (sIf (bVal (e2 oEq (eL f__law_take (aCons (eVar 0) (aCons (eC (.int 12)) aNil))) (eC (.int 0)))) (sRet (e2 oSub (eL f__law_take (aCons (eVar 0) (aCons (e2 oMul (eC (.int 2)) (e2 oPow (eC (.int 10)) (eC (.int 12)))) aNil))) (e2 oPow (eC (.int 10)) (eC (.int 12))))) sNx) (sRet (e2 oIx (eL mLst (aCons (eC (.int 0)) (aCons (eC (.int 1)) (aCons (e1 oNeg (eC (.int 1))) (aCons (eC (.int 0)) (aCons (eC (.int 2)) (aCons (e1 oNeg (eC (.int 3))) (aCons (eC (.int 1)) (aCons (eC (.int 0)) aNil))))))))) (eL f__law_take (aCons (eVar 0) (aCons (eC (.int 8)) aNil))))))
def f__law_factor : FM := runFn 1 1 d__law_factor
/-- _law_line(_law_pool_here, _law_many): 0 _law_pool_here, 1 _law_many, 2 _law_turn -/
def d__law_line : SD := (sRet (e2 oAdd (eL mLst (aCons (e2 oSub (eL f__law_take (aCons (eVar 0) (aCons (eC (.int 9)) aNil))) (eC (.int 4))) aNil)) (eLc (imOfA mItR1 (aCons (eVar 1) aNil)) (.nm 2) bYes (eL f__law_factor (aCons (eVar 0) aNil)) [2])))
def f__law_line : FM := runFn 3 2 d__law_line
/-- _law_wishes(_law_pool_here, _law_many, _law_most): 0 _law_pool_here, 1 _law_many, 2 _law_most, 3 _law_found, 4 _law_turn -/
def d__law_wishes : SD := (sSeq (sSet 3 (eL mCell aNil)) (sSeq (sFor (imOfA mItR1 (aCons (eL f__law_take (aCons (eVar 0) (aCons (e2 oAdd (eVar 2) (eC (.int 1))) aNil))) aNil)) (.nm 4) (sExpr (eMt chkL mAppend (eVar 3) (aCons (eL mTup (aCons (e2 oIx (eL mLst (aCons (eC (.str "least")) (aCons (eC (.str "least")) (aCons (eC (.str "just")) aNil)))) (eL f__law_take (aCons (eVar 0) (aCons (eC (.int 3)) aNil)))) (aCons (eL f__law_line (aCons (eVar 0) (aCons (eVar 1) aNil))) aNil))) aNil)))) (sRet (e1 mFrz (eVar 3)))))
def f__law_wishes : FM := runFn 5 3 d__law_wishes
/-- _law_program(_law_pool_here, _law_places, _law_rows): 0 _law_pool_here, 1 _law_places, 2 _law_rows, 3 _law_names_here, 4 _law_called, 5 _law_told, 6 _law_turn, 7 _law_start, 8 _law_to -/
def d__law_program : SD := (sSeq (sSet 3 (eL f__law_names (aCons (eVar 0) (aCons (e2 oAdd (eC (.int 1)) (eL f__law_take (aCons (eVar 0) (aCons (eC (.int 3)) aNil)))) (aCons (eC (.int 6)) aNil))))) (sSeq (sSet 4 (eL f__law_names (aCons (eVar 0) (aCons (e2 oAdd (eC (.int 1)) (eL f__law_take (aCons (eVar 0) (aCons (eVar 1) aNil)))) (aCons (eC (.int 6)) aNil))))) (sSeq (sSet 5 (eL mCell aNil)) (sSeq (sFor (imOfA mItR1 (aCons (eL f__law_take (aCons (eVar 0) (aCons (e2 oAdd (eVar 2) (eC (.int 1))) aNil))) aNil)) (.nm 6) (sSeq (sSet 7 (eL f__law_take (aCons (eVar 0) (aCons (eL fLen (aCons (eVar 4) aNil)) aNil)))) (sSeq (sSet 8 (eL f__law_take (aCons (eVar 0) (aCons (eL fLen (aCons (eVar 4) aNil)) aNil)))) (sExpr (eMt chkL mAppend (eVar 5) (aCons (eL mTup (aCons (eVar 7) (aCons (eVar 8) (aCons (eL f__law_wishes (aCons (eVar 0) (aCons (e2 oMul (eC (.int 2)) (eL fLen (aCons (eVar 3) aNil))) (aCons (e2 oIx (eL mLst (aCons (eC (.int 1)) (aCons (eC (.int 3)) (aCons (eC (.int 4)) (aCons (eC (.int 12)) aNil))))) (eL f__law_take (aCons (eVar 0) (aCons (eC (.int 4)) aNil)))) aNil)))) aNil)))) aNil)))))) (sRet (eL mTup (aCons (eVar 3) (aCons (eVar 4) (aCons (eVar 5) aNil)))))))))
def f__law_program : FM := runFn 9 3 d__law_program
/-- _law_line_text(_law_names_here, _law_line_here): 0 _law_names_here, 1 _law_line_here, 2 _law_wanted, 3 _law_name, 4 _law_factor_here, 5 _law_part, 6 _law_sign -/
def d__law_line_text : SD := (sSeq (sSet 2 (eC (.str ""))) (sSeq (sFor (imOfA mItZ (aCons (e2 oAdd (eL mLst (aCons (eC (.str "")) aNil)) (eVar 0)) (aCons (eVar 1) aNil))) (.tup [.nm 3, .nm 4]) (sIf (bVal (e2 oNe (eVar 4) (eC (.int 0)))) (sSeq (sSet 5 (e2 oAdd (e2 oAdd (eL fStrR (aCons (eL fAbs (aCons (eVar 4) aNil)) aNil)) (eC (.str "*"))) (eVar 3))) (sSeq (sIf (bVal (e2 oEq (eVar 3) (eC (.str "")))) (sSet 5 (eL fStrR (aCons (eL fAbs (aCons (eVar 4) aNil)) aNil))) (sIf (bVal (e2 oEq (eL fAbs (aCons (eVar 4) aNil)) (eC (.int 1)))) (sSet 5 (eVar 3)) sNx)) (sSeq (sSet 6 (e2 oIx (eL mLst (aCons (eC (.str " + ")) (aCons (eC (.str " - ")) aNil))) (eL fInt (aCons (e2 oLt (eVar 4) (eC (.int 0))) aNil)))) (sSeq (sIf (bVal (e2 oEq (eVar 2) (eC (.str "")))) (sSet 6 (e2 oIx (eL mLst (aCons (eC (.str "")) (aCons (eC (.str "-")) aNil))) (eL fInt (aCons (e2 oLt (eVar 4) (eC (.int 0))) aNil)))) sNx) (sSet 2 (e2 oAdd (e2 oAdd (eVar 2) (eVar 6)) (eVar 5))))))) sNx)) (sRet (e2 oIx (eL mLst (aCons (eVar 2) (aCons (eC (.str "0")) aNil))) (eL fInt (aCons (e2 oEq (eVar 2) (eC (.str ""))) aNil))))))
def f__law_line_text : FM := runFn 7 2 d__law_line_text
/-- _law_wish_text(_law_names_here, _law_wish): 0 _law_names_here, 1 _law_wish -/
def d__law_wish_text : SD := (sRet (e2 oAdd (eL f__law_line_text (aCons (eVar 0) (aCons (e2 oIx (eVar 1) (eC (.int 1))) aNil))) (e2 oIx (eL mLst (aCons (eC (.str " >= 0")) (aCons (eC (.str " = 0")) aNil))) (eL fInt (aCons (e2 oEq (e2 oIx (eVar 1) (eC (.int 0))) (eC (.str "just"))) aNil)))))
def f__law_wish_text : FM := runFn 2 2 d__law_wish_text
/-- _law_program_text(_law_own): 0 _law_own, 1 _law_both, 2 _law_found, 3 _law_names_here, 4 _law_places, 5 _law_rows, 6 _law_start, 7 _law_to, 8 _law_wishes_here, 9 _law_name, 10 _law_wish -/
def d__law_program_text : SD := (sSeq (sAsg (.tup [.nm 3, .nm 4, .nm 5]) (eVar 0)) (sSeq (sSet 1 (e2 oAdd (eVar 3) (eLc (imOf mItL (eVar 3)) (.nm 9) bYes (e2 oAdd (eVar 9) (eC (.str "'"))) [9]))) (sSeq (sSet 2 (eL mCell (aCons (e2 oAdd (eC (.str "numbers ")) (eMt chkS mJoin (eC (.str " ")) (aCons (eVar 3) aNil))) (aCons (e2 oAdd (eC (.str "places ")) (eMt chkS mJoin (eC (.str " ")) (aCons (eVar 4) aNil))) aNil)))) (sSeq (sFor (imOf mItL (eVar 5)) (.tup [.nm 6, .nm 7, .nm 8]) (sSeq (sExpr (eMt chkL mAppend (eVar 2) (aCons (e2 oAdd (e2 oAdd (e2 oAdd (eC (.str "row ")) (e2 oIx (eVar 4) (eVar 6))) (eC (.str " "))) (e2 oIx (eVar 4) (eVar 7))) aNil))) (sSet 2 (e2 oAddC (eVar 2) (eLc (imOf mItL (eVar 8)) (.nm 10) bYes (eL f__law_wish_text (aCons (eVar 1) (aCons (eVar 10) aNil))) [10]))))) (sRet (eMt chkS mJoin (eC (.str "\n")) (aCons (eVar 2) aNil)))))))
def f__law_program_text : FM := runFn 11 1 d__law_program_text
/-- shown_part(name, factor): 0 name, 1 factor -/
def d_shown_part : SD := (sSeq (sIf (bVal (e2 oIsN (eVar 0) (eC .non))) (sRet (eL fStrR (aCons (eL fAbs (aCons (eVar 1) aNil)) aNil))) sNx) (sSeq (sIf (bVal (e2 oEq (eL fAbs (aCons (eVar 1) aNil)) (eC (.int 1)))) (sRet (eVar 0)) sNx) (sRet (eJs [(eFmt (eL fAbs (aCons (eVar 1) aNil))), (eC (.str "*")), (eFmt (eVar 0))]))))
def f_shown_part : FM := runFn 2 2 d_shown_part
/-- shown_line(names, line): 0 names, 1 line, 2 found, 3 name, 4 factor, 5 sign -/
def d_shown_line : SD := (sSeq (sSet 2 (eC (.str ""))) (sSeq (sFor (imOfA mItZ (aCons (e2 oAdd (eL mLst (aCons (eC .non) aNil)) (eVar 0)) (aCons (eVar 1) aNil))) (.tup [.nm 3, .nm 4]) (sIf (bVal (e2 oNe (eVar 4) (eC (.int 0)))) (sSeq (sSet 5 (e2 oIx (eL mLst (aCons (eC (.str " + ")) (aCons (eC (.str " - ")) aNil))) (eL fInt (aCons (e2 oLt (eVar 4) (eC (.int 0))) aNil)))) (sSeq (sIf (bVal (e2 oEq (eVar 2) (eC (.str "")))) (sSet 5 (e2 oIx (eL mLst (aCons (eC (.str "")) (aCons (eC (.str "-")) aNil))) (eL fInt (aCons (e2 oLt (eVar 4) (eC (.int 0))) aNil)))) sNx) (sSet 2 (e2 oAdd (e2 oAdd (eVar 2) (eVar 5)) (eL f_shown_part (aCons (eVar 3) (aCons (eVar 4) aNil))))))) sNx)) (sRet (eOrV (eVar 2) (eC (.str "0"))))))
def f_shown_line : FM := runFn 6 2 d_shown_line
/-- shown_wish(names, wish): 0 names, 1 wish, 2 word, 3 line -/
def d_shown_wish : SD := (sSeq (sAsg (.tup [.nm 2, .nm 3]) (eVar 1)) (sRet (e2 oAdd (eL f_shown_line (aCons (eVar 0) (aCons (eVar 3) aNil))) (e1 (oTab c_ENDS) (eVar 2)))))
def f_shown_wish : FM := runFn 4 2 d_shown_wish
/-- is_name(thing, longest): 0 thing, 1 longest, 2 sign -/
def d_is_name : SD := (sRet (eAnd (eL fIsi (aCons (eVar 0) (aCons (eC (.ty "str")) aNil))) (eAnd (eChain oLe oLe (eC (.int 1)) (eL fLen (aCons (eVar 0) aNil)) (eVar 1)) (eL fAll (aCons (eLc (imOf mItS (eVar 0)) (.nm 2) bYes (e2 oIn (eVar 2) (eC c_LETTERS)) [2]) aNil)))))
def f_is_name : FM := runFn 3 2 d_is_name
/-- first_no_name(names): 0 names, 1 number, 2 name -/
def d_first_no_name : SD := (sSeq (sFor (imOfA mItE (aCons (eVar 0) aNil)) (.tup [.nm 1, .nm 2]) (sIf (bOr (bNot (bVal (eK f_is_name (byIxD [0, 1] [(D.int 6)]) (aCons (eVar 2) aNil) aNil))) (bVal (e2 oIn (eVar 2) (eSl oSl (eVar 0) oNone (oSome (eVar 1)))))) (sRet (eVar 1)) sNx)) (sRet (eC .non)))
def f_first_no_name : FM := runFn 3 1 d_first_no_name
/-- look_at_names(part, names, most): 0 part, 1 names, 2 most, 3 number -/
def d_look_at_names : SD := (sSeq (sIf (bOr (bNot (bVal (eL fIsi (aCons (eVar 1) (aCons (eC (.ty "list")) aNil))))) (bNot (bVal (eChain oLe oLe (eC (.int 1)) (eL fLen (aCons (eVar 1) aNil)) (eVar 2))))) (sRaise2 "NoProgram" "part" "number" (aCons (eVar 0) (aCons (eC .non) aNil))) sNx) (sSeq (sSet 3 (eL f_first_no_name (aCons (eVar 1) aNil))) (sIf (bVal (e2 oNotN (eVar 3) (eC .non))) (sRaise2 "NoProgram" "part" "number" (aCons (eVar 0) (aCons (eVar 3) aNil))) sNx)))
def f_look_at_names : FM := runFn 4 3 d_look_at_names
/-- is_whole(thing): 0 thing -/
def d_is_whole : SD := (sRet (eAnd (eL fIsi (aCons (eVar 0) (aCons (eC (.ty "int")) aNil))) (eNot (eL fIsi (aCons (eVar 0) (aCons (eC (.ty "bool")) aNil))))))
def f_is_whole : FM := runFn 1 1 d_is_whole
/-- look_at_many(many): 0 many -/
def d_look_at_many : SD := (sIf (bOr (bNot (bVal (eL f_is_whole (aCons (eVar 0) aNil)))) (bNot (bVal (eChain oLe oLe (eC (.int 0)) (eVar 0) (eC c_MOST_NUMBERS_wishes))))) (sRaise1 "NoNumber" "thing" (aCons (eVar 0) aNil)) sNx)
def f_look_at_many : FM := runFn 1 1 d_look_at_many
/-- is_line(many, thing): 0 many, 1 thing, 2 one -/
def d_is_line : SD := (sSeq (sExpr (eL f_look_at_many (aCons (eVar 0) aNil))) (sRet (eAnd (eL fIsi (aCons (eVar 1) (aCons (eC (.ty "list")) aNil))) (eAnd (e2 oEq (eL fLen (aCons (eVar 1) aNil)) (e2 oAdd (eVar 0) (eC (.int 1)))) (eL fAll (aCons (eLc (imOf mItL (eVar 1)) (.nm 2) bYes (eL f_is_whole (aCons (eVar 2) aNil)) [2]) aNil))))))
def f_is_line : FM := runFn 3 2 d_is_line
/-- is_wish(many, thing): 0 many, 1 thing -/
def d_is_wish : SD := (sSeq (sExpr (eL f_look_at_many (aCons (eVar 0) aNil))) (sSeq (sIf (bOr (bNot (bVal (eL fIsi (aCons (eVar 1) (aCons (eC (.ty "tuple")) aNil))))) (bOr (bVal (e2 oNe (eL fLen (aCons (eVar 1) aNil)) (eC (.int 2)))) (bNot (bVal (eL fIsi (aCons (e2 oIx (eVar 1) (eC (.int 0))) (aCons (eC (.ty "str")) aNil))))))) (sRet (eC (.bl false))) sNx) (sRet (eAnd (e2 oIn (e2 oIx (eVar 1) (eC (.int 0))) (eL mTup (aCons (eC c_LEAST) (aCons (eC c_JUST) aNil)))) (eL f_is_line (aCons (eVar 0) (aCons (e2 oIx (eVar 1) (eC (.int 1))) aNil)))))))
def f_is_wish : FM := runFn 2 2 d_is_wish
/-- are_wishes(many, thing, most): 0 many, 1 thing, 2 most, 3 wish -/
def d_are_wishes : SD := (sRet (eAnd (eL fIsi (aCons (eVar 1) (aCons (eC (.ty "list")) aNil))) (eAnd (e2 oLe (eL fLen (aCons (eVar 1) aNil)) (eVar 2)) (eL fAll (aCons (eLc (imOf mItL (eVar 1)) (.nm 3) bYes (eL f_is_wish (aCons (eVar 0) (aCons (eVar 3) aNil))) [3]) aNil)))))
def f_are_wishes : FM := runFn 4 3 d_are_wishes
/-- is_number_of(thing, many): 0 thing, 1 many -/
def d_is_number_of : SD := (sRet (eAnd (eL f_is_whole (aCons (eVar 0) aNil)) (eChain oLe oLt (eC (.int 0)) (eVar 0) (eVar 1))))
def f_is_number_of : FM := runFn 2 2 d_is_number_of
/-- is_row(numbers, places, thing): 0 numbers, 1 places, 2 thing -/
def d_is_row : SD := (sSeq (sIf (bOr (bNot (bVal (eL fIsi (aCons (eVar 2) (aCons (eC (.ty "tuple")) aNil))))) (bVal (e2 oNe (eL fLen (aCons (eVar 2) aNil)) (eC (.int 3))))) (sRet (eC (.bl false))) sNx) (sSeq (sIf (bOr (bNot (bVal (eL f_is_number_of (aCons (e2 oIx (eVar 2) (eC (.int 0))) (aCons (eVar 1) aNil))))) (bNot (bVal (eL f_is_number_of (aCons (e2 oIx (eVar 2) (eC (.int 1))) (aCons (eVar 1) aNil)))))) (sRet (eC (.bl false))) sNx) (sRet (eK f_are_wishes (byIxD [0, 1, 2] [(D.int 12)]) (aCons (e2 oMul (eC (.int 2)) (eVar 0)) (aCons (e2 oIx (eVar 2) (eC (.int 2))) aNil)) aNil))))
def f_is_row : FM := runFn 3 3 d_is_row
/-- look_at(thing): 0 thing, 1 names, 2 places, 3 rows, 4 number, 5 row -/
def d_look_at : SD := (sSeq (sIf (bOr (bNot (bVal (eL fIsi (aCons (eVar 0) (aCons (eC (.ty "tuple")) aNil))))) (bVal (e2 oNe (eL fLen (aCons (eVar 0) aNil)) (eC (.int 3))))) (sRaise2 "NoProgram" "part" "number" (aCons (eC .non) (aCons (eC .non) aNil))) sNx) (sSeq (sAsg (.tup [.nm 1, .nm 2, .nm 3]) (eVar 0)) (sSeq (sExpr (eK f_look_at_names (byIxD [0, 1, 2] []) (aCons (eC (.str "names")) (aCons (eVar 1) aNil)) (aCons (eC c_MOST_NUMBERS_programs) aNil))) (sSeq (sExpr (eK f_look_at_names (byIxD [0, 1, 2] []) (aCons (eC (.str "places")) (aCons (eVar 2) aNil)) (aCons (eC c_MOST_PLACES) aNil))) (sSeq (sIf (bOr (bNot (bVal (eL fIsi (aCons (eVar 3) (aCons (eC (.ty "list")) aNil))))) (bVal (e2 oGt (eL fLen (aCons (eVar 3) aNil)) (eC c_MOST_ROWS)))) (sRaise2 "NoProgram" "part" "number" (aCons (eC (.str "rows")) (aCons (eC .non) aNil))) sNx) (sFor (imOfA mItE (aCons (eVar 3) aNil)) (.tup [.nm 4, .nm 5]) (sIf (bNot (bVal (eL f_is_row (aCons (eL fLen (aCons (eVar 1) aNil)) (aCons (eL fLen (aCons (eVar 2) aNil)) (aCons (eVar 5) aNil)))))) (sRaise2 "NoProgram" "part" "number" (aCons (eC (.str "rows")) (aCons (eVar 4) aNil))) sNx)))))))
def f_look_at : FM := runFn 6 1 d_look_at
/-- both_names(names): 0 names, 1 name -/
def d_both_names : SD := (sRet (e2 oAdd (eVar 0) (eLc (imOf mItL (eVar 0)) (.nm 1) bYes (e2 oAdd (eVar 1) (eC c_BEHIND)) [1])))
def f_both_names : FM := runFn 2 1 d_both_names
/-- shown_program(program): 0 program, 1 found, 2 names, 3 places, 4 rows, 5 start, 6 to, 7 wishes, 8 wish -/
def d_shown_program : SD := (sSeq (sExpr (eL f_look_at (aCons (eVar 0) aNil))) (sSeq (sAsg (.tup [.nm 2, .nm 3, .nm 4]) (eVar 0)) (sSeq (sSet 1 (eL mCell (aCons (eMt chkS mJoin (eC (.str " ")) (aCons (e2 oAdd (eL mLst (aCons (eC (.str "numbers")) aNil)) (eVar 2)) aNil)) (aCons (eMt chkS mJoin (eC (.str " ")) (aCons (e2 oAdd (eL mLst (aCons (eC (.str "places")) aNil)) (eVar 3)) aNil)) aNil)))) (sSeq (sFor (imOf mItL (eVar 4)) (.tup [.nm 5, .nm 6, .nm 7]) (sSeq (sExpr (eMt chkL mAppend (eVar 1) (aCons (eMt chkS mJoin (eC (.str " ")) (aCons (eL mLst (aCons (eC (.str "row")) (aCons (e2 oIx (eVar 3) (eVar 5)) (aCons (e2 oIx (eVar 3) (eVar 6)) aNil)))) aNil)) aNil))) (sExpr (eMt chkL mExtend (eVar 1) (aCons (eLc (imOf mItL (eVar 7)) (.nm 8) bYes (eL f_shown_wish (aCons (eL f_both_names (aCons (eVar 2) aNil)) (aCons (eVar 8) aNil))) [8]) aNil))))) (sRet (eMt chkS mJoin (eC (.str "\n")) (aCons (eVar 1) aNil)))))))
def f_shown_program : FM := runFn 9 1 d_shown_program
/-- read_names(rows, number, word, most): 0 rows, 1 number, 2 word, 3 most, 4 first, 5 names -/
def d_read_names : SD := (sSeq (sIf (bVal (e2 oEq (eL fLen (aCons (eVar 0) aNil)) (eVar 1))) (sRaise1 "NoText" "row" (aCons (eVar 1) aNil)) sNx) (sSeq (sStarC 4 5 (eMt chkS mSplit (e2 oIx (eVar 0) (eVar 1)) (aCons (eC (.str " ")) aNil))) (sSeq (sIf (bOr (bVal (e2 oNe (eVar 4) (eVar 2))) (bOr (bNot (bVal (eChain oLe oLe (eC (.int 1)) (eL fLen (aCons (eVar 5) aNil)) (eVar 3)))) (bVal (e2 oNotN (eL f_first_no_name (aCons (eVar 5) aNil)) (eC .non))))) (sRaise1 "NoText" "row" (aCons (eVar 1) aNil)) sNx) (sRet (eVar 5)))))
def f_read_names : FM := runFn 6 4 d_read_names
/-- is_head(places, words): 0 places, 1 words -/
def d_is_head : SD := (sRet (eAnd (e2 oEq (eL fLen (aCons (eVar 1) aNil)) (eC (.int 3))) (eAnd (e2 oEq (e2 oIx (eVar 1) (eC (.int 0))) (eC (.str "row"))) (eAnd (e2 oIn (e2 oIx (eVar 1) (eC (.int 1))) (eVar 0)) (e2 oIn (e2 oIx (eVar 1) (eC (.int 2))) (eVar 0))))))
def f_is_head : FM := runFn 2 2 d_is_head
/-- are_figures(text): 0 text, 1 sign -/
def d_are_figures : SD := (sSeq (sIf (bOr (bVal (e2 oEq (eVar 0) (eC (.str "")))) (bNot (bVal (eL fAll (aCons (eLc (imOf mItS (eVar 0)) (.nm 1) bYes (e2 oIn (eVar 1) (eC c_FIGURES)) [1]) aNil))))) (sRet (eC (.bl false))) sNx) (sRet (eOr (e2 oEq (eVar 0) (eC (.str "0"))) (e2 oNe (e2 oIx (eVar 0) (eC (.int 0))) (eC (.str "0"))))))
def f_are_figures : FM := runFn 2 1 d_are_figures
/-- part_of_text(names, text): 0 names, 1 text, 2 figures, 3 mark, 4 name -/
def d_part_of_text : SD := (sSeq (sAsg (.tup [.nm 2, .nm 3, .nm 4]) (eMt chkS mRPart (eVar 1) (aCons (eC (.str "*")) aNil))) (sSeq (sIf (bAnd (bVal (e2 oEq (eVar 3) (eC (.str "")))) (bVal (eL f_are_figures (aCons (eVar 4) aNil)))) (sRet (eL mTup (aCons (eC (.int 0)) (aCons (eL fIntX (aCons (eVar 4) aNil)) aNil)))) sNx) (sSeq (sIf (bOr (bVal (e2 oNotIn (eVar 4) (eVar 0))) (bAnd (bVal (e2 oEq (eVar 3) (eC (.str "*")))) (bNot (bVal (eL f_are_figures (aCons (eVar 2) aNil)))))) (sRet (eC .non)) sNx) (sRet (eL mTup (aCons (e2 oAdd (eC (.int 1)) (eMt chkL mIndexS (eVar 0) (aCons (eVar 4) aNil))) (aCons (eL fIntX (aCons (eOrV (eVar 2) (eC (.str "1"))) aNil)) aNil)))))))
def f_part_of_text : FM := runFn 5 2 d_part_of_text
/-- read_line(names, text): 0 names, 1 text, 2 signs, 3 parts, 4 found, 5 first, 6 sign, 7 part, 8 told, 9 rest -/
def d_read_line : SD := (sSeq (sIf (bNot (bVal (eL fIsi (aCons (eVar 1) (aCons (eC (.ty "str")) aNil))))) (sRaise1 "NoText" "row" (aCons (eC (.int 0)) aNil)) sNx) (sSeq (sStar 5 9 (eMt chkS mSplit (eVar 1) (aCons (eC (.str " ")) aNil))) (sSeq (sSet 2 (e2 oAddC (eL mLst (aCons (eC (.str "+")) aNil)) (eSl (oSl3 (2)) (eVar 9) oNone oNone))) (sSeq (sSet 3 (e2 oAddC (eL mLst (aCons (eVar 5) aNil)) (eSl (oSl3 (2)) (eVar 9) (oSome (eC (.int 1))) oNone))) (sSeq (sIf (bVal (eMt chkS mStarts (eVar 5) (aCons (eC (.str "-")) aNil))) (sSeq (sSub setD (eVar 2) (eC (.int 0)) (eC (.str "-"))) (sSub setD (eVar 3) (eC (.int 0)) (eSl oSl (eVar 5) (oSome (eC (.int 1))) oNone))) sNx) (sSeq (sIf (bVal (e2 oNe (eL fLen (aCons (eVar 2) aNil)) (eL fLen (aCons (eVar 3) aNil)))) (sRaise1 "NoText" "row" (aCons (eC (.int 0)) aNil)) sNx) (sSeq (sSet 4 (e2 oMulC (eL mLst (aCons (eC (.int 0)) aNil)) (e2 oAdd (eL fLen (aCons (eVar 0) aNil)) (eC (.int 1))))) (sSeq (sFor (imOfA mItZ (aCons (eVar 2) (aCons (eVar 3) aNil))) (.tup [.nm 6, .nm 7]) (sSeq (sSet 8 (eL f_part_of_text (aCons (eVar 0) (aCons (eVar 7) aNil)))) (sSeq (sIf (bOr (bVal (e2 oIsN (eVar 8) (eC .non))) (bVal (e2 oNotIn (eVar 6) (eL mTup (aCons (eC (.str "+")) (aCons (eC (.str "-")) aNil)))))) (sRaise1 "NoText" "row" (aCons (eC (.int 0)) aNil)) sNx) (sSub setD (eVar 4) (e2 oIx (eVar 8) (eC (.int 0))) (e2 oIx (eL mLst (aCons (e2 oIx (eVar 8) (eC (.int 1))) (aCons (e1 oNeg (e2 oIx (eVar 8) (eC (.int 1)))) aNil))) (eL fInt (aCons (e2 oEq (eVar 6) (eC (.str "-"))) aNil))))))) (sSeq (sIf (bVal (e2 oNe (eL f_shown_line (aCons (eVar 0) (aCons (eVar 4) aNil))) (eVar 1))) (sRaise1 "NoText" "row" (aCons (eC (.int 0)) aNil)) sNx) (sRet (eVar 4)))))))))))
def f_read_line : FM := runFn 10 2 d_read_line
/-- read_wish(names, text): 0 names, 1 text, 2 word, 3 end -/
def d_read_wish : SD := (sSeq (sIf (bNot (bVal (eL fIsi (aCons (eVar 1) (aCons (eC (.ty "str")) aNil))))) (sRaise1 "NoText" "row" (aCons (eC (.int 0)) aNil)) sNx) (sSeq (sFor (imTab c_ENDS) (.tup [.nm 2, .nm 3]) (sIf (bVal (eMt chkS mEnds (eVar 1) (aCons (eVar 3) aNil))) (sRet (eL mTup (aCons (eVar 2) (aCons (eL f_read_line (aCons (eVar 0) (aCons (eSl oSl (eVar 1) oNone (oSome (e2 oSub (eL fLen (aCons (eVar 1) aNil)) (eL fLen (aCons (eVar 3) aNil))))) aNil))) aNil)))) sNx)) (sRaise1 "NoText" "row" (aCons (eC (.int 0)) aNil))))
def f_read_wish : FM := runFn 4 2 d_read_wish
/-- read_wish_at(names, text, number): 0 names, 1 text, 2 number, 3 e -/
def d_read_wish_at : SD := (sTryAs tx_NoText 3 (sRet (eL f_read_wish (aCons (eVar 0) (aCons (eVar 1) aNil)))) sNever)
def f_read_wish_at : FM := runFn 4 3 d_read_wish_at
/-- read_program(text): 0 text, 1 lines, 2 names, 3 places, 4 rows, 5 number, 6 line, 7 words -/
def d_read_program : SD := (sSeq (sIf (bNot (bVal (eL fIsi (aCons (eVar 0) (aCons (eC (.ty "str")) aNil))))) (sRaise1 "NoText" "row" (aCons (eC (.int 0)) aNil)) sNx) (sSeq (sSet 1 (eMt chkS mSplit (eVar 0) (aCons (eC (.str "\n")) aNil))) (sSeq (sSet 2 (eK f_read_names (byIxD [0, 1, 2, 3] []) (aCons (eVar 1) (aCons (eC (.int 0)) aNil)) (aCons (eC (.str "numbers")) (aCons (eC c_MOST_NUMBERS_programs) aNil)))) (sSeq (sSet 3 (eK f_read_names (byIxD [0, 1, 2, 3] []) (aCons (eVar 1) (aCons (eC (.int 1)) aNil)) (aCons (eC (.str "places")) (aCons (eC c_MOST_PLACES) aNil)))) (sSeq (sSet 4 (eL mCell aNil)) (sSeq (sFor (imOfA mItE (aCons (eVar 1) aNil)) (.tup [.nm 5, .nm 6]) (sSeq (sSet 7 (eMt chkS mSplit (eVar 6) (aCons (eC (.str " ")) aNil))) (sIf (bAnd (bVal (e2 oGt (eVar 5) (eC (.int 1)))) (bVal (eL f_is_head (aCons (eVar 3) (aCons (eVar 7) aNil))))) (sSeq (sIf (bVal (e2 oEq (eL fLen (aCons (eVar 4) aNil)) (eC c_MOST_ROWS))) (sRaise1 "NoText" "row" (aCons (eVar 5) aNil)) sNx) (sExpr (eMt chkL mAppend (eVar 4) (aCons (eL mTup (aCons (eMt chkL mIndexS (eVar 3) (aCons (e2 oIx (eVar 7) (eC (.int 1))) aNil)) (aCons (eMt chkL mIndexS (eVar 3) (aCons (e2 oIx (eVar 7) (eC (.int 2))) aNil)) (aCons (eL mCell aNil) aNil)))) aNil)))) (sIf (bVal (e2 oGt (eVar 5) (eC (.int 1)))) (sSeq (sIf (bOr (bVal (e2 oEqZ (eVar 4) (eL mLst aNil))) (bVal (e2 oEq (eL fLen (aCons (e2 oIx (e2 oIx (eVar 4) (e1 oNeg (eC (.int 1)))) (eC (.int 2))) aNil)) (eC c_MOST_WISHES)))) (sRaise1 "NoText" "row" (aCons (eVar 5) aNil)) sNx) (sExpr (eMt chkL mAppend (e2 oIx (e2 oIx (eVar 4) (e1 oNeg (eC (.int 1)))) (eC (.int 2))) (aCons (eL f_read_wish_at (aCons (eL f_both_names (aCons (eVar 2) aNil)) (aCons (eVar 6) (aCons (eVar 5) aNil)))) aNil)))) sNx)))) (sRet (eL mTup (aCons (eVar 2) (aCons (eVar 3) (aCons (eVar 4) aNil)))))))))))
def f_read_program : FM := runFn 8 1 d_read_program
/-- _law_apart(_law_told): 0 _law_told, 1 _law_some, 2 _law_row, 3 _law_total, 4 _law_at, 5 _law_one, 6 _law_word, 7 _law_line_here, 8 _law_each -/
def d__law_apart : SD := (sSeq (sSet 1 (eL fListC (aCons (eVar 0) aNil))) (sSeq (sFor (imOf mItL (e2 oIx (eVar 0) (eC (.int 2)))) (.nm 2) (sSeq (sExpr (eMt chkL mAppend (eVar 1) (aCons (e2 oIx (eVar 2) (eC (.int 2))) aNil))) (sSet 1 (e2 oAddC (eVar 1) (eLc (imOf mItL (e2 oIx (eVar 2) (eC (.int 2)))) (.tup [.nm 6, .nm 7]) bYes (eVar 7) [6, 7]))))) (sSeq (sSet 3 (eL fSum (aCons (eLc (imOf mItL (eVar 1)) (.nm 5) bYes (eL fLen (aCons (eVar 5) aNil)) [5]) aNil))) (sSeq (sFor (imOfA mItE (aCons (eVar 1) aNil)) (.tup [.nm 4, .nm 5]) (sSeq (sExpr (eMt chkL mAppend (eVar 5) (aCons (eC .non) aNil))) (sIf (bVal (e2 oNe (eL fSum (aCons (eLc (imOf mItL (eVar 1)) (.nm 8) bYes (eL fLen (aCons (eVar 8) aNil)) [8]) aNil)) (e2 oAdd (e2 oAdd (eVar 3) (eVar 4)) (eC (.int 1))))) (sRet (eC (.bl false))) sNx))) (sRet (eC (.bl true)))))))
def f__law_apart : FM := runFn 9 1 d__law_apart
/-- _law_right(_law_own): 0 _law_own, 1 _law_wanted, 2 _law_kept, 3 _law_told, 4 _law_turn, 5 _law_found -/
def d__law_right : SD := (sSeq (sSet 1 (eL f__law_program_text (aCons (eVar 0) aNil))) (sSeq (sSet 2 (eL fReprD (aCons (eVar 0) aNil))) (sSeq (sSet 3 (eL f_shown_program (aCons (eVar 0) aNil))) (sSeq (sIf (bOr (bNot (bVal (eL fIsi (aCons (eVar 3) (aCons (eC (.ty "str")) aNil))))) (bOr (bVal (e2 oNeDp (eVar 3) (eVar 1))) (bVal (e2 oNeDp (eL fReprD (aCons (eVar 0) aNil)) (eVar 2))))) (sRet (eC (.bl false))) sNx) (sSeq (sFor (imOfA mItR1 (aCons (eC (.int 2)) aNil)) (.nm 4) (sSeq (sSet 5 (eL f_read_program (aCons (eVar 1) aNil))) (sSeq (sIf (bVal (e2 oNeDp (eL fReprD (aCons (eVar 5) aNil)) (eVar 2))) (sRet (eC (.bl false))) sNx) (sIf (bNot (bVal (eL f__law_apart (aCons (eVar 5) aNil)))) (sRet (eC (.bl false))) sNx)))) (sRet (eAnd (e2 oEqDp (eL fReprD (aCons (eK f_read_program (byIx [0]) aNil (aCons (eVar 1) aNil)) aNil)) (eVar 2)) (e2 oEqDp (eK f_shown_program (byIx [0]) aNil (aCons (eVar 0) aNil)) (eVar 1)))))))))
def f__law_right : FM := runFn 6 1 d__law_right
/-- _law_near_names(): 0 _law_great, 1 _law_told -/
def d__law_near_names : SD := (sSeq (sSet 0 (eL mTup (aCons (eC (.str "least")) (aCons (eL mLst (aCons (e2 oPow (eC (.int 10)) (eC (.int 58))) (aCons (eC (.int 1)) (aCons (eC (.int 1)) (aCons (eC (.int 1)) (aCons (eC (.int 1)) (aCons (eC (.int 1)) (aCons (e1 oNeg (e2 oPow (eC (.int 10)) (eC (.int 58)))) aNil)))))))) aNil)))) (sSeq (sSet 1 (eL mLst (aCons (eL mTup (aCons (eC (.int 0)) (aCons (eC (.int 1)) (aCons (eL mLst (aCons (eL mTup (aCons (eC (.str "just")) (aCons (eL mLst (aCons (eC (.int 1)) (aCons (e1 oNeg (eC (.int 1))) (aCons (eC (.int 0)) (aCons (eC (.int 2)) (aCons (eC (.int 1)) (aCons (eC (.int 0)) (aCons (e1 oNeg (eC (.int 3))) aNil)))))))) aNil))) aNil)) aNil)))) (aCons (eL mTup (aCons (eC (.int 2)) (aCons (eC (.int 3)) (aCons (eL mLst (aCons (eL mTup (aCons (eC (.str "least")) (aCons (eL mLst (aCons (eC (.int 0)) (aCons (eC (.int 0)) (aCons (eC (.int 1)) (aCons (eC (.int 0)) (aCons (eC (.int 0)) (aCons (e1 oNeg (eC (.int 1))) (aCons (eC (.int 1)) aNil)))))))) aNil))) aNil)) aNil)))) aNil)))) (sRet (eL mTup (aCons (eL mLst (aCons (eC (.str "x")) (aCons (eC (.str "xx")) (aCons (eC (.str "yx")) aNil)))) (aCons (eL mLst (aCons (eC (.str "a")) (aCons (eC (.str "aa")) (aCons (eC (.str "ba")) (aCons (eC (.str "ab")) aNil))))) (aCons (e2 oAdd (e2 oAdd (eVar 1) (eL mLst (aCons (eL mTup (aCons (eC (.int 3)) (aCons (eC (.int 0)) (aCons (eL mLst aNil) aNil)))) aNil))) (e2 oMul (eL mLst (aCons (eL mTup (aCons (eC (.int 3)) (aCons (eC (.int 0)) (aCons (eL mLst (aCons (eVar 0) (aCons (eVar 0) aNil))) aNil)))) aNil)) (eC (.int 2)))) aNil)))))))
def f__law_near_names : FM := runFn 2 0 d__law_near_names
/-- law(_law_script): 0 _law_script, 1 _law_ahead, 2 _law_k, 3 _law_pool_here, 4 _law_own -/
def d_law : SD := (sSeq (sSet 1 (eL mTup (aCons (eL mLst (aCons (eC (.str "x")) aNil)) (aCons (eL mLst (aCons (eC (.str "a")) aNil)) (aCons (eL mLst aNil) aNil))))) (sSeq (sIf (bNot (bVal (eL f__law_right (aCons (eL f__law_near_names aNil) aNil)))) (sRet (eC (.bl false))) sNx) (sSeq (sFor (imOfA mItR1 (aCons (eL fMax2 (aCons (eC (.int 1)) (aCons (eL fMin2 (aCons (eL fLen (aCons (eVar 0) aNil)) (aCons (eC (.int 16)) aNil))) aNil))) aNil)) (.nm 2) (sSeq (sSet 3 (eL f__law_pool (aCons (eVar 0) (aCons (eVar 2) aNil)))) (sSeq (sSet 4 (eL f__law_program (aCons (eVar 3) (aCons (eC (.int 6)) (aCons (eC (.int 10)) aNil))))) (sSeq (sThenFrzD 4 (sWhile (bVal (e2 oGt (eL fLen (aCons (eL f__law_program_text (aCons (eVar 4) aNil)) aNil)) (eC (.int 3900)))) (sExpr (eMt chkL mPop (e2 oIx (eVar 4) (eC (.int 2))) aNil)))) (sSeq (sIf (bOr (bNot (bVal (eL f__law_right (aCons (eVar 4) aNil)))) (bOr (bNot (bVal (eL f__law_right (aCons (eVar 1) aNil)))) (bNot (bVal (eL f__law_right (aCons (eVar 4) aNil)))))) (sRet (eC (.bl false))) sNx) (sSet 1 (eVar 4))))))) (sRet (eC (.bl true))))))
def f_law : FM := runFn 5 1 d_law
end
end Lw

namespace Lw
open PySem L2 DL
noncomputable section
/-- what the top has written -/
structure Txt (w : World) (K : PySem.W.Frag) (mg : Str → Option Value) : Prop where
  d__law_pool : DefAt K mg "_law_pool" s__law_pool ["_law_script", "_law_k"]
  d__law_take : DefAt K mg "_law_take" s__law_take ["_law_pool_here", "_law_many"]
  d__law_names : DefAt K mg "_law_names" s__law_names ["_law_pool_here", "_law_many", "_law_most"]
  d__law_factor : DefAt K mg "_law_factor" s__law_factor ["_law_pool_here"]
  d__law_line : DefAt K mg "_law_line" s__law_line ["_law_pool_here", "_law_many"]
  d__law_wishes : DefAt K mg "_law_wishes" s__law_wishes ["_law_pool_here", "_law_many", "_law_most"]
  d__law_program : DefAt K mg "_law_program" s__law_program ["_law_pool_here", "_law_places", "_law_rows"]
  d__law_line_text : DefAt K mg "_law_line_text" s__law_line_text ["_law_names_here", "_law_line_here"]
  d__law_wish_text : DefAt K mg "_law_wish_text" s__law_wish_text ["_law_names_here", "_law_wish"]
  d__law_program_text : DefAt K mg "_law_program_text" s__law_program_text ["_law_own"]
  d_shown_part : DefAt K mg "shown_part" s_shown_part ["name", "factor"]
  d_shown_line : DefAt K mg "shown_line" s_shown_line ["names", "line"]
  d_shown_wish : DefAt K mg "shown_wish" s_shown_wish ["names", "wish"]
  d_is_name : DefAtD K mg "is_name" s_is_name ["thing", "longest"] [] [("longest", (V.int 6))]
  d_first_no_name : DefAt K mg "first_no_name" s_first_no_name ["names"]
  d_look_at_names : DefAtD K mg "look_at_names" s_look_at_names ["part", "names", "most"] [] []
  d_is_whole : DefAt K mg "is_whole" s_is_whole ["thing"]
  d_look_at_many : DefAt K mg "look_at_many" s_look_at_many ["many"]
  d_is_line : DefAt K mg "is_line" s_is_line ["many", "thing"]
  d_is_wish : DefAt K mg "is_wish" s_is_wish ["many", "thing"]
  d_are_wishes : DefAtD K mg "are_wishes" s_are_wishes ["many", "thing", "most"] [] [("most", (V.int 12))]
  d_is_number_of : DefAt K mg "is_number_of" s_is_number_of ["thing", "many"]
  d_is_row : DefAt K mg "is_row" s_is_row ["numbers", "places", "thing"]
  d_look_at : DefAt K mg "look_at" s_look_at ["thing"]
  d_both_names : DefAt K mg "both_names" s_both_names ["names"]
  d_shown_program : DefAt K mg "shown_program" s_shown_program ["program"]
  d_read_names : DefAtD K mg "read_names" s_read_names ["rows", "number", "word", "most"] [] []
  d_is_head : DefAt K mg "is_head" s_is_head ["places", "words"]
  d_are_figures : DefAt K mg "are_figures" s_are_figures ["text"]
  d_part_of_text : DefAt K mg "part_of_text" s_part_of_text ["names", "text"]
  d_read_line : DefAt K mg "read_line" s_read_line ["names", "text"]
  d_read_wish : DefAt K mg "read_wish" s_read_wish ["names", "text"]
  d_read_wish_at : DefAt K mg "read_wish_at" s_read_wish_at ["names", "text", "number"]
  d_read_program : DefAt K mg "read_program" s_read_program ["text"]
  d__law_apart : DefAt K mg "_law_apart" s__law_apart ["_law_told"]
  d__law_right : DefAt K mg "_law_right" s__law_right ["_law_own"]
  d__law_near_names : DefAt K mg "_law_near_names" s__law_near_names []
  d_law : DefAt K mg "law" s_law ["_law_script"]
  z_abs : mg "abs" = none
  z_all : mg "all" = none
  z_bool : mg "bool" = none
  z_enumerate : mg "enumerate" = none
  z_int : mg "int" = none
  z_isinstance : mg "isinstance" = none
  z_len : mg "len" = none
  z_list : mg "list" = none
  z_max : mg "max" = none
  z_min : mg "min" = none
  z_range : mg "range" = none
  z_repr : mg "repr" = none
  z_str : mg "str" = none
  z_sum : mg "sum" = none
  z_tuple : mg "tuple" = none
  z_zip : mg "zip" = none
  k_BEHIND : ∃ t, mg "BEHIND" = some (.str "'" t)
  k_FIGURES : ∃ t, mg "FIGURES" = some (.str "0123456789" t)
  k_JUST : ∃ t, mg "JUST" = some (.str "just" t)
  k_LEAST : ∃ t, mg "LEAST" = some (.str "least" t)
  k_LETTERS : ∃ t, mg "LETTERS" = some (.str "abcdefghijklmnopqrstuvwxyz" t)
  k_MOST_NUMBERS_programs : ∃ t, mg "MOST_NUMBERS_programs" = some (.int 3 t)
  k_MOST_NUMBERS_wishes : ∃ t, mg "MOST_NUMBERS_wishes" = some (.int 8 t)
  k_MOST_PLACES : ∃ t, mg "MOST_PLACES" = some (.int 6 t)
  k_MOST_ROWS : ∃ t, mg "MOST_ROWS" = some (.int 10 t)
  k_MOST_WISHES : ∃ t, mg "MOST_WISHES" = some (.int 12 t)
  k_ENDS : ∃ a, mg "ENDS" = some (.ref a) ∧ KTab K w a c_ENDS
  t_NoText : ∃ C, mg "NoText" = some (.ref C) ∧ TblX K (.ref C) tx_NoText
  tI : TblI K tc tt
  tF : TblF K fo
  r_NoNumber : ∃ (C CB fI : Addr) (fd : FuncData), mg "NoNumber" = some (.ref C) ∧ ClsK K "NoNumber" (.ref C) ∧ OexC K C ∧ PySem.W.findIn K (.ref C) "__init__" = some (some (.ref fI)) ∧ PySem.W.typeIn K (.ref fI) = some (.type "function") ∧ PySem.W.findIn K (.ref C) "thing" = some none ∧ BaseK K mg "WeighError" CB ∧ Fun K "__init__" "NoNumber.__init__" i_NoNumber fI fd ∧ Binds K fd ["self", "thing"] []
  r_NoProgram : ∃ (C CB fI : Addr) (fd : FuncData), mg "NoProgram" = some (.ref C) ∧ ClsK K "NoProgram" (.ref C) ∧ OexC K C ∧ PySem.W.findIn K (.ref C) "__init__" = some (some (.ref fI)) ∧ PySem.W.typeIn K (.ref fI) = some (.type "function") ∧ PySem.W.findIn K (.ref C) "part" = some none ∧ PySem.W.findIn K (.ref C) "number" = some none ∧ BaseK K mg "WeighError" CB ∧ Fun K "__init__" "NoProgram.__init__" i_NoProgram fI fd ∧ Binds K fd ["self", "part", "number"] []
  r_NoText : ∃ (C CB fI : Addr) (fd : FuncData), mg "NoText" = some (.ref C) ∧ ClsK K "NoText" (.ref C) ∧ OexC K C ∧ PySem.W.findIn K (.ref C) "__init__" = some (some (.ref fI)) ∧ PySem.W.typeIn K (.ref fI) = some (.type "function") ∧ PySem.W.findIn K (.ref C) "row" = some none ∧ BaseK K mg "WeighError" CB ∧ Fun K "__init__" "NoText.__init__" i_NoText fI fd ∧ Binds K fd ["self", "row"] []
theorem Txt.c_BEHIND {X : Cx} {W : WX} {pos : Pos} (T : Txt X.w X.K X.mg) (hg : Gl X "BEHIND") : DE X W (.Name "BEHIND" pos) (eC Lw.c_BEHIND) := by
  obtain ⟨t, h⟩ := T.k_BEHIND
  exact de_glob hg h (show RelV (.str _) _ from ⟨t, rfl⟩) fun _ _ => .str _
theorem Txt.c_FIGURES {X : Cx} {W : WX} {pos : Pos} (T : Txt X.w X.K X.mg) (hg : Gl X "FIGURES") : DE X W (.Name "FIGURES" pos) (eC Lw.c_FIGURES) := by
  obtain ⟨t, h⟩ := T.k_FIGURES
  exact de_glob hg h (show RelV (.str _) _ from ⟨t, rfl⟩) fun _ _ => .str _
theorem Txt.c_JUST {X : Cx} {W : WX} {pos : Pos} (T : Txt X.w X.K X.mg) (hg : Gl X "JUST") : DE X W (.Name "JUST" pos) (eC Lw.c_JUST) := by
  obtain ⟨t, h⟩ := T.k_JUST
  exact de_glob hg h (show RelV (.str _) _ from ⟨t, rfl⟩) fun _ _ => .str _
theorem Txt.c_LEAST {X : Cx} {W : WX} {pos : Pos} (T : Txt X.w X.K X.mg) (hg : Gl X "LEAST") : DE X W (.Name "LEAST" pos) (eC Lw.c_LEAST) := by
  obtain ⟨t, h⟩ := T.k_LEAST
  exact de_glob hg h (show RelV (.str _) _ from ⟨t, rfl⟩) fun _ _ => .str _
theorem Txt.c_LETTERS {X : Cx} {W : WX} {pos : Pos} (T : Txt X.w X.K X.mg) (hg : Gl X "LETTERS") : DE X W (.Name "LETTERS" pos) (eC Lw.c_LETTERS) := by
  obtain ⟨t, h⟩ := T.k_LETTERS
  exact de_glob hg h (show RelV (.str _) _ from ⟨t, rfl⟩) fun _ _ => .str _
theorem Txt.c_MOST_NUMBERS_programs {X : Cx} {W : WX} {pos : Pos} (T : Txt X.w X.K X.mg) (hg : Gl X "MOST_NUMBERS_programs") : DE X W (.Name "MOST_NUMBERS_programs" pos) (eC Lw.c_MOST_NUMBERS_programs) := by
  obtain ⟨t, h⟩ := T.k_MOST_NUMBERS_programs
  exact de_glob hg h (show RelV (.int _) _ from ⟨t, rfl⟩) fun _ _ => .int _
theorem Txt.c_MOST_NUMBERS_wishes {X : Cx} {W : WX} {pos : Pos} (T : Txt X.w X.K X.mg) (hg : Gl X "MOST_NUMBERS_wishes") : DE X W (.Name "MOST_NUMBERS_wishes" pos) (eC Lw.c_MOST_NUMBERS_wishes) := by
  obtain ⟨t, h⟩ := T.k_MOST_NUMBERS_wishes
  exact de_glob hg h (show RelV (.int _) _ from ⟨t, rfl⟩) fun _ _ => .int _
theorem Txt.c_MOST_PLACES {X : Cx} {W : WX} {pos : Pos} (T : Txt X.w X.K X.mg) (hg : Gl X "MOST_PLACES") : DE X W (.Name "MOST_PLACES" pos) (eC Lw.c_MOST_PLACES) := by
  obtain ⟨t, h⟩ := T.k_MOST_PLACES
  exact de_glob hg h (show RelV (.int _) _ from ⟨t, rfl⟩) fun _ _ => .int _
theorem Txt.c_MOST_ROWS {X : Cx} {W : WX} {pos : Pos} (T : Txt X.w X.K X.mg) (hg : Gl X "MOST_ROWS") : DE X W (.Name "MOST_ROWS" pos) (eC Lw.c_MOST_ROWS) := by
  obtain ⟨t, h⟩ := T.k_MOST_ROWS
  exact de_glob hg h (show RelV (.int _) _ from ⟨t, rfl⟩) fun _ _ => .int _
theorem Txt.c_MOST_WISHES {X : Cx} {W : WX} {pos : Pos} (T : Txt X.w X.K X.mg) (hg : Gl X "MOST_WISHES") : DE X W (.Name "MOST_WISHES" pos) (eC Lw.c_MOST_WISHES) := by
  obtain ⟨t, h⟩ := T.k_MOST_WISHES
  exact de_glob hg h (show RelV (.int _) _ from ⟨t, rfl⟩) fun _ _ => .int _
section
variable {P : Program} {w : World} {K : PySem.W.Frag} {mg : Str → Option Value} {base : Heap}
theorem sci_NoNumber : FnScope ["self", "thing"] ["self", "thing"] (defScope i_NoNumber) := ⟨rfl, rfl, rfl, by decide +kernel, rfl, by decide +kernel, by decide +kernel⟩
theorem er_NoNumber (T : Txt w K mg) : ErK P w K mg base "NoNumber" ["self", "thing"] (fun C => spI1 C "thing") := by
  obtain ⟨C, CB, fI, fd, gC, hk, O, iC, tI, n0, B, F, hb⟩ := T.r_NoNumber
  exact ⟨C, fI, fd, gC, hk, O, iC, tI, init1_ok (B := "WeighError") (CB := CB) (t := tC .non) F sci_NoNumber O n0 (fun cdv A outer s H E => ⟨_, pss_cons (ps_expr (pe_baseInit (by rfl) B.gB B.sp B.rd B.fc (pa_cons (pv 0) (pa_cons pe_str pa_nil)))) (pss_one (ps_ost (pv 0) (pv 1)))⟩), hb⟩
theorem sci_NoProgram : FnScope ["self", "part", "number"] ["self", "part", "number"] (defScope i_NoProgram) := ⟨rfl, rfl, rfl, by decide +kernel, rfl, by decide +kernel, by decide +kernel⟩
theorem er_NoProgram (T : Txt w K mg) : ErK P w K mg base "NoProgram" ["self", "part", "number"] (fun C => spI2 C "part" "number") := by
  obtain ⟨C, CB, fI, fd, gC, hk, O, iC, tI, n0, n1, B, F, hb⟩ := T.r_NoProgram
  exact ⟨C, fI, fd, gC, hk, O, iC, tI, init2_ok (B := "WeighError") (CB := CB) (t := tC .non) F sci_NoProgram O n0 n1 (fun cdv A outer s H E => ⟨_, pss_cons (ps_expr (pe_baseInit (by rfl) B.gB B.sp B.rd B.fc (pa_cons (pv 0) (pa_cons pe_str pa_nil)))) (pss_cons (ps_ost (pv 0) (pv 1)) (pss_one (ps_ost (pv 0) (pv 2))))⟩), hb⟩
theorem sci_NoText : FnScope ["self", "row"] ["self", "row"] (defScope i_NoText) := ⟨rfl, rfl, rfl, by decide +kernel, rfl, by decide +kernel, by decide +kernel⟩
theorem er_NoText (T : Txt w K mg) : ErK P w K mg base "NoText" ["self", "row"] (fun C => spI1 C "row") := by
  obtain ⟨C, CB, fI, fd, gC, hk, O, iC, tI, n0, B, F, hb⟩ := T.r_NoText
  exact ⟨C, fI, fd, gC, hk, O, iC, tI, init1_ok (B := "WeighError") (CB := CB) (t := tC .non) F sci_NoText O n0 (fun cdv A outer s H E => ⟨_, pss_cons (ps_expr (pe_baseInit (by rfl) B.gB B.sp B.rd B.fc (pa_cons (pv 0) (pa_cons pe_str pa_nil)))) (pss_one (ps_ost (pv 0) (pv 1)))⟩), hb⟩
theorem sc__law_pool : FnScope ["_law_script", "_law_k", "_law_cell", "_law_mixed"] ["_law_script", "_law_k"] (defScope s__law_pool) := ⟨rfl, rfl, rfl, by decide +kernel, rfl, by decide +kernel, by decide +kernel⟩
set_option maxHeartbeats 1000000 in
theorem ok__law_pool (T : Txt w K mg) : Has P w K mg base 1 "_law_pool" s__law_pool ["_law_script", "_law_k"] f__law_pool :=
  has_of (N := ["_law_script", "_law_k", "_law_cell", "_law_mixed"]) (m := d__law_pool) T.d__law_pool sc__law_pool fun f cdv A outer s H E hr hg0 =>
    have hu1 : (A.deeper (PyProof.Rows.envOfC "_law_pool" (defScope s__law_pool) s.heap.objs.size f cdv)).units + 64 < cLine := hr.units
    have hu2 : (A.deeper (PyProof.Rows.envOfC "_law_pool" (defScope s__law_pool) s.heap.objs.size f cdv)).units + 66 < cLine := by have := hr.un; omega
    (dss_cons (ds_set 2 sc__law_pool.nd de_int) (dss_cons (ds_if (dt_cmp op_lt act_lt (de_var 1) (de_callB call_len act_len (by rfl) T.z_len PySem.boot_len (da_cons (de_var 0) da_nil)) (nomark _)) (dss_one (ds_set 2 sc__law_pool.nd (de_ix ix_seq act_ix (de_var 0) (de_var 1)))) dss_nil) (dss_cons (ds_set 3 sc__law_pool.nd (de_bin op_modN act_mod (de_bin opr_mul act_mul (de_bin opr_add act_add (de_bin opr_add act_add (de_bin op_modN act_mod (de_var 2) de_int) (de_bin opr_mul act_mul (de_bin opr_mul act_mul de_int (de_var 1)) (de_var 1))) de_int) de_int) de_int)) (dss_cons (ds_if (dt_cmp op_lt act_lt (de_var 2) (de_bin op_pow act_pow de_int de_int) (nomark _)) (dss_one (ds_set 2 sc__law_pool.nd de_int)) dss_nil) (dss_one (ds_ret (de_lstC (da_cons (de_var 2) (da_cons (de_bin opr_add act_add (de_bin op_modN act_mod (de_bin opr_mul act_mul (de_var 3) (de_var 3)) de_int) de_int) da_nil)))))))))
theorem sc__law_take : FnScope ["_law_pool_here", "_law_many", "_law_found"] ["_law_pool_here", "_law_many"] (defScope s__law_take) := ⟨rfl, rfl, rfl, by decide +kernel, rfl, by decide +kernel, by decide +kernel⟩
set_option maxHeartbeats 1000000 in
theorem ok__law_take (T : Txt w K mg) : Has P w K mg base 1 "_law_take" s__law_take ["_law_pool_here", "_law_many"] f__law_take :=
  has_of (N := ["_law_pool_here", "_law_many", "_law_found"]) (m := d__law_take) T.d__law_take sc__law_take fun f cdv A outer s H E hr hg0 =>
    have hu1 : (A.deeper (PyProof.Rows.envOfC "_law_take" (defScope s__law_take) s.heap.objs.size f cdv)).units + 64 < cLine := hr.units
    have hu2 : (A.deeper (PyProof.Rows.envOfC "_law_take" (defScope s__law_take) s.heap.objs.size f cdv)).units + 66 < cLine := by have := hr.un; omega
    (dss_cons (ds_if (dt_cmp op_gt act_gt (de_ix ix_seq act_ix (de_var 0) de_int) de_int (nomark _)) (dss_cons (ds_set 2 sc__law_take.nd (de_bin op_modN act_mod (de_ix ix_seq act_ix (de_var 0) de_int) (de_var 1))) (dss_cons (ds_sub set_list act_setD (de_bin opr_fdiv act_fdiv (de_ix ix_seq act_ix (de_var 0) de_int) (de_var 1)) (de_var 0) de_int (pg_sub (de_var 0) de_int set_list)) (dss_one (ds_ret (de_var 2))))) dss_nil) (dss_cons (ds_sub set_list act_setD (de_bin op_modN act_mod (de_bin opr_add act_add (de_bin opr_mul act_mul (de_ix ix_seq act_ix (de_var 0) de_int) de_int) de_int) de_int) (de_var 0) de_int (pg_sub (de_var 0) de_int set_list)) (dss_one (ds_ret (de_bin op_modN act_mod (de_bin opr_fdiv act_fdiv (de_bin op_modN act_mod (de_bin opr_mul act_mul (de_ix ix_seq act_ix (de_var 0) de_int) (de_ix ix_seq act_ix (de_var 0) de_int)) de_int) de_int) (de_var 1))))))
theorem sc__law_names : FnScope ["_law_pool_here", "_law_many", "_law_most", "_law_found", "_law_k", "_law_word", "_law_turn"] ["_law_pool_here", "_law_many", "_law_most"] (defScope s__law_names) := ⟨rfl, rfl, rfl, by decide +kernel, rfl, by decide +kernel, by decide +kernel⟩
set_option maxHeartbeats 1000000 in
theorem ok__law_names (T : Txt w K mg) (h__law_take : Has P w K mg base 1 "_law_take" s__law_take ["_law_pool_here", "_law_many"] f__law_take) : Has P w K mg base 2 "_law_names" s__law_names ["_law_pool_here", "_law_many", "_law_most"] f__law_names :=
  has_of (N := ["_law_pool_here", "_law_many", "_law_most", "_law_found", "_law_k", "_law_word", "_law_turn"]) (m := d__law_names) T.d__law_names sc__law_names fun f cdv A outer s H E hr hg0 =>
    have hu1 : (A.deeper (PyProof.Rows.envOfC "_law_names" (defScope s__law_names) s.heap.objs.size f cdv)).units + 64 < cLine := hr.units
    have hu2 : (A.deeper (PyProof.Rows.envOfC "_law_names" (defScope s__law_names) s.heap.objs.size f cdv)).units + 66 < cLine := by have := hr.un; omega
    (dss_cons (ds_set 3 sc__law_names.nd (de_lstC da_nil)) (dss_cons (ds_for (passes_of rfl) rfl (di_rng1 (by rfl) T.z_range (da_cons (de_var 1) da_nil)) (dg_name 4 sc__law_names.nd) (dss_cons (ds_set 5 sc__law_names.nd de_str) (dss_cons (ds_for (passes_of rfl) rfl (di_rng1 (by rfl) T.z_range (da_cons (de_fn h__law_take hr (by first | decide | omega) hg0 (takes_of rfl rfl rfl rfl) (by rfl) (da_cons (de_var 0) (da_cons (de_var 2) da_nil))) da_nil)) (dg_name 6 sc__law_names.nd) (dss_one (ds_set 5 sc__law_names.nd (de_bin opr_add act_add (de_var 5) (de_ix ix_seq act_ix de_str (de_fn h__law_take hr (by first | decide | omega) hg0 (takes_of rfl rfl rfl rfl) (by rfl) (da_cons (de_var 0) (da_cons de_int da_nil)))))))) (dss_one (ds_expr (de_bm PySem.F.plainAttrs_list PySem.F.slot_list_append PySem.F.type_list_append mt_append act_append ty_list (de_var 3) (da_cons (de_bin opr_add act_add (de_var 5) (de_ix ix_seq act_ix de_str (de_var 4))) da_nil))))))) (dss_one (ds_ret (de_frz (de_var 3))))))
theorem sc__law_factor : FnScope ["_law_pool_here"] ["_law_pool_here"] (defScope s__law_factor) := ⟨rfl, rfl, rfl, by decide +kernel, rfl, by decide +kernel, by decide +kernel⟩
set_option maxHeartbeats 1000000 in
theorem ok__law_factor (T : Txt w K mg) (h__law_take : Has P w K mg base 1 "_law_take" s__law_take ["_law_pool_here", "_law_many"] f__law_take) : Has P w K mg base 2 "_law_factor" s__law_factor ["_law_pool_here"] f__law_factor :=
  has_of (N := ["_law_pool_here"]) (m := d__law_factor) T.d__law_factor sc__law_factor fun f cdv A outer s H E hr hg0 =>
    have hu1 : (A.deeper (PyProof.Rows.envOfC "_law_factor" (defScope s__law_factor) s.heap.objs.size f cdv)).units + 64 < cLine := hr.units
    have hu2 : (A.deeper (PyProof.Rows.envOfC "_law_factor" (defScope s__law_factor) s.heap.objs.size f cdv)).units + 66 < cLine := by have := hr.un; omega
    (dss_cons (ds_if (dt_cmp (opr_eq hu1) act_eq (de_fn h__law_take hr (by first | decide | omega) hg0 (takes_of rfl rfl rfl rfl) (by rfl) (da_cons (de_var 0) (da_cons de_int da_nil))) de_int (nomark _)) (dss_one (ds_ret (de_bin op_sub act_sub (de_fn h__law_take hr (by first | decide | omega) hg0 (takes_of rfl rfl rfl rfl) (by rfl) (da_cons (de_var 0) (da_cons (de_bin opr_mul act_mul de_int (de_bin op_pow act_pow de_int de_int)) da_nil))) (de_bin op_pow act_pow de_int de_int)))) dss_nil) (dss_one (ds_ret (de_ix ix_seq act_ix (de_lst (da_cons de_int (da_cons de_int (da_cons (de_un un_neg act_neg de_int) (da_cons de_int (da_cons de_int (da_cons (de_un un_neg act_neg de_int) (da_cons de_int (da_cons de_int da_nil))))))))) (de_fn h__law_take hr (by first | decide | omega) hg0 (takes_of rfl rfl rfl rfl) (by rfl) (da_cons (de_var 0) (da_cons de_int da_nil)))))))
theorem sc__law_line : FnScope ["_law_pool_here", "_law_many", "_law_turn"] ["_law_pool_here", "_law_many"] (defScope s__law_line) := ⟨rfl, rfl, rfl, by decide +kernel, rfl, by decide +kernel, by decide +kernel⟩
set_option maxHeartbeats 1000000 in
theorem ok__law_line (T : Txt w K mg) (h__law_take : Has P w K mg base 1 "_law_take" s__law_take ["_law_pool_here", "_law_many"] f__law_take) (h__law_factor : Has P w K mg base 2 "_law_factor" s__law_factor ["_law_pool_here"] f__law_factor) : Has P w K mg base 3 "_law_line" s__law_line ["_law_pool_here", "_law_many"] f__law_line :=
  has_of (N := ["_law_pool_here", "_law_many", "_law_turn"]) (m := d__law_line) T.d__law_line sc__law_line fun f cdv A outer s H E hr hg0 =>
    have hu1 : (A.deeper (PyProof.Rows.envOfC "_law_line" (defScope s__law_line) s.heap.objs.size f cdv)).units + 64 < cLine := hr.units
    have hu2 : (A.deeper (PyProof.Rows.envOfC "_law_line" (defScope s__law_line) s.heap.objs.size f cdv)).units + 66 < cLine := by have := hr.un; omega
    (dss_one (ds_ret (de_bin opr_add act_add (de_lst (da_cons (de_bin op_sub act_sub (de_fn h__law_take hr (by first | decide | omega) hg0 (takes_of rfl rfl rfl rfl) (by rfl) (da_cons (de_var 0) (da_cons de_int da_nil))) de_int) da_nil)) (de_lc [("_law_turn", 2)] rfl sc__law_line.nd (di_rng1 (by rfl) T.z_range (da_cons (de_var 1) da_nil)) (blkOk_by (N := ["_law_pool_here", "_law_many", "_law_turn"]) (sc := defScope s__law_line) (by decide +kernel)) (fun _ _ _ _ _ => (dg_name 2 sc__law_line.nd)) (fun _ _ _ _ _ => dts_nil) (fun _ _ _ _ _ => (de_fn h__law_factor hr (by first | decide | omega) hg0 takes_no (by rfl) (da_cons (de_var 0) da_nil)))))))
theorem sc__law_wishes : FnScope ["_law_pool_here", "_law_many", "_law_most", "_law_found", "_law_turn"] ["_law_pool_here", "_law_many", "_law_most"] (defScope s__law_wishes) := ⟨rfl, rfl, rfl, by decide +kernel, rfl, by decide +kernel, by decide +kernel⟩
set_option maxHeartbeats 1000000 in
theorem ok__law_wishes (T : Txt w K mg) (h__law_take : Has P w K mg base 1 "_law_take" s__law_take ["_law_pool_here", "_law_many"] f__law_take) (h__law_line : Has P w K mg base 3 "_law_line" s__law_line ["_law_pool_here", "_law_many"] f__law_line) : Has P w K mg base 4 "_law_wishes" s__law_wishes ["_law_pool_here", "_law_many", "_law_most"] f__law_wishes :=
  has_of (N := ["_law_pool_here", "_law_many", "_law_most", "_law_found", "_law_turn"]) (m := d__law_wishes) T.d__law_wishes sc__law_wishes fun f cdv A outer s H E hr hg0 =>
    have hu1 : (A.deeper (PyProof.Rows.envOfC "_law_wishes" (defScope s__law_wishes) s.heap.objs.size f cdv)).units + 64 < cLine := hr.units
    have hu2 : (A.deeper (PyProof.Rows.envOfC "_law_wishes" (defScope s__law_wishes) s.heap.objs.size f cdv)).units + 66 < cLine := by have := hr.un; omega
    (dss_cons (ds_set 3 sc__law_wishes.nd (de_lstC da_nil)) (dss_cons (ds_for (passes_of rfl) rfl (di_rng1 (by rfl) T.z_range (da_cons (de_fn h__law_take hr (by first | decide | omega) hg0 (takes_of rfl rfl rfl rfl) (by rfl) (da_cons (de_var 0) (da_cons (de_bin opr_add act_add (de_var 2) de_int) da_nil))) da_nil)) (dg_name 4 sc__law_wishes.nd) (dss_one (ds_expr (de_bm PySem.F.plainAttrs_list PySem.F.slot_list_append PySem.F.type_list_append mt_append act_append ty_list (de_var 3) (da_cons (de_tup (da_cons (de_ix ix_seq act_ix (de_lst (da_cons de_str (da_cons de_str (da_cons de_str da_nil)))) (de_fn h__law_take hr (by first | decide | omega) hg0 (takes_of rfl rfl rfl rfl) (by rfl) (da_cons (de_var 0) (da_cons de_int da_nil)))) (da_cons (de_fn h__law_line hr (by first | decide | omega) hg0 (takes_of rfl rfl rfl rfl) (by rfl) (da_cons (de_var 0) (da_cons (de_var 1) da_nil))) da_nil))) da_nil))))) (dss_one (ds_ret (de_frz (de_var 3))))))
theorem sc__law_program : FnScope ["_law_pool_here", "_law_places", "_law_rows", "_law_names_here", "_law_called", "_law_told", "_law_turn", "_law_start", "_law_to"] ["_law_pool_here", "_law_places", "_law_rows"] (defScope s__law_program) := ⟨rfl, rfl, rfl, by decide +kernel, rfl, by decide +kernel, by decide +kernel⟩
set_option maxHeartbeats 1000000 in
theorem ok__law_program (T : Txt w K mg) (h__law_take : Has P w K mg base 1 "_law_take" s__law_take ["_law_pool_here", "_law_many"] f__law_take) (h__law_names : Has P w K mg base 2 "_law_names" s__law_names ["_law_pool_here", "_law_many", "_law_most"] f__law_names) (h__law_wishes : Has P w K mg base 4 "_law_wishes" s__law_wishes ["_law_pool_here", "_law_many", "_law_most"] f__law_wishes) : Has P w K mg base 5 "_law_program" s__law_program ["_law_pool_here", "_law_places", "_law_rows"] f__law_program :=
  has_of (N := ["_law_pool_here", "_law_places", "_law_rows", "_law_names_here", "_law_called", "_law_told", "_law_turn", "_law_start", "_law_to"]) (m := d__law_program) T.d__law_program sc__law_program fun f cdv A outer s H E hr hg0 =>
    have hu1 : (A.deeper (PyProof.Rows.envOfC "_law_program" (defScope s__law_program) s.heap.objs.size f cdv)).units + 64 < cLine := hr.units
    have hu2 : (A.deeper (PyProof.Rows.envOfC "_law_program" (defScope s__law_program) s.heap.objs.size f cdv)).units + 66 < cLine := by have := hr.un; omega
    (dss_cons (ds_set 3 sc__law_program.nd (de_fn h__law_names hr (by first | decide | omega) hg0 (takes_of rfl rfl rfl rfl) (by rfl) (da_cons (de_var 0) (da_cons (de_bin opr_add act_add de_int (de_fn h__law_take hr (by first | decide | omega) hg0 (takes_of rfl rfl rfl rfl) (by rfl) (da_cons (de_var 0) (da_cons de_int da_nil)))) (da_cons de_int da_nil))))) (dss_cons (ds_set 4 sc__law_program.nd (de_fn h__law_names hr (by first | decide | omega) hg0 (takes_of rfl rfl rfl rfl) (by rfl) (da_cons (de_var 0) (da_cons (de_bin opr_add act_add de_int (de_fn h__law_take hr (by first | decide | omega) hg0 (takes_of rfl rfl rfl rfl) (by rfl) (da_cons (de_var 0) (da_cons (de_var 1) da_nil)))) (da_cons de_int da_nil))))) (dss_cons (ds_set 5 sc__law_program.nd (de_lstC da_nil)) (dss_cons (ds_for (passes_of rfl) rfl (di_rng1 (by rfl) T.z_range (da_cons (de_fn h__law_take hr (by first | decide | omega) hg0 (takes_of rfl rfl rfl rfl) (by rfl) (da_cons (de_var 0) (da_cons (de_bin opr_add act_add (de_var 2) de_int) da_nil))) da_nil)) (dg_name 6 sc__law_program.nd) (dss_cons (ds_set 7 sc__law_program.nd (de_fn h__law_take hr (by first | decide | omega) hg0 (takes_of rfl rfl rfl rfl) (by rfl) (da_cons (de_var 0) (da_cons (de_callB call_len act_len (by rfl) T.z_len PySem.boot_len (da_cons (de_var 4) da_nil)) da_nil)))) (dss_cons (ds_set 8 sc__law_program.nd (de_fn h__law_take hr (by first | decide | omega) hg0 (takes_of rfl rfl rfl rfl) (by rfl) (da_cons (de_var 0) (da_cons (de_callB call_len act_len (by rfl) T.z_len PySem.boot_len (da_cons (de_var 4) da_nil)) da_nil)))) (dss_one (ds_expr (de_bm PySem.F.plainAttrs_list PySem.F.slot_list_append PySem.F.type_list_append mt_append act_append ty_list (de_var 5) (da_cons (de_tup (da_cons (de_var 7) (da_cons (de_var 8) (da_cons (de_fn h__law_wishes hr (by first | decide | omega) hg0 (takes_of rfl rfl rfl rfl) (by rfl) (da_cons (de_var 0) (da_cons (de_bin opr_mul act_mul de_int (de_callB call_len act_len (by rfl) T.z_len PySem.boot_len (da_cons (de_var 3) da_nil))) (da_cons (de_ix ix_seq act_ix (de_lst (da_cons de_int (da_cons de_int (da_cons de_int (da_cons de_int da_nil))))) (de_fn h__law_take hr (by first | decide | omega) hg0 (takes_of rfl rfl rfl rfl) (by rfl) (da_cons (de_var 0) (da_cons de_int da_nil)))) da_nil)))) da_nil)))) da_nil))))))) (dss_one (ds_ret (de_tup (da_cons (de_var 3) (da_cons (de_var 4) (da_cons (de_var 5) da_nil))))))))))
theorem sc__law_line_text : FnScope ["_law_names_here", "_law_line_here", "_law_wanted", "_law_name", "_law_factor_here", "_law_part", "_law_sign"] ["_law_names_here", "_law_line_here"] (defScope s__law_line_text) := ⟨rfl, rfl, rfl, by decide +kernel, rfl, by decide +kernel, by decide +kernel⟩
set_option maxHeartbeats 1000000 in
theorem ok__law_line_text (T : Txt w K mg) : Has P w K mg base 1 "_law_line_text" s__law_line_text ["_law_names_here", "_law_line_here"] f__law_line_text :=
  has_of (N := ["_law_names_here", "_law_line_here", "_law_wanted", "_law_name", "_law_factor_here", "_law_part", "_law_sign"]) (m := d__law_line_text) T.d__law_line_text sc__law_line_text fun f cdv A outer s H E hr hg0 =>
    have hu1 : (A.deeper (PyProof.Rows.envOfC "_law_line_text" (defScope s__law_line_text) s.heap.objs.size f cdv)).units + 64 < cLine := hr.units
    have hu2 : (A.deeper (PyProof.Rows.envOfC "_law_line_text" (defScope s__law_line_text) s.heap.objs.size f cdv)).units + 66 < cLine := by have := hr.un; omega
    (dss_cons (ds_set 2 sc__law_line_text.nd de_str) (dss_cons (ds_for (passes_of rfl) rfl (di_zip (by rfl) T.z_zip (da_cons (de_bin opr_add act_add (de_lst (da_cons de_str da_nil)) (de_var 0)) (da_cons (de_var 1) da_nil))) (dg_tup rfl (dgs_cons (dg_name 3 sc__law_line_text.nd) (dgs_cons (dg_name 4 sc__law_line_text.nd) dgs_nil))) (dss_one (ds_if (dt_cmp (opr_ne hu1) act_ne (de_var 4) de_int (nomark _)) (dss_cons (ds_set 5 sc__law_line_text.nd (de_bin opr_add act_add (de_bin opr_add act_add (de_callTy (call_strA hg0 hu2) act_strR (by rfl) T.z_str (by decide +kernel) (da_cons (de_callB call_abs act_abs (by rfl) T.z_abs (by decide +kernel) (da_cons (de_var 4) da_nil)) da_nil)) de_str) (de_var 3))) (dss_cons (ds_if (dt_cmp (opr_eq hu1) act_eq (de_var 3) de_str (nomark _)) (dss_one (ds_set 5 sc__law_line_text.nd (de_callTy (call_strA hg0 hu2) act_strR (by rfl) T.z_str (by decide +kernel) (da_cons (de_callB call_abs act_abs (by rfl) T.z_abs (by decide +kernel) (da_cons (de_var 4) da_nil)) da_nil)))) (dss_one (ds_if (dt_cmp (opr_eq hu1) act_eq (de_callB call_abs act_abs (by rfl) T.z_abs (by decide +kernel) (da_cons (de_var 4) da_nil)) de_int (nomark _)) (dss_one (ds_set 5 sc__law_line_text.nd (de_var 3))) dss_nil))) (dss_cons (ds_set 6 sc__law_line_text.nd (de_ix ix_seq act_ix (de_lst (da_cons de_str (da_cons de_str da_nil))) (de_callTy call_int1 act_int (by rfl) T.z_int (by decide +kernel) (da_cons (de_cmp op_lt act_lt (de_var 4) de_int (nomark _)) da_nil)))) (dss_cons (ds_if (dt_cmp (opr_eq hu1) act_eq (de_var 2) de_str (nomark _)) (dss_one (ds_set 6 sc__law_line_text.nd (de_ix ix_seq act_ix (de_lst (da_cons de_str (da_cons de_str da_nil))) (de_callTy call_int1 act_int (by rfl) T.z_int (by decide +kernel) (da_cons (de_cmp op_lt act_lt (de_var 4) de_int (nomark _)) da_nil))))) dss_nil) (dss_one (ds_set 2 sc__law_line_text.nd (de_bin opr_add act_add (de_bin opr_add act_add (de_var 2) (de_var 6)) (de_var 5)))))))) dss_nil))) (dss_one (ds_ret (de_ix ix_seq act_ix (de_lst (da_cons (de_var 2) (da_cons de_str da_nil))) (de_callTy call_int1 act_int (by rfl) T.z_int (by decide +kernel) (da_cons (de_cmp (opr_eq hu1) act_eq (de_var 2) de_str (nomark _)) da_nil)))))))
theorem sc__law_wish_text : FnScope ["_law_names_here", "_law_wish"] ["_law_names_here", "_law_wish"] (defScope s__law_wish_text) := ⟨rfl, rfl, rfl, by decide +kernel, rfl, by decide +kernel, by decide +kernel⟩
set_option maxHeartbeats 1000000 in
theorem ok__law_wish_text (T : Txt w K mg) (h__law_line_text : Has P w K mg base 1 "_law_line_text" s__law_line_text ["_law_names_here", "_law_line_here"] f__law_line_text) : Has P w K mg base 2 "_law_wish_text" s__law_wish_text ["_law_names_here", "_law_wish"] f__law_wish_text :=
  has_of (N := ["_law_names_here", "_law_wish"]) (m := d__law_wish_text) T.d__law_wish_text sc__law_wish_text fun f cdv A outer s H E hr hg0 =>
    have hu1 : (A.deeper (PyProof.Rows.envOfC "_law_wish_text" (defScope s__law_wish_text) s.heap.objs.size f cdv)).units + 64 < cLine := hr.units
    have hu2 : (A.deeper (PyProof.Rows.envOfC "_law_wish_text" (defScope s__law_wish_text) s.heap.objs.size f cdv)).units + 66 < cLine := by have := hr.un; omega
    (dss_one (ds_ret (de_bin opr_add act_add (de_fn h__law_line_text hr (by first | decide | omega) hg0 (takes_of rfl rfl rfl rfl) (by rfl) (da_cons (de_var 0) (da_cons (de_ix ix_seq act_ix (de_var 1) de_int) da_nil))) (de_ix ix_seq act_ix (de_lst (da_cons de_str (da_cons de_str da_nil))) (de_callTy call_int1 act_int (by rfl) T.z_int (by decide +kernel) (da_cons (de_cmp (opr_eq hu1) act_eq (de_ix ix_seq act_ix (de_var 1) de_int) de_str (nomark _)) da_nil))))))
theorem sc__law_program_text : FnScope ["_law_own", "_law_both", "_law_found", "_law_names_here", "_law_places", "_law_rows", "_law_start", "_law_to", "_law_wishes_here", "_law_name", "_law_wish"] ["_law_own"] (defScope s__law_program_text) := ⟨rfl, rfl, rfl, by decide +kernel, rfl, by decide +kernel, by decide +kernel⟩
set_option maxHeartbeats 1000000 in
theorem ok__law_program_text (T : Txt w K mg) (h__law_wish_text : Has P w K mg base 2 "_law_wish_text" s__law_wish_text ["_law_names_here", "_law_wish"] f__law_wish_text) : Has P w K mg base 3 "_law_program_text" s__law_program_text ["_law_own"] f__law_program_text :=
  has_of (N := ["_law_own", "_law_both", "_law_found", "_law_names_here", "_law_places", "_law_rows", "_law_start", "_law_to", "_law_wishes_here", "_law_name", "_law_wish"]) (m := d__law_program_text) T.d__law_program_text sc__law_program_text fun f cdv A outer s H E hr hg0 =>
    have hu1 : (A.deeper (PyProof.Rows.envOfC "_law_program_text" (defScope s__law_program_text) s.heap.objs.size f cdv)).units + 64 < cLine := hr.units
    have hu2 : (A.deeper (PyProof.Rows.envOfC "_law_program_text" (defScope s__law_program_text) s.heap.objs.size f cdv)).units + 66 < cLine := by have := hr.un; omega
    (dss_cons (ds_asg (de_var 0) (dg_tup rfl (dgs_cons (dg_name 3 sc__law_program_text.nd) (dgs_cons (dg_name 4 sc__law_program_text.nd) (dgs_cons (dg_name 5 sc__law_program_text.nd) dgs_nil))))) (dss_cons (ds_set 1 sc__law_program_text.nd (de_bin opr_add act_add (de_var 3) (de_lc [("_law_name", 9)] rfl sc__law_program_text.nd (di_list (de_var 3)) (blkOk_by (N := ["_law_own", "_law_both", "_law_found", "_law_names_here", "_law_places", "_law_rows", "_law_start", "_law_to", "_law_wishes_here", "_law_name", "_law_wish"]) (sc := defScope s__law_program_text) (by decide +kernel)) (fun _ _ _ _ _ => (dg_name 9 sc__law_program_text.nd)) (fun _ _ _ _ _ => dts_nil) (fun _ _ _ _ _ => (de_bin opr_add act_add (de_var 9) de_str))))) (dss_cons (ds_set 2 sc__law_program_text.nd (de_lstC (da_cons (de_bin opr_add act_add de_str (de_bm PySem.F.plainAttrs_str PySem.F.slot_str_join PySem.F.type_str_join mt_join act_join ty_str de_str (da_cons (de_var 3) da_nil))) (da_cons (de_bin opr_add act_add de_str (de_bm PySem.F.plainAttrs_str PySem.F.slot_str_join PySem.F.type_str_join mt_join act_join ty_str de_str (da_cons (de_var 4) da_nil))) da_nil)))) (dss_cons (ds_for (passes_of rfl) rfl (di_list (de_var 5)) (dg_tup rfl (dgs_cons (dg_name 6 sc__law_program_text.nd) (dgs_cons (dg_name 7 sc__law_program_text.nd) (dgs_cons (dg_name 8 sc__law_program_text.nd) dgs_nil)))) (dss_cons (ds_expr (de_bm PySem.F.plainAttrs_list PySem.F.slot_list_append PySem.F.type_list_append mt_append act_append ty_list (de_var 2) (da_cons (de_bin opr_add act_add (de_bin opr_add act_add (de_bin opr_add act_add de_str (de_ix ix_seq act_ix (de_var 4) (de_var 6))) de_str) (de_ix ix_seq act_ix (de_var 4) (de_var 7))) da_nil))) (dss_one (ds_set 2 sc__law_program_text.nd (de_bin opr_add act_addC (de_var 2) (de_lc [("_law_wish", 10)] rfl sc__law_program_text.nd (di_list (de_var 8)) (blkOk_by (N := ["_law_own", "_law_both", "_law_found", "_law_names_here", "_law_places", "_law_rows", "_law_start", "_law_to", "_law_wishes_here", "_law_name", "_law_wish"]) (sc := defScope s__law_program_text) (by decide +kernel)) (fun _ _ _ _ _ => (dg_name 10 sc__law_program_text.nd)) (fun _ _ _ _ _ => dts_nil) (fun _ _ _ _ _ => (de_fn h__law_wish_text hr (by first | decide | omega) hg0 takes_no (by rfl) (da_cons (de_var 1) (da_cons (de_var 10) da_nil)))))))))) (dss_one (ds_ret (de_bm PySem.F.plainAttrs_str PySem.F.slot_str_join PySem.F.type_str_join mt_join act_join ty_str de_str (da_cons (de_var 2) da_nil))))))))
theorem sc_shown_part : FnScope ["name", "factor"] ["name", "factor"] (defScope s_shown_part) := ⟨rfl, rfl, rfl, by decide +kernel, rfl, by decide +kernel, by decide +kernel⟩
set_option maxHeartbeats 1000000 in
theorem ok_shown_part (T : Txt w K mg) : Has P w K mg base 1 "shown_part" s_shown_part ["name", "factor"] f_shown_part :=
  has_of (N := ["name", "factor"]) (m := d_shown_part) T.d_shown_part sc_shown_part fun f cdv A outer s H E hr hg0 =>
    have hu1 : (A.deeper (PyProof.Rows.envOfC "shown_part" (defScope s_shown_part) s.heap.objs.size f cdv)).units + 64 < cLine := hr.units
    have hu2 : (A.deeper (PyProof.Rows.envOfC "shown_part" (defScope s_shown_part) s.heap.objs.size f cdv)).units + 66 < cLine := by have := hr.un; omega
    (dss_cons (ds_if (dt_cmp op_isN act_isN (de_var 0) de_non (nomark _)) (dss_one (ds_ret (de_callTy (call_strA hg0 hu2) act_strR (by rfl) T.z_str (by decide +kernel) (da_cons (de_callB call_abs act_abs (by rfl) T.z_abs (by decide +kernel) (da_cons (de_var 1) da_nil)) da_nil)))) dss_nil) (dss_cons (ds_if (dt_cmp (opr_eq hu1) act_eq (de_callB call_abs act_abs (by rfl) T.z_abs (by decide +kernel) (da_cons (de_var 1) da_nil)) de_int (nomark _)) (dss_one (ds_ret (de_var 0))) dss_nil) (dss_one (ds_ret (de_joined (.cons (de_fmt (de_callB call_abs act_abs (by rfl) T.z_abs (by decide +kernel) (da_cons (de_var 1) da_nil))) (.cons de_str (.cons (de_fmt (de_var 0)) .nil))))))))
theorem sc_shown_line : FnScope ["names", "line", "found", "name", "factor", "sign"] ["names", "line"] (defScope s_shown_line) := ⟨rfl, rfl, rfl, by decide +kernel, rfl, by decide +kernel, by decide +kernel⟩
set_option maxHeartbeats 1000000 in
theorem ok_shown_line (T : Txt w K mg) (h_shown_part : Has P w K mg base 1 "shown_part" s_shown_part ["name", "factor"] f_shown_part) : Has P w K mg base 2 "shown_line" s_shown_line ["names", "line"] f_shown_line :=
  has_of (N := ["names", "line", "found", "name", "factor", "sign"]) (m := d_shown_line) T.d_shown_line sc_shown_line fun f cdv A outer s H E hr hg0 =>
    have hu1 : (A.deeper (PyProof.Rows.envOfC "shown_line" (defScope s_shown_line) s.heap.objs.size f cdv)).units + 64 < cLine := hr.units
    have hu2 : (A.deeper (PyProof.Rows.envOfC "shown_line" (defScope s_shown_line) s.heap.objs.size f cdv)).units + 66 < cLine := by have := hr.un; omega
    (dss_cons (ds_set 2 sc_shown_line.nd de_str) (dss_cons (ds_for (passes_of rfl) rfl (di_zip (by rfl) T.z_zip (da_cons (de_bin opr_add act_add (de_lst (da_cons de_non da_nil)) (de_var 0)) (da_cons (de_var 1) da_nil))) (dg_tup rfl (dgs_cons (dg_name 3 sc_shown_line.nd) (dgs_cons (dg_name 4 sc_shown_line.nd) dgs_nil))) (dss_one (ds_if (dt_cmp (opr_ne hu1) act_ne (de_var 4) de_int (nomark _)) (dss_cons (ds_set 5 sc_shown_line.nd (de_ix ix_seq act_ix (de_lst (da_cons de_str (da_cons de_str da_nil))) (de_callTy call_int1 act_int (by rfl) T.z_int (by decide +kernel) (da_cons (de_cmp op_lt act_lt (de_var 4) de_int (nomark _)) da_nil)))) (dss_cons (ds_if (dt_cmp (opr_eq hu1) act_eq (de_var 2) de_str (nomark _)) (dss_one (ds_set 5 sc_shown_line.nd (de_ix ix_seq act_ix (de_lst (da_cons de_str (da_cons de_str da_nil))) (de_callTy call_int1 act_int (by rfl) T.z_int (by decide +kernel) (da_cons (de_cmp op_lt act_lt (de_var 4) de_int (nomark _)) da_nil))))) dss_nil) (dss_one (ds_set 2 sc_shown_line.nd (de_bin opr_add act_add (de_bin opr_add act_add (de_var 2) (de_var 5)) (de_fn h_shown_part hr (by first | decide | omega) hg0 (takes_of rfl rfl rfl rfl) (by rfl) (da_cons (de_var 3) (da_cons (de_var 4) da_nil)))))))) dss_nil))) (dss_one (ds_ret (de_orV (de_var 2) (de_one de_str))))))
theorem sc_shown_wish : FnScope ["names", "wish", "word", "line"] ["names", "wish"] (defScope s_shown_wish) := ⟨rfl, rfl, rfl, by decide +kernel, rfl, by decide +kernel, by decide +kernel⟩
set_option maxHeartbeats 1000000 in
theorem ok_shown_wish (T : Txt w K mg) (h_shown_line : Has P w K mg base 2 "shown_line" s_shown_line ["names", "line"] f_shown_line) : Has P w K mg base 3 "shown_wish" s_shown_wish ["names", "wish"] f_shown_wish :=
  has_of (N := ["names", "wish", "word", "line"]) (m := d_shown_wish) T.d_shown_wish sc_shown_wish fun f cdv A outer s H E hr hg0 =>
    have hu1 : (A.deeper (PyProof.Rows.envOfC "shown_wish" (defScope s_shown_wish) s.heap.objs.size f cdv)).units + 64 < cLine := hr.units
    have hu2 : (A.deeper (PyProof.Rows.envOfC "shown_wish" (defScope s_shown_wish) s.heap.objs.size f cdv)).units + 66 < cLine := by have := hr.un; omega
    (dss_cons (ds_asg (de_var 1) (dg_tup rfl (dgs_cons (dg_name 2 sc_shown_wish.nd) (dgs_cons (dg_name 3 sc_shown_wish.nd) dgs_nil)))) (dss_one (ds_ret (de_bin opr_add act_add (de_fn h_shown_line hr (by first | decide | omega) hg0 (takes_of rfl rfl rfl rfl) (by rfl) (da_cons (de_var 0) (da_cons (de_var 3) da_nil))) (de_tab (by rfl) T.k_ENDS (de_var 2))))))
theorem sc_is_name : FnScope ["thing", "longest", "sign"] ["thing", "longest"] (defScope s_is_name) := ⟨rfl, rfl, rfl, by decide +kernel, rfl, by decide +kernel, by decide +kernel⟩
set_option maxHeartbeats 1000000 in
theorem ok_is_name (T : Txt w K mg) : HasD P w K mg base 1 "is_name" s_is_name ["thing", "longest"] [] [("longest", (V.int 6))] f_is_name :=
  has_ofD (N := ["thing", "longest", "sign"]) (m := d_is_name) T.d_is_name sc_is_name fun f cdv A outer s H E hr hg0 =>
    have hu1 : (A.deeper (PyProof.Rows.envOfC "is_name" (defScope s_is_name) s.heap.objs.size f cdv)).units + 64 < cLine := hr.units
    have hu2 : (A.deeper (PyProof.Rows.envOfC "is_name" (defScope s_is_name) s.heap.objs.size f cdv)).units + 66 < cLine := by have := hr.un; omega
    (dss_one (ds_ret (de_and (de_callB call_isi act_isi (by rfl) T.z_isinstance (by decide +kernel) (da_cons (de_var 0) (da_cons (de_ty (by rfl) T.z_str (by decide +kernel)) da_nil))) (de_and (de_chain op_le op_le act_le act_le de_int (de_callB call_len act_len (by rfl) T.z_len PySem.boot_len (da_cons (de_var 0) da_nil)) (de_var 1)) (de_one (de_callB (cr_all rfl) act_all (by rfl) T.z_all (by decide +kernel) (da_cons (de_lc [("sign", 2)] rfl sc_is_name.nd (di_str (de_var 0)) (blkOk_by (N := ["thing", "longest", "sign"]) (sc := defScope s_is_name) (by decide +kernel)) (fun _ _ _ _ _ => (dg_name 2 sc_is_name.nd)) (fun _ _ _ _ _ => dts_nil) (fun _ _ _ _ _ => (de_cmp opr_in act_in (de_var 2) (T.c_LETTERS (by rfl)) (by rfl)))) da_nil)))))))
theorem sc_first_no_name : FnScope ["names", "number", "name"] ["names"] (defScope s_first_no_name) := ⟨rfl, rfl, rfl, by decide +kernel, rfl, by decide +kernel, by decide +kernel⟩
set_option maxHeartbeats 1000000 in
theorem ok_first_no_name (T : Txt w K mg) (h_is_name : HasD P w K mg base 1 "is_name" s_is_name ["thing", "longest"] [] [("longest", (V.int 6))] f_is_name) : Has P w K mg base 2 "first_no_name" s_first_no_name ["names"] f_first_no_name :=
  has_of (N := ["names", "number", "name"]) (m := d_first_no_name) T.d_first_no_name sc_first_no_name fun f cdv A outer s H E hr hg0 =>
    have hu1 : (A.deeper (PyProof.Rows.envOfC "first_no_name" (defScope s_first_no_name) s.heap.objs.size f cdv)).units + 64 < cLine := hr.units
    have hu2 : (A.deeper (PyProof.Rows.envOfC "first_no_name" (defScope s_first_no_name) s.heap.objs.size f cdv)).units + 66 < cLine := by have := hr.un; omega
    (dss_cons (ds_for (passes_of rfl) rfl (di_enum (by rfl) T.z_enumerate (da_cons (de_var 0) da_nil)) (dg_tup rfl (dgs_cons (dg_name 1 sc_first_no_name.nd) (dgs_cons (dg_name 2 sc_first_no_name.nd) dgs_nil))) (dss_one (ds_if (PW.pt (dw_or (dt_not (dt_val (de_fnD (ks := []) (n := 1) h_is_name [0, 1] (fun F => kbd_k [("longest", (V.int 6))] F (fun h => nomatch h) (by simp) (fun _ _ _ _ _ _ us ws mv hu hw hm => match us, ws, mv, hu, hw, hm with | [_], [], [_], _, _, _ => ⟨_, _, _, _, _, _, rfl, rfl, rfl⟩)) (fun _ _ => (.cons (.int _) .nil)) hr (by first | decide | omega) hg0 (takes_of rfl rfl rfl rfl) (by rfl) (da_cons (de_var 2) da_nil) dk_nil (len_cons len_nil) len_nil))) (dw_or1 (dt_cmp opr_in act_in (de_var 2) (de_slice slr_all act_sl (de_var 0) do_none (do_some (de_var 1))) (by rfl))))) (dss_one (ds_ret (de_var 1))) dss_nil))) (dss_one (ds_ret de_non)))
theorem sc_look_at_names : FnScope ["part", "names", "most", "number"] ["part", "names", "most"] (defScope s_look_at_names) := ⟨rfl, rfl, rfl, by decide +kernel, rfl, by decide +kernel, by decide +kernel⟩
set_option maxHeartbeats 1000000 in
theorem ok_look_at_names (T : Txt w K mg) (h_first_no_name : Has P w K mg base 2 "first_no_name" s_first_no_name ["names"] f_first_no_name) (q_NoProgram : ErK P w K mg base "NoProgram" ["self", "part", "number"] (fun C => spI2 C "part" "number")) : HasD P w K mg base 3 "look_at_names" s_look_at_names ["part", "names", "most"] [] [] f_look_at_names :=
  has_ofD (N := ["part", "names", "most", "number"]) (m := d_look_at_names) T.d_look_at_names sc_look_at_names fun f cdv A outer s H E hr hg0 =>
    have hu1 : (A.deeper (PyProof.Rows.envOfC "look_at_names" (defScope s_look_at_names) s.heap.objs.size f cdv)).units + 64 < cLine := hr.units
    have hu2 : (A.deeper (PyProof.Rows.envOfC "look_at_names" (defScope s_look_at_names) s.heap.objs.size f cdv)).units + 66 < cLine := by have := hr.un; omega
    (dss_cons (ds_if (PW.pt (dw_or (dt_not (dt_val (de_callB call_isi act_isi (by rfl) T.z_isinstance (by decide +kernel) (da_cons (de_var 1) (da_cons (de_ty (by rfl) T.z_list (by decide +kernel)) da_nil))))) (dw_or1 (dt_not (dt_chain op_le op_le act_le act_le de_int (de_callB call_len act_len (by rfl) T.z_len PySem.boot_len (da_cons (de_var 1) da_nil)) (de_var 2)))))) (dss_one (ds_raise2 rfl (takes_of rfl rfl rfl rfl) q_NoProgram hr (by first | decide | omega) (by rfl) (da_cons (de_var 0) (da_cons de_non da_nil)))) dss_nil) (dss_cons (ds_set 3 sc_look_at_names.nd (de_fn h_first_no_name hr (by first | decide | omega) hg0 (takes_of rfl rfl rfl rfl) (by rfl) (da_cons (de_var 1) da_nil))) (dss_one (ds_if (dt_cmp op_notN act_notN (de_var 3) de_non (nomark _)) (dss_one (ds_raise2 rfl (takes_of rfl rfl rfl rfl) q_NoProgram hr (by first | decide | omega) (by rfl) (da_cons (de_var 0) (da_cons (de_var 3) da_nil)))) dss_nil))))
theorem sc_is_whole : FnScope ["thing"] ["thing"] (defScope s_is_whole) := ⟨rfl, rfl, rfl, by decide +kernel, rfl, by decide +kernel, by decide +kernel⟩
set_option maxHeartbeats 1000000 in
theorem ok_is_whole (T : Txt w K mg) : Has P w K mg base 1 "is_whole" s_is_whole ["thing"] f_is_whole :=
  has_of (N := ["thing"]) (m := d_is_whole) T.d_is_whole sc_is_whole fun f cdv A outer s H E hr hg0 =>
    have hu1 : (A.deeper (PyProof.Rows.envOfC "is_whole" (defScope s_is_whole) s.heap.objs.size f cdv)).units + 64 < cLine := hr.units
    have hu2 : (A.deeper (PyProof.Rows.envOfC "is_whole" (defScope s_is_whole) s.heap.objs.size f cdv)).units + 66 < cLine := by have := hr.un; omega
    (dss_one (ds_ret (de_and (de_callB call_isi act_isi (by rfl) T.z_isinstance (by decide +kernel) (da_cons (de_var 0) (da_cons (de_ty (by rfl) T.z_int (by decide +kernel)) da_nil))) (de_one (de_not (de_callB call_isi act_isi (by rfl) T.z_isinstance (by decide +kernel) (da_cons (de_var 0) (da_cons (de_ty (by rfl) T.z_bool (by decide +kernel)) da_nil))))))))
theorem sc_look_at_many : FnScope ["many"] ["many"] (defScope s_look_at_many) := ⟨rfl, rfl, rfl, by decide +kernel, rfl, by decide +kernel, by decide +kernel⟩
set_option maxHeartbeats 1000000 in
theorem ok_look_at_many (T : Txt w K mg) (h_is_whole : Has P w K mg base 1 "is_whole" s_is_whole ["thing"] f_is_whole) (q_NoNumber : ErK P w K mg base "NoNumber" ["self", "thing"] (fun C => spI1 C "thing")) : Has P w K mg base 3 "look_at_many" s_look_at_many ["many"] f_look_at_many :=
  has_of (N := ["many"]) (m := d_look_at_many) T.d_look_at_many sc_look_at_many fun f cdv A outer s H E hr hg0 =>
    have hu1 : (A.deeper (PyProof.Rows.envOfC "look_at_many" (defScope s_look_at_many) s.heap.objs.size f cdv)).units + 64 < cLine := hr.units
    have hu2 : (A.deeper (PyProof.Rows.envOfC "look_at_many" (defScope s_look_at_many) s.heap.objs.size f cdv)).units + 66 < cLine := by have := hr.un; omega
    (dss_one (ds_if (PW.pt (dw_or (dt_not (dt_val (de_fn h_is_whole hr (by first | decide | omega) hg0 (takes_of rfl rfl rfl rfl) (by rfl) (da_cons (de_var 0) da_nil)))) (dw_or1 (dt_not (dt_chain op_le op_le act_le act_le de_int (de_var 0) (T.c_MOST_NUMBERS_wishes (by rfl))))))) (dss_one (ds_raise1 rfl (takes_of rfl rfl rfl rfl) q_NoNumber hr (by first | decide | omega) (by rfl) (da_cons (de_var 0) da_nil))) dss_nil))
theorem sc_is_line : FnScope ["many", "thing", "one"] ["many", "thing"] (defScope s_is_line) := ⟨rfl, rfl, rfl, by decide +kernel, rfl, by decide +kernel, by decide +kernel⟩
set_option maxHeartbeats 1000000 in
theorem ok_is_line (T : Txt w K mg) (h_is_whole : Has P w K mg base 1 "is_whole" s_is_whole ["thing"] f_is_whole) (h_look_at_many : Has P w K mg base 3 "look_at_many" s_look_at_many ["many"] f_look_at_many) : Has P w K mg base 4 "is_line" s_is_line ["many", "thing"] f_is_line :=
  has_of (N := ["many", "thing", "one"]) (m := d_is_line) T.d_is_line sc_is_line fun f cdv A outer s H E hr hg0 =>
    have hu1 : (A.deeper (PyProof.Rows.envOfC "is_line" (defScope s_is_line) s.heap.objs.size f cdv)).units + 64 < cLine := hr.units
    have hu2 : (A.deeper (PyProof.Rows.envOfC "is_line" (defScope s_is_line) s.heap.objs.size f cdv)).units + 66 < cLine := by have := hr.un; omega
    (dss_cons (ds_expr (de_fn h_look_at_many hr (by first | decide | omega) hg0 (takes_of rfl rfl rfl rfl) (by rfl) (da_cons (de_var 0) da_nil))) (dss_one (ds_ret (de_and (de_callB call_isi act_isi (by rfl) T.z_isinstance (by decide +kernel) (da_cons (de_var 1) (da_cons (de_ty (by rfl) T.z_list (by decide +kernel)) da_nil))) (de_and (de_cmp (opr_eq hu1) act_eq (de_callB call_len act_len (by rfl) T.z_len PySem.boot_len (da_cons (de_var 1) da_nil)) (de_bin opr_add act_add (de_var 0) de_int) (nomark _)) (de_one (de_callB (cr_all rfl) act_all (by rfl) T.z_all (by decide +kernel) (da_cons (de_lc [("one", 2)] rfl sc_is_line.nd (di_list (de_var 1)) (blkOk_by (N := ["many", "thing", "one"]) (sc := defScope s_is_line) (by decide +kernel)) (fun _ _ _ _ _ => (dg_name 2 sc_is_line.nd)) (fun _ _ _ _ _ => dts_nil) (fun _ _ _ _ _ => (de_fn h_is_whole hr (by first | decide | omega) hg0 takes_no (by rfl) (da_cons (de_var 2) da_nil)))) da_nil))))))))
theorem sc_is_wish : FnScope ["many", "thing"] ["many", "thing"] (defScope s_is_wish) := ⟨rfl, rfl, rfl, by decide +kernel, rfl, by decide +kernel, by decide +kernel⟩
set_option maxHeartbeats 1000000 in
theorem ok_is_wish (T : Txt w K mg) (h_look_at_many : Has P w K mg base 3 "look_at_many" s_look_at_many ["many"] f_look_at_many) (h_is_line : Has P w K mg base 4 "is_line" s_is_line ["many", "thing"] f_is_line) : Has P w K mg base 5 "is_wish" s_is_wish ["many", "thing"] f_is_wish :=
  has_of (N := ["many", "thing"]) (m := d_is_wish) T.d_is_wish sc_is_wish fun f cdv A outer s H E hr hg0 =>
    have hu1 : (A.deeper (PyProof.Rows.envOfC "is_wish" (defScope s_is_wish) s.heap.objs.size f cdv)).units + 64 < cLine := hr.units
    have hu2 : (A.deeper (PyProof.Rows.envOfC "is_wish" (defScope s_is_wish) s.heap.objs.size f cdv)).units + 66 < cLine := by have := hr.un; omega
    (dss_cons (ds_expr (de_fn h_look_at_many hr (by first | decide | omega) hg0 (takes_of rfl rfl rfl rfl) (by rfl) (da_cons (de_var 0) da_nil))) (dss_cons (ds_if (PW.pt (dw_or (dt_not (dt_val (de_callB call_isi act_isi (by rfl) T.z_isinstance (by decide +kernel) (da_cons (de_var 1) (da_cons (de_ty (by rfl) T.z_tuple (by decide +kernel)) da_nil))))) (dw_or (dt_cmp (opr_ne hu1) act_ne (de_callB call_len act_len (by rfl) T.z_len PySem.boot_len (da_cons (de_var 1) da_nil)) de_int (nomark _)) (dw_or1 (dt_not (dt_val (de_callB call_isi act_isi (by rfl) T.z_isinstance (by decide +kernel) (da_cons (de_ix ix_seq act_ix (de_var 1) de_int) (da_cons (de_ty (by rfl) T.z_str (by decide +kernel)) da_nil))))))))) (dss_one (ds_ret de_bl)) dss_nil) (dss_one (ds_ret (de_and (de_cmp opr_in act_in (de_ix ix_seq act_ix (de_var 1) de_int) (de_tup (da_cons (T.c_LEAST (by rfl)) (da_cons (T.c_JUST (by rfl)) da_nil))) (by rfl)) (de_one (de_fn h_is_line hr (by first | decide | omega) hg0 (takes_of rfl rfl rfl rfl) (by rfl) (da_cons (de_var 0) (da_cons (de_ix ix_seq act_ix (de_var 1) de_int) da_nil)))))))))
theorem sc_are_wishes : FnScope ["many", "thing", "most", "wish"] ["many", "thing", "most"] (defScope s_are_wishes) := ⟨rfl, rfl, rfl, by decide +kernel, rfl, by decide +kernel, by decide +kernel⟩
set_option maxHeartbeats 1000000 in
theorem ok_are_wishes (T : Txt w K mg) (h_is_wish : Has P w K mg base 5 "is_wish" s_is_wish ["many", "thing"] f_is_wish) : HasD P w K mg base 6 "are_wishes" s_are_wishes ["many", "thing", "most"] [] [("most", (V.int 12))] f_are_wishes :=
  has_ofD (N := ["many", "thing", "most", "wish"]) (m := d_are_wishes) T.d_are_wishes sc_are_wishes fun f cdv A outer s H E hr hg0 =>
    have hu1 : (A.deeper (PyProof.Rows.envOfC "are_wishes" (defScope s_are_wishes) s.heap.objs.size f cdv)).units + 64 < cLine := hr.units
    have hu2 : (A.deeper (PyProof.Rows.envOfC "are_wishes" (defScope s_are_wishes) s.heap.objs.size f cdv)).units + 66 < cLine := by have := hr.un; omega
    (dss_one (ds_ret (de_and (de_callB call_isi act_isi (by rfl) T.z_isinstance (by decide +kernel) (da_cons (de_var 1) (da_cons (de_ty (by rfl) T.z_list (by decide +kernel)) da_nil))) (de_and (de_cmp op_le act_le (de_callB call_len act_len (by rfl) T.z_len PySem.boot_len (da_cons (de_var 1) da_nil)) (de_var 2) (nomark _)) (de_one (de_callB (cr_all rfl) act_all (by rfl) T.z_all (by decide +kernel) (da_cons (de_lc [("wish", 3)] rfl sc_are_wishes.nd (di_list (de_var 1)) (blkOk_by (N := ["many", "thing", "most", "wish"]) (sc := defScope s_are_wishes) (by decide +kernel)) (fun _ _ _ _ _ => (dg_name 3 sc_are_wishes.nd)) (fun _ _ _ _ _ => dts_nil) (fun _ _ _ _ _ => (de_fn h_is_wish hr (by first | decide | omega) hg0 takes_no (by rfl) (da_cons (de_var 0) (da_cons (de_var 3) da_nil))))) da_nil)))))))
theorem sc_is_number_of : FnScope ["thing", "many"] ["thing", "many"] (defScope s_is_number_of) := ⟨rfl, rfl, rfl, by decide +kernel, rfl, by decide +kernel, by decide +kernel⟩
set_option maxHeartbeats 1000000 in
theorem ok_is_number_of (T : Txt w K mg) (h_is_whole : Has P w K mg base 1 "is_whole" s_is_whole ["thing"] f_is_whole) : Has P w K mg base 2 "is_number_of" s_is_number_of ["thing", "many"] f_is_number_of :=
  has_of (N := ["thing", "many"]) (m := d_is_number_of) T.d_is_number_of sc_is_number_of fun f cdv A outer s H E hr hg0 =>
    have hu1 : (A.deeper (PyProof.Rows.envOfC "is_number_of" (defScope s_is_number_of) s.heap.objs.size f cdv)).units + 64 < cLine := hr.units
    have hu2 : (A.deeper (PyProof.Rows.envOfC "is_number_of" (defScope s_is_number_of) s.heap.objs.size f cdv)).units + 66 < cLine := by have := hr.un; omega
    (dss_one (ds_ret (de_and (de_fn h_is_whole hr (by first | decide | omega) hg0 (takes_of rfl rfl rfl rfl) (by rfl) (da_cons (de_var 0) da_nil)) (de_one (de_chain op_le op_lt act_le act_lt de_int (de_var 0) (de_var 1))))))
theorem sc_is_row : FnScope ["numbers", "places", "thing"] ["numbers", "places", "thing"] (defScope s_is_row) := ⟨rfl, rfl, rfl, by decide +kernel, rfl, by decide +kernel, by decide +kernel⟩
set_option maxHeartbeats 1000000 in
theorem ok_is_row (T : Txt w K mg) (h_are_wishes : HasD P w K mg base 6 "are_wishes" s_are_wishes ["many", "thing", "most"] [] [("most", (V.int 12))] f_are_wishes) (h_is_number_of : Has P w K mg base 2 "is_number_of" s_is_number_of ["thing", "many"] f_is_number_of) : Has P w K mg base 7 "is_row" s_is_row ["numbers", "places", "thing"] f_is_row :=
  has_of (N := ["numbers", "places", "thing"]) (m := d_is_row) T.d_is_row sc_is_row fun f cdv A outer s H E hr hg0 =>
    have hu1 : (A.deeper (PyProof.Rows.envOfC "is_row" (defScope s_is_row) s.heap.objs.size f cdv)).units + 64 < cLine := hr.units
    have hu2 : (A.deeper (PyProof.Rows.envOfC "is_row" (defScope s_is_row) s.heap.objs.size f cdv)).units + 66 < cLine := by have := hr.un; omega
    (dss_cons (ds_if (PW.pt (dw_or (dt_not (dt_val (de_callB call_isi act_isi (by rfl) T.z_isinstance (by decide +kernel) (da_cons (de_var 2) (da_cons (de_ty (by rfl) T.z_tuple (by decide +kernel)) da_nil))))) (dw_or1 (dt_cmp (opr_ne hu1) act_ne (de_callB call_len act_len (by rfl) T.z_len PySem.boot_len (da_cons (de_var 2) da_nil)) de_int (nomark _))))) (dss_one (ds_ret de_bl)) dss_nil) (dss_cons (ds_if (PW.pt (dw_or (dt_not (dt_val (de_fn h_is_number_of hr (by first | decide | omega) hg0 (takes_of rfl rfl rfl rfl) (by rfl) (da_cons (de_ix ix_seq act_ix (de_var 2) de_int) (da_cons (de_var 1) da_nil))))) (dw_or1 (dt_not (dt_val (de_fn h_is_number_of hr (by first | decide | omega) hg0 (takes_of rfl rfl rfl rfl) (by rfl) (da_cons (de_ix ix_seq act_ix (de_var 2) de_int) (da_cons (de_var 1) da_nil)))))))) (dss_one (ds_ret de_bl)) dss_nil) (dss_one (ds_ret (de_fnD (ks := []) (n := 2) h_are_wishes [0, 1, 2] (fun F => kbd_k [("most", (V.int 12))] F (fun h => nomatch h) (by simp) (fun _ _ _ _ _ _ us ws mv hu hw hm => match us, ws, mv, hu, hw, hm with | [_, _], [], [_], _, _, _ => ⟨_, _, _, _, _, _, rfl, rfl, rfl⟩)) (fun _ _ => (.cons (.int _) .nil)) hr (by first | decide | omega) hg0 (takes_of rfl rfl rfl rfl) (by rfl) (da_cons (de_bin opr_mul act_mul de_int (de_var 0)) (da_cons (de_ix ix_seq act_ix (de_var 2) de_int) da_nil)) dk_nil (len_cons (len_cons len_nil)) len_nil)))))
theorem sc_look_at : FnScope ["thing", "names", "places", "rows", "number", "row"] ["thing"] (defScope s_look_at) := ⟨rfl, rfl, rfl, by decide +kernel, rfl, by decide +kernel, by decide +kernel⟩
set_option maxHeartbeats 1000000 in
theorem ok_look_at (T : Txt w K mg) (h_look_at_names : HasD P w K mg base 3 "look_at_names" s_look_at_names ["part", "names", "most"] [] [] f_look_at_names) (h_is_row : Has P w K mg base 7 "is_row" s_is_row ["numbers", "places", "thing"] f_is_row) (q_NoProgram : ErK P w K mg base "NoProgram" ["self", "part", "number"] (fun C => spI2 C "part" "number")) : Has P w K mg base 8 "look_at" s_look_at ["thing"] f_look_at :=
  has_of (N := ["thing", "names", "places", "rows", "number", "row"]) (m := d_look_at) T.d_look_at sc_look_at fun f cdv A outer s H E hr hg0 =>
    have hu1 : (A.deeper (PyProof.Rows.envOfC "look_at" (defScope s_look_at) s.heap.objs.size f cdv)).units + 64 < cLine := hr.units
    have hu2 : (A.deeper (PyProof.Rows.envOfC "look_at" (defScope s_look_at) s.heap.objs.size f cdv)).units + 66 < cLine := by have := hr.un; omega
    (dss_cons (ds_if (PW.pt (dw_or (dt_not (dt_val (de_callB call_isi act_isi (by rfl) T.z_isinstance (by decide +kernel) (da_cons (de_var 0) (da_cons (de_ty (by rfl) T.z_tuple (by decide +kernel)) da_nil))))) (dw_or1 (dt_cmp (opr_ne hu1) act_ne (de_callB call_len act_len (by rfl) T.z_len PySem.boot_len (da_cons (de_var 0) da_nil)) de_int (nomark _))))) (dss_one (ds_raise2 rfl (takes_of rfl rfl rfl rfl) q_NoProgram hr (by first | decide | omega) (by rfl) (da_cons de_non (da_cons de_non da_nil)))) dss_nil) (dss_cons (ds_asg (de_var 0) (dg_tup rfl (dgs_cons (dg_name 1 sc_look_at.nd) (dgs_cons (dg_name 2 sc_look_at.nd) (dgs_cons (dg_name 3 sc_look_at.nd) dgs_nil))))) (dss_cons (ds_expr (de_fnD (ks := ["most"]) (n := 2) h_look_at_names [0, 1, 2] (fun F => kbd_n F (fun _ _ _ _ _ _ us ws hu hw => match us, ws, hu, hw with | [_, _], [_], _, _ => rfl)) (fun _ _ => .nil) hr (by first | decide | omega) hg0 (takes_of rfl rfl rfl rfl) (by rfl) (da_cons de_str (da_cons (de_var 1) da_nil)) (dk_cons (T.c_MOST_NUMBERS_programs (by rfl)) dk_nil) (len_cons (len_cons len_nil)) (len_cons len_nil))) (dss_cons (ds_expr (de_fnD (ks := ["most"]) (n := 2) h_look_at_names [0, 1, 2] (fun F => kbd_n F (fun _ _ _ _ _ _ us ws hu hw => match us, ws, hu, hw with | [_, _], [_], _, _ => rfl)) (fun _ _ => .nil) hr (by first | decide | omega) hg0 (takes_of rfl rfl rfl rfl) (by rfl) (da_cons de_str (da_cons (de_var 2) da_nil)) (dk_cons (T.c_MOST_PLACES (by rfl)) dk_nil) (len_cons (len_cons len_nil)) (len_cons len_nil))) (dss_cons (ds_if (PW.pt (dw_or (dt_not (dt_val (de_callB call_isi act_isi (by rfl) T.z_isinstance (by decide +kernel) (da_cons (de_var 3) (da_cons (de_ty (by rfl) T.z_list (by decide +kernel)) da_nil))))) (dw_or1 (dt_cmp op_gt act_gt (de_callB call_len act_len (by rfl) T.z_len PySem.boot_len (da_cons (de_var 3) da_nil)) (T.c_MOST_ROWS (by rfl)) (nomark _))))) (dss_one (ds_raise2 rfl (takes_of rfl rfl rfl rfl) q_NoProgram hr (by first | decide | omega) (by rfl) (da_cons de_str (da_cons de_non da_nil)))) dss_nil) (dss_one (ds_for (passes_of rfl) rfl (di_enum (by rfl) T.z_enumerate (da_cons (de_var 3) da_nil)) (dg_tup rfl (dgs_cons (dg_name 4 sc_look_at.nd) (dgs_cons (dg_name 5 sc_look_at.nd) dgs_nil))) (dss_one (ds_if (dt_not (dt_val (de_fn h_is_row hr (by first | decide | omega) hg0 (takes_of rfl rfl rfl rfl) (by rfl) (da_cons (de_callB call_len act_len (by rfl) T.z_len PySem.boot_len (da_cons (de_var 1) da_nil)) (da_cons (de_callB call_len act_len (by rfl) T.z_len PySem.boot_len (da_cons (de_var 2) da_nil)) (da_cons (de_var 5) da_nil)))))) (dss_one (ds_raise2 rfl (takes_of rfl rfl rfl rfl) q_NoProgram hr (by first | decide | omega) (by rfl) (da_cons de_str (da_cons (de_var 4) da_nil)))) dss_nil)))))))))
theorem sc_both_names : FnScope ["names", "name"] ["names"] (defScope s_both_names) := ⟨rfl, rfl, rfl, by decide +kernel, rfl, by decide +kernel, by decide +kernel⟩
set_option maxHeartbeats 1000000 in
theorem ok_both_names (T : Txt w K mg) : Has P w K mg base 1 "both_names" s_both_names ["names"] f_both_names :=
  has_of (N := ["names", "name"]) (m := d_both_names) T.d_both_names sc_both_names fun f cdv A outer s H E hr hg0 =>
    have hu1 : (A.deeper (PyProof.Rows.envOfC "both_names" (defScope s_both_names) s.heap.objs.size f cdv)).units + 64 < cLine := hr.units
    have hu2 : (A.deeper (PyProof.Rows.envOfC "both_names" (defScope s_both_names) s.heap.objs.size f cdv)).units + 66 < cLine := by have := hr.un; omega
    (dss_one (ds_ret (de_bin opr_add act_add (de_var 0) (de_lc [("name", 1)] rfl sc_both_names.nd (di_list (de_var 0)) (blkOk_by (N := ["names", "name"]) (sc := defScope s_both_names) (by decide +kernel)) (fun _ _ _ _ _ => (dg_name 1 sc_both_names.nd)) (fun _ _ _ _ _ => dts_nil) (fun _ _ _ _ _ => (de_bin opr_add act_add (de_var 1) (T.c_BEHIND (by rfl))))))))
theorem sc_shown_program : FnScope ["program", "found", "names", "places", "rows", "start", "to", "wishes", "wish"] ["program"] (defScope s_shown_program) := ⟨rfl, rfl, rfl, by decide +kernel, rfl, by decide +kernel, by decide +kernel⟩
set_option maxHeartbeats 1000000 in
theorem ok_shown_program (T : Txt w K mg) (h_shown_wish : Has P w K mg base 3 "shown_wish" s_shown_wish ["names", "wish"] f_shown_wish) (h_look_at : Has P w K mg base 8 "look_at" s_look_at ["thing"] f_look_at) (h_both_names : Has P w K mg base 1 "both_names" s_both_names ["names"] f_both_names) : Has P w K mg base 9 "shown_program" s_shown_program ["program"] f_shown_program :=
  has_of (N := ["program", "found", "names", "places", "rows", "start", "to", "wishes", "wish"]) (m := d_shown_program) T.d_shown_program sc_shown_program fun f cdv A outer s H E hr hg0 =>
    have hu1 : (A.deeper (PyProof.Rows.envOfC "shown_program" (defScope s_shown_program) s.heap.objs.size f cdv)).units + 64 < cLine := hr.units
    have hu2 : (A.deeper (PyProof.Rows.envOfC "shown_program" (defScope s_shown_program) s.heap.objs.size f cdv)).units + 66 < cLine := by have := hr.un; omega
    (dss_cons (ds_expr (de_fn h_look_at hr (by first | decide | omega) hg0 (takes_of rfl rfl rfl rfl) (by rfl) (da_cons (de_var 0) da_nil))) (dss_cons (ds_asg (de_var 0) (dg_tup rfl (dgs_cons (dg_name 2 sc_shown_program.nd) (dgs_cons (dg_name 3 sc_shown_program.nd) (dgs_cons (dg_name 4 sc_shown_program.nd) dgs_nil))))) (dss_cons (ds_set 1 sc_shown_program.nd (de_lstC (da_cons (de_bm PySem.F.plainAttrs_str PySem.F.slot_str_join PySem.F.type_str_join mt_join act_join ty_str de_str (da_cons (de_bin opr_add act_add (de_lst (da_cons de_str da_nil)) (de_var 2)) da_nil)) (da_cons (de_bm PySem.F.plainAttrs_str PySem.F.slot_str_join PySem.F.type_str_join mt_join act_join ty_str de_str (da_cons (de_bin opr_add act_add (de_lst (da_cons de_str da_nil)) (de_var 3)) da_nil)) da_nil)))) (dss_cons (ds_for (passes_of rfl) rfl (di_list (de_var 4)) (dg_tup rfl (dgs_cons (dg_name 5 sc_shown_program.nd) (dgs_cons (dg_name 6 sc_shown_program.nd) (dgs_cons (dg_name 7 sc_shown_program.nd) dgs_nil)))) (dss_cons (ds_expr (de_bm PySem.F.plainAttrs_list PySem.F.slot_list_append PySem.F.type_list_append mt_append act_append ty_list (de_var 1) (da_cons (de_bm PySem.F.plainAttrs_str PySem.F.slot_str_join PySem.F.type_str_join mt_join act_join ty_str de_str (da_cons (de_lst (da_cons de_str (da_cons (de_ix ix_seq act_ix (de_var 3) (de_var 5)) (da_cons (de_ix ix_seq act_ix (de_var 3) (de_var 6)) da_nil)))) da_nil)) da_nil))) (dss_one (ds_expr (de_bm PySem.F.plainAttrs_list PySem.F.slot_list_extend PySem.F.type_list_extend mt_extend act_extend ty_list (de_var 1) (da_cons (de_lc [("wish", 8)] rfl sc_shown_program.nd (di_list (de_var 7)) (blkOk_by (N := ["program", "found", "names", "places", "rows", "start", "to", "wishes", "wish"]) (sc := defScope s_shown_program) (by decide +kernel)) (fun _ _ _ _ _ => (dg_name 8 sc_shown_program.nd)) (fun _ _ _ _ _ => dts_nil) (fun _ _ _ _ _ => (de_fn h_shown_wish hr (by first | decide | omega) hg0 takes_no (by rfl) (da_cons (de_fn h_both_names hr (by first | decide | omega) hg0 takes_no (by rfl) (da_cons (de_var 2) da_nil)) (da_cons (de_var 8) da_nil))))) da_nil)))))) (dss_one (ds_ret (de_bm PySem.F.plainAttrs_str PySem.F.slot_str_join PySem.F.type_str_join mt_join act_join ty_str de_str (da_cons (de_var 1) da_nil))))))))
theorem sc_read_names : FnScope ["rows", "number", "word", "most", "first", "names"] ["rows", "number", "word", "most"] (defScope s_read_names) := ⟨rfl, rfl, rfl, by decide +kernel, rfl, by decide +kernel, by decide +kernel⟩
set_option maxHeartbeats 1000000 in
theorem ok_read_names (T : Txt w K mg) (h_first_no_name : Has P w K mg base 2 "first_no_name" s_first_no_name ["names"] f_first_no_name) (q_NoText : ErK P w K mg base "NoText" ["self", "row"] (fun C => spI1 C "row")) : HasD P w K mg base 3 "read_names" s_read_names ["rows", "number", "word", "most"] [] [] f_read_names :=
  has_ofD (N := ["rows", "number", "word", "most", "first", "names"]) (m := d_read_names) T.d_read_names sc_read_names fun f cdv A outer s H E hr hg0 =>
    have hu1 : (A.deeper (PyProof.Rows.envOfC "read_names" (defScope s_read_names) s.heap.objs.size f cdv)).units + 64 < cLine := hr.units
    have hu2 : (A.deeper (PyProof.Rows.envOfC "read_names" (defScope s_read_names) s.heap.objs.size f cdv)).units + 66 < cLine := by have := hr.un; omega
    (dss_cons (ds_if (dt_cmp (opr_eq hu1) act_eq (de_callB call_len act_len (by rfl) T.z_len PySem.boot_len (da_cons (de_var 0) da_nil)) (de_var 1) (nomark _)) (dss_one (ds_raise1 rfl (takes_of rfl rfl rfl rfl) q_NoText hr (by first | decide | omega) (by rfl) (da_cons (de_var 1) da_nil))) dss_nil) (dss_cons (ds_starC (de_bm PySem.F.plainAttrs_str PySem.F.slot_str_split PySem.F.type_str_split mt_split act_split ty_str (de_ix ix_seq act_ix (de_var 0) (de_var 1)) (da_cons de_str da_nil)) (dg_name 4 sc_read_names.nd) (dg_name 5 sc_read_names.nd) rfl) (dss_cons (ds_if (PW.pt (dw_or (dt_cmp (opr_ne hu1) act_ne (de_var 4) (de_var 2) (nomark _)) (dw_or (dt_not (dt_chain op_le op_le act_le act_le de_int (de_callB call_len act_len (by rfl) T.z_len PySem.boot_len (da_cons (de_var 5) da_nil)) (de_var 3))) (dw_or1 (dt_cmp op_notN act_notN (de_fn h_first_no_name hr (by first | decide | omega) hg0 (takes_of rfl rfl rfl rfl) (by rfl) (da_cons (de_var 5) da_nil)) de_non (nomark _)))))) (dss_one (ds_raise1 rfl (takes_of rfl rfl rfl rfl) q_NoText hr (by first | decide | omega) (by rfl) (da_cons (de_var 1) da_nil))) dss_nil) (dss_one (ds_ret (de_var 5))))))
theorem sc_is_head : FnScope ["places", "words"] ["places", "words"] (defScope s_is_head) := ⟨rfl, rfl, rfl, by decide +kernel, rfl, by decide +kernel, by decide +kernel⟩
set_option maxHeartbeats 1000000 in
theorem ok_is_head (T : Txt w K mg) : Has P w K mg base 1 "is_head" s_is_head ["places", "words"] f_is_head :=
  has_of (N := ["places", "words"]) (m := d_is_head) T.d_is_head sc_is_head fun f cdv A outer s H E hr hg0 =>
    have hu1 : (A.deeper (PyProof.Rows.envOfC "is_head" (defScope s_is_head) s.heap.objs.size f cdv)).units + 64 < cLine := hr.units
    have hu2 : (A.deeper (PyProof.Rows.envOfC "is_head" (defScope s_is_head) s.heap.objs.size f cdv)).units + 66 < cLine := by have := hr.un; omega
    (dss_one (ds_ret (de_and (de_cmp (opr_eq hu1) act_eq (de_callB call_len act_len (by rfl) T.z_len PySem.boot_len (da_cons (de_var 1) da_nil)) de_int (nomark _)) (de_and (de_cmp (opr_eq hu1) act_eq (de_ix ix_seq act_ix (de_var 1) de_int) de_str (nomark _)) (de_and (de_cmp opr_in act_in (de_ix ix_seq act_ix (de_var 1) de_int) (de_var 0) (by rfl)) (de_one (de_cmp opr_in act_in (de_ix ix_seq act_ix (de_var 1) de_int) (de_var 0) (by rfl))))))))
theorem sc_are_figures : FnScope ["text", "sign"] ["text"] (defScope s_are_figures) := ⟨rfl, rfl, rfl, by decide +kernel, rfl, by decide +kernel, by decide +kernel⟩
set_option maxHeartbeats 1000000 in
theorem ok_are_figures (T : Txt w K mg) : Has P w K mg base 1 "are_figures" s_are_figures ["text"] f_are_figures :=
  has_of (N := ["text", "sign"]) (m := d_are_figures) T.d_are_figures sc_are_figures fun f cdv A outer s H E hr hg0 =>
    have hu1 : (A.deeper (PyProof.Rows.envOfC "are_figures" (defScope s_are_figures) s.heap.objs.size f cdv)).units + 64 < cLine := hr.units
    have hu2 : (A.deeper (PyProof.Rows.envOfC "are_figures" (defScope s_are_figures) s.heap.objs.size f cdv)).units + 66 < cLine := by have := hr.un; omega
    (dss_cons (ds_if (PW.pt (dw_or (dt_cmp (opr_eq hu1) act_eq (de_var 0) de_str (nomark _)) (dw_or1 (dt_not (dt_val (de_callB (cr_all rfl) act_all (by rfl) T.z_all (by decide +kernel) (da_cons (de_lc [("sign", 1)] rfl sc_are_figures.nd (di_str (de_var 0)) (blkOk_by (N := ["text", "sign"]) (sc := defScope s_are_figures) (by decide +kernel)) (fun _ _ _ _ _ => (dg_name 1 sc_are_figures.nd)) (fun _ _ _ _ _ => dts_nil) (fun _ _ _ _ _ => (de_cmp opr_in act_in (de_var 1) (T.c_FIGURES (by rfl)) (by rfl)))) da_nil))))))) (dss_one (ds_ret de_bl)) dss_nil) (dss_one (ds_ret (de_or (de_cmp (opr_eq hu1) act_eq (de_var 0) de_str (nomark _)) (de_one (de_cmp (opr_ne hu1) act_ne (de_ix ix_seq act_ix (de_var 0) de_int) de_str (nomark _)))))))
theorem sc_part_of_text : FnScope ["names", "text", "figures", "mark", "name"] ["names", "text"] (defScope s_part_of_text) := ⟨rfl, rfl, rfl, by decide +kernel, rfl, by decide +kernel, by decide +kernel⟩
set_option maxHeartbeats 1000000 in
theorem ok_part_of_text (T : Txt w K mg) (h_are_figures : Has P w K mg base 1 "are_figures" s_are_figures ["text"] f_are_figures) : Has P w K mg base 2 "part_of_text" s_part_of_text ["names", "text"] f_part_of_text :=
  has_of (N := ["names", "text", "figures", "mark", "name"]) (m := d_part_of_text) T.d_part_of_text sc_part_of_text fun f cdv A outer s H E hr hg0 =>
    have hu1 : (A.deeper (PyProof.Rows.envOfC "part_of_text" (defScope s_part_of_text) s.heap.objs.size f cdv)).units + 64 < cLine := hr.units
    have hu2 : (A.deeper (PyProof.Rows.envOfC "part_of_text" (defScope s_part_of_text) s.heap.objs.size f cdv)).units + 66 < cLine := by have := hr.un; omega
    (dss_cons (ds_asg (de_bm PySem.F.plainAttrs_str PySem.F.slot_str_rpartition PySem.F.type_str_rpartition mt_rpartition act_rpart ty_str (de_var 1) (da_cons de_str da_nil)) (dg_tup rfl (dgs_cons (dg_name 2 sc_part_of_text.nd) (dgs_cons (dg_name 3 sc_part_of_text.nd) (dgs_cons (dg_name 4 sc_part_of_text.nd) dgs_nil))))) (dss_cons (ds_if (PW.pt (dw_and (dt_cmp (opr_eq hu1) act_eq (de_var 3) de_str (nomark _)) (dw_and1 (dt_val (de_fn h_are_figures hr (by first | decide | omega) hg0 (takes_of rfl rfl rfl rfl) (by rfl) (da_cons (de_var 4) da_nil)))))) (dss_one (ds_ret (de_tup (da_cons de_int (da_cons (de_callTy call_intX act_intX (by rfl) T.z_int (by decide +kernel) (da_cons (de_var 4) da_nil)) da_nil))))) dss_nil) (dss_cons (ds_if (PW.pt (dw_or (dt_cmp opr_notIn act_notIn (de_var 4) (de_var 0) (by rfl)) (dw_or1 (PW.pt (dw_and (dt_cmp (opr_eq hu1) act_eq (de_var 3) de_str (nomark _)) (dw_and1 (dt_not (dt_val (de_fn h_are_figures hr (by first | decide | omega) hg0 (takes_of rfl rfl rfl rfl) (by rfl) (da_cons (de_var 2) da_nil)))))))))) (dss_one (ds_ret de_non)) dss_nil) (dss_one (ds_ret (de_tup (da_cons (de_bin opr_add act_add de_int (de_bm PySem.F.plainAttrs_list PySem.F.slot_list_index PySem.F.type_list_index mt_index act_indexS ty_list (de_var 0) (da_cons (de_var 4) da_nil))) (da_cons (de_callTy call_intX act_intX (by rfl) T.z_int (by decide +kernel) (da_cons (de_orV (de_var 2) (de_one de_str)) da_nil)) da_nil))))))))
theorem sc_read_line : FnScope ["names", "text", "signs", "parts", "found", "first", "sign", "part", "told", "rest"] ["names", "text"] (defScope s_read_line) := ⟨rfl, rfl, rfl, by decide +kernel, rfl, by decide +kernel, by decide +kernel⟩
set_option maxHeartbeats 1000000 in
theorem ok_read_line (T : Txt w K mg) (h_shown_line : Has P w K mg base 2 "shown_line" s_shown_line ["names", "line"] f_shown_line) (h_part_of_text : Has P w K mg base 2 "part_of_text" s_part_of_text ["names", "text"] f_part_of_text) (q_NoText : ErK P w K mg base "NoText" ["self", "row"] (fun C => spI1 C "row")) : Has P w K mg base 3 "read_line" s_read_line ["names", "text"] f_read_line :=
  has_of (N := ["names", "text", "signs", "parts", "found", "first", "sign", "part", "told", "rest"]) (m := d_read_line) T.d_read_line sc_read_line fun f cdv A outer s H E hr hg0 =>
    have hu1 : (A.deeper (PyProof.Rows.envOfC "read_line" (defScope s_read_line) s.heap.objs.size f cdv)).units + 64 < cLine := hr.units
    have hu2 : (A.deeper (PyProof.Rows.envOfC "read_line" (defScope s_read_line) s.heap.objs.size f cdv)).units + 66 < cLine := by have := hr.un; omega
    (dss_cons (ds_if (dt_not (dt_val (de_callB call_isi act_isi (by rfl) T.z_isinstance (by decide +kernel) (da_cons (de_var 1) (da_cons (de_ty (by rfl) T.z_str (by decide +kernel)) da_nil))))) (dss_one (ds_raise1 rfl (takes_of rfl rfl rfl rfl) q_NoText hr (by first | decide | omega) (by rfl) (da_cons de_int da_nil))) dss_nil) (dss_cons (ds_star (de_bm PySem.F.plainAttrs_str PySem.F.slot_str_split PySem.F.type_str_split mt_split act_split ty_str (de_var 1) (da_cons de_str da_nil)) (dg_name 5 sc_read_line.nd) (dg_name 9 sc_read_line.nd) rfl) (dss_cons (ds_set 2 sc_read_line.nd (de_bin opr_add act_addC (de_lst (da_cons de_str da_nil)) (de_slice3 (by decide) (de_var 9) do_none do_none step_nat))) (dss_cons (ds_set 3 sc_read_line.nd (de_bin opr_add act_addC (de_lst (da_cons (de_var 5) da_nil)) (de_slice3 (by decide) (de_var 9) (do_some de_int) do_none step_nat))) (dss_cons (ds_if (dt_val (de_bm PySem.F.plainAttrs_str PySem.F.slot_str_startswith PySem.F.type_str_startswith mt_startswith act_starts ty_str (de_var 5) (da_cons de_str da_nil))) (dss_cons (ds_sub set_list act_setD de_str (de_var 2) de_int (pg_sub (de_var 2) de_int set_list)) (dss_one (ds_sub set_list act_setD (de_slice slr_all act_sl (de_var 5) (do_some de_int) do_none) (de_var 3) de_int (pg_sub (de_var 3) de_int set_list)))) dss_nil) (dss_cons (ds_if (dt_cmp (opr_ne hu1) act_ne (de_callB call_len act_len (by rfl) T.z_len PySem.boot_len (da_cons (de_var 2) da_nil)) (de_callB call_len act_len (by rfl) T.z_len PySem.boot_len (da_cons (de_var 3) da_nil)) (nomark _)) (dss_one (ds_raise1 rfl (takes_of rfl rfl rfl rfl) q_NoText hr (by first | decide | omega) (by rfl) (da_cons de_int da_nil))) dss_nil) (dss_cons (ds_set 4 sc_read_line.nd (de_bin opr_mul act_mulC (de_lst (da_cons de_int da_nil)) (de_bin opr_add act_add (de_callB call_len act_len (by rfl) T.z_len PySem.boot_len (da_cons (de_var 0) da_nil)) de_int))) (dss_cons (ds_for (passes_of rfl) rfl (di_zip (by rfl) T.z_zip (da_cons (de_var 2) (da_cons (de_var 3) da_nil))) (dg_tup rfl (dgs_cons (dg_name 6 sc_read_line.nd) (dgs_cons (dg_name 7 sc_read_line.nd) dgs_nil))) (dss_cons (ds_set 8 sc_read_line.nd (de_fn h_part_of_text hr (by first | decide | omega) hg0 (takes_of rfl rfl rfl rfl) (by rfl) (da_cons (de_var 0) (da_cons (de_var 7) da_nil)))) (dss_cons (ds_if (PW.pt (dw_or (dt_cmp op_isN act_isN (de_var 8) de_non (nomark _)) (dw_or1 (dt_cmp opr_notIn act_notIn (de_var 6) (de_tup (da_cons de_str (da_cons de_str da_nil))) (by rfl))))) (dss_one (ds_raise1 rfl (takes_of rfl rfl rfl rfl) q_NoText hr (by first | decide | omega) (by rfl) (da_cons de_int da_nil))) dss_nil) (dss_one (ds_sub set_list act_setD (de_ix ix_seq act_ix (de_lst (da_cons (de_ix ix_seq act_ix (de_var 8) de_int) (da_cons (de_un un_neg act_neg (de_ix ix_seq act_ix (de_var 8) de_int)) da_nil))) (de_callTy call_int1 act_int (by rfl) T.z_int (by decide +kernel) (da_cons (de_cmp (opr_eq hu1) act_eq (de_var 6) de_str (nomark _)) da_nil))) (de_var 4) (de_ix ix_seq act_ix (de_var 8) de_int) (pg_sub (de_var 4) (de_ix ix_seq act_ix (de_var 8) de_int) set_list)))))) (dss_cons (ds_if (dt_cmp (opr_ne hu1) act_ne (de_fn h_shown_line hr (by first | decide | omega) hg0 (takes_of rfl rfl rfl rfl) (by rfl) (da_cons (de_var 0) (da_cons (de_var 4) da_nil))) (de_var 1) (nomark _)) (dss_one (ds_raise1 rfl (takes_of rfl rfl rfl rfl) q_NoText hr (by first | decide | omega) (by rfl) (da_cons de_int da_nil))) dss_nil) (dss_one (ds_ret (de_var 4))))))))))))
theorem sc_read_wish : FnScope ["names", "text", "word", "end"] ["names", "text"] (defScope s_read_wish) := ⟨rfl, rfl, rfl, by decide +kernel, rfl, by decide +kernel, by decide +kernel⟩
set_option maxHeartbeats 1000000 in
theorem ok_read_wish (T : Txt w K mg) (h_read_line : Has P w K mg base 3 "read_line" s_read_line ["names", "text"] f_read_line) (q_NoText : ErK P w K mg base "NoText" ["self", "row"] (fun C => spI1 C "row")) : Has P w K mg base 4 "read_wish" s_read_wish ["names", "text"] f_read_wish :=
  has_of (N := ["names", "text", "word", "end"]) (m := d_read_wish) T.d_read_wish sc_read_wish fun f cdv A outer s H E hr hg0 =>
    have hu1 : (A.deeper (PyProof.Rows.envOfC "read_wish" (defScope s_read_wish) s.heap.objs.size f cdv)).units + 64 < cLine := hr.units
    have hu2 : (A.deeper (PyProof.Rows.envOfC "read_wish" (defScope s_read_wish) s.heap.objs.size f cdv)).units + 66 < cLine := by have := hr.un; omega
    (dss_cons (ds_if (dt_not (dt_val (de_callB call_isi act_isi (by rfl) T.z_isinstance (by decide +kernel) (da_cons (de_var 1) (da_cons (de_ty (by rfl) T.z_str (by decide +kernel)) da_nil))))) (dss_one (ds_raise1 rfl (takes_of rfl rfl rfl rfl) q_NoText hr (by first | decide | omega) (by rfl) (da_cons de_int da_nil))) dss_nil) (dss_cons (ds_for (passes_of rfl) rfl (di_tab (by rfl) T.k_ENDS) (dg_tup rfl (dgs_cons (dg_name 2 sc_read_wish.nd) (dgs_cons (dg_name 3 sc_read_wish.nd) dgs_nil))) (dss_one (ds_if (dt_val (de_bm PySem.F.plainAttrs_str PySem.F.slot_str_endswith PySem.F.type_str_endswith mt_endswith act_ends ty_str (de_var 1) (da_cons (de_var 3) da_nil))) (dss_one (ds_ret (de_tup (da_cons (de_var 2) (da_cons (de_fn h_read_line hr (by first | decide | omega) hg0 (takes_of rfl rfl rfl rfl) (by rfl) (da_cons (de_var 0) (da_cons (de_slice slr_all act_sl (de_var 1) do_none (do_some (de_bin op_sub act_sub (de_callB call_len act_len (by rfl) T.z_len PySem.boot_len (da_cons (de_var 1) da_nil)) (de_callB call_len act_len (by rfl) T.z_len PySem.boot_len (da_cons (de_var 3) da_nil))))) da_nil))) da_nil))))) dss_nil))) (dss_one (ds_raise1 rfl (takes_of rfl rfl rfl rfl) q_NoText hr (by first | decide | omega) (by rfl) (da_cons de_int da_nil)))))
theorem sc_read_wish_at : FnScope ["names", "text", "number", "e"] ["names", "text", "number"] (defScope s_read_wish_at) := ⟨rfl, rfl, rfl, by decide +kernel, rfl, by decide +kernel, by decide +kernel⟩
set_option maxHeartbeats 1000000 in
theorem ok_read_wish_at (T : Txt w K mg) (h_read_wish : Has P w K mg base 4 "read_wish" s_read_wish ["names", "text"] f_read_wish) : Has P w K mg base 5 "read_wish_at" s_read_wish_at ["names", "text", "number"] f_read_wish_at :=
  has_of (N := ["names", "text", "number", "e"]) (m := d_read_wish_at) T.d_read_wish_at sc_read_wish_at fun f cdv A outer s H E hr hg0 =>
    have hu1 : (A.deeper (PyProof.Rows.envOfC "read_wish_at" (defScope s_read_wish_at) s.heap.objs.size f cdv)).units + 64 < cLine := hr.units
    have hu2 : (A.deeper (PyProof.Rows.envOfC "read_wish_at" (defScope s_read_wish_at) s.heap.objs.size f cdv)).units + 66 < cLine := by have := hr.un; omega
    (dss_one (by obtain ⟨C_, g_, t_⟩ := T.t_NoText; exact (ds_try (i := 3) rfl rfl sc_read_wish_at.nd rfl rfl ⟨rfl, by decide, .inl g_⟩ (takes_of rfl rfl rfl rfl) rfl t_ (fun W pn xe tkb0 _ => (dss_one (ds_ret (de_fn h_read_wish hr (by first | decide | omega) hg0 tkb0 (by rfl) (da_cons (de_var 0) (da_cons (de_var 1) da_nil)))))) (fun a pn => (dss_one ds_never)))))
theorem sc_read_program : FnScope ["text", "lines", "names", "places", "rows", "number", "line", "words"] ["text"] (defScope s_read_program) := ⟨rfl, rfl, rfl, by decide +kernel, rfl, by decide +kernel, by decide +kernel⟩
set_option maxHeartbeats 1000000 in
theorem ok_read_program (T : Txt w K mg) (h_both_names : Has P w K mg base 1 "both_names" s_both_names ["names"] f_both_names) (h_read_names : HasD P w K mg base 3 "read_names" s_read_names ["rows", "number", "word", "most"] [] [] f_read_names) (h_is_head : Has P w K mg base 1 "is_head" s_is_head ["places", "words"] f_is_head) (h_read_wish_at : Has P w K mg base 5 "read_wish_at" s_read_wish_at ["names", "text", "number"] f_read_wish_at) (q_NoText : ErK P w K mg base "NoText" ["self", "row"] (fun C => spI1 C "row")) : Has P w K mg base 6 "read_program" s_read_program ["text"] f_read_program :=
  has_of (N := ["text", "lines", "names", "places", "rows", "number", "line", "words"]) (m := d_read_program) T.d_read_program sc_read_program fun f cdv A outer s H E hr hg0 =>
    have hu1 : (A.deeper (PyProof.Rows.envOfC "read_program" (defScope s_read_program) s.heap.objs.size f cdv)).units + 64 < cLine := hr.units
    have hu2 : (A.deeper (PyProof.Rows.envOfC "read_program" (defScope s_read_program) s.heap.objs.size f cdv)).units + 66 < cLine := by have := hr.un; omega
    (dss_cons (ds_if (dt_not (dt_val (de_callB call_isi act_isi (by rfl) T.z_isinstance (by decide +kernel) (da_cons (de_var 0) (da_cons (de_ty (by rfl) T.z_str (by decide +kernel)) da_nil))))) (dss_one (ds_raise1 rfl (takes_of rfl rfl rfl rfl) q_NoText hr (by first | decide | omega) (by rfl) (da_cons de_int da_nil))) dss_nil) (dss_cons (ds_set 1 sc_read_program.nd (de_bm PySem.F.plainAttrs_str PySem.F.slot_str_split PySem.F.type_str_split mt_split act_split ty_str (de_var 0) (da_cons de_str da_nil))) (dss_cons (ds_set 2 sc_read_program.nd (de_fnD (ks := ["word", "most"]) (n := 2) h_read_names [0, 1, 2, 3] (fun F => kbd_n F (fun _ _ _ _ _ _ us ws hu hw => match us, ws, hu, hw with | [_, _], [_, _], _, _ => rfl)) (fun _ _ => .nil) hr (by first | decide | omega) hg0 (takes_of rfl rfl rfl rfl) (by rfl) (da_cons (de_var 1) (da_cons de_int da_nil)) (dk_cons de_str (dk_cons (T.c_MOST_NUMBERS_programs (by rfl)) dk_nil)) (len_cons (len_cons len_nil)) (len_cons (len_cons len_nil)))) (dss_cons (ds_set 3 sc_read_program.nd (de_fnD (ks := ["word", "most"]) (n := 2) h_read_names [0, 1, 2, 3] (fun F => kbd_n F (fun _ _ _ _ _ _ us ws hu hw => match us, ws, hu, hw with | [_, _], [_, _], _, _ => rfl)) (fun _ _ => .nil) hr (by first | decide | omega) hg0 (takes_of rfl rfl rfl rfl) (by rfl) (da_cons (de_var 1) (da_cons de_int da_nil)) (dk_cons de_str (dk_cons (T.c_MOST_PLACES (by rfl)) dk_nil)) (len_cons (len_cons len_nil)) (len_cons (len_cons len_nil)))) (dss_cons (ds_set 4 sc_read_program.nd (de_lstC da_nil)) (dss_cons (ds_for (passes_of rfl) rfl (di_enum (by rfl) T.z_enumerate (da_cons (de_var 1) da_nil)) (dg_tup rfl (dgs_cons (dg_name 5 sc_read_program.nd) (dgs_cons (dg_name 6 sc_read_program.nd) dgs_nil))) (dss_cons (ds_set 7 sc_read_program.nd (de_bm PySem.F.plainAttrs_str PySem.F.slot_str_split PySem.F.type_str_split mt_split act_split ty_str (de_var 6) (da_cons de_str da_nil))) (dss_one (ds_if (PW.pt (dw_and (dt_cmp op_gt act_gt (de_var 5) de_int (nomark _)) (dw_and1 (dt_val (de_fn h_is_head hr (by first | decide | omega) hg0 (takes_of rfl rfl rfl rfl) (by rfl) (da_cons (de_var 3) (da_cons (de_var 7) da_nil))))))) (dss_cons (ds_if (dt_cmp (opr_eq hu1) act_eq (de_callB call_len act_len (by rfl) T.z_len PySem.boot_len (da_cons (de_var 4) da_nil)) (T.c_MOST_ROWS (by rfl)) (nomark _)) (dss_one (ds_raise1 rfl (takes_of rfl rfl rfl rfl) q_NoText hr (by first | decide | omega) (by rfl) (da_cons (de_var 5) da_nil))) dss_nil) (dss_one (ds_expr (de_bm PySem.F.plainAttrs_list PySem.F.slot_list_append PySem.F.type_list_append mt_append act_append ty_list (de_var 4) (da_cons (de_tup (da_cons (de_bm PySem.F.plainAttrs_list PySem.F.slot_list_index PySem.F.type_list_index mt_index act_indexS ty_list (de_var 3) (da_cons (de_ix ix_seq act_ix (de_var 7) de_int) da_nil)) (da_cons (de_bm PySem.F.plainAttrs_list PySem.F.slot_list_index PySem.F.type_list_index mt_index act_indexS ty_list (de_var 3) (da_cons (de_ix ix_seq act_ix (de_var 7) de_int) da_nil)) (da_cons (de_lstC da_nil) da_nil)))) da_nil))))) (dss_one (ds_if (dt_cmp op_gt act_gt (de_var 5) de_int (nomark _)) (dss_cons (ds_if (PW.pt (dw_or (dt_cmp (opr_eqZ hu1) act_eqZ (de_var 4) (de_lst da_nil) (nomark _)) (dw_or1 (dt_cmp (opr_eq hu1) act_eq (de_callB call_len act_len (by rfl) T.z_len PySem.boot_len (da_cons (de_ix ix_seq act_ix (de_ix ix_seq act_ix (de_var 4) (de_un un_neg act_neg de_int)) de_int) da_nil)) (T.c_MOST_WISHES (by rfl)) (nomark _))))) (dss_one (ds_raise1 rfl (takes_of rfl rfl rfl rfl) q_NoText hr (by first | decide | omega) (by rfl) (da_cons (de_var 5) da_nil))) dss_nil) (dss_one (ds_expr (de_bm PySem.F.plainAttrs_list PySem.F.slot_list_append PySem.F.type_list_append mt_append act_append ty_list (de_ix ix_seq act_ix (de_ix ix_seq act_ix (de_var 4) (de_un un_neg act_neg de_int)) de_int) (da_cons (de_fn h_read_wish_at hr (by first | decide | omega) hg0 (takes_of rfl rfl rfl rfl) (by rfl) (da_cons (de_fn h_both_names hr (by first | decide | omega) hg0 (takes_of rfl rfl rfl rfl) (by rfl) (da_cons (de_var 2) da_nil)) (da_cons (de_var 6) (da_cons (de_var 5) da_nil)))) da_nil))))) dss_nil)))))) (dss_one (ds_ret (de_tup (da_cons (de_var 2) (da_cons (de_var 3) (da_cons (de_var 4) da_nil))))))))))))
theorem sc__law_apart : FnScope ["_law_told", "_law_some", "_law_row", "_law_total", "_law_at", "_law_one", "_law_word", "_law_line_here", "_law_each"] ["_law_told"] (defScope s__law_apart) := ⟨rfl, rfl, rfl, by decide +kernel, rfl, by decide +kernel, by decide +kernel⟩
set_option maxHeartbeats 1000000 in
theorem ok__law_apart (T : Txt w K mg) : Has P w K mg base 1 "_law_apart" s__law_apart ["_law_told"] f__law_apart :=
  has_of (N := ["_law_told", "_law_some", "_law_row", "_law_total", "_law_at", "_law_one", "_law_word", "_law_line_here", "_law_each"]) (m := d__law_apart) T.d__law_apart sc__law_apart fun f cdv A outer s H E hr hg0 =>
    have hu1 : (A.deeper (PyProof.Rows.envOfC "_law_apart" (defScope s__law_apart) s.heap.objs.size f cdv)).units + 64 < cLine := hr.units
    have hu2 : (A.deeper (PyProof.Rows.envOfC "_law_apart" (defScope s__law_apart) s.heap.objs.size f cdv)).units + 66 < cLine := by have := hr.un; omega
    (dss_cons (ds_set 1 sc__law_apart.nd (de_callTy call_list_of act_listC (by rfl) T.z_list (by decide +kernel) (da_cons (de_var 0) da_nil))) (dss_cons (ds_for (passes_of rfl) rfl (di_list (de_ix ix_seq act_ix (de_var 0) de_int)) (dg_name 2 sc__law_apart.nd) (dss_cons (ds_expr (de_bm PySem.F.plainAttrs_list PySem.F.slot_list_append PySem.F.type_list_append mt_append act_append ty_list (de_var 1) (da_cons (de_ix ix_seq act_ix (de_var 2) de_int) da_nil))) (dss_one (ds_set 1 sc__law_apart.nd (de_bin opr_add act_addC (de_var 1) (de_lc [("_law_word", 6), ("_law_line_here", 7)] rfl sc__law_apart.nd (di_list (de_ix ix_seq act_ix (de_var 2) de_int)) (blkOk_by (N := ["_law_told", "_law_some", "_law_row", "_law_total", "_law_at", "_law_one", "_law_word", "_law_line_here", "_law_each"]) (sc := defScope s__law_apart) (by decide +kernel)) (fun _ _ _ _ _ => (dg_tup rfl (dgs_cons (dg_name 6 sc__law_apart.nd) (dgs_cons (dg_name 7 sc__law_apart.nd) dgs_nil)))) (fun _ _ _ _ _ => dts_nil) (fun _ _ _ _ _ => (de_var 7)))))))) (dss_cons (ds_set 3 sc__law_apart.nd (de_callB (cr_sum rfl) act_sum (by rfl) T.z_sum (by decide +kernel) (da_cons (de_lc [("_law_one", 5)] rfl sc__law_apart.nd (di_list (de_var 1)) (blkOk_by (N := ["_law_told", "_law_some", "_law_row", "_law_total", "_law_at", "_law_one", "_law_word", "_law_line_here", "_law_each"]) (sc := defScope s__law_apart) (by decide +kernel)) (fun _ _ _ _ _ => (dg_name 5 sc__law_apart.nd)) (fun _ _ _ _ _ => dts_nil) (fun _ _ _ _ _ => (de_callB call_len act_len (by rfl) T.z_len PySem.boot_len (da_cons (de_var 5) da_nil)))) da_nil))) (dss_cons (ds_for (passes_of rfl) rfl (di_enum (by rfl) T.z_enumerate (da_cons (de_var 1) da_nil)) (dg_tup rfl (dgs_cons (dg_name 4 sc__law_apart.nd) (dgs_cons (dg_name 5 sc__law_apart.nd) dgs_nil))) (dss_cons (ds_expr (de_bm PySem.F.plainAttrs_list PySem.F.slot_list_append PySem.F.type_list_append mt_append act_append ty_list (de_var 5) (da_cons de_non da_nil))) (dss_one (ds_if (dt_cmp (opr_ne hu1) act_ne (de_callB (cr_sum rfl) act_sum (by rfl) T.z_sum (by decide +kernel) (da_cons (de_lc [("_law_each", 8)] rfl sc__law_apart.nd (di_list (de_var 1)) (blkOk_by (N := ["_law_told", "_law_some", "_law_row", "_law_total", "_law_at", "_law_one", "_law_word", "_law_line_here", "_law_each"]) (sc := defScope s__law_apart) (by decide +kernel)) (fun _ _ _ _ _ => (dg_name 8 sc__law_apart.nd)) (fun _ _ _ _ _ => dts_nil) (fun _ _ _ _ _ => (de_callB call_len act_len (by rfl) T.z_len PySem.boot_len (da_cons (de_var 8) da_nil)))) da_nil)) (de_bin opr_add act_add (de_bin opr_add act_add (de_var 3) (de_var 4)) de_int) (nomark _)) (dss_one (ds_ret de_bl)) dss_nil)))) (dss_one (ds_ret de_bl))))))
theorem sc__law_right : FnScope ["_law_own", "_law_wanted", "_law_kept", "_law_told", "_law_turn", "_law_found"] ["_law_own"] (defScope s__law_right) := ⟨rfl, rfl, rfl, by decide +kernel, rfl, by decide +kernel, by decide +kernel⟩
set_option maxHeartbeats 1000000 in
theorem ok__law_right (T : Txt w K mg) (h__law_program_text : Has P w K mg base 3 "_law_program_text" s__law_program_text ["_law_own"] f__law_program_text) (h_shown_program : Has P w K mg base 9 "shown_program" s_shown_program ["program"] f_shown_program) (h_read_program : Has P w K mg base 6 "read_program" s_read_program ["text"] f_read_program) (h__law_apart : Has P w K mg base 1 "_law_apart" s__law_apart ["_law_told"] f__law_apart) : Has P w K mg base 10 "_law_right" s__law_right ["_law_own"] f__law_right :=
  has_of (N := ["_law_own", "_law_wanted", "_law_kept", "_law_told", "_law_turn", "_law_found"]) (m := d__law_right) T.d__law_right sc__law_right fun f cdv A outer s H E hr hg0 =>
    have hu1 : (A.deeper (PyProof.Rows.envOfC "_law_right" (defScope s__law_right) s.heap.objs.size f cdv)).units + 64 < cLine := hr.units
    have hu2 : (A.deeper (PyProof.Rows.envOfC "_law_right" (defScope s__law_right) s.heap.objs.size f cdv)).units + 66 < cLine := by have := hr.un; omega
    (dss_cons (ds_set 1 sc__law_right.nd (de_fn h__law_program_text hr (by first | decide | omega) hg0 (takes_of rfl rfl rfl rfl) (by rfl) (da_cons (de_var 0) da_nil))) (dss_cons (ds_set 2 sc__law_right.nd (de_callB (call_reprA hg0 hu2) act_reprD (by rfl) T.z_repr (by decide +kernel) (da_cons (de_var 0) da_nil))) (dss_cons (ds_set 3 sc__law_right.nd (de_fn h_shown_program hr (by first | decide | omega) hg0 (takes_of rfl rfl rfl rfl) (by rfl) (da_cons (de_var 0) da_nil))) (dss_cons (ds_if (PW.pt (dw_or (dt_not (dt_val (de_callB call_isi act_isi (by rfl) T.z_isinstance (by decide +kernel) (da_cons (de_var 3) (da_cons (de_ty (by rfl) T.z_str (by decide +kernel)) da_nil))))) (dw_or (dt_cmp (opr_ne hu1) act_neDp (de_var 3) (de_var 1) (nomark _)) (dw_or1 (dt_cmp (opr_ne hu1) act_neDp (de_callB (call_reprA hg0 hu2) act_reprD (by rfl) T.z_repr (by decide +kernel) (da_cons (de_var 0) da_nil)) (de_var 2) (nomark _)))))) (dss_one (ds_ret de_bl)) dss_nil) (dss_cons (ds_for (passes_of rfl) rfl (di_rng1 (by rfl) T.z_range (da_cons de_int da_nil)) (dg_name 4 sc__law_right.nd) (dss_cons (ds_set 5 sc__law_right.nd (de_fn h_read_program hr (by first | decide | omega) hg0 (takes_of rfl rfl rfl rfl) (by rfl) (da_cons (de_var 1) da_nil))) (dss_cons (ds_if (dt_cmp (opr_ne hu1) act_neDp (de_callB (call_reprA hg0 hu2) act_reprD (by rfl) T.z_repr (by decide +kernel) (da_cons (de_var 5) da_nil)) (de_var 2) (nomark _)) (dss_one (ds_ret de_bl)) dss_nil) (dss_one (ds_if (dt_not (dt_val (de_fn h__law_apart hr (by first | decide | omega) hg0 (takes_of rfl rfl rfl rfl) (by rfl) (da_cons (de_var 5) da_nil)))) (dss_one (ds_ret de_bl)) dss_nil))))) (dss_one (ds_ret (de_and (de_cmp (opr_eq hu1) act_eqDp (de_callB (call_reprA hg0 hu2) act_reprD (by rfl) T.z_repr (by decide +kernel) (da_cons (de_fnK0 (ks := ["text"]) h_read_program [0] (fun _ _ _ _ _ _ us ws hu hw => match us, ws, hu, hw with | [], [_], _, _ => rfl) hr (by first | decide | omega) hg0 (takes_of rfl rfl rfl rfl) (by rfl) (dk_cons (de_var 1) dk_nil) (len_cons len_nil)) da_nil)) (de_var 2) (nomark _)) (de_one (de_cmp (opr_eq hu1) act_eqDp (de_fnK0 (ks := ["program"]) h_shown_program [0] (fun _ _ _ _ _ _ us ws hu hw => match us, ws, hu, hw with | [], [_], _, _ => rfl) hr (by first | decide | omega) hg0 (takes_of rfl rfl rfl rfl) (by rfl) (dk_cons (de_var 0) dk_nil) (len_cons len_nil)) (de_var 1) (nomark _)))))))))))
theorem sc__law_near_names : FnScope ["_law_great", "_law_told"] [] (defScope s__law_near_names) := ⟨rfl, rfl, rfl, by decide +kernel, rfl, by decide +kernel, by decide +kernel⟩
set_option maxHeartbeats 1000000 in
theorem ok__law_near_names (T : Txt w K mg) : Has P w K mg base 1 "_law_near_names" s__law_near_names [] f__law_near_names :=
  has_of (N := ["_law_great", "_law_told"]) (m := d__law_near_names) T.d__law_near_names sc__law_near_names fun f cdv A outer s H E hr hg0 =>
    have hu1 : (A.deeper (PyProof.Rows.envOfC "_law_near_names" (defScope s__law_near_names) s.heap.objs.size f cdv)).units + 64 < cLine := hr.units
    have hu2 : (A.deeper (PyProof.Rows.envOfC "_law_near_names" (defScope s__law_near_names) s.heap.objs.size f cdv)).units + 66 < cLine := by have := hr.un; omega
    (dss_cons (ds_set 0 sc__law_near_names.nd (de_tup (da_cons de_str (da_cons (de_lst (da_cons (de_bin op_pow act_pow de_int de_int) (da_cons de_int (da_cons de_int (da_cons de_int (da_cons de_int (da_cons de_int (da_cons (de_un un_neg act_neg (de_bin op_pow act_pow de_int de_int)) da_nil)))))))) da_nil)))) (dss_cons (ds_set 1 sc__law_near_names.nd (de_lst (da_cons (de_tup (da_cons de_int (da_cons de_int (da_cons (de_lst (da_cons (de_tup (da_cons de_str (da_cons (de_lst (da_cons de_int (da_cons (de_un un_neg act_neg de_int) (da_cons de_int (da_cons de_int (da_cons de_int (da_cons de_int (da_cons (de_un un_neg act_neg de_int) da_nil)))))))) da_nil))) da_nil)) da_nil)))) (da_cons (de_tup (da_cons de_int (da_cons de_int (da_cons (de_lst (da_cons (de_tup (da_cons de_str (da_cons (de_lst (da_cons de_int (da_cons de_int (da_cons de_int (da_cons de_int (da_cons de_int (da_cons (de_un un_neg act_neg de_int) (da_cons de_int da_nil)))))))) da_nil))) da_nil)) da_nil)))) da_nil)))) (dss_one (ds_ret (de_tup (da_cons (de_lst (da_cons de_str (da_cons de_str (da_cons de_str da_nil)))) (da_cons (de_lst (da_cons de_str (da_cons de_str (da_cons de_str (da_cons de_str da_nil))))) (da_cons (de_bin opr_add act_add (de_bin opr_add act_add (de_var 1) (de_lst (da_cons (de_tup (da_cons de_int (da_cons de_int (da_cons (de_lst da_nil) da_nil)))) da_nil))) (de_bin opr_mul act_mul (de_lst (da_cons (de_tup (da_cons de_int (da_cons de_int (da_cons (de_lst (da_cons (de_var 0) (da_cons (de_var 0) da_nil))) da_nil)))) da_nil)) de_int)) da_nil))))))))
theorem sc_law : FnScope ["_law_script", "_law_ahead", "_law_k", "_law_pool_here", "_law_own"] ["_law_script"] (defScope s_law) := ⟨rfl, rfl, rfl, by decide +kernel, rfl, by decide +kernel, by decide +kernel⟩
set_option maxHeartbeats 1000000 in
theorem ok_law (T : Txt w K mg) (h__law_pool : Has P w K mg base 1 "_law_pool" s__law_pool ["_law_script", "_law_k"] f__law_pool) (h__law_program : Has P w K mg base 5 "_law_program" s__law_program ["_law_pool_here", "_law_places", "_law_rows"] f__law_program) (h__law_program_text : Has P w K mg base 3 "_law_program_text" s__law_program_text ["_law_own"] f__law_program_text) (h__law_right : Has P w K mg base 10 "_law_right" s__law_right ["_law_own"] f__law_right) (h__law_near_names : Has P w K mg base 1 "_law_near_names" s__law_near_names [] f__law_near_names) : Has P w K mg base 11 "law" s_law ["_law_script"] f_law :=
  has_of (N := ["_law_script", "_law_ahead", "_law_k", "_law_pool_here", "_law_own"]) (m := d_law) T.d_law sc_law fun f cdv A outer s H E hr hg0 =>
    have hu1 : (A.deeper (PyProof.Rows.envOfC "law" (defScope s_law) s.heap.objs.size f cdv)).units + 64 < cLine := hr.units
    have hu2 : (A.deeper (PyProof.Rows.envOfC "law" (defScope s_law) s.heap.objs.size f cdv)).units + 66 < cLine := by have := hr.un; omega
    (dss_cons (ds_set 1 sc_law.nd (de_tup (da_cons (de_lst (da_cons de_str da_nil)) (da_cons (de_lst (da_cons de_str da_nil)) (da_cons (de_lst da_nil) da_nil))))) (dss_cons (ds_if (dt_not (dt_val (de_fn h__law_right hr (by first | decide | omega) hg0 (takes_of rfl rfl rfl rfl) (by rfl) (da_cons (de_fn0 h__law_near_names hr (by first | decide | omega) hg0 (takes_of rfl rfl rfl rfl) (by rfl)) da_nil)))) (dss_one (ds_ret de_bl)) dss_nil) (dss_cons (ds_for (passes_of rfl) rfl (di_rng1 (by rfl) T.z_range (da_cons (de_callB (call_max2 rfl) act_max2 (by rfl) T.z_max (by decide +kernel) (da_cons de_int (da_cons (de_callB (call_min2 rfl) act_min2 (by rfl) T.z_min (by decide +kernel) (da_cons (de_callB call_len act_len (by rfl) T.z_len PySem.boot_len (da_cons (de_var 0) da_nil)) (da_cons de_int da_nil))) da_nil))) da_nil)) (dg_name 2 sc_law.nd) (dss_cons (ds_set 3 sc_law.nd (de_fn h__law_pool hr (by first | decide | omega) hg0 (takes_of rfl rfl rfl rfl) (by rfl) (da_cons (de_var 0) (da_cons (de_var 2) da_nil)))) (dss_cons (ds_set 4 sc_law.nd (de_fn h__law_program hr (by first | decide | omega) hg0 (takes_of rfl rfl rfl rfl) (by rfl) (da_cons (de_var 3) (da_cons de_int (da_cons de_int da_nil))))) (dss_cons (ds_thenFrzD 4 (ds_while (passes_of rfl) (dt_cmp op_gt act_gt (de_callB call_len act_len (by rfl) T.z_len PySem.boot_len (da_cons (de_fn h__law_program_text hr (by first | decide | omega) hg0 (takes_of rfl rfl rfl rfl) (by rfl) (da_cons (de_var 4) da_nil)) da_nil)) de_int (nomark _)) (dss_one (ds_expr (de_bm0 PySem.F.plainAttrs_list PySem.F.slot_list_pop PySem.F.type_list_pop mt_pop act_pop ty_list (de_ix ix_seq act_ix (de_var 4) de_int)))))) (dss_cons (ds_if (PW.pt (dw_or (dt_not (dt_val (de_fn h__law_right hr (by first | decide | omega) hg0 (takes_of rfl rfl rfl rfl) (by rfl) (da_cons (de_var 4) da_nil)))) (dw_or (dt_not (dt_val (de_fn h__law_right hr (by first | decide | omega) hg0 (takes_of rfl rfl rfl rfl) (by rfl) (da_cons (de_var 1) da_nil)))) (dw_or1 (dt_not (dt_val (de_fn h__law_right hr (by first | decide | omega) hg0 (takes_of rfl rfl rfl rfl) (by rfl) (da_cons (de_var 4) da_nil)))))))) (dss_one (ds_ret de_bl)) dss_nil) (dss_one (ds_set 1 sc_law.nd (de_var 4)))))))) (dss_one (ds_ret de_bl)))))
theorem all_ok (T : Txt w K mg) : Has P w K mg base 11 "law" s_law ["_law_script"] f_law :=
  have q_NoNumber := er_NoNumber (P := P) (w := w) (base := base) T
  have q_NoProgram := er_NoProgram (P := P) (w := w) (base := base) T
  have q_NoText := er_NoText (P := P) (w := w) (base := base) T
  have h__law_pool := ok__law_pool (P := P) (w := w) (base := base) T
  have h__law_take := ok__law_take (P := P) (w := w) (base := base) T
  have h__law_names := ok__law_names (P := P) (w := w) (base := base) T h__law_take
  have h__law_factor := ok__law_factor (P := P) (w := w) (base := base) T h__law_take
  have h__law_line := ok__law_line (P := P) (w := w) (base := base) T h__law_take h__law_factor
  have h__law_wishes := ok__law_wishes (P := P) (w := w) (base := base) T h__law_take h__law_line
  have h__law_program := ok__law_program (P := P) (w := w) (base := base) T h__law_take h__law_names h__law_wishes
  have h__law_line_text := ok__law_line_text (P := P) (w := w) (base := base) T
  have h__law_wish_text := ok__law_wish_text (P := P) (w := w) (base := base) T h__law_line_text
  have h__law_program_text := ok__law_program_text (P := P) (w := w) (base := base) T h__law_wish_text
  have h_shown_part := ok_shown_part (P := P) (w := w) (base := base) T
  have h_shown_line := ok_shown_line (P := P) (w := w) (base := base) T h_shown_part
  have h_shown_wish := ok_shown_wish (P := P) (w := w) (base := base) T h_shown_line
  have h_is_name := ok_is_name (P := P) (w := w) (base := base) T
  have h_first_no_name := ok_first_no_name (P := P) (w := w) (base := base) T h_is_name
  have h_look_at_names := ok_look_at_names (P := P) (w := w) (base := base) T h_first_no_name q_NoProgram
  have h_is_whole := ok_is_whole (P := P) (w := w) (base := base) T
  have h_look_at_many := ok_look_at_many (P := P) (w := w) (base := base) T h_is_whole q_NoNumber
  have h_is_line := ok_is_line (P := P) (w := w) (base := base) T h_is_whole h_look_at_many
  have h_is_wish := ok_is_wish (P := P) (w := w) (base := base) T h_look_at_many h_is_line
  have h_are_wishes := ok_are_wishes (P := P) (w := w) (base := base) T h_is_wish
  have h_is_number_of := ok_is_number_of (P := P) (w := w) (base := base) T h_is_whole
  have h_is_row := ok_is_row (P := P) (w := w) (base := base) T h_are_wishes h_is_number_of
  have h_look_at := ok_look_at (P := P) (w := w) (base := base) T h_look_at_names h_is_row q_NoProgram
  have h_both_names := ok_both_names (P := P) (w := w) (base := base) T
  have h_shown_program := ok_shown_program (P := P) (w := w) (base := base) T h_shown_wish h_look_at h_both_names
  have h_read_names := ok_read_names (P := P) (w := w) (base := base) T h_first_no_name q_NoText
  have h_is_head := ok_is_head (P := P) (w := w) (base := base) T
  have h_are_figures := ok_are_figures (P := P) (w := w) (base := base) T
  have h_part_of_text := ok_part_of_text (P := P) (w := w) (base := base) T h_are_figures
  have h_read_line := ok_read_line (P := P) (w := w) (base := base) T h_shown_line h_part_of_text q_NoText
  have h_read_wish := ok_read_wish (P := P) (w := w) (base := base) T h_read_line q_NoText
  have h_read_wish_at := ok_read_wish_at (P := P) (w := w) (base := base) T h_read_wish
  have h_read_program := ok_read_program (P := P) (w := w) (base := base) T h_both_names h_read_names h_is_head h_read_wish_at q_NoText
  have h__law_apart := ok__law_apart (P := P) (w := w) (base := base) T
  have h__law_right := ok__law_right (P := P) (w := w) (base := base) T h__law_program_text h_shown_program h_read_program h__law_apart
  have h__law_near_names := ok__law_near_names (P := P) (w := w) (base := base) T
  ok_law T h__law_pool h__law_program h__law_program_text h__law_right h__law_near_names
end
set_option maxHeartbeats 4000000 in
theorem all_mk {l : PySem.W.OpenLaw} {w : World} {K : PySem.W.Frag} {h : Heap} {mg : Str → Option Value} {fa : Addr} (X : K.In h) (G : h.Ns mainGlobals mg) (hfa : mg "law" = some (.ref fa))
    {f0 : Addr} {od0 an0 : Option Addr} {sl0 : Array (Option Value)} {oc0 kV0 dc0 pm0 cd0 ct0 : Value}
    {f1 : Addr} {od1 an1 : Option Addr} {sl1 : Array (Option Value)} {oc1 kV1 dc1 pm1 cd1 ct1 : Value}
    {f2 : Addr} {od2 an2 : Option Addr} {sl2 : Array (Option Value)} {oc2 kV2 dc2 pm2 cd2 ct2 : Value}
    {f3 : Addr} {od3 an3 : Option Addr} {sl3 : Array (Option Value)} {oc3 kV3 dc3 pm3 cd3 ct3 : Value}
    {f4 : Addr} {od4 an4 : Option Addr} {sl4 : Array (Option Value)} {oc4 kV4 dc4 pm4 cd4 ct4 : Value}
    {f5 : Addr} {od5 an5 : Option Addr} {sl5 : Array (Option Value)} {oc5 kV5 dc5 pm5 cd5 ct5 : Value}
    {f6 : Addr} {od6 an6 : Option Addr} {sl6 : Array (Option Value)} {oc6 kV6 dc6 pm6 cd6 ct6 : Value}
    {f7 : Addr} {od7 an7 : Option Addr} {sl7 : Array (Option Value)} {oc7 kV7 dc7 pm7 cd7 ct7 : Value}
    {f8 : Addr} {od8 an8 : Option Addr} {sl8 : Array (Option Value)} {oc8 kV8 dc8 pm8 cd8 ct8 : Value}
    {f9 : Addr} {od9 an9 : Option Addr} {sl9 : Array (Option Value)} {oc9 kV9 dc9 pm9 cd9 ct9 : Value}
    {f10 : Addr} {od10 an10 : Option Addr} {sl10 : Array (Option Value)} {oc10 kV10 dc10 pm10 cd10 ct10 : Value}
    {f11 : Addr} {od11 an11 : Option Addr} {sl11 : Array (Option Value)} {oc11 kV11 dc11 pm11 cd11 ct11 : Value}
    {f12 : Addr} {od12 an12 : Option Addr} {sl12 : Array (Option Value)} {oc12 kV12 dc12 pm12 cd12 ct12 : Value}
    {f13 : Addr} {od13 an13 : Option Addr} {sl13 : Array (Option Value)} {oc13 dc13 pm13 cd13 ct13 : Value}
    {kD13 : Addr} {kt13_0 : Tok}
    {f14 : Addr} {od14 an14 : Option Addr} {sl14 : Array (Option Value)} {oc14 kV14 dc14 pm14 cd14 ct14 : Value}
    {f15 : Addr} {od15 an15 : Option Addr} {sl15 : Array (Option Value)} {oc15 kV15 dc15 pm15 cd15 ct15 : Value}
    {f16 : Addr} {od16 an16 : Option Addr} {sl16 : Array (Option Value)} {oc16 kV16 dc16 pm16 cd16 ct16 : Value}
    {f17 : Addr} {od17 an17 : Option Addr} {sl17 : Array (Option Value)} {oc17 kV17 dc17 pm17 cd17 ct17 : Value}
    {f18 : Addr} {od18 an18 : Option Addr} {sl18 : Array (Option Value)} {oc18 kV18 dc18 pm18 cd18 ct18 : Value}
    {f19 : Addr} {od19 an19 : Option Addr} {sl19 : Array (Option Value)} {oc19 kV19 dc19 pm19 cd19 ct19 : Value}
    {f20 : Addr} {od20 an20 : Option Addr} {sl20 : Array (Option Value)} {oc20 dc20 pm20 cd20 ct20 : Value}
    {kD20 : Addr} {kt20_0 : Tok}
    {f21 : Addr} {od21 an21 : Option Addr} {sl21 : Array (Option Value)} {oc21 kV21 dc21 pm21 cd21 ct21 : Value}
    {f22 : Addr} {od22 an22 : Option Addr} {sl22 : Array (Option Value)} {oc22 kV22 dc22 pm22 cd22 ct22 : Value}
    {f23 : Addr} {od23 an23 : Option Addr} {sl23 : Array (Option Value)} {oc23 kV23 dc23 pm23 cd23 ct23 : Value}
    {f24 : Addr} {od24 an24 : Option Addr} {sl24 : Array (Option Value)} {oc24 kV24 dc24 pm24 cd24 ct24 : Value}
    {f25 : Addr} {od25 an25 : Option Addr} {sl25 : Array (Option Value)} {oc25 kV25 dc25 pm25 cd25 ct25 : Value}
    {f26 : Addr} {od26 an26 : Option Addr} {sl26 : Array (Option Value)} {oc26 kV26 dc26 pm26 cd26 ct26 : Value}
    {f27 : Addr} {od27 an27 : Option Addr} {sl27 : Array (Option Value)} {oc27 kV27 dc27 pm27 cd27 ct27 : Value}
    {f28 : Addr} {od28 an28 : Option Addr} {sl28 : Array (Option Value)} {oc28 kV28 dc28 pm28 cd28 ct28 : Value}
    {f29 : Addr} {od29 an29 : Option Addr} {sl29 : Array (Option Value)} {oc29 kV29 dc29 pm29 cd29 ct29 : Value}
    {f30 : Addr} {od30 an30 : Option Addr} {sl30 : Array (Option Value)} {oc30 kV30 dc30 pm30 cd30 ct30 : Value}
    {f31 : Addr} {od31 an31 : Option Addr} {sl31 : Array (Option Value)} {oc31 kV31 dc31 pm31 cd31 ct31 : Value}
    {f32 : Addr} {od32 an32 : Option Addr} {sl32 : Array (Option Value)} {oc32 kV32 dc32 pm32 cd32 ct32 : Value}
    {f33 : Addr} {od33 an33 : Option Addr} {sl33 : Array (Option Value)} {oc33 kV33 dc33 pm33 cd33 ct33 : Value}
    {f34 : Addr} {od34 an34 : Option Addr} {sl34 : Array (Option Value)} {oc34 kV34 dc34 pm34 cd34 ct34 : Value}
    {f35 : Addr} {od35 an35 : Option Addr} {sl35 : Array (Option Value)} {oc35 kV35 dc35 pm35 cd35 ct35 : Value}
    {f36 : Addr} {od36 an36 : Option Addr} {sl36 : Array (Option Value)} {oc36 kV36 dc36 pm36 cd36 ct36 : Value}
    {f37 : Addr} {od37 an37 : Option Addr} {sl37 : Array (Option Value)} {oc37 kV37 dc37 pm37 cd37 ct37 : Value}
    {t0 : Tok}
    {t1 : Tok}
    {t2 : Tok}
    {t3 : Tok}
    {t4 : Tok}
    {t5 : Tok}
    {t6 : Tok}
    {t7 : Tok}
    {t8 : Tok}
    {t9 : Tok}
    {tbA0 : Addr} {tbE0 : Array DictEntry} {tbN0 : Nat} {tbT0_0 : Tok} {tbT0_1 : Tok}
    {C_NoNumber : Addr} {C_NoProgram : Addr} {C_NoText : Addr} {C_WeighError : Addr}
    {nm_NoNumber q_NoNumber : Str} {N_NoNumber fI_NoNumber : Addr} {bs_NoNumber bm_NoNumber : List Value} {sn_NoNumber : List Str} {sub_NoNumber : List Value} {ab_NoNumber : Bool} {col_NoNumber : Option Bool} {dd_NoNumber odI_NoNumber anI_NoNumber : Option Addr} {m0_NoNumber m1_NoNumber m2_NoNumber m3_NoNumber m5_NoNumber : Option Value} {slI_NoNumber : Array (Option Value)} {ocI_NoNumber kVI_NoNumber dcI_NoNumber pmI_NoNumber cdI_NoNumber ctI_NoNumber : Value}
    {nm_NoProgram q_NoProgram : Str} {N_NoProgram fI_NoProgram : Addr} {bs_NoProgram bm_NoProgram : List Value} {sn_NoProgram : List Str} {sub_NoProgram : List Value} {ab_NoProgram : Bool} {col_NoProgram : Option Bool} {dd_NoProgram odI_NoProgram anI_NoProgram : Option Addr} {m0_NoProgram m1_NoProgram m2_NoProgram m3_NoProgram m5_NoProgram : Option Value} {slI_NoProgram : Array (Option Value)} {ocI_NoProgram kVI_NoProgram dcI_NoProgram pmI_NoProgram cdI_NoProgram ctI_NoProgram : Value}
    {nm_NoText q_NoText : Str} {N_NoText fI_NoText : Addr} {bs_NoText bm_NoText : List Value} {sn_NoText : List Str} {sub_NoText : List Value} {ab_NoText : Bool} {col_NoText : Option Bool} {dd_NoText odI_NoText anI_NoText : Option Addr} {m0_NoText m1_NoText m2_NoText m3_NoText m5_NoText : Option Value} {slI_NoText : Array (Option Value)} {ocI_NoText kVI_NoText dcI_NoText pmI_NoText cdI_NoText ctI_NoText : Value}
    (a0 : PySem.W.nsIn K mainGlobals "_law_pool" = some (some (.ref f0)))
    (l0 : K.lookup f0 = some ⟨oc0, od0, .func (PySem.W.fnOf "_law_pool" "_law_pool" (defArgs s__law_pool) (defBody s__law_pool) (defScope s__law_pool) .none kV0 dc0 pm0 an0 cd0 ct0), sl0⟩)
    (c0 : PySem.W.codeIn K cd0 "_law_pool" = true)
    (k0 : PySem.W.keepIn K (.ref f0) = true)
    (a1 : PySem.W.nsIn K mainGlobals "_law_take" = some (some (.ref f1)))
    (l1 : K.lookup f1 = some ⟨oc1, od1, .func (PySem.W.fnOf "_law_take" "_law_take" (defArgs s__law_take) (defBody s__law_take) (defScope s__law_take) .none kV1 dc1 pm1 an1 cd1 ct1), sl1⟩)
    (c1 : PySem.W.codeIn K cd1 "_law_take" = true)
    (k1 : PySem.W.keepIn K (.ref f1) = true)
    (a2 : PySem.W.nsIn K mainGlobals "_law_names" = some (some (.ref f2)))
    (l2 : K.lookup f2 = some ⟨oc2, od2, .func (PySem.W.fnOf "_law_names" "_law_names" (defArgs s__law_names) (defBody s__law_names) (defScope s__law_names) .none kV2 dc2 pm2 an2 cd2 ct2), sl2⟩)
    (c2 : PySem.W.codeIn K cd2 "_law_names" = true)
    (k2 : PySem.W.keepIn K (.ref f2) = true)
    (a3 : PySem.W.nsIn K mainGlobals "_law_factor" = some (some (.ref f3)))
    (l3 : K.lookup f3 = some ⟨oc3, od3, .func (PySem.W.fnOf "_law_factor" "_law_factor" (defArgs s__law_factor) (defBody s__law_factor) (defScope s__law_factor) .none kV3 dc3 pm3 an3 cd3 ct3), sl3⟩)
    (c3 : PySem.W.codeIn K cd3 "_law_factor" = true)
    (k3 : PySem.W.keepIn K (.ref f3) = true)
    (a4 : PySem.W.nsIn K mainGlobals "_law_line" = some (some (.ref f4)))
    (l4 : K.lookup f4 = some ⟨oc4, od4, .func (PySem.W.fnOf "_law_line" "_law_line" (defArgs s__law_line) (defBody s__law_line) (defScope s__law_line) .none kV4 dc4 pm4 an4 cd4 ct4), sl4⟩)
    (c4 : PySem.W.codeIn K cd4 "_law_line" = true)
    (k4 : PySem.W.keepIn K (.ref f4) = true)
    (a5 : PySem.W.nsIn K mainGlobals "_law_wishes" = some (some (.ref f5)))
    (l5 : K.lookup f5 = some ⟨oc5, od5, .func (PySem.W.fnOf "_law_wishes" "_law_wishes" (defArgs s__law_wishes) (defBody s__law_wishes) (defScope s__law_wishes) .none kV5 dc5 pm5 an5 cd5 ct5), sl5⟩)
    (c5 : PySem.W.codeIn K cd5 "_law_wishes" = true)
    (k5 : PySem.W.keepIn K (.ref f5) = true)
    (a6 : PySem.W.nsIn K mainGlobals "_law_program" = some (some (.ref f6)))
    (l6 : K.lookup f6 = some ⟨oc6, od6, .func (PySem.W.fnOf "_law_program" "_law_program" (defArgs s__law_program) (defBody s__law_program) (defScope s__law_program) .none kV6 dc6 pm6 an6 cd6 ct6), sl6⟩)
    (c6 : PySem.W.codeIn K cd6 "_law_program" = true)
    (k6 : PySem.W.keepIn K (.ref f6) = true)
    (a7 : PySem.W.nsIn K mainGlobals "_law_line_text" = some (some (.ref f7)))
    (l7 : K.lookup f7 = some ⟨oc7, od7, .func (PySem.W.fnOf "_law_line_text" "_law_line_text" (defArgs s__law_line_text) (defBody s__law_line_text) (defScope s__law_line_text) .none kV7 dc7 pm7 an7 cd7 ct7), sl7⟩)
    (c7 : PySem.W.codeIn K cd7 "_law_line_text" = true)
    (k7 : PySem.W.keepIn K (.ref f7) = true)
    (a8 : PySem.W.nsIn K mainGlobals "_law_wish_text" = some (some (.ref f8)))
    (l8 : K.lookup f8 = some ⟨oc8, od8, .func (PySem.W.fnOf "_law_wish_text" "_law_wish_text" (defArgs s__law_wish_text) (defBody s__law_wish_text) (defScope s__law_wish_text) .none kV8 dc8 pm8 an8 cd8 ct8), sl8⟩)
    (c8 : PySem.W.codeIn K cd8 "_law_wish_text" = true)
    (k8 : PySem.W.keepIn K (.ref f8) = true)
    (a9 : PySem.W.nsIn K mainGlobals "_law_program_text" = some (some (.ref f9)))
    (l9 : K.lookup f9 = some ⟨oc9, od9, .func (PySem.W.fnOf "_law_program_text" "_law_program_text" (defArgs s__law_program_text) (defBody s__law_program_text) (defScope s__law_program_text) .none kV9 dc9 pm9 an9 cd9 ct9), sl9⟩)
    (c9 : PySem.W.codeIn K cd9 "_law_program_text" = true)
    (k9 : PySem.W.keepIn K (.ref f9) = true)
    (a10 : PySem.W.nsIn K mainGlobals "shown_part" = some (some (.ref f10)))
    (l10 : K.lookup f10 = some ⟨oc10, od10, .func (PySem.W.fnOf "shown_part" "shown_part" (defArgs s_shown_part) (defBody s_shown_part) (defScope s_shown_part) .none kV10 dc10 pm10 an10 cd10 ct10), sl10⟩)
    (c10 : PySem.W.codeIn K cd10 "shown_part" = true)
    (k10 : PySem.W.keepIn K (.ref f10) = true)
    (a11 : PySem.W.nsIn K mainGlobals "shown_line" = some (some (.ref f11)))
    (l11 : K.lookup f11 = some ⟨oc11, od11, .func (PySem.W.fnOf "shown_line" "shown_line" (defArgs s_shown_line) (defBody s_shown_line) (defScope s_shown_line) .none kV11 dc11 pm11 an11 cd11 ct11), sl11⟩)
    (c11 : PySem.W.codeIn K cd11 "shown_line" = true)
    (k11 : PySem.W.keepIn K (.ref f11) = true)
    (a12 : PySem.W.nsIn K mainGlobals "shown_wish" = some (some (.ref f12)))
    (l12 : K.lookup f12 = some ⟨oc12, od12, .func (PySem.W.fnOf "shown_wish" "shown_wish" (defArgs s_shown_wish) (defBody s_shown_wish) (defScope s_shown_wish) .none kV12 dc12 pm12 an12 cd12 ct12), sl12⟩)
    (c12 : PySem.W.codeIn K cd12 "shown_wish" = true)
    (k12 : PySem.W.keepIn K (.ref f12) = true)
    (a13 : PySem.W.nsIn K mainGlobals "is_name" = some (some (.ref f13)))
    (l13 : K.lookup f13 = some ⟨oc13, od13, .func (PySem.W.fnOf "is_name" "is_name" (defArgs s_is_name) (defBody s_is_name) (defScope s_is_name) .none (.ref kD13) dc13 pm13 an13 cd13 ct13), sl13⟩)
    (kL13_0 : PySem.W.nsIn K kD13 "longest" = some (some (.int 6 kt13_0)))
    (c13 : PySem.W.codeIn K cd13 "is_name" = true)
    (k13 : PySem.W.keepIn K (.ref f13) = true)
    (a14 : PySem.W.nsIn K mainGlobals "first_no_name" = some (some (.ref f14)))
    (l14 : K.lookup f14 = some ⟨oc14, od14, .func (PySem.W.fnOf "first_no_name" "first_no_name" (defArgs s_first_no_name) (defBody s_first_no_name) (defScope s_first_no_name) .none kV14 dc14 pm14 an14 cd14 ct14), sl14⟩)
    (c14 : PySem.W.codeIn K cd14 "first_no_name" = true)
    (k14 : PySem.W.keepIn K (.ref f14) = true)
    (a15 : PySem.W.nsIn K mainGlobals "look_at_names" = some (some (.ref f15)))
    (l15 : K.lookup f15 = some ⟨oc15, od15, .func (PySem.W.fnOf "look_at_names" "look_at_names" (defArgs s_look_at_names) (defBody s_look_at_names) (defScope s_look_at_names) .none kV15 dc15 pm15 an15 cd15 ct15), sl15⟩)
    (c15 : PySem.W.codeIn K cd15 "look_at_names" = true)
    (k15 : PySem.W.keepIn K (.ref f15) = true)
    (a16 : PySem.W.nsIn K mainGlobals "is_whole" = some (some (.ref f16)))
    (l16 : K.lookup f16 = some ⟨oc16, od16, .func (PySem.W.fnOf "is_whole" "is_whole" (defArgs s_is_whole) (defBody s_is_whole) (defScope s_is_whole) .none kV16 dc16 pm16 an16 cd16 ct16), sl16⟩)
    (c16 : PySem.W.codeIn K cd16 "is_whole" = true)
    (k16 : PySem.W.keepIn K (.ref f16) = true)
    (a17 : PySem.W.nsIn K mainGlobals "look_at_many" = some (some (.ref f17)))
    (l17 : K.lookup f17 = some ⟨oc17, od17, .func (PySem.W.fnOf "look_at_many" "look_at_many" (defArgs s_look_at_many) (defBody s_look_at_many) (defScope s_look_at_many) .none kV17 dc17 pm17 an17 cd17 ct17), sl17⟩)
    (c17 : PySem.W.codeIn K cd17 "look_at_many" = true)
    (k17 : PySem.W.keepIn K (.ref f17) = true)
    (a18 : PySem.W.nsIn K mainGlobals "is_line" = some (some (.ref f18)))
    (l18 : K.lookup f18 = some ⟨oc18, od18, .func (PySem.W.fnOf "is_line" "is_line" (defArgs s_is_line) (defBody s_is_line) (defScope s_is_line) .none kV18 dc18 pm18 an18 cd18 ct18), sl18⟩)
    (c18 : PySem.W.codeIn K cd18 "is_line" = true)
    (k18 : PySem.W.keepIn K (.ref f18) = true)
    (a19 : PySem.W.nsIn K mainGlobals "is_wish" = some (some (.ref f19)))
    (l19 : K.lookup f19 = some ⟨oc19, od19, .func (PySem.W.fnOf "is_wish" "is_wish" (defArgs s_is_wish) (defBody s_is_wish) (defScope s_is_wish) .none kV19 dc19 pm19 an19 cd19 ct19), sl19⟩)
    (c19 : PySem.W.codeIn K cd19 "is_wish" = true)
    (k19 : PySem.W.keepIn K (.ref f19) = true)
    (a20 : PySem.W.nsIn K mainGlobals "are_wishes" = some (some (.ref f20)))
    (l20 : K.lookup f20 = some ⟨oc20, od20, .func (PySem.W.fnOf "are_wishes" "are_wishes" (defArgs s_are_wishes) (defBody s_are_wishes) (defScope s_are_wishes) .none (.ref kD20) dc20 pm20 an20 cd20 ct20), sl20⟩)
    (kL20_0 : PySem.W.nsIn K kD20 "most" = some (some (.int 12 kt20_0)))
    (c20 : PySem.W.codeIn K cd20 "are_wishes" = true)
    (k20 : PySem.W.keepIn K (.ref f20) = true)
    (a21 : PySem.W.nsIn K mainGlobals "is_number_of" = some (some (.ref f21)))
    (l21 : K.lookup f21 = some ⟨oc21, od21, .func (PySem.W.fnOf "is_number_of" "is_number_of" (defArgs s_is_number_of) (defBody s_is_number_of) (defScope s_is_number_of) .none kV21 dc21 pm21 an21 cd21 ct21), sl21⟩)
    (c21 : PySem.W.codeIn K cd21 "is_number_of" = true)
    (k21 : PySem.W.keepIn K (.ref f21) = true)
    (a22 : PySem.W.nsIn K mainGlobals "is_row" = some (some (.ref f22)))
    (l22 : K.lookup f22 = some ⟨oc22, od22, .func (PySem.W.fnOf "is_row" "is_row" (defArgs s_is_row) (defBody s_is_row) (defScope s_is_row) .none kV22 dc22 pm22 an22 cd22 ct22), sl22⟩)
    (c22 : PySem.W.codeIn K cd22 "is_row" = true)
    (k22 : PySem.W.keepIn K (.ref f22) = true)
    (a23 : PySem.W.nsIn K mainGlobals "look_at" = some (some (.ref f23)))
    (l23 : K.lookup f23 = some ⟨oc23, od23, .func (PySem.W.fnOf "look_at" "look_at" (defArgs s_look_at) (defBody s_look_at) (defScope s_look_at) .none kV23 dc23 pm23 an23 cd23 ct23), sl23⟩)
    (c23 : PySem.W.codeIn K cd23 "look_at" = true)
    (k23 : PySem.W.keepIn K (.ref f23) = true)
    (a24 : PySem.W.nsIn K mainGlobals "both_names" = some (some (.ref f24)))
    (l24 : K.lookup f24 = some ⟨oc24, od24, .func (PySem.W.fnOf "both_names" "both_names" (defArgs s_both_names) (defBody s_both_names) (defScope s_both_names) .none kV24 dc24 pm24 an24 cd24 ct24), sl24⟩)
    (c24 : PySem.W.codeIn K cd24 "both_names" = true)
    (k24 : PySem.W.keepIn K (.ref f24) = true)
    (a25 : PySem.W.nsIn K mainGlobals "shown_program" = some (some (.ref f25)))
    (l25 : K.lookup f25 = some ⟨oc25, od25, .func (PySem.W.fnOf "shown_program" "shown_program" (defArgs s_shown_program) (defBody s_shown_program) (defScope s_shown_program) .none kV25 dc25 pm25 an25 cd25 ct25), sl25⟩)
    (c25 : PySem.W.codeIn K cd25 "shown_program" = true)
    (k25 : PySem.W.keepIn K (.ref f25) = true)
    (a26 : PySem.W.nsIn K mainGlobals "read_names" = some (some (.ref f26)))
    (l26 : K.lookup f26 = some ⟨oc26, od26, .func (PySem.W.fnOf "read_names" "read_names" (defArgs s_read_names) (defBody s_read_names) (defScope s_read_names) .none kV26 dc26 pm26 an26 cd26 ct26), sl26⟩)
    (c26 : PySem.W.codeIn K cd26 "read_names" = true)
    (k26 : PySem.W.keepIn K (.ref f26) = true)
    (a27 : PySem.W.nsIn K mainGlobals "is_head" = some (some (.ref f27)))
    (l27 : K.lookup f27 = some ⟨oc27, od27, .func (PySem.W.fnOf "is_head" "is_head" (defArgs s_is_head) (defBody s_is_head) (defScope s_is_head) .none kV27 dc27 pm27 an27 cd27 ct27), sl27⟩)
    (c27 : PySem.W.codeIn K cd27 "is_head" = true)
    (k27 : PySem.W.keepIn K (.ref f27) = true)
    (a28 : PySem.W.nsIn K mainGlobals "are_figures" = some (some (.ref f28)))
    (l28 : K.lookup f28 = some ⟨oc28, od28, .func (PySem.W.fnOf "are_figures" "are_figures" (defArgs s_are_figures) (defBody s_are_figures) (defScope s_are_figures) .none kV28 dc28 pm28 an28 cd28 ct28), sl28⟩)
    (c28 : PySem.W.codeIn K cd28 "are_figures" = true)
    (k28 : PySem.W.keepIn K (.ref f28) = true)
    (a29 : PySem.W.nsIn K mainGlobals "part_of_text" = some (some (.ref f29)))
    (l29 : K.lookup f29 = some ⟨oc29, od29, .func (PySem.W.fnOf "part_of_text" "part_of_text" (defArgs s_part_of_text) (defBody s_part_of_text) (defScope s_part_of_text) .none kV29 dc29 pm29 an29 cd29 ct29), sl29⟩)
    (c29 : PySem.W.codeIn K cd29 "part_of_text" = true)
    (k29 : PySem.W.keepIn K (.ref f29) = true)
    (a30 : PySem.W.nsIn K mainGlobals "read_line" = some (some (.ref f30)))
    (l30 : K.lookup f30 = some ⟨oc30, od30, .func (PySem.W.fnOf "read_line" "read_line" (defArgs s_read_line) (defBody s_read_line) (defScope s_read_line) .none kV30 dc30 pm30 an30 cd30 ct30), sl30⟩)
    (c30 : PySem.W.codeIn K cd30 "read_line" = true)
    (k30 : PySem.W.keepIn K (.ref f30) = true)
    (a31 : PySem.W.nsIn K mainGlobals "read_wish" = some (some (.ref f31)))
    (l31 : K.lookup f31 = some ⟨oc31, od31, .func (PySem.W.fnOf "read_wish" "read_wish" (defArgs s_read_wish) (defBody s_read_wish) (defScope s_read_wish) .none kV31 dc31 pm31 an31 cd31 ct31), sl31⟩)
    (c31 : PySem.W.codeIn K cd31 "read_wish" = true)
    (k31 : PySem.W.keepIn K (.ref f31) = true)
    (a32 : PySem.W.nsIn K mainGlobals "read_wish_at" = some (some (.ref f32)))
    (l32 : K.lookup f32 = some ⟨oc32, od32, .func (PySem.W.fnOf "read_wish_at" "read_wish_at" (defArgs s_read_wish_at) (defBody s_read_wish_at) (defScope s_read_wish_at) .none kV32 dc32 pm32 an32 cd32 ct32), sl32⟩)
    (c32 : PySem.W.codeIn K cd32 "read_wish_at" = true)
    (k32 : PySem.W.keepIn K (.ref f32) = true)
    (a33 : PySem.W.nsIn K mainGlobals "read_program" = some (some (.ref f33)))
    (l33 : K.lookup f33 = some ⟨oc33, od33, .func (PySem.W.fnOf "read_program" "read_program" (defArgs s_read_program) (defBody s_read_program) (defScope s_read_program) .none kV33 dc33 pm33 an33 cd33 ct33), sl33⟩)
    (c33 : PySem.W.codeIn K cd33 "read_program" = true)
    (k33 : PySem.W.keepIn K (.ref f33) = true)
    (a34 : PySem.W.nsIn K mainGlobals "_law_apart" = some (some (.ref f34)))
    (l34 : K.lookup f34 = some ⟨oc34, od34, .func (PySem.W.fnOf "_law_apart" "_law_apart" (defArgs s__law_apart) (defBody s__law_apart) (defScope s__law_apart) .none kV34 dc34 pm34 an34 cd34 ct34), sl34⟩)
    (c34 : PySem.W.codeIn K cd34 "_law_apart" = true)
    (k34 : PySem.W.keepIn K (.ref f34) = true)
    (a35 : PySem.W.nsIn K mainGlobals "_law_right" = some (some (.ref f35)))
    (l35 : K.lookup f35 = some ⟨oc35, od35, .func (PySem.W.fnOf "_law_right" "_law_right" (defArgs s__law_right) (defBody s__law_right) (defScope s__law_right) .none kV35 dc35 pm35 an35 cd35 ct35), sl35⟩)
    (c35 : PySem.W.codeIn K cd35 "_law_right" = true)
    (k35 : PySem.W.keepIn K (.ref f35) = true)
    (a36 : PySem.W.nsIn K mainGlobals "_law_near_names" = some (some (.ref f36)))
    (l36 : K.lookup f36 = some ⟨oc36, od36, .func (PySem.W.fnOf "_law_near_names" "_law_near_names" (defArgs s__law_near_names) (defBody s__law_near_names) (defScope s__law_near_names) .none kV36 dc36 pm36 an36 cd36 ct36), sl36⟩)
    (c36 : PySem.W.codeIn K cd36 "_law_near_names" = true)
    (k36 : PySem.W.keepIn K (.ref f36) = true)
    (a37 : PySem.W.nsIn K mainGlobals "law" = some (some (.ref f37)))
    (l37 : K.lookup f37 = some ⟨oc37, od37, .func (PySem.W.fnOf "law" "law" (defArgs s_law) (defBody s_law) (defScope s_law) .none kV37 dc37 pm37 an37 cd37 ct37), sl37⟩)
    (c37 : PySem.W.codeIn K cd37 "law" = true)
    (k37 : PySem.W.keepIn K (.ref f37) = true)
    (z_abs : PySem.W.nsIn K mainGlobals "abs" = some none)
    (z_all : PySem.W.nsIn K mainGlobals "all" = some none)
    (z_bool : PySem.W.nsIn K mainGlobals "bool" = some none)
    (z_enumerate : PySem.W.nsIn K mainGlobals "enumerate" = some none)
    (z_int : PySem.W.nsIn K mainGlobals "int" = some none)
    (z_isinstance : PySem.W.nsIn K mainGlobals "isinstance" = some none)
    (z_len : PySem.W.nsIn K mainGlobals "len" = some none)
    (z_list : PySem.W.nsIn K mainGlobals "list" = some none)
    (z_max : PySem.W.nsIn K mainGlobals "max" = some none)
    (z_min : PySem.W.nsIn K mainGlobals "min" = some none)
    (z_range : PySem.W.nsIn K mainGlobals "range" = some none)
    (z_repr : PySem.W.nsIn K mainGlobals "repr" = some none)
    (z_str : PySem.W.nsIn K mainGlobals "str" = some none)
    (z_sum : PySem.W.nsIn K mainGlobals "sum" = some none)
    (z_tuple : PySem.W.nsIn K mainGlobals "tuple" = some none)
    (z_zip : PySem.W.nsIn K mainGlobals "zip" = some none)
    (q0 : PySem.W.nsIn K mainGlobals "BEHIND" = some (some (.str "'" t0)))
    (q1 : PySem.W.nsIn K mainGlobals "FIGURES" = some (some (.str "0123456789" t1)))
    (q2 : PySem.W.nsIn K mainGlobals "JUST" = some (some (.str "just" t2)))
    (q3 : PySem.W.nsIn K mainGlobals "LEAST" = some (some (.str "least" t3)))
    (q4 : PySem.W.nsIn K mainGlobals "LETTERS" = some (some (.str "abcdefghijklmnopqrstuvwxyz" t4)))
    (q5 : PySem.W.nsIn K mainGlobals "MOST_NUMBERS_programs" = some (some (.int 3 t5)))
    (q6 : PySem.W.nsIn K mainGlobals "MOST_NUMBERS_wishes" = some (some (.int 8 t6)))
    (q7 : PySem.W.nsIn K mainGlobals "MOST_PLACES" = some (some (.int 6 t7)))
    (q8 : PySem.W.nsIn K mainGlobals "MOST_ROWS" = some (some (.int 10 t8)))
    (q9 : PySem.W.nsIn K mainGlobals "MOST_WISHES" = some (some (.int 12 t9)))
    (tq0 : PySem.W.nsIn K mainGlobals "ENDS" = some (some (.ref tbA0)))
    (tr0 : K.lookup tbA0 = some ⟨.type "dict", none, .dict tbE0 tbN0, #[]⟩)
    (tw0 : RowsK w.params tbE0.toList c_ENDS)
    (ts0 : (tbA0 == sysModules) = false)
    (tg0_0 : PySem.W.nsIn K tbA0 "least" = some (some (.str " >= 0" tbT0_0)))
    (tg0_1 : PySem.W.nsIn K tbA0 "just" = some (some (.str " = 0" tbT0_1)))
    (aC_NoNumber : PySem.W.nsIn K mainGlobals "NoNumber" = some (some (.ref C_NoNumber)))
    (aC_NoProgram : PySem.W.nsIn K mainGlobals "NoProgram" = some (some (.ref C_NoProgram)))
    (aC_NoText : PySem.W.nsIn K mainGlobals "NoText" = some (some (.ref C_NoText)))
    (aC_WeighError : PySem.W.nsIn K mainGlobals "WeighError" = some (some (.ref C_WeighError)))
    (gn : PySem.W.specialIn K (.builtin "object.__class__") "__get__" = some (some (.builtin "getset_descriptor.__get__")))
    (gt : PySem.W.takesIn K (.builtin "object.__class__") = some true)
    (eC_NoNumber : PySem.W.subIn K (.ref C_NoNumber) (.type "BaseException") = some true)
    (hd_NoNumber : PySem.W.hasDictIn K C_NoNumber = true)
    (tC_NoNumber : PySem.W.typeIn K (.ref C_NoNumber) = some (.type "type"))
    (cl_NoNumber : PySem.W.isClsIn K C_NoNumber = true)
    (eC_NoProgram : PySem.W.subIn K (.ref C_NoProgram) (.type "BaseException") = some true)
    (hd_NoProgram : PySem.W.hasDictIn K C_NoProgram = true)
    (tC_NoProgram : PySem.W.typeIn K (.ref C_NoProgram) = some (.type "type"))
    (cl_NoProgram : PySem.W.isClsIn K C_NoProgram = true)
    (eC_NoText : PySem.W.subIn K (.ref C_NoText) (.type "BaseException") = some true)
    (hd_NoText : PySem.W.hasDictIn K C_NoText = true)
    (tC_NoText : PySem.W.typeIn K (.ref C_NoText) = some (.type "type"))
    (cl_NoText : PySem.W.isClsIn K C_NoText = true)
    (ga_NoNumber : PySem.W.findIn K (.ref C_NoNumber) "__getattribute__" = some (some (.builtin "BaseException.__getattribute__")))
    (gg_NoNumber : PySem.W.findIn K (.ref C_NoNumber) "__getattr__" = some none)
    (ca_NoNumber : PySem.W.findIn K (.ref C_NoNumber) "__class__" = some (some (.builtin "object.__class__")))
    (mr_NoNumber : PySem.W.mroIn K C_NoNumber (.type "object") = some true)
    (kC_NoNumber : PySem.W.keepIn K (.ref C_NoNumber) = true)
    (xL_NoNumber : K.lookup C_NoNumber = some (excClassObj nm_NoNumber q_NoNumber C_NoNumber N_NoNumber bs_NoNumber bm_NoNumber true sn_NoNumber sub_NoNumber ab_NoNumber col_NoNumber dd_NoNumber m0_NoNumber m1_NoNumber m2_NoNumber m3_NoNumber m5_NoNumber "ValueError.__new__"))
    (rv_NoNumber : PySem.HandSPX.refsVE bm_NoNumber = true)
    (sa_NoNumber : PySem.W.findIn K (.ref C_NoNumber) "__setattr__" = some (some (.builtin "object.__setattr__")))
    (i1_NoNumber : PySem.W.findIn K (.ref C_NoNumber) "__init__" = some (some (.ref fI_NoNumber)))
    (i2_NoNumber : PySem.W.typeIn K (.ref fI_NoNumber) = some (.type "function"))
    (i3_NoNumber : K.lookup fI_NoNumber = some ⟨ocI_NoNumber, odI_NoNumber, .func (PySem.W.fnOf "__init__" "NoNumber.__init__" (defArgs i_NoNumber) (defBody i_NoNumber) (defScope i_NoNumber) .none kVI_NoNumber dcI_NoNumber pmI_NoNumber anI_NoNumber cdI_NoNumber ctI_NoNumber), slI_NoNumber⟩)
    (i4_NoNumber : PySem.W.codeIn K cdI_NoNumber "NoNumber.__init__" = true)
    (i5_NoNumber : PySem.W.keepIn K (.ref fI_NoNumber) = true)
    (nf_NoNumber_thing : PySem.W.findIn K (.ref C_NoNumber) "thing" = some none)
    (ga_NoProgram : PySem.W.findIn K (.ref C_NoProgram) "__getattribute__" = some (some (.builtin "BaseException.__getattribute__")))
    (gg_NoProgram : PySem.W.findIn K (.ref C_NoProgram) "__getattr__" = some none)
    (ca_NoProgram : PySem.W.findIn K (.ref C_NoProgram) "__class__" = some (some (.builtin "object.__class__")))
    (mr_NoProgram : PySem.W.mroIn K C_NoProgram (.type "object") = some true)
    (kC_NoProgram : PySem.W.keepIn K (.ref C_NoProgram) = true)
    (xL_NoProgram : K.lookup C_NoProgram = some (excClassObj nm_NoProgram q_NoProgram C_NoProgram N_NoProgram bs_NoProgram bm_NoProgram true sn_NoProgram sub_NoProgram ab_NoProgram col_NoProgram dd_NoProgram m0_NoProgram m1_NoProgram m2_NoProgram m3_NoProgram m5_NoProgram "ValueError.__new__"))
    (rv_NoProgram : PySem.HandSPX.refsVE bm_NoProgram = true)
    (sa_NoProgram : PySem.W.findIn K (.ref C_NoProgram) "__setattr__" = some (some (.builtin "object.__setattr__")))
    (i1_NoProgram : PySem.W.findIn K (.ref C_NoProgram) "__init__" = some (some (.ref fI_NoProgram)))
    (i2_NoProgram : PySem.W.typeIn K (.ref fI_NoProgram) = some (.type "function"))
    (i3_NoProgram : K.lookup fI_NoProgram = some ⟨ocI_NoProgram, odI_NoProgram, .func (PySem.W.fnOf "__init__" "NoProgram.__init__" (defArgs i_NoProgram) (defBody i_NoProgram) (defScope i_NoProgram) .none kVI_NoProgram dcI_NoProgram pmI_NoProgram anI_NoProgram cdI_NoProgram ctI_NoProgram), slI_NoProgram⟩)
    (i4_NoProgram : PySem.W.codeIn K cdI_NoProgram "NoProgram.__init__" = true)
    (i5_NoProgram : PySem.W.keepIn K (.ref fI_NoProgram) = true)
    (nf_NoProgram_part : PySem.W.findIn K (.ref C_NoProgram) "part" = some none)
    (nf_NoProgram_number : PySem.W.findIn K (.ref C_NoProgram) "number" = some none)
    (ga_NoText : PySem.W.findIn K (.ref C_NoText) "__getattribute__" = some (some (.builtin "BaseException.__getattribute__")))
    (gg_NoText : PySem.W.findIn K (.ref C_NoText) "__getattr__" = some none)
    (ca_NoText : PySem.W.findIn K (.ref C_NoText) "__class__" = some (some (.builtin "object.__class__")))
    (mr_NoText : PySem.W.mroIn K C_NoText (.type "object") = some true)
    (kC_NoText : PySem.W.keepIn K (.ref C_NoText) = true)
    (xL_NoText : K.lookup C_NoText = some (excClassObj nm_NoText q_NoText C_NoText N_NoText bs_NoText bm_NoText true sn_NoText sub_NoText ab_NoText col_NoText dd_NoText m0_NoText m1_NoText m2_NoText m3_NoText m5_NoText "ValueError.__new__"))
    (rv_NoText : PySem.HandSPX.refsVE bm_NoText = true)
    (sa_NoText : PySem.W.findIn K (.ref C_NoText) "__setattr__" = some (some (.builtin "object.__setattr__")))
    (i1_NoText : PySem.W.findIn K (.ref C_NoText) "__init__" = some (some (.ref fI_NoText)))
    (i2_NoText : PySem.W.typeIn K (.ref fI_NoText) = some (.type "function"))
    (i3_NoText : K.lookup fI_NoText = some ⟨ocI_NoText, odI_NoText, .func (PySem.W.fnOf "__init__" "NoText.__init__" (defArgs i_NoText) (defBody i_NoText) (defScope i_NoText) .none kVI_NoText dcI_NoText pmI_NoText anI_NoText cdI_NoText ctI_NoText), slI_NoText⟩)
    (i4_NoText : PySem.W.codeIn K cdI_NoText "NoText.__init__" = true)
    (i5_NoText : PySem.W.keepIn K (.ref fI_NoText) = true)
    (nf_NoText_row : PySem.W.findIn K (.ref C_NoText) "row" = some none)
    (bsp_WeighError : PySem.W.specialIn K (.ref C_WeighError) "__getattribute__" = some (some (.builtin "type.__getattribute__")))
    (brd_WeighError : PySem.W.readsIn K C_WeighError (.type "type") = true)
    (bfc_WeighError : PySem.W.findCls K (.ref C_WeighError) (.type "type") "__init__" = some (.val (.builtin "ValueError.__init__")))
    (sb_NoNumber_NoText : PySem.W.subIn K (.ref C_NoNumber) (.ref C_NoText) = some false)
    (ne_NoNumber_NoText : (Value.ref C_NoNumber == Value.ref C_NoText) = false)
    (sb_NoProgram_NoText : PySem.W.subIn K (.ref C_NoProgram) (.ref C_NoText) = some false)
    (ne_NoProgram_NoText : (Value.ref C_NoProgram == Value.ref C_NoText) = false)
    (sb_NoText_NoText : PySem.W.subIn K (.ref C_NoText) (.ref C_NoText) = some true) :
    ∃ fd : FuncData, (∀ (s : Shared) (v : Value), BindsTo s fd ⟨[v], []⟩ [("_law_script", v)]) ∧ ∀ base : Heap, K.In base → base.Ns mainGlobals mg → FnG l.prog w K mg base 11 fa fd ["_law_script"] f_law := by
  have T : Txt w K mg := by
    constructor
    · have F := fun_mk (st := s__law_pool) l0 c0 k0
      exact ⟨f0, _, F, PySem.W.mg_of X G a0, F.binds fun _ _ _ _ _ _ us hl => match us, hl with | [_, _], _ => rfl⟩
    · have F := fun_mk (st := s__law_take) l1 c1 k1
      exact ⟨f1, _, F, PySem.W.mg_of X G a1, F.binds fun _ _ _ _ _ _ us hl => match us, hl with | [_, _], _ => rfl⟩
    · have F := fun_mk (st := s__law_names) l2 c2 k2
      exact ⟨f2, _, F, PySem.W.mg_of X G a2, F.binds fun _ _ _ _ _ _ us hl => match us, hl with | [_, _, _], _ => rfl⟩
    · have F := fun_mk (st := s__law_factor) l3 c3 k3
      exact ⟨f3, _, F, PySem.W.mg_of X G a3, F.binds fun _ _ _ _ _ _ us hl => match us, hl with | [_], _ => rfl⟩
    · have F := fun_mk (st := s__law_line) l4 c4 k4
      exact ⟨f4, _, F, PySem.W.mg_of X G a4, F.binds fun _ _ _ _ _ _ us hl => match us, hl with | [_, _], _ => rfl⟩
    · have F := fun_mk (st := s__law_wishes) l5 c5 k5
      exact ⟨f5, _, F, PySem.W.mg_of X G a5, F.binds fun _ _ _ _ _ _ us hl => match us, hl with | [_, _, _], _ => rfl⟩
    · have F := fun_mk (st := s__law_program) l6 c6 k6
      exact ⟨f6, _, F, PySem.W.mg_of X G a6, F.binds fun _ _ _ _ _ _ us hl => match us, hl with | [_, _, _], _ => rfl⟩
    · have F := fun_mk (st := s__law_line_text) l7 c7 k7
      exact ⟨f7, _, F, PySem.W.mg_of X G a7, F.binds fun _ _ _ _ _ _ us hl => match us, hl with | [_, _], _ => rfl⟩
    · have F := fun_mk (st := s__law_wish_text) l8 c8 k8
      exact ⟨f8, _, F, PySem.W.mg_of X G a8, F.binds fun _ _ _ _ _ _ us hl => match us, hl with | [_, _], _ => rfl⟩
    · have F := fun_mk (st := s__law_program_text) l9 c9 k9
      exact ⟨f9, _, F, PySem.W.mg_of X G a9, F.binds fun _ _ _ _ _ _ us hl => match us, hl with | [_], _ => rfl⟩
    · have F := fun_mk (st := s_shown_part) l10 c10 k10
      exact ⟨f10, _, F, PySem.W.mg_of X G a10, F.binds fun _ _ _ _ _ _ us hl => match us, hl with | [_, _], _ => rfl⟩
    · have F := fun_mk (st := s_shown_line) l11 c11 k11
      exact ⟨f11, _, F, PySem.W.mg_of X G a11, F.binds fun _ _ _ _ _ _ us hl => match us, hl with | [_, _], _ => rfl⟩
    · have F := fun_mk (st := s_shown_wish) l12 c12 k12
      exact ⟨f12, _, F, PySem.W.mg_of X G a12, F.binds fun _ _ _ _ _ _ us hl => match us, hl with | [_, _], _ => rfl⟩
    · refine ⟨f13, _, funD_k (st := s_is_name) l13 c13 k13 ?_, PySem.W.mg_of X G a13⟩
      intro q hq
      simp only [List.mem_cons, List.not_mem_nil, or_false] at hq
      rcases hq with rfl
      · exact ⟨_, kL13_0, ⟨_, rfl⟩⟩
    · have F := fun_mk (st := s_first_no_name) l14 c14 k14
      exact ⟨f14, _, F, PySem.W.mg_of X G a14, F.binds fun _ _ _ _ _ _ us hl => match us, hl with | [_], _ => rfl⟩
    · exact ⟨f15, _, funD_n (st := s_look_at_names) l15 c15 k15, PySem.W.mg_of X G a15⟩
    · have F := fun_mk (st := s_is_whole) l16 c16 k16
      exact ⟨f16, _, F, PySem.W.mg_of X G a16, F.binds fun _ _ _ _ _ _ us hl => match us, hl with | [_], _ => rfl⟩
    · have F := fun_mk (st := s_look_at_many) l17 c17 k17
      exact ⟨f17, _, F, PySem.W.mg_of X G a17, F.binds fun _ _ _ _ _ _ us hl => match us, hl with | [_], _ => rfl⟩
    · have F := fun_mk (st := s_is_line) l18 c18 k18
      exact ⟨f18, _, F, PySem.W.mg_of X G a18, F.binds fun _ _ _ _ _ _ us hl => match us, hl with | [_, _], _ => rfl⟩
    · have F := fun_mk (st := s_is_wish) l19 c19 k19
      exact ⟨f19, _, F, PySem.W.mg_of X G a19, F.binds fun _ _ _ _ _ _ us hl => match us, hl with | [_, _], _ => rfl⟩
    · refine ⟨f20, _, funD_k (st := s_are_wishes) l20 c20 k20 ?_, PySem.W.mg_of X G a20⟩
      intro q hq
      simp only [List.mem_cons, List.not_mem_nil, or_false] at hq
      rcases hq with rfl
      · exact ⟨_, kL20_0, ⟨_, rfl⟩⟩
    · have F := fun_mk (st := s_is_number_of) l21 c21 k21
      exact ⟨f21, _, F, PySem.W.mg_of X G a21, F.binds fun _ _ _ _ _ _ us hl => match us, hl with | [_, _], _ => rfl⟩
    · have F := fun_mk (st := s_is_row) l22 c22 k22
      exact ⟨f22, _, F, PySem.W.mg_of X G a22, F.binds fun _ _ _ _ _ _ us hl => match us, hl with | [_, _, _], _ => rfl⟩
    · have F := fun_mk (st := s_look_at) l23 c23 k23
      exact ⟨f23, _, F, PySem.W.mg_of X G a23, F.binds fun _ _ _ _ _ _ us hl => match us, hl with | [_], _ => rfl⟩
    · have F := fun_mk (st := s_both_names) l24 c24 k24
      exact ⟨f24, _, F, PySem.W.mg_of X G a24, F.binds fun _ _ _ _ _ _ us hl => match us, hl with | [_], _ => rfl⟩
    · have F := fun_mk (st := s_shown_program) l25 c25 k25
      exact ⟨f25, _, F, PySem.W.mg_of X G a25, F.binds fun _ _ _ _ _ _ us hl => match us, hl with | [_], _ => rfl⟩
    · exact ⟨f26, _, funD_n (st := s_read_names) l26 c26 k26, PySem.W.mg_of X G a26⟩
    · have F := fun_mk (st := s_is_head) l27 c27 k27
      exact ⟨f27, _, F, PySem.W.mg_of X G a27, F.binds fun _ _ _ _ _ _ us hl => match us, hl with | [_, _], _ => rfl⟩
    · have F := fun_mk (st := s_are_figures) l28 c28 k28
      exact ⟨f28, _, F, PySem.W.mg_of X G a28, F.binds fun _ _ _ _ _ _ us hl => match us, hl with | [_], _ => rfl⟩
    · have F := fun_mk (st := s_part_of_text) l29 c29 k29
      exact ⟨f29, _, F, PySem.W.mg_of X G a29, F.binds fun _ _ _ _ _ _ us hl => match us, hl with | [_, _], _ => rfl⟩
    · have F := fun_mk (st := s_read_line) l30 c30 k30
      exact ⟨f30, _, F, PySem.W.mg_of X G a30, F.binds fun _ _ _ _ _ _ us hl => match us, hl with | [_, _], _ => rfl⟩
    · have F := fun_mk (st := s_read_wish) l31 c31 k31
      exact ⟨f31, _, F, PySem.W.mg_of X G a31, F.binds fun _ _ _ _ _ _ us hl => match us, hl with | [_, _], _ => rfl⟩
    · have F := fun_mk (st := s_read_wish_at) l32 c32 k32
      exact ⟨f32, _, F, PySem.W.mg_of X G a32, F.binds fun _ _ _ _ _ _ us hl => match us, hl with | [_, _, _], _ => rfl⟩
    · have F := fun_mk (st := s_read_program) l33 c33 k33
      exact ⟨f33, _, F, PySem.W.mg_of X G a33, F.binds fun _ _ _ _ _ _ us hl => match us, hl with | [_], _ => rfl⟩
    · have F := fun_mk (st := s__law_apart) l34 c34 k34
      exact ⟨f34, _, F, PySem.W.mg_of X G a34, F.binds fun _ _ _ _ _ _ us hl => match us, hl with | [_], _ => rfl⟩
    · have F := fun_mk (st := s__law_right) l35 c35 k35
      exact ⟨f35, _, F, PySem.W.mg_of X G a35, F.binds fun _ _ _ _ _ _ us hl => match us, hl with | [_], _ => rfl⟩
    · have F := fun_mk (st := s__law_near_names) l36 c36 k36
      exact ⟨f36, _, F, PySem.W.mg_of X G a36, F.binds fun _ _ _ _ _ _ us hl => match us, hl with | [], _ => rfl⟩
    · have F := fun_mk (st := s_law) l37 c37 k37
      exact ⟨f37, _, F, PySem.W.mg_of X G a37, F.binds fun _ _ _ _ _ _ us hl => match us, hl with | [_], _ => rfl⟩
    · exact PySem.W.mg_none_of X G z_abs
    · exact PySem.W.mg_none_of X G z_all
    · exact PySem.W.mg_none_of X G z_bool
    · exact PySem.W.mg_none_of X G z_enumerate
    · exact PySem.W.mg_none_of X G z_int
    · exact PySem.W.mg_none_of X G z_isinstance
    · exact PySem.W.mg_none_of X G z_len
    · exact PySem.W.mg_none_of X G z_list
    · exact PySem.W.mg_none_of X G z_max
    · exact PySem.W.mg_none_of X G z_min
    · exact PySem.W.mg_none_of X G z_range
    · exact PySem.W.mg_none_of X G z_repr
    · exact PySem.W.mg_none_of X G z_str
    · exact PySem.W.mg_none_of X G z_sum
    · exact PySem.W.mg_none_of X G z_tuple
    · exact PySem.W.mg_none_of X G z_zip
    · exact ⟨_, PySem.W.mg_of X G q0⟩
    · exact ⟨_, PySem.W.mg_of X G q1⟩
    · exact ⟨_, PySem.W.mg_of X G q2⟩
    · exact ⟨_, PySem.W.mg_of X G q3⟩
    · exact ⟨_, PySem.W.mg_of X G q4⟩
    · exact ⟨_, PySem.W.mg_of X G q5⟩
    · exact ⟨_, PySem.W.mg_of X G q6⟩
    · exact ⟨_, PySem.W.mg_of X G q7⟩
    · exact ⟨_, PySem.W.mg_of X G q8⟩
    · exact ⟨_, PySem.W.mg_of X G q9⟩
    · exact ⟨_, PySem.W.mg_of X G tq0, ⟨_, _, tr0, tw0⟩, ts0, by decide, (List.forall_mem_cons.mpr ⟨⟨_, tg0_0⟩, (List.forall_mem_cons.mpr ⟨⟨_, tg0_1⟩, (fun _ h => (List.not_mem_nil h).elim)⟩)⟩)⟩
    · exact ⟨C_NoText, PySem.W.mg_of X G aC_NoText, tblX_mk (List.forall_mem_cons.mpr ⟨fun cls h => by rw [clsK_eq h aC_NoNumber]; exact PySem.W.exm_ref eC_NoText hd_NoText tC_NoText sb_NoNumber_NoText, (List.forall_mem_cons.mpr ⟨fun cls h => by rw [clsK_eq h aC_NoProgram]; exact PySem.W.exm_ref eC_NoText hd_NoText tC_NoText sb_NoProgram_NoText, (List.forall_mem_cons.mpr ⟨fun cls h => by rw [clsK_eq h aC_NoText]; exact PySem.W.exm_ref eC_NoText hd_NoText tC_NoText sb_NoText_NoText, (fun _ h => (List.not_mem_nil h).elim)⟩)⟩)⟩)⟩
    · exact ⟨tblC_mk (fun _ h => (List.not_mem_nil h).elim), tblT_mk (fun _ h => (List.not_mem_nil h).elim)⟩
    · exact tblF_mk (fun _ h => (List.not_mem_nil h).elim)
    · have F := fun_mk (x := "__init__") (qual := "NoNumber.__init__") (st := i_NoNumber) i3_NoNumber i4_NoNumber i5_NoNumber
      exact ⟨C_NoNumber, C_WeighError, fI_NoNumber, _, PySem.W.mg_of X G aC_NoNumber, aC_NoNumber, ⟨⟨_, _, _, _, _, _, _, _, _, _, _, _, _, _, _, xL_NoNumber, rv_NoNumber⟩, sa_NoNumber, eC_NoNumber, tC_NoNumber, kC_NoNumber⟩, i1_NoNumber, i2_NoNumber, nf_NoNumber_thing, ⟨PySem.W.mg_of X G aC_WeighError, bsp_WeighError, brd_WeighError, bfc_WeighError⟩, F, F.binds fun _ _ _ _ _ _ us hl => match us, hl with | [_, _], _ => rfl⟩
    · have F := fun_mk (x := "__init__") (qual := "NoProgram.__init__") (st := i_NoProgram) i3_NoProgram i4_NoProgram i5_NoProgram
      exact ⟨C_NoProgram, C_WeighError, fI_NoProgram, _, PySem.W.mg_of X G aC_NoProgram, aC_NoProgram, ⟨⟨_, _, _, _, _, _, _, _, _, _, _, _, _, _, _, xL_NoProgram, rv_NoProgram⟩, sa_NoProgram, eC_NoProgram, tC_NoProgram, kC_NoProgram⟩, i1_NoProgram, i2_NoProgram, nf_NoProgram_part, nf_NoProgram_number, ⟨PySem.W.mg_of X G aC_WeighError, bsp_WeighError, brd_WeighError, bfc_WeighError⟩, F, F.binds fun _ _ _ _ _ _ us hl => match us, hl with | [_, _, _], _ => rfl⟩
    · have F := fun_mk (x := "__init__") (qual := "NoText.__init__") (st := i_NoText) i3_NoText i4_NoText i5_NoText
      exact ⟨C_NoText, C_WeighError, fI_NoText, _, PySem.W.mg_of X G aC_NoText, aC_NoText, ⟨⟨_, _, _, _, _, _, _, _, _, _, _, _, _, _, _, xL_NoText, rv_NoText⟩, sa_NoText, eC_NoText, tC_NoText, kC_NoText⟩, i1_NoText, i2_NoText, nf_NoText_row, ⟨PySem.W.mg_of X G aC_WeighError, bsp_WeighError, brd_WeighError, bfc_WeighError⟩, F, F.binds fun _ _ _ _ _ _ us hl => match us, hl with | [_, _], _ => rfl⟩
  have e := hfa.symm.trans (PySem.W.mg_of X G a37)
  cases e
  have Fl := fun_mk (st := s_law) l37 c37 k37
  refine ⟨_, fun s v => .of_eq (show bindArgs (PySem.W.fnOf "law" "law" (defArgs s_law) (defBody s_law) (defScope s_law) .none kV37 dc37 pm37 an37 cd37 ct37) ⟨[v], []⟩ = _ from rfl), fun base _ _ => ?_⟩
  obtain ⟨f, fd, F, hm, Fu, _⟩ := (all_ok (P := l.prog) (w := w) (base := base) T).ex
  cases hfa.symm.trans hm
  obtain ⟨_, _, _, _, _, _, _, _, _, e1, lk, _⟩ := Fu.ex
  cases lk.symm.trans l37
  exact F
end
end Lw

set_option Elab.async false
set_option linter.all false
set_option maxRecDepth 100000
namespace Lw
open PySem PySem.Spec PyProof.Rows L2 DL
set_option maxHeartbeats 0 in
theorem hfacts {l : PySem.W.OpenLaw} {w : World} {K : PySem.W.Frag} {h : Heap} {mg : Str → Option Value} {fa : Addr} (X : K.In h) (G : h.Ns mainGlobals mg) (hfa : mg "law" = some (.ref fa)) (c : HX.SaysZ hfb hfn hft w K) :
    ∃ fd : FuncData, (∀ (s : Shared) (v : Value), BindsTo s fd ⟨[v], []⟩ [("_law_script", v)]) ∧ ∀ base : Heap, K.In base → base.Ns mainGlobals mg → FnG l.prog w K mg base 11 fa fd ["_law_script"] f_law := by
  obtain ⟨oc_l0, od_l0, sl_l0, kV_l0, dc_l0, pm_l0, an_l0, cd_l0, ct_l0, l_l0, c_l0⟩ := c.def_ 0
  obtain ⟨oc_l1, od_l1, sl_l1, kV_l1, dc_l1, pm_l1, an_l1, cd_l1, ct_l1, l_l1, c_l1⟩ := c.def_ 1
  obtain ⟨oc_l2, od_l2, sl_l2, kV_l2, dc_l2, pm_l2, an_l2, cd_l2, ct_l2, l_l2, c_l2⟩ := c.def_ 2
  obtain ⟨oc_l3, od_l3, sl_l3, kV_l3, dc_l3, pm_l3, an_l3, cd_l3, ct_l3, l_l3, c_l3⟩ := c.def_ 3
  obtain ⟨oc_l4, od_l4, sl_l4, kV_l4, dc_l4, pm_l4, an_l4, cd_l4, ct_l4, l_l4, c_l4⟩ := c.def_ 4
  obtain ⟨oc_l5, od_l5, sl_l5, kV_l5, dc_l5, pm_l5, an_l5, cd_l5, ct_l5, l_l5, c_l5⟩ := c.def_ 5
  obtain ⟨oc_l6, od_l6, sl_l6, kV_l6, dc_l6, pm_l6, an_l6, cd_l6, ct_l6, l_l6, c_l6⟩ := c.def_ 6
  obtain ⟨oc_l7, od_l7, sl_l7, kV_l7, dc_l7, pm_l7, an_l7, cd_l7, ct_l7, l_l7, c_l7⟩ := c.def_ 7
  obtain ⟨oc_l8, od_l8, sl_l8, kV_l8, dc_l8, pm_l8, an_l8, cd_l8, ct_l8, l_l8, c_l8⟩ := c.def_ 8
  obtain ⟨oc_l9, od_l9, sl_l9, kV_l9, dc_l9, pm_l9, an_l9, cd_l9, ct_l9, l_l9, c_l9⟩ := c.def_ 9
  obtain ⟨oc_l10, od_l10, sl_l10, kV_l10, dc_l10, pm_l10, an_l10, cd_l10, ct_l10, l_l10, c_l10⟩ := c.def_ 10
  obtain ⟨oc_l11, od_l11, sl_l11, kV_l11, dc_l11, pm_l11, an_l11, cd_l11, ct_l11, l_l11, c_l11⟩ := c.def_ 11
  obtain ⟨oc_l12, od_l12, sl_l12, kV_l12, dc_l12, pm_l12, an_l12, cd_l12, ct_l12, l_l12, c_l12⟩ := c.def_ 12
  obtain ⟨oc_l13, od_l13, sl_l13, kV_l13, dc_l13, pm_l13, an_l13, cd_l13, ct_l13, l_l13, c_l13⟩ := c.def_ 13
  obtain ⟨t_kL13_0, h_kL13_0⟩ := HX.intB_ok (c.b 28 : HX.intB K (HX.kdA K (He.ga K "is_name")) "longest" (6) = true)
  obtain ⟨oc_l14, od_l14, sl_l14, kV_l14, dc_l14, pm_l14, an_l14, cd_l14, ct_l14, l_l14, c_l14⟩ := c.def_ 14
  obtain ⟨oc_l15, od_l15, sl_l15, kV_l15, dc_l15, pm_l15, an_l15, cd_l15, ct_l15, l_l15, c_l15⟩ := c.def_ 15
  obtain ⟨oc_l16, od_l16, sl_l16, kV_l16, dc_l16, pm_l16, an_l16, cd_l16, ct_l16, l_l16, c_l16⟩ := c.def_ 16
  obtain ⟨oc_l17, od_l17, sl_l17, kV_l17, dc_l17, pm_l17, an_l17, cd_l17, ct_l17, l_l17, c_l17⟩ := c.def_ 17
  obtain ⟨oc_l18, od_l18, sl_l18, kV_l18, dc_l18, pm_l18, an_l18, cd_l18, ct_l18, l_l18, c_l18⟩ := c.def_ 18
  obtain ⟨oc_l19, od_l19, sl_l19, kV_l19, dc_l19, pm_l19, an_l19, cd_l19, ct_l19, l_l19, c_l19⟩ := c.def_ 19
  obtain ⟨oc_l20, od_l20, sl_l20, kV_l20, dc_l20, pm_l20, an_l20, cd_l20, ct_l20, l_l20, c_l20⟩ := c.def_ 20
  obtain ⟨t_kL20_0, h_kL20_0⟩ := HX.intB_ok (c.b 44 : HX.intB K (HX.kdA K (He.ga K "are_wishes")) "most" (12) = true)
  obtain ⟨oc_l21, od_l21, sl_l21, kV_l21, dc_l21, pm_l21, an_l21, cd_l21, ct_l21, l_l21, c_l21⟩ := c.def_ 21
  obtain ⟨oc_l22, od_l22, sl_l22, kV_l22, dc_l22, pm_l22, an_l22, cd_l22, ct_l22, l_l22, c_l22⟩ := c.def_ 22
  obtain ⟨oc_l23, od_l23, sl_l23, kV_l23, dc_l23, pm_l23, an_l23, cd_l23, ct_l23, l_l23, c_l23⟩ := c.def_ 23
  obtain ⟨oc_l24, od_l24, sl_l24, kV_l24, dc_l24, pm_l24, an_l24, cd_l24, ct_l24, l_l24, c_l24⟩ := c.def_ 24
  obtain ⟨oc_l25, od_l25, sl_l25, kV_l25, dc_l25, pm_l25, an_l25, cd_l25, ct_l25, l_l25, c_l25⟩ := c.def_ 25
  obtain ⟨oc_l26, od_l26, sl_l26, kV_l26, dc_l26, pm_l26, an_l26, cd_l26, ct_l26, l_l26, c_l26⟩ := c.def_ 26
  obtain ⟨oc_l27, od_l27, sl_l27, kV_l27, dc_l27, pm_l27, an_l27, cd_l27, ct_l27, l_l27, c_l27⟩ := c.def_ 27
  obtain ⟨oc_l28, od_l28, sl_l28, kV_l28, dc_l28, pm_l28, an_l28, cd_l28, ct_l28, l_l28, c_l28⟩ := c.def_ 28
  obtain ⟨oc_l29, od_l29, sl_l29, kV_l29, dc_l29, pm_l29, an_l29, cd_l29, ct_l29, l_l29, c_l29⟩ := c.def_ 29
  obtain ⟨oc_l30, od_l30, sl_l30, kV_l30, dc_l30, pm_l30, an_l30, cd_l30, ct_l30, l_l30, c_l30⟩ := c.def_ 30
  obtain ⟨oc_l31, od_l31, sl_l31, kV_l31, dc_l31, pm_l31, an_l31, cd_l31, ct_l31, l_l31, c_l31⟩ := c.def_ 31
  obtain ⟨oc_l32, od_l32, sl_l32, kV_l32, dc_l32, pm_l32, an_l32, cd_l32, ct_l32, l_l32, c_l32⟩ := c.def_ 32
  obtain ⟨oc_l33, od_l33, sl_l33, kV_l33, dc_l33, pm_l33, an_l33, cd_l33, ct_l33, l_l33, c_l33⟩ := c.def_ 33
  obtain ⟨oc_l34, od_l34, sl_l34, kV_l34, dc_l34, pm_l34, an_l34, cd_l34, ct_l34, l_l34, c_l34⟩ := c.def_ 34
  obtain ⟨oc_l35, od_l35, sl_l35, kV_l35, dc_l35, pm_l35, an_l35, cd_l35, ct_l35, l_l35, c_l35⟩ := c.def_ 35
  obtain ⟨oc_l36, od_l36, sl_l36, kV_l36, dc_l36, pm_l36, an_l36, cd_l36, ct_l36, l_l36, c_l36⟩ := c.def_ 36
  obtain ⟨oc_l37, od_l37, sl_l37, kV_l37, dc_l37, pm_l37, an_l37, cd_l37, ct_l37, l_l37, c_l37⟩ := c.def_ 37
  obtain ⟨t_q0, h_q0⟩ := HX.strB_ok (c.b 96 : HX.strB K mainGlobals "BEHIND" "'" = true)
  obtain ⟨t_q1, h_q1⟩ := HX.strB_ok (c.b 97 : HX.strB K mainGlobals "FIGURES" "0123456789" = true)
  obtain ⟨t_q2, h_q2⟩ := HX.strB_ok (c.b 98 : HX.strB K mainGlobals "JUST" "just" = true)
  obtain ⟨t_q3, h_q3⟩ := HX.strB_ok (c.b 99 : HX.strB K mainGlobals "LEAST" "least" = true)
  obtain ⟨t_q4, h_q4⟩ := HX.strB_ok (c.b 100 : HX.strB K mainGlobals "LETTERS" "abcdefghijklmnopqrstuvwxyz" = true)
  obtain ⟨t_q5, h_q5⟩ := HX.intB_ok (c.b 101 : HX.intB K mainGlobals "MOST_NUMBERS_programs" (3) = true)
  obtain ⟨t_q6, h_q6⟩ := HX.intB_ok (c.b 102 : HX.intB K mainGlobals "MOST_NUMBERS_wishes" (8) = true)
  obtain ⟨t_q7, h_q7⟩ := HX.intB_ok (c.b 103 : HX.intB K mainGlobals "MOST_PLACES" (6) = true)
  obtain ⟨t_q8, h_q8⟩ := HX.intB_ok (c.b 104 : HX.intB K mainGlobals "MOST_ROWS" (10) = true)
  obtain ⟨t_q9, h_q9⟩ := HX.intB_ok (c.b 105 : HX.intB K mainGlobals "MOST_WISHES" (12) = true)
  obtain ⟨te_tr0, tn_tr0, tl_tr0, tr_tr0⟩ := DL.tab_ok c 0
  obtain ⟨t_tg0_0, h_tg0_0⟩ := HX.strB_ok (c.b 108 : HX.strB K (He.ga K "ENDS") "least" " >= 0" = true)
  obtain ⟨t_tg0_1, h_tg0_1⟩ := HX.strB_ok (c.b 109 : HX.strB K (He.ga K "ENDS") "just" " = 0" = true)
  obtain ⟨y0_xL_NoNumber, y1_xL_NoNumber, y2_xL_NoNumber, y3_xL_NoNumber, y4_xL_NoNumber, y5_xL_NoNumber, y6_xL_NoNumber, y7_xL_NoNumber, y8_xL_NoNumber, y9_xL_NoNumber, y10_xL_NoNumber, y11_xL_NoNumber, y12_xL_NoNumber, y13_xL_NoNumber, y14_xL_NoNumber, h_xL_NoNumber, v_xL_NoNumber⟩ := HX.xcl_any (c.b 133 : HX.xclB K (He.ga K "NoNumber") PySem.HandSPX.refsVE "ValueError.__new__" = true)
  obtain ⟨oc_i3_NoNumber, od_i3_NoNumber, sl_i3_NoNumber, kV_i3_NoNumber, dc_i3_NoNumber, pm_i3_NoNumber, an_i3_NoNumber, cd_i3_NoNumber, ct_i3_NoNumber, l_i3_NoNumber, c_i3_NoNumber⟩ := c.def_ 38
  obtain ⟨y0_xL_NoProgram, y1_xL_NoProgram, y2_xL_NoProgram, y3_xL_NoProgram, y4_xL_NoProgram, y5_xL_NoProgram, y6_xL_NoProgram, y7_xL_NoProgram, y8_xL_NoProgram, y9_xL_NoProgram, y10_xL_NoProgram, y11_xL_NoProgram, y12_xL_NoProgram, y13_xL_NoProgram, y14_xL_NoProgram, h_xL_NoProgram, v_xL_NoProgram⟩ := HX.xcl_any (c.b 144 : HX.xclB K (He.ga K "NoProgram") PySem.HandSPX.refsVE "ValueError.__new__" = true)
  obtain ⟨oc_i3_NoProgram, od_i3_NoProgram, sl_i3_NoProgram, kV_i3_NoProgram, dc_i3_NoProgram, pm_i3_NoProgram, an_i3_NoProgram, cd_i3_NoProgram, ct_i3_NoProgram, l_i3_NoProgram, c_i3_NoProgram⟩ := c.def_ 39
  obtain ⟨y0_xL_NoText, y1_xL_NoText, y2_xL_NoText, y3_xL_NoText, y4_xL_NoText, y5_xL_NoText, y6_xL_NoText, y7_xL_NoText, y8_xL_NoText, y9_xL_NoText, y10_xL_NoText, y11_xL_NoText, y12_xL_NoText, y13_xL_NoText, y14_xL_NoText, h_xL_NoText, v_xL_NoText⟩ := HX.xcl_any (c.b 156 : HX.xclB K (He.ga K "NoText") PySem.HandSPX.refsVE "ValueError.__new__" = true)
  obtain ⟨oc_i3_NoText, od_i3_NoText, sl_i3_NoText, kV_i3_NoText, dc_i3_NoText, pm_i3_NoText, an_i3_NoText, cd_i3_NoText, ct_i3_NoText, l_i3_NoText, c_i3_NoText⟩ := c.def_ 40
  exact all_mk X G hfa (HX.eqB_ok (c.b 0 : HX.eqB (PySem.W.nsIn K mainGlobals "_law_pool") (some (some (.ref (He.ga K "_law_pool")))) = true)) l_l0 c_l0 (c.b 1 : PySem.W.keepIn K (.ref (He.ga K "_law_pool")) = true) (HX.eqB_ok (c.b 2 : HX.eqB (PySem.W.nsIn K mainGlobals "_law_take") (some (some (.ref (He.ga K "_law_take")))) = true)) l_l1 c_l1 (c.b 3 : PySem.W.keepIn K (.ref (He.ga K "_law_take")) = true) (HX.eqB_ok (c.b 4 : HX.eqB (PySem.W.nsIn K mainGlobals "_law_names") (some (some (.ref (He.ga K "_law_names")))) = true)) l_l2 c_l2 (c.b 5 : PySem.W.keepIn K (.ref (He.ga K "_law_names")) = true) (HX.eqB_ok (c.b 6 : HX.eqB (PySem.W.nsIn K mainGlobals "_law_factor") (some (some (.ref (He.ga K "_law_factor")))) = true)) l_l3 c_l3 (c.b 7 : PySem.W.keepIn K (.ref (He.ga K "_law_factor")) = true) (HX.eqB_ok (c.b 8 : HX.eqB (PySem.W.nsIn K mainGlobals "_law_line") (some (some (.ref (He.ga K "_law_line")))) = true)) l_l4 c_l4 (c.b 9 : PySem.W.keepIn K (.ref (He.ga K "_law_line")) = true) (HX.eqB_ok (c.b 10 : HX.eqB (PySem.W.nsIn K mainGlobals "_law_wishes") (some (some (.ref (He.ga K "_law_wishes")))) = true)) l_l5 c_l5 (c.b 11 : PySem.W.keepIn K (.ref (He.ga K "_law_wishes")) = true) (HX.eqB_ok (c.b 12 : HX.eqB (PySem.W.nsIn K mainGlobals "_law_program") (some (some (.ref (He.ga K "_law_program")))) = true)) l_l6 c_l6 (c.b 13 : PySem.W.keepIn K (.ref (He.ga K "_law_program")) = true) (HX.eqB_ok (c.b 14 : HX.eqB (PySem.W.nsIn K mainGlobals "_law_line_text") (some (some (.ref (He.ga K "_law_line_text")))) = true)) l_l7 c_l7 (c.b 15 : PySem.W.keepIn K (.ref (He.ga K "_law_line_text")) = true) (HX.eqB_ok (c.b 16 : HX.eqB (PySem.W.nsIn K mainGlobals "_law_wish_text") (some (some (.ref (He.ga K "_law_wish_text")))) = true)) l_l8 c_l8 (c.b 17 : PySem.W.keepIn K (.ref (He.ga K "_law_wish_text")) = true) (HX.eqB_ok (c.b 18 : HX.eqB (PySem.W.nsIn K mainGlobals "_law_program_text") (some (some (.ref (He.ga K "_law_program_text")))) = true)) l_l9 c_l9 (c.b 19 : PySem.W.keepIn K (.ref (He.ga K "_law_program_text")) = true) (HX.eqB_ok (c.b 20 : HX.eqB (PySem.W.nsIn K mainGlobals "shown_part") (some (some (.ref (He.ga K "shown_part")))) = true)) l_l10 c_l10 (c.b 21 : PySem.W.keepIn K (.ref (He.ga K "shown_part")) = true) (HX.eqB_ok (c.b 22 : HX.eqB (PySem.W.nsIn K mainGlobals "shown_line") (some (some (.ref (He.ga K "shown_line")))) = true)) l_l11 c_l11 (c.b 23 : PySem.W.keepIn K (.ref (He.ga K "shown_line")) = true) (HX.eqB_ok (c.b 24 : HX.eqB (PySem.W.nsIn K mainGlobals "shown_wish") (some (some (.ref (He.ga K "shown_wish")))) = true)) l_l12 c_l12 (c.b 25 : PySem.W.keepIn K (.ref (He.ga K "shown_wish")) = true) (HX.eqB_ok (c.b 26 : HX.eqB (PySem.W.nsIn K mainGlobals "is_name") (some (some (.ref (He.ga K "is_name")))) = true)) (HX.kd_ok l_l13 (c.b 27 : HX.kdB K (He.ga K "is_name") = true)) h_kL13_0 c_l13 (c.b 29 : PySem.W.keepIn K (.ref (He.ga K "is_name")) = true) (HX.eqB_ok (c.b 30 : HX.eqB (PySem.W.nsIn K mainGlobals "first_no_name") (some (some (.ref (He.ga K "first_no_name")))) = true)) l_l14 c_l14 (c.b 31 : PySem.W.keepIn K (.ref (He.ga K "first_no_name")) = true) (HX.eqB_ok (c.b 32 : HX.eqB (PySem.W.nsIn K mainGlobals "look_at_names") (some (some (.ref (He.ga K "look_at_names")))) = true)) l_l15 c_l15 (c.b 33 : PySem.W.keepIn K (.ref (He.ga K "look_at_names")) = true) (HX.eqB_ok (c.b 34 : HX.eqB (PySem.W.nsIn K mainGlobals "is_whole") (some (some (.ref (He.ga K "is_whole")))) = true)) l_l16 c_l16 (c.b 35 : PySem.W.keepIn K (.ref (He.ga K "is_whole")) = true) (HX.eqB_ok (c.b 36 : HX.eqB (PySem.W.nsIn K mainGlobals "look_at_many") (some (some (.ref (He.ga K "look_at_many")))) = true)) l_l17 c_l17 (c.b 37 : PySem.W.keepIn K (.ref (He.ga K "look_at_many")) = true) (HX.eqB_ok (c.b 38 : HX.eqB (PySem.W.nsIn K mainGlobals "is_line") (some (some (.ref (He.ga K "is_line")))) = true)) l_l18 c_l18 (c.b 39 : PySem.W.keepIn K (.ref (He.ga K "is_line")) = true) (HX.eqB_ok (c.b 40 : HX.eqB (PySem.W.nsIn K mainGlobals "is_wish") (some (some (.ref (He.ga K "is_wish")))) = true)) l_l19 c_l19 (c.b 41 : PySem.W.keepIn K (.ref (He.ga K "is_wish")) = true) (HX.eqB_ok (c.b 42 : HX.eqB (PySem.W.nsIn K mainGlobals "are_wishes") (some (some (.ref (He.ga K "are_wishes")))) = true)) (HX.kd_ok l_l20 (c.b 43 : HX.kdB K (He.ga K "are_wishes") = true)) h_kL20_0 c_l20 (c.b 45 : PySem.W.keepIn K (.ref (He.ga K "are_wishes")) = true) (HX.eqB_ok (c.b 46 : HX.eqB (PySem.W.nsIn K mainGlobals "is_number_of") (some (some (.ref (He.ga K "is_number_of")))) = true)) l_l21 c_l21 (c.b 47 : PySem.W.keepIn K (.ref (He.ga K "is_number_of")) = true) (HX.eqB_ok (c.b 48 : HX.eqB (PySem.W.nsIn K mainGlobals "is_row") (some (some (.ref (He.ga K "is_row")))) = true)) l_l22 c_l22 (c.b 49 : PySem.W.keepIn K (.ref (He.ga K "is_row")) = true) (HX.eqB_ok (c.b 50 : HX.eqB (PySem.W.nsIn K mainGlobals "look_at") (some (some (.ref (He.ga K "look_at")))) = true)) l_l23 c_l23 (c.b 51 : PySem.W.keepIn K (.ref (He.ga K "look_at")) = true) (HX.eqB_ok (c.b 52 : HX.eqB (PySem.W.nsIn K mainGlobals "both_names") (some (some (.ref (He.ga K "both_names")))) = true)) l_l24 c_l24 (c.b 53 : PySem.W.keepIn K (.ref (He.ga K "both_names")) = true) (HX.eqB_ok (c.b 54 : HX.eqB (PySem.W.nsIn K mainGlobals "shown_program") (some (some (.ref (He.ga K "shown_program")))) = true)) l_l25 c_l25 (c.b 55 : PySem.W.keepIn K (.ref (He.ga K "shown_program")) = true) (HX.eqB_ok (c.b 56 : HX.eqB (PySem.W.nsIn K mainGlobals "read_names") (some (some (.ref (He.ga K "read_names")))) = true)) l_l26 c_l26 (c.b 57 : PySem.W.keepIn K (.ref (He.ga K "read_names")) = true) (HX.eqB_ok (c.b 58 : HX.eqB (PySem.W.nsIn K mainGlobals "is_head") (some (some (.ref (He.ga K "is_head")))) = true)) l_l27 c_l27 (c.b 59 : PySem.W.keepIn K (.ref (He.ga K "is_head")) = true) (HX.eqB_ok (c.b 60 : HX.eqB (PySem.W.nsIn K mainGlobals "are_figures") (some (some (.ref (He.ga K "are_figures")))) = true)) l_l28 c_l28 (c.b 61 : PySem.W.keepIn K (.ref (He.ga K "are_figures")) = true) (HX.eqB_ok (c.b 62 : HX.eqB (PySem.W.nsIn K mainGlobals "part_of_text") (some (some (.ref (He.ga K "part_of_text")))) = true)) l_l29 c_l29 (c.b 63 : PySem.W.keepIn K (.ref (He.ga K "part_of_text")) = true) (HX.eqB_ok (c.b 64 : HX.eqB (PySem.W.nsIn K mainGlobals "read_line") (some (some (.ref (He.ga K "read_line")))) = true)) l_l30 c_l30 (c.b 65 : PySem.W.keepIn K (.ref (He.ga K "read_line")) = true) (HX.eqB_ok (c.b 66 : HX.eqB (PySem.W.nsIn K mainGlobals "read_wish") (some (some (.ref (He.ga K "read_wish")))) = true)) l_l31 c_l31 (c.b 67 : PySem.W.keepIn K (.ref (He.ga K "read_wish")) = true) (HX.eqB_ok (c.b 68 : HX.eqB (PySem.W.nsIn K mainGlobals "read_wish_at") (some (some (.ref (He.ga K "read_wish_at")))) = true)) l_l32 c_l32 (c.b 69 : PySem.W.keepIn K (.ref (He.ga K "read_wish_at")) = true) (HX.eqB_ok (c.b 70 : HX.eqB (PySem.W.nsIn K mainGlobals "read_program") (some (some (.ref (He.ga K "read_program")))) = true)) l_l33 c_l33 (c.b 71 : PySem.W.keepIn K (.ref (He.ga K "read_program")) = true) (HX.eqB_ok (c.b 72 : HX.eqB (PySem.W.nsIn K mainGlobals "_law_apart") (some (some (.ref (He.ga K "_law_apart")))) = true)) l_l34 c_l34 (c.b 73 : PySem.W.keepIn K (.ref (He.ga K "_law_apart")) = true) (HX.eqB_ok (c.b 74 : HX.eqB (PySem.W.nsIn K mainGlobals "_law_right") (some (some (.ref (He.ga K "_law_right")))) = true)) l_l35 c_l35 (c.b 75 : PySem.W.keepIn K (.ref (He.ga K "_law_right")) = true) (HX.eqB_ok (c.b 76 : HX.eqB (PySem.W.nsIn K mainGlobals "_law_near_names") (some (some (.ref (He.ga K "_law_near_names")))) = true)) l_l36 c_l36 (c.b 77 : PySem.W.keepIn K (.ref (He.ga K "_law_near_names")) = true) (HX.eqB_ok (c.b 78 : HX.eqB (PySem.W.nsIn K mainGlobals "law") (some (some (.ref (He.ga K "law")))) = true)) l_l37 c_l37 (c.b 79 : PySem.W.keepIn K (.ref (He.ga K "law")) = true) (HX.eqB_ok (c.b 80 : HX.eqB (PySem.W.nsIn K mainGlobals "abs") (some none) = true)) (HX.eqB_ok (c.b 81 : HX.eqB (PySem.W.nsIn K mainGlobals "all") (some none) = true)) (HX.eqB_ok (c.b 82 : HX.eqB (PySem.W.nsIn K mainGlobals "bool") (some none) = true)) (HX.eqB_ok (c.b 83 : HX.eqB (PySem.W.nsIn K mainGlobals "enumerate") (some none) = true)) (HX.eqB_ok (c.b 84 : HX.eqB (PySem.W.nsIn K mainGlobals "int") (some none) = true)) (HX.eqB_ok (c.b 85 : HX.eqB (PySem.W.nsIn K mainGlobals "isinstance") (some none) = true)) (HX.eqB_ok (c.b 86 : HX.eqB (PySem.W.nsIn K mainGlobals "len") (some none) = true)) (HX.eqB_ok (c.b 87 : HX.eqB (PySem.W.nsIn K mainGlobals "list") (some none) = true)) (HX.eqB_ok (c.b 88 : HX.eqB (PySem.W.nsIn K mainGlobals "max") (some none) = true)) (HX.eqB_ok (c.b 89 : HX.eqB (PySem.W.nsIn K mainGlobals "min") (some none) = true)) (HX.eqB_ok (c.b 90 : HX.eqB (PySem.W.nsIn K mainGlobals "range") (some none) = true)) (HX.eqB_ok (c.b 91 : HX.eqB (PySem.W.nsIn K mainGlobals "repr") (some none) = true)) (HX.eqB_ok (c.b 92 : HX.eqB (PySem.W.nsIn K mainGlobals "str") (some none) = true)) (HX.eqB_ok (c.b 93 : HX.eqB (PySem.W.nsIn K mainGlobals "sum") (some none) = true)) (HX.eqB_ok (c.b 94 : HX.eqB (PySem.W.nsIn K mainGlobals "tuple") (some none) = true)) (HX.eqB_ok (c.b 95 : HX.eqB (PySem.W.nsIn K mainGlobals "zip") (some none) = true)) h_q0 h_q1 h_q2 h_q3 h_q4 h_q5 h_q6 h_q7 h_q8 h_q9 (HX.eqB_ok (c.b 106 : HX.eqB (PySem.W.nsIn K mainGlobals "ENDS") (some (some (.ref (He.ga K "ENDS")))) = true)) tl_tr0 tr_tr0 (HX.notB_ok (c.b 107 : (!((He.ga K "ENDS") == sysModules)) = true)) h_tg0_0 h_tg0_1 (HX.eqB_ok (c.b 110 : HX.eqB (PySem.W.nsIn K mainGlobals "NoNumber") (some (some (.ref (He.ga K "NoNumber")))) = true)) (HX.eqB_ok (c.b 111 : HX.eqB (PySem.W.nsIn K mainGlobals "NoProgram") (some (some (.ref (He.ga K "NoProgram")))) = true)) (HX.eqB_ok (c.b 112 : HX.eqB (PySem.W.nsIn K mainGlobals "NoText") (some (some (.ref (He.ga K "NoText")))) = true)) (HX.eqB_ok (c.b 113 : HX.eqB (PySem.W.nsIn K mainGlobals "WeighError") (some (some (.ref (He.ga K "WeighError")))) = true)) (HX.eqB_ok (c.b 114 : HX.eqB (PySem.W.specialIn K (.builtin "object.__class__") "__get__") (some (some (.builtin "getset_descriptor.__get__"))) = true)) (HX.eqB_ok (c.b 115 : HX.eqB (PySem.W.takesIn K (.builtin "object.__class__")) (some true) = true)) (HX.eqB_ok (c.b 116 : HX.eqB (PySem.W.subIn K (.ref (He.ga K "NoNumber")) (.type "BaseException")) (some true) = true)) (c.b 117 : PySem.W.hasDictIn K (He.ga K "NoNumber") = true) (HX.eqB_ok (c.b 118 : HX.eqB (PySem.W.typeIn K (.ref (He.ga K "NoNumber"))) (some (.type "type")) = true)) (c.b 119 : PySem.W.isClsIn K (He.ga K "NoNumber") = true) (HX.eqB_ok (c.b 120 : HX.eqB (PySem.W.subIn K (.ref (He.ga K "NoProgram")) (.type "BaseException")) (some true) = true)) (c.b 121 : PySem.W.hasDictIn K (He.ga K "NoProgram") = true) (HX.eqB_ok (c.b 122 : HX.eqB (PySem.W.typeIn K (.ref (He.ga K "NoProgram"))) (some (.type "type")) = true)) (c.b 123 : PySem.W.isClsIn K (He.ga K "NoProgram") = true) (HX.eqB_ok (c.b 124 : HX.eqB (PySem.W.subIn K (.ref (He.ga K "NoText")) (.type "BaseException")) (some true) = true)) (c.b 125 : PySem.W.hasDictIn K (He.ga K "NoText") = true) (HX.eqB_ok (c.b 126 : HX.eqB (PySem.W.typeIn K (.ref (He.ga K "NoText"))) (some (.type "type")) = true)) (c.b 127 : PySem.W.isClsIn K (He.ga K "NoText") = true) (HX.eqB_ok (c.b 128 : HX.eqB (PySem.W.findIn K (.ref (He.ga K "NoNumber")) "__getattribute__") (some (some (.builtin "BaseException.__getattribute__"))) = true)) (HX.eqB_ok (c.b 129 : HX.eqB (PySem.W.findIn K (.ref (He.ga K "NoNumber")) "__getattr__") (some none) = true)) (HX.eqB_ok (c.b 130 : HX.eqB (PySem.W.findIn K (.ref (He.ga K "NoNumber")) "__class__") (some (some (.builtin "object.__class__"))) = true)) (HX.eqB_ok (c.b 131 : HX.eqB (PySem.W.mroIn K (He.ga K "NoNumber") (.type "object")) (some true) = true)) (c.b 132 : PySem.W.keepIn K (.ref (He.ga K "NoNumber")) = true) h_xL_NoNumber v_xL_NoNumber (HX.eqB_ok (c.b 134 : HX.eqB (PySem.W.findIn K (.ref (He.ga K "NoNumber")) "__setattr__") (some (some (.builtin "object.__setattr__"))) = true)) (HX.eqB_ok (c.b 135 : HX.eqB (PySem.W.findIn K (.ref (He.ga K "NoNumber")) "__init__") (some (some (.ref (He.ma K (He.ga K "NoNumber") "__init__")))) = true)) (HX.eqB_ok (c.b 136 : HX.eqB (PySem.W.typeIn K (.ref (He.ma K (He.ga K "NoNumber") "__init__"))) (some (.type "function")) = true)) l_i3_NoNumber c_i3_NoNumber (c.b 137 : PySem.W.keepIn K (.ref (He.ma K (He.ga K "NoNumber") "__init__")) = true) (HX.eqB_ok (c.b 138 : HX.eqB (PySem.W.findIn K (.ref (He.ga K "NoNumber")) "thing") (some none) = true)) (HX.eqB_ok (c.b 139 : HX.eqB (PySem.W.findIn K (.ref (He.ga K "NoProgram")) "__getattribute__") (some (some (.builtin "BaseException.__getattribute__"))) = true)) (HX.eqB_ok (c.b 140 : HX.eqB (PySem.W.findIn K (.ref (He.ga K "NoProgram")) "__getattr__") (some none) = true)) (HX.eqB_ok (c.b 141 : HX.eqB (PySem.W.findIn K (.ref (He.ga K "NoProgram")) "__class__") (some (some (.builtin "object.__class__"))) = true)) (HX.eqB_ok (c.b 142 : HX.eqB (PySem.W.mroIn K (He.ga K "NoProgram") (.type "object")) (some true) = true)) (c.b 143 : PySem.W.keepIn K (.ref (He.ga K "NoProgram")) = true) h_xL_NoProgram v_xL_NoProgram (HX.eqB_ok (c.b 145 : HX.eqB (PySem.W.findIn K (.ref (He.ga K "NoProgram")) "__setattr__") (some (some (.builtin "object.__setattr__"))) = true)) (HX.eqB_ok (c.b 146 : HX.eqB (PySem.W.findIn K (.ref (He.ga K "NoProgram")) "__init__") (some (some (.ref (He.ma K (He.ga K "NoProgram") "__init__")))) = true)) (HX.eqB_ok (c.b 147 : HX.eqB (PySem.W.typeIn K (.ref (He.ma K (He.ga K "NoProgram") "__init__"))) (some (.type "function")) = true)) l_i3_NoProgram c_i3_NoProgram (c.b 148 : PySem.W.keepIn K (.ref (He.ma K (He.ga K "NoProgram") "__init__")) = true) (HX.eqB_ok (c.b 149 : HX.eqB (PySem.W.findIn K (.ref (He.ga K "NoProgram")) "part") (some none) = true)) (HX.eqB_ok (c.b 150 : HX.eqB (PySem.W.findIn K (.ref (He.ga K "NoProgram")) "number") (some none) = true)) (HX.eqB_ok (c.b 151 : HX.eqB (PySem.W.findIn K (.ref (He.ga K "NoText")) "__getattribute__") (some (some (.builtin "BaseException.__getattribute__"))) = true)) (HX.eqB_ok (c.b 152 : HX.eqB (PySem.W.findIn K (.ref (He.ga K "NoText")) "__getattr__") (some none) = true)) (HX.eqB_ok (c.b 153 : HX.eqB (PySem.W.findIn K (.ref (He.ga K "NoText")) "__class__") (some (some (.builtin "object.__class__"))) = true)) (HX.eqB_ok (c.b 154 : HX.eqB (PySem.W.mroIn K (He.ga K "NoText") (.type "object")) (some true) = true)) (c.b 155 : PySem.W.keepIn K (.ref (He.ga K "NoText")) = true) h_xL_NoText v_xL_NoText (HX.eqB_ok (c.b 157 : HX.eqB (PySem.W.findIn K (.ref (He.ga K "NoText")) "__setattr__") (some (some (.builtin "object.__setattr__"))) = true)) (HX.eqB_ok (c.b 158 : HX.eqB (PySem.W.findIn K (.ref (He.ga K "NoText")) "__init__") (some (some (.ref (He.ma K (He.ga K "NoText") "__init__")))) = true)) (HX.eqB_ok (c.b 159 : HX.eqB (PySem.W.typeIn K (.ref (He.ma K (He.ga K "NoText") "__init__"))) (some (.type "function")) = true)) l_i3_NoText c_i3_NoText (c.b 160 : PySem.W.keepIn K (.ref (He.ma K (He.ga K "NoText") "__init__")) = true) (HX.eqB_ok (c.b 161 : HX.eqB (PySem.W.findIn K (.ref (He.ga K "NoText")) "row") (some none) = true)) (HX.eqB_ok (c.b 162 : HX.eqB (PySem.W.specialIn K (.ref (He.ga K "WeighError")) "__getattribute__") (some (some (.builtin "type.__getattribute__"))) = true)) (c.b 163 : PySem.W.readsIn K (He.ga K "WeighError") (.type "type") = true) (HX.valB_ok (c.b 164 : HX.valB (PySem.W.findCls K (.ref (He.ga K "WeighError")) (.type "type") "__init__") (.builtin "ValueError.__init__") = true)) (HX.eqB_ok (c.b 165 : HX.eqB (PySem.W.subIn K (.ref (He.ga K "NoNumber")) (.ref (He.ga K "NoText"))) (some false) = true)) (HX.notB_ok (c.b 166 : (!(Value.ref (He.ga K "NoNumber") == Value.ref (He.ga K "NoText"))) = true)) (HX.eqB_ok (c.b 167 : HX.eqB (PySem.W.subIn K (.ref (He.ga K "NoProgram")) (.ref (He.ga K "NoText"))) (some false) = true)) (HX.notB_ok (c.b 168 : (!(Value.ref (He.ga K "NoProgram") == Value.ref (He.ga K "NoText"))) = true)) (HX.eqB_ok (c.b 169 : HX.eqB (PySem.W.subIn K (.ref (He.ga K "NoText")) (.ref (He.ga K "NoText"))) (some true) = true))
end Lw

section
open PySem PySem.W PyProof.Rows
set_option maxRecDepth 100000 in
set_option maxHeartbeats 0 in
theorem Lw.headFirst (goes : ∀ ns : List Int, ns.length ≤ 63 → ∃ S', Lw.f_law [.ro (ns.map DL.D.int)] [] = .ok (.bl true) S') : PySem.Challenge.rw_downweigh_k22_programs_written.Holds := by
  w_on; o_law
  refine HandSHeadRun.head_any (r := OpenLaw.row PySem.Challenge.rw_downweigh_k22_programs_written) (q := view (OpenLaw.row PySem.Challenge.rw_downweigh_k22_programs_written).prog [60]) (H := Lw.hhk) (ob := Lw.hob) (M := 8000) (loose := Lw.hnames) (d := HandSHeadRun.topDef (OpenLaw.row PySem.Challenge.rw_downweigh_k22_programs_written).prog 60) (kwd := []) Lw.hob_eq
    (by kernel_rfl) (fun s => by kernel_rfl) Lw.hrun (by kernel_rfl) (by kernel_rfl) (by kernel_rfl) (by rfl) (by first | assumption | decide +kernel) (by decide +kernel) ⟨rfl, rfl, rfl, rfl, rfl, by decide +kernel⟩ ?hw ?hc
  case hw => w_witness2
  case hc =>
    refine DL.walk_ofZ (l := PySem.Challenge.rw_downweigh_k22_programs_written) (n := 63) (k := 11) (m := Lw.f_law) (x := "_law_script") (by decide +kernel) rfl (by decide) (by kernel_rfl) ⟨rfl, by decide, by decide⟩ ?F goes
    intro w mg fa h Y G hmg0
    obtain ⟨K, KX, c⟩ := Y
    have hmg : mg ("law" : PySem.Str) = some (.ref fa) := by
      have e : (HandSHeadRun.topDef (OpenLaw.row PySem.Challenge.rw_downweigh_k22_programs_written).prog 60).name = ("law" : PySem.Str) := by kernel_rfl
      rw [← e]
      exact hmg0
    exact ⟨K, KX, Lw.hfacts KX G hmg c⟩
end

namespace Lp
open PySem PySem.Spec PyProof.Rows DL
noncomputable section
local macro_rules | `(tactic| walk_at "sz") => `(tactic| first | (simp [sizeLine_eq]; done) | (simp only [List.length_cons, List.length_nil, sizeLine_eq]; omega) | (rw [sizeLine_eq]; omega))
local macro_rules | `(tactic| walk_at "dl1") => `(tactic| first
  | (with_reducible refine k_seq ?_) | (with_reducible refine k_set ?_) | (with_reducible refine k_L ?_) | (with_reducible refine k_cons ?_) | (with_reducible refine k_nil ?_) | (with_reducible refine k_c ?_)
  | ((with_reducible refine k_var (d := ?dd) ?hh ?_); (case hh => rfl))
  | (with_reducible refine k_e2 ?_) | (with_reducible refine k_e1 ?_) | (with_reducible refine k_ret ?_) | (with_reducible refine k_if ?_) | (with_reducible refine k_bVal ?_) | (with_reducible refine k_mBool ?_)
  | (with_reducible refine k_nx ?_) | (with_reducible refine k_for ?_) | (with_reducible refine k_imOf ?_) | (with_reducible refine k_imOfA ?_) | (with_reducible refine k_expr ?_) | (with_reducible refine k_chain ?_)
  | (with_reducible refine k_eAnd ?_) | (with_reducible refine k_eOr ?_) | (with_reducible refine k_eNot ?_) | (with_reducible refine k_bAnd ?_) | (with_reducible refine k_bOr ?_) | (with_reducible refine k_bNot ?_) | (with_reducible refine k_eIf ?_)
  | (with_reducible refine k_K ?_) | (with_reducible refine k_Sl ?_) | (with_reducible refine k_oNone ?_) | ((with_reducible refine k_oSome ?_); skip) | (with_reducible refine k_lc ?_) | (with_reducible refine k_lcC ?_) | (with_reducible refine k_sub ?_) | (with_reducible refine k_yes ?_)
  | (with_reducible refine k_Mt ?_) | (with_reducible refine k_brk ?_) | (with_reducible refine k_cnt ?_) | (with_reducible refine k_retN ?_) | (with_reducible refine k_asg ?_) | (with_reducible refine k_asgL ?_) | (with_reducible refine k_par ?_) | (with_reducible refine k_star ?_)
  | ((with_reducible refine k_tup ?hz ?_); (case hz => walk_at "sz")) | ((with_reducible refine k_lst ?hz ?_); (case hz => walk_at "sz")) | ((with_reducible refine k_cell ?hz ?_); (case hz => walk_at "sz"))
  | (with_reducible refine o_add ?_) | (with_reducible refine o_sub ?_) | (with_reducible refine o_lt ?_) | (with_reducible refine o_le ?_) | (with_reducible refine o_gt ?_) | (with_reducible refine o_ge ?_) | (with_reducible refine o_neg ?_)
  | (with_reducible refine o_eqI ?_) | (with_reducible refine o_neI ?_) | (with_reducible refine o_eqS ?_) | (with_reducible refine o_neS ?_) | (with_reducible refine o_eqB ?_) | (with_reducible refine o_abs ?_) | (with_reducible refine o_max2 ?_) | (with_reducible refine o_min2 ?_)
  | (with_reducible refine o_intB ?_) | (with_reducible refine o_intI ?_)
  | ((with_reducible refine o_ix (v := ?vv) ?hi ?_); (case hi => rfl)) | ((with_reducible refine o_lenL (xs := ?vv) ?hi ?_); (case hi => rfl)) | ((with_reducible refine o_sl (xs := ?vv) ?hi ?_); (case hi => rfl))
  | (with_reducible refine L2.iteT ?_) | (with_reducible refine L2.iteF ?_)
  | (with_reducible refine ⟨_, rfl, ?_⟩) | (with_reducible refine ⟨_, _, rfl, ?_⟩)
  | dsimp only)
local macro_rules | `(tactic| walk_at "dl") => `(tactic| repeat walk_at "dl1")

/-! ### the law's pool -/
/-- the pool at p -/
def IsPool (S : Sto) (p : Nat) : Prop := ∃ a b : Int, 0 ≤ a ∧ 0 ≤ b ∧ S[p]? = some (some (.lst [.int a, .int b]))
/-- only the pool at p is drawn from -/
structure SP (p : Nat) (S S' : Sto) : Prop where
  len : S'.length = S.length
  oth : ∀ i : Nat, i ≠ p → S'[i]? = S[i]?
  pool : IsPool S' p
theorem SP.refl {p : Nat} {S : Sto} (h : IsPool S p) : SP p S S := ⟨rfl, fun _ _ => rfl, h⟩
theorem SP.trans {p : Nat} {S S1 S2 : Sto} (a : SP p S S1) (b : SP p S1 S2) : SP p S S2 := ⟨b.len.trans a.len, fun i h => (b.oth i h).trans (a.oth i h), b.pool⟩
theorem SP.set {p : Nat} {S : Sto} {a b : Int} (h : IsPool S p) (h0 : 0 ≤ a) (h1 : 0 ≤ b) : SP p S (S.set p (some (.lst [.int a, .int b]))) := by
  obtain ⟨_, _, _, _, e⟩ := h
  have hp := (List.getElem?_eq_some_iff.mp e).1
  exact ⟨by simp, fun i hi => by rw [List.getElem?_set_ne (Ne.symm hi)], a, b, h0, h1, by rw [List.getElem?_set_self hp]⟩
theorem pool_ix {p : Nat} {S : Sto} {a b : Int} (h : S[p]? = some (some (.lst [.int a, .int b]))) : seqOf S (.cell p) = some [.int a, .int b] := by simp [seqOf, DL.listOf, h]
theorem take_ok {p : Nat} {S : Sto} {n : Int} {P : D → Sto → Prop} (h : IsPool S p) (h0 : 0 < n) (hn : n < 2 ^ 62) (k : ∀ (r : Int) S', 0 ≤ r → r < n → SP p S S' → P (.int r) S') : Ok (Lw.f__law_take [.cell p, .int n] S) P := by
  obtain ⟨a, b, ha, hb, e⟩ := id h
  have hp := (List.getElem?_eq_some_iff.mp e).1
  have hlog : n.natAbs.log2 < 9000 := (show Sz 62 n by unfold Sz; omega).log (by decide) |> fun z => by omega
  unfold Lw.f__law_take
  refine k_fn rfl ?_
  unfold Lw.d__law_take
  walk_at "dl"
  refine o_ix (v := .int a) (by rw [pool_ix e]; rfl) ?_
  walk_at "dl"
  by_cases hz : 0 < a
  · rw [if_pos (by simpa using hz)]
    walk_at "dl"
    refine o_ix (v := .int a) (by rw [pool_ix e]; rfl) ?_
    walk_at "dl"
    refine o_mod (by omega) ?_
    walk_at "dl"
    refine o_ix (v := .int a) (by rw [pool_ix e]; rfl) ?_
    walk_at "dl"
    refine o_fdiv (by omega) hlog ?_
    walk_at "dl"
    refine ⟨S.set p (some (.lst [.int (a.fdiv n), .int b])), by simp only [setD, e]; rfl, ?_⟩
    walk_at "dl"
    rw [trim_same (by simp)]
    refine k _ _ ?_ ?_ (SP.set h ?_ hb)
    · rw [Int.fmod_eq_emod_of_nonneg _ (by omega)]; exact Int.emod_nonneg _ (by omega)
    · rw [Int.fmod_eq_emod_of_nonneg _ (by omega)]; exact Int.emod_lt_of_pos _ h0
    · rw [Int.fdiv_eq_ediv_of_nonneg _ (by omega)]; exact Int.ediv_nonneg ha (by omega)
  · rw [if_neg (by simpa using hz)]
    walk_at "dl"
    refine o_ix (v := .int b) (by rw [pool_ix e]; rfl) ?_
    walk_at "dl"
    refine o_mul (.of_right (by decide)) ?_
    walk_at "dl"
    refine o_mod (by decide) ?_
    walk_at "dl"
    generalize hc : (b * 48271 + 12347).fmod 2147483647 = c
    have hc0 : 0 ≤ c := by rw [← hc, Int.fmod_eq_emod_of_nonneg _ (by decide)]; exact Int.emod_nonneg _ (by decide)
    have hc1 : c < 2147483647 := by rw [← hc, Int.fmod_eq_emod_of_nonneg _ (by decide)]; exact Int.emod_lt_of_pos _ (by decide)
    have e2 : (S.set p (some (CO.lst [.int a, .int c])))[p]? = some (some (.lst [.int a, .int c])) := by rw [List.getElem?_set_self hp]
    refine ⟨S.set p (some (.lst [.int a, .int c])), by simp only [setD, e]; rfl, ?_⟩
    walk_at "dl"
    refine o_ix (v := .int c) (by rw [pool_ix e2]; rfl) ?_
    walk_at "dl"
    refine o_ix (v := .int c) (by rw [pool_ix e2]; rfl) ?_
    walk_at "dl"
    have sc : Sz 32 c := by unfold Sz; omega
    refine o_mul (sc.mulOk sc) ?_
    walk_at "dl"
    refine o_mod (by decide) ?_
    walk_at "dl"
    refine o_fdiv (by decide) (by decide) ?_
    walk_at "dl"
    refine o_mod (by omega) ?_
    walk_at "dl"
    rw [trim_same (by simp)]
    refine k _ _ ?_ ?_ (SP.set h ha hc0)
    · rw [Int.fmod_eq_emod_of_nonneg _ (by omega)]; exact Int.emod_nonneg _ (by omega)
    · rw [Int.fmod_eq_emod_of_nonneg _ (by omega)]; exact Int.emod_lt_of_pos _ h0

/-! ### fractions, lowest terms -/
/-! ### what is drawn -/
theorem atI_mem {xs : List D} {i : Int} (h0 : 0 ≤ i) (h1 : i < xs.length) : ∃ v, v ∈ xs ∧ L2.atI xs i = some v := by
  have hi : i.toNat < xs.length := by omega
  refine ⟨xs[i.toNat], List.getElem_mem hi, ?_⟩
  unfold L2.atI L2.ixN
  rw [if_pos h0, if_pos h1]
  exact List.getElem?_eq_getElem hi
theorem o_pick {xs : List D} {i : Int} {S : Sto} {P : D → Sto → Prop} (Q : D → Prop) (h0 : 0 ≤ i) (h1 : i < xs.length) (hq : ∀ d ∈ xs, Q d) (q : ∀ v, Q v → P v S) : Ok (oIx (.lst xs) (.int i) S) P := by
  obtain ⟨v, hm, e⟩ := atI_mem h0 h1
  exact o_ix (v := v) (by show L2.atI xs i = _; exact e) (q v (hq v hm))
/-! ### kinds of things -/
def kn : D → String
  | .non => "NoneType"
  | .bl _ => "bool"
  | .int _ => "int"
  | .str _ => "str"
  | .tup _ => "tuple"
  | .dE => "dict"
  | _ => "list"
def isT : D → Bool
  | .tup _ => true
  | _ => false
def isL : D → Bool
  | .lst _ => true
  | .ro _ => true
  | _ => false
def isI : D → Bool
  | .int _ => true
  | .bl _ => true
  | _ => false
def isB : D → Bool
  | .bl _ => true
  | _ => false
def isS : D → Bool
  | .str _ => true
  | _ => false
def isW : D → Bool
  | .int _ => true
  | _ => false
theorem kind_pr {S : Sto} {k : Nat} {d : D} (h : d.pr k = true) : kindD S d = some (kn d) := by
  cases d with
  | cell n => simp [D.pr] at h
  | ty n => simp [D.pr] at h
  | err _ _ _ => simp [D.pr] at h
  | cls _ => simp [D.pr] at h
  | _ => rfl
section
variable {S : Sto} {P : D → Sto → Prop} {k : Nat} {d : D}
theorem o_isT (h : d.pr k = true) (q : P (.bl (isT d)) S) : Ok (fIsi [d, .ty "tuple"] S) P := by
  refine o_isi (kind_pr h) ?_ q
  cases d with
  | cell n => simp [D.pr] at h
  | ty n => simp [D.pr] at h
  | err _ _ _ => simp [D.pr] at h
  | cls _ => simp [D.pr] at h
  | _ => simp only [kn, isT, isL, isI, isB, isS]; decide +kernel
theorem o_isL (h : d.pr k = true) (q : P (.bl (isL d)) S) : Ok (fIsi [d, .ty "list"] S) P := by
  refine o_isi (kind_pr h) ?_ q
  cases d with
  | cell n => simp [D.pr] at h
  | ty n => simp [D.pr] at h
  | err _ _ _ => simp [D.pr] at h
  | cls _ => simp [D.pr] at h
  | _ => simp only [kn, isT, isL, isI, isB, isS]; decide +kernel
theorem o_isI (h : d.pr k = true) (q : P (.bl (isI d)) S) : Ok (fIsi [d, .ty "int"] S) P := by
  refine o_isi (kind_pr h) ?_ q
  cases d with
  | cell n => simp [D.pr] at h
  | ty n => simp [D.pr] at h
  | err _ _ _ => simp [D.pr] at h
  | cls _ => simp [D.pr] at h
  | _ => simp only [kn, isT, isL, isI, isB, isS]; decide +kernel
theorem o_isB (h : d.pr k = true) (q : P (.bl (isB d)) S) : Ok (fIsi [d, .ty "bool"] S) P := by
  refine o_isi (kind_pr h) ?_ q
  cases d with
  | cell n => simp [D.pr] at h
  | ty n => simp [D.pr] at h
  | err _ _ _ => simp [D.pr] at h
  | cls _ => simp [D.pr] at h
  | _ => simp only [kn, isT, isL, isI, isB, isS]; decide +kernel
theorem o_isS (h : d.pr k = true) (q : P (.bl (isS d)) S) : Ok (fIsi [d, .ty "str"] S) P := by
  refine o_isi (kind_pr h) ?_ q
  cases d with
  | cell n => simp [D.pr] at h
  | ty n => simp [D.pr] at h
  | err _ _ _ => simp [D.pr] at h
  | cls _ => simp [D.pr] at h
  | _ => simp only [kn, isT, isL, isI, isB, isS]; decide +kernel
theorem isW_eq (d : D) : isW d = (isI d && !isB d) := by cases d <;> rfl
theorem is_whole_ok (h : d.pr k = true) (q : P (.bl (isW d)) S) : Ok (Lw.f_is_whole [d] S) P := by
  unfold Lw.f_is_whole
  refine k_fn rfl ?_
  unfold Lw.d_is_whole
  walk_at "dl"
  refine o_isI h ?_
  walk_at "dl"
  rw [isW_eq] at q
  cases hI : isI d with
  | false =>
    rw [if_neg (by simp)]
    rw [trim_same rfl]
    rw [hI] at q; exact q
  | true =>
    rw [if_pos rfl]
    walk_at "dl"
    refine o_isB h ?_
    walk_at "dl"
    rw [trim_same rfl]
    rw [hI] at q; exact q
end
/-- the shapes that are told apart -/
theorem fr_shape (d : D) : isT d = false ∨ (∃ xs, d = .tup xs ∧ xs.length ≠ 2) ∨ ∃ x y, d = .tup [x, y] := by
  cases d with
  | tup xs =>
    right
    by_cases h : xs.length = 2
    · right
      match xs, h with
      | [x, y], _ => exact ⟨x, y, rfl⟩
    · exact .inl ⟨xs, rfl, h⟩
  | _ => exact .inl rfl
theorem pr_two {k : Nat} {x y : D} (h : (D.tup [x, y]).pr k = true) : x.pr (k - 1) = true ∧ y.pr (k - 1) = true := by
  simp only [D.pr, D.prL, Bool.and_eq_true] at h
  exact ⟨h.2.1, h.2.2.1⟩

section
variable {n : Nat} {S : Sto} {P : D → Sto → Prop} {z : Int}
theorem look_at_many_ok (hn : n ≤ 8) (hz : z = (n : Int)) (q : P .non S) : Ok (Lw.f_look_at_many [.int z] S) P := by
  unfold Lw.f_look_at_many
  refine k_fn rfl ?_
  unfold Lw.d_look_at_many Lw.c_MOST_NUMBERS_wishes
  walk_at "dl"
  refine is_whole_ok (k := 1) (by rfl) ?_
  walk_at "dl"
  with_reducible refine k_ifF ?hc ?_
  case hc => simp [isW]
  walk_at "dl"
  with_reducible refine k_ifT ?hc ?_
  case hc => simp; omega
  walk_at "dl"
  with_reducible refine k_ifF ?hc ?_
  case hc => simp; omega
  walk_at "dl"
  rw [trim_same rfl]
  exact q
end

/-! ### kinds of things -/
section
variable {S : Sto} {P : D → Sto → Prop} {k : Nat} {d : D}
end
def toldB : D → Bool
  | .tup [.str _, _] => true
  | _ => false
theorem told_no {t : D} (h : isT t = false) : toldB t = false := by cases t <;> first | rfl | cases h
theorem told_len {xs : List D} (h : xs.length ≠ 2) : toldB (.tup xs) = false := by
  unfold toldB
  split
  · rename_i e; cases e; simp at h
  · rfl
theorem told_two {x y : D} : toldB (.tup [x, y]) = isS x := by cases x <;> rfl
theorem told_get {t : D} (h : toldB t = true) : ∃ s b, t = .tup [.str s, b] := by
  unfold toldB at h
  split at h
  · exact ⟨_, _, rfl⟩
  · cases h
section
variable {t : D} {S : Sto} {P : D → Sto → Prop} {PB : Bool → Sto → Prop}
theorem told_test {k i : Nat} {ρ : DL.Env} (hi : ρ[i]? = some (some t)) (ht : t.pr k = true) (q : PB (!toldB t) S) :
    Ok (bOr (bNot (bVal (eL fIsi (aCons (eVar i) (aCons (eC (.ty "tuple")) aNil))))) (bOr (bVal (e2 oNe (eL fLen (aCons (eVar i) aNil)) (eC (.int 2)))) (bNot (bVal (eL fIsi (aCons (e2 oIx (eVar i) (eC (.int 0))) (aCons (eC (.ty "str")) aNil)))))) ρ S) PB := by
  have v : ∀ {S : Sto} {P : D → Sto → Prop}, P t S → Ok (eVar i ρ S) P := fun q => k_var hi q
  refine k_bOr (k_bNot (k_bVal (k_L (k_cons (v (k_cons (k_c (k_nil (o_isT ht (k_mBool ?_))))))))))
  rcases fr_shape t with hT | ⟨xs, rfl, hx⟩ | ⟨x, y, rfl⟩
  · rw [hT]
    with_reducible refine k_ifT ?hc ?_
    case hc => rfl
    rw [told_no hT] at q; exact q
  · with_reducible refine k_ifF ?hc ?_
    case hc => simp [isT]
    refine k_bOr (k_bVal (k_e2 (k_L (k_cons (v (k_nil (o_lenL (xs := xs) rfl (k_c (o_neI (k_mBool ?_))))))))))
    with_reducible refine k_ifT ?hc ?_
    case hc => simp; omega
    rw [told_len hx] at q; exact q
  · with_reducible refine k_ifF ?hc ?_
    case hc => simp [isT]
    refine k_bOr (k_bVal (k_e2 (k_L (k_cons (v (k_nil (o_lenL (xs := [x, y]) rfl (k_c (o_neI (k_mBool ?_))))))))))
    with_reducible refine k_ifF ?hc ?_
    case hc => simp
    refine k_bNot (k_bVal (k_L (k_cons (k_e2 (v (k_c (o_ix (v := x) rfl (k_cons (k_c (k_nil (o_isS (pr_two ht).1 (k_mBool ?_)))))))))))) 
    rw [told_two] at q; exact q
end
section
variable {n : Nat} {S : Sto} {P : D → Sto → Prop} {z : Int}
end

abbrev Wi := Str × List Int
def rD (row : List Int) : D := .lst (row.map .int)
def wD (w : Wi) : D := .tup [.str w.1, rD w.2]
structure WiOk (r n : Nat) (w : Wi) : Prop where
  word : w.1 = "least" ∨ w.1 = "just"
  len : w.2.length = n + 1
  sz : ∀ i ∈ w.2, Sz r i
theorem WiOk.mono {r s n : Nat} {w : Wi} (h : WiOk r n w) (l : r ≤ s) : WiOk s n w := ⟨h.word, h.len, fun i hi => (h.sz i hi).mono l⟩

/-! ### lines and wishes -/
theorem o_in {d e : D} {b : Bool} {S : Sto} {P : D → Sto → Prop} (h : inD S d e = some b) (q : P (.bl b) S) : Ok (oIn d e S) P := by
  unfold oIn; rw [h]; exact ⟨q⟩
/-- what can be shown, not too great -/
abbrev Th (d : D) : Prop := DatE 50 8000 d
def lineD (n : Nat) : D → Bool
  | .lst xs => decide (xs.length = n + 1) && xs.all isW
  | .ro xs => decide (xs.length = n + 1) && xs.all isW
  | _ => false
theorem bulk_len : ∀ xs : List D, xs.length ≤ PyData.bulkAll (D.pyL xs)
  | [] => Nat.zero_le _
  | x :: xs => by
    have := bulk_len xs
    simp only [D.pyL, PyData.bulkAll, List.length_cons]
    omega
theorem prL_mem {k : Nat} : ∀ {xs : List D}, D.prL k xs = true → ∀ x ∈ xs, x.pr k = true
  | [], _, x, h => absurd h (by simp)
  | y :: ys, h, x, hx => by
    simp only [D.prL, Bool.and_eq_true] at h
    rcases List.mem_cons.mp hx with rfl | hx
    · exact h.1
    · exact prL_mem h.2 x hx
theorem line_shape {d : D} (h : Th d) : (isL d = false ∧ ∀ n, lineD n d = false) ∨ ∃ xs, (∀ S, seqOf S d = some xs) ∧ (∀ S, DL.listOf S d = some xs) ∧ (∀ (S : Sto) (PI : ItD → Sto → Prop), PI (itL xs) S → Ok (mItL d S) PI) ∧ (∀ x ∈ xs, x.pr 49 = true) ∧ xs.length ≤ 8000 ∧ isL d = true ∧ ∀ n, lineD n d = (decide (xs.length = n + 1) && xs.all isW) := by
  cases d with
  | lst xs =>
    right
    have hp := h.pl
    have hb := h.bk
    simp only [D.pr, Bool.and_eq_true] at hp
    simp only [D.py, PyData.bulk] at hb
    exact ⟨xs, fun _ => rfl, fun _ => rfl, fun S PI q => i_list q, prL_mem hp.2, Nat.le_trans (bulk_len xs) hb, rfl, fun _ => rfl⟩
  | ro xs =>
    right
    have hp := h.pl
    have hb := h.bk
    simp only [D.pr, Bool.and_eq_true] at hp
    simp only [D.py, PyData.bulk] at hb
    exact ⟨xs, fun _ => rfl, fun _ => rfl, fun S PI q => i_ro q, prL_mem hp.2, Nat.le_trans (bulk_len xs) hb, rfl, fun _ => rfl⟩
  | _ => exact .inl ⟨rfl, fun _ => rfl⟩
theorem dat_two {k b : Nat} {x y : D} (h : DatE k b (.tup [x, y])) : DatE k b y := by
  have hp := h.pl; have hs := h.sh; have hl := h.lf; have hb := h.bk
  simp only [D.pr, D.prL, Bool.and_eq_true] at hp
  simp only [D.py, D.pyL, PyData.showable, PyData.showableAll, Bool.and_eq_true] at hs
  simp only [D.py, D.pyL, PyData.leavesShort, PyData.leavesShortAll, Bool.and_eq_true] at hl
  simp only [D.py, D.pyL, PyData.bulk, PyData.bulkAll] at hb
  exact ⟨pr_up (by omega) hp.2.2.1, hs.2.1, hl.2.1, by omega⟩
def wordB (s : Str) : Bool := [D.str "least", D.str "just"].any fun y => eqF y (.str s)
def wishB (n : Nat) : D → Bool
  | .tup [.str s, l] => wordB s && lineD n l
  | _ => false
theorem wish_no {n : Nat} {t : D} (h : toldB t = false) : wishB n t = false := by
  unfold wishB
  split
  · cases h
  · rfl
section
variable {n : Nat} {d e : D} {S : Sto} {P : D → Sto → Prop} {z : Int}
theorem is_line_ok (h : Th d) (hn : n ≤ 8) (hz : z = (n : Int)) (q : P (.bl (lineD n d)) S) : Ok (Lw.f_is_line [.int z, d] S) P := by
  unfold Lw.f_is_line
  refine k_fn rfl ?_
  unfold Lw.d_is_line
  walk_at "dl"
  refine look_at_many_ok hn hz ?_
  walk_at "dl"
  refine o_isL h.pl ?_
  walk_at "dl"
  rcases line_shape h with ⟨e1, e2⟩ | ⟨xs, hs, hL, hm, hx, hl, e1, e2⟩
  · rw [e1]
    with_reducible refine k_ifF ?hc ?_
    case hc => simp
    rw [trim_same rfl]
    rw [e2] at q; exact q
  rw [e1]
  with_reducible refine k_ifT ?hc ?_
  case hc => rfl
  walk_at "dl"
  refine o_lenL (hs _) ?_
  walk_at "dl"
  rw [e2] at q
  by_cases hn : xs.length = n + 1
  case neg =>
    with_reducible refine k_ifF ?hc ?_
    case hc => simp; omega
    rw [trim_same rfl]
    rw [decide_eq_false hn] at q; exact q
  with_reducible refine k_ifT ?hc ?_
  case hc => simp; omega
  walk_at "dl"
  refine hm _ _ ?_
  refine lc_mapN (l := xs) (f := fun x => x) (g := fun x => .bl (isW x)) rfl (fun i => by simp [itL]) (by rw [sizeLine_eq]; omega) ?_ ?_
  · intro x hx'
    refine ⟨_, rfl, ?_⟩
    walk_at "dl"
    exact is_whole_ok (hx x hx') ⟨rfl, rfl⟩
  walk_at "dl"
  refine o_all (bs := xs.map isW) (by
    rw [show (xs.map fun x => D.bl (isW x)) = (xs.map isW).map D.bl by rw [List.map_map]; rfl]
    exact blsOf_map _) ?_
  walk_at "dl"
  rw [List.all_map, show (id ∘ isW) = isW from rfl, trim_same rfl]
  rw [decide_eq_true hn, Bool.true_and] at q
  exact q
theorem is_wish_ok (h : Th d) (hn : n ≤ 8) (hz : z = (n : Int)) (q : P (.bl (wishB n d)) S) : Ok (Lw.f_is_wish [.int z, d] S) P := by
  unfold Lw.f_is_wish
  refine k_fn rfl ?_
  unfold Lw.d_is_wish
  walk_at "dl"
  refine look_at_many_ok hn hz ?_
  try dsimp only
  refine k_seq (k_if (told_test rfl h.pl ?_))
  cases ht : toldB d with
  | false =>
    refine k_ifT (by simp) ?_
    walk_at "dl"
    rw [trim_same rfl]
    rw [wish_no ht] at q; exact q
  | true =>
    obtain ⟨s, l, rfl⟩ := told_get ht
    with_reducible refine k_ifF ?hc ?_
    case hc => simp
    walk_at "dl"
    unfold Lw.c_LEAST Lw.c_JUST
    refine o_in (b := wordB s) (by rfl) ?_
    walk_at "dl"
    have q' : P (.bl (wordB s && lineD n l)) S := q
    cases hw : wordB s with
    | false =>
      with_reducible refine k_ifF ?hc ?_
      case hc => simp
      rw [trim_same rfl]
      rw [hw] at q'; exact q'
    | true =>
      with_reducible refine k_ifT ?hc ?_
      case hc => rfl
      walk_at "dl"
      refine is_line_ok (dat_two h) hn hz ?_
      rw [trim_same rfl]
      rw [hw] at q'; exact q'
end
/-! ### no number of numbers -/
section
variable {k : Nat} {d e : D} {S : Sto} {Q : XD → Sto → Prop}
end

/-! ### texts of signs -/
/-! ### what can be shown, by makes -/
theorem dat_int {k b s : Nat} {i : Int} (h : Sz s i) (h0 : 0 < s) (h1 : s ≤ 1920) : DatE k b (.int i) := (DatE.int h h0 h1).mono (Nat.zero_le _)
theorem dat_ints {k b s : Nat} {row : List Int} (h : ∀ i ∈ row, Sz s i) (h0 : 0 < s) (h1 : s ≤ 1920) : ∀ d ∈ row.map D.int, DatE k b d := fun d hd => by
  obtain ⟨i, hi, rfl⟩ := List.mem_map.mp hd
  exact dat_int (h i hi) h0 h1
/-! ### cells beside the pool -/
/-- a cell is kept while the pool is drawn from -/
theorem SP.at {p c : Nat} {S S' : Sto} {xs : List D} (s : SP p S S') (hc : c ≠ p) (h : S[c]? = some (some (.lst xs))) : S'[c]? = some (some (.lst xs)) := (s.oth c hc).trans h
/-- cells beyond S may come; of those of S the pool alone is changed -/
structure SQ (p : Nat) (S S' : Sto) : Prop where
  len : S.length ≤ S'.length
  oth : ∀ i : Nat, i < S.length → i ≠ p → S'[i]? = S[i]?
  pool : IsPool S' p
theorem SQ.refl {p : Nat} {S : Sto} (h : IsPool S p) : SQ p S S := ⟨Nat.le_refl _, fun _ _ _ => rfl, h⟩
theorem SQ.draw {p : Nat} {S S1 S2 : Sto} (a : SQ p S S1) (b : SP p S1 S2) : SQ p S S2 := ⟨by rw [b.len]; exact a.len, fun i h n => (b.oth i n).trans (a.oth i h n), b.pool⟩
theorem IsPool.lt {p : Nat} {S : Sto} (h : IsPool S p) : p < S.length := by
  obtain ⟨_, _, _, _, e⟩ := h
  exact (List.getElem?_eq_some_iff.mp e).1
theorem SQ.push {p : Nat} {S S1 : Sto} {c : Option CO} (a : SQ p S S1) : SQ p S (S1 ++ [c]) := by
  have hp := a.pool.lt
  refine ⟨by simp; have := a.len; omega, fun i h n => ?_, ?_⟩
  · rw [List.getElem?_append_left (by have := a.len; omega)]; exact a.oth i h n
  · obtain ⟨x, y, h0, h1, e⟩ := a.pool
    exact ⟨x, y, h0, h1, by rw [List.getElem?_append_left hp]; exact e⟩
theorem SQ.put {p c : Nat} {S S1 : Sto} {o : Option CO} (a : SQ p S S1) (hc : S.length ≤ c) (hp : p < S.length) : SQ p S (S1.set c o) := by
  refine ⟨by rw [List.length_set]; exact a.len, fun i h n => ?_, ?_⟩
  · rw [List.getElem?_set_ne (by omega)]; exact a.oth i h n
  · obtain ⟨x, y, h0, h1, e⟩ := a.pool
    exact ⟨x, y, h0, h1, by rw [List.getElem?_set_ne (by omega)]; exact e⟩
theorem SQ.trim {p : Nat} {S S' : Sto} {d : D} (a : SQ p S S') (hp : p < S.length) (hd : d.bel S.length = true) : SP p S (trim S d S') := by
  obtain ⟨x, y, h0, h1, e⟩ := a.pool
  have hc : Cut S d S' := by
    refine ⟨hd, fun i c hi h => ?_⟩
    by_cases n : i = p
    · subst n
      rw [e] at h
      cases h
      right; rfl
    · left; rw [← a.oth i hi n]; exact h
  rw [trim_cut hc]
  have hl : (S'.take S.length).length = S.length := by rw [List.length_take, Nat.min_eq_left a.len]
  refine ⟨hl, fun i n => ?_, x, y, h0, h1, by rw [List.getElem?_take_of_lt hp]; exact e⟩
  by_cases hi : i < S.length
  · rw [List.getElem?_take_of_lt hi]; exact a.oth i hi n
  · rw [List.getElem?_eq_none (by omega), List.getElem?_eq_none (by omega)]

/-! ### programs -/
abbrev Rw := Nat × Nat × List Wi
def rwD (r : Rw) : D := .tup [.int r.1, .int r.2.1, .lst (r.2.2.map wD)]
def nmsD (ns : List Str) : D := .lst (ns.map .str)
abbrev Pg := List Str × List Str × List Rw
def pgD (p : Pg) : D := .tup [nmsD p.1, nmsD p.2.1, .lst (p.2.2.map rwD)]
/-- a name that programs have -/
structure NaOk (s : Str) : Prop where
  lo : 1 ≤ s.length
  hi : s.length ≤ 6
  al : ((signsD s).all fun d => inD [] d (.str "abcdefghijklmnopqrstuvwxyz") == some true) = true
  so : PyData.strOk s = true
structure NasOk (m : Nat) (ns : List Str) : Prop where
  lo : 1 ≤ ns.length
  hi : ns.length ≤ m
  ok : ∀ s ∈ ns, NaOk s
  nd : ns.Nodup
structure RwOk (r n p : Nat) (w : Rw) : Prop where
  st : w.1 < p
  to : w.2.1 < p
  ws : ∀ x ∈ w.2.2, WiOk r (2 * n) x
  len : w.2.2.length ≤ 12
structure PgOk (r : Nat) (p : Pg) : Prop where
  nas : NasOk 3 p.1
  pls : NasOk 6 p.2.1
  rows : ∀ w ∈ p.2.2, RwOk r p.1.length p.2.1.length w
  len : p.2.2.length ≤ 10
theorem NasOk.mono {m k : Nat} {ns : List Str} (h : NasOk m ns) (l : m ≤ k) : NasOk k ns := ⟨h.lo, Nat.le_trans h.hi l, h.ok, h.nd⟩
theorem RwOk.mono {r s n p : Nat} {w : Rw} (h : RwOk r n p w) (l : r ≤ s) : RwOk s n p w := ⟨h.st, h.to, fun x hx => (h.ws x hx).mono l, h.len⟩
theorem PgOk.mono {r s : Nat} {p : Pg} (h : PgOk r p) (l : r ≤ s) : PgOk s p := ⟨h.nas, h.pls, fun w hw => (h.rows w hw).mono l, h.len⟩
theorem enum_get {xs : List D} {i : Nat} {d : D} (h : (enumD xs)[i]? = some d) : ∃ x, xs[i]? = some x ∧ d = .tup [.int i, x] := by
  rw [enumD_get] at h
  cases e : xs[i]? with
  | none => rw [e] at h; cases h
  | some x => rw [e] at h; cases h; exact ⟨x, rfl, rfl⟩
theorem enum_len (xs : List D) : (enumD xs).length = xs.length := by simp [enumD]
theorem o_lenS {z : Str} {S : Sto} {P : D → Sto → Prop} (hz : z.length ≤ sizeLine) (q : P (.int z.length) S) : Ok (fLen [.str z] S) P := by
  unfold fLen
  dsimp only
  rw [if_pos hz]; exact ⟨q⟩
theorem any_str {ns : List Str} {s : Str} : ((ns.map D.str).any fun y => eqF y (.str s)) = decide (s ∈ ns) := by
  induction ns with
  | nil => rfl
  | cons x xs ih =>
    rw [List.map_cons, List.any_cons, ih]
    show ((x == s) || _) = _
    by_cases h : x = s
    · subst h; simp
    · have : s ≠ x := fun z => h z.symm
      simp [h, this]
theorem in_strs {ns : List Str} {s : Str} {S : Sto} : inD S (.str s) (.lst (ns.map .str)) = some (decide (s ∈ ns)) := by
  show (if flatD (.str s) && (ns.map D.str).all flatD then some ((ns.map D.str).any fun y => eqF y (.str s)) else none) = _
  rw [any_str, if_pos (by simp [flatD])]
section
variable {S : Sto} {P : D → Sto → Prop} {r n p m : Nat} {z u : Int} {s : Str} {ns : List Str}
theorem i_strS {PI : ItD → Sto → Prop} (q : PI (itL (signsD s)) S) : Ok (mItS (.str s) S) PI := ⟨q⟩
theorem is_name_ok (h : NaOk s) (q : P (.bl true) S) : Ok (Lw.f_is_name [.str s, .int 6] S) P := by
  have h1 := h.lo
  have h2 := h.hi
  unfold Lw.f_is_name
  refine k_fn rfl ?_
  unfold Lw.d_is_name
  walk_at "dl"
  refine o_isi (k := "str") rfl rfl ?_
  walk_at "dl"
  refine o_lenS (by rw [sizeLine_eq]; omega) ?_
  walk_at "dl"
  refine k_ifT (by simp; omega) ?_
  walk_at "dl"
  refine k_ifT (by simp; omega) ?_
  walk_at "dl"
  refine i_strS ?_
  refine lc_mapN (l := signsD s) (f := fun x => x) (g := fun _ => .bl true) rfl (fun i => by simp [itL]) (by
    have : (signsD s).length = s.length := by simp [signsD]; rfl
    rw [this, sizeLine_eq]; omega) ?_ ?_
  · intro x hx
    refine ⟨_, rfl, ?_⟩
    walk_at "dl"
    have e := List.all_eq_true.mp h.al x hx
    refine o_in (b := true) (by
      have := beq_iff_eq.mp e
      exact this) ⟨rfl, rfl⟩
  walk_at "dl"
  refine o_all (bs := (signsD s).map fun _ => true) (by
    rw [show (signsD s).map (fun _ => D.bl true) = ((signsD s).map fun _ => true).map D.bl by rw [List.map_map]; rfl]
    exact blsOf_map _) ?_
  rw [trim_same rfl, show (((signsD s).map fun _ => true).all id) = true by simp]
  exact q
theorem first_no_name_ok (h : NasOk 1000 ns) (q : P .non S) : Ok (Lw.f_first_no_name [nmsD ns] S) P := by
  unfold Lw.f_first_no_name nmsD
  refine k_fn rfl ?_
  unfold Lw.d_first_no_name
  walk_at "dl"
  refine i_enum ?_
  refine k_forL (fun i ρ S' => S' = S ∧ ∃ x1 x2, ρ = [some (.lst (ns.map .str)), x1, x2]) ⟨rfl, _, _, rfl⟩ ?_ ?_
  · rintro i ρ S' d hd ⟨rfl, x1, x2, rfl⟩
    obtain ⟨x, hx, rfl⟩ := enum_get hd
    obtain ⟨s, hs, rfl⟩ := getElem?_map_some hx
    refine ⟨_, rfl, ?_⟩
    walk_at "dl"
    show Ok (Lw.f_is_name [.str s, .int 6] S') _
    refine is_name_ok (h.ok s (List.mem_of_getElem? hs)) ?_
    walk_at "dl"
    refine k_ifF (by simp) ?_
    walk_at "dl"
    rw [cut_to, ← List.map_take]
    refine o_in in_strs ?_
    walk_at "dl"
    have hn : s ∉ ns.take i := by
      intro hm
      obtain ⟨j, hj, e⟩ := List.getElem_of_mem hm
      rw [List.length_take] at hj
      rw [List.getElem_take] at e
      have hi := (List.getElem?_eq_some_iff.mp hs)
      obtain ⟨hi1, hi2⟩ := hi
      have := (List.getElem_inj h.nd).mp (e.trans hi2.symm)
      omega
    rw [decide_eq_false hn]
    walk_at "dl"
    exact ⟨rfl, _, _, rfl⟩
  · rintro ρ S' ⟨rfl, x1, x2, rfl⟩
    walk_at "dl"
    rw [trim_same rfl]
    exact q
theorem look_at_names_ok {d : D} (h : NasOk m ns) (hm : m ≤ 1000) (hu : u = (m : Int)) (q : P .non S) : Ok (Lw.f_look_at_names [d, nmsD ns, .int u] S) P := by
  subst hu
  have h1 := h.lo
  have h2 := h.hi
  unfold Lw.f_look_at_names
  refine k_fn rfl ?_
  unfold Lw.d_look_at_names
  walk_at "dl"
  refine o_isi (k := "list") rfl rfl ?_
  walk_at "dl"
  refine k_ifF (by simp) ?_
  walk_at "dl"
  refine k_ifT (by simp; omega) ?_
  walk_at "dl"
  refine k_ifF (by simp; omega) ?_
  walk_at "dl"
  refine first_no_name_ok (h.mono hm) ?_
  walk_at "dl"
  refine ok1 ?_
  walk_at "dl"
  rw [trim_same rfl]
  exact q
end

/-! ### programs looked at -/
theorem th_wish {r k : Nat} {w : Wi} (W : WiOk r k w) (h0 : 0 < r) (h1 : r ≤ 1920) (hk : k ≤ 30) : Th (wD w) := by
  have hs : DatE 48 10 (.str w.1) := by
    rcases W.word with e | e
    · rw [e]; exact (DatE.str (by decide +kernel)).mono (by decide +kernel)
    · rw [e]; exact (DatE.str (by decide +kernel)).mono (by decide +kernel)
  have hr : DatE 48 40 (rD w.2) := DatE.lst (k := 47) (DatEL.mono (DatEL.all (b := 0) (n := 40) (fun x hx => by
    obtain ⟨i, hi, rfl⟩ := List.mem_map.mp hx
    exact DatE.int (W.sz i hi) h0 h1) (by rw [List.length_map, W.len]; omega)) (by decide))
  exact ((DatE.tup (DatEL.cons hs (DatEL.cons hr DatEL.nil))).mono (by decide)).up (by decide)
theorem wishB_yes {r k : Nat} {w : Wi} (W : WiOk r k w) : wishB k (wD w) = true := by
  show (wordB w.1 && lineD k (rD w.2)) = true
  have h1 : wordB w.1 = true := by
    rcases W.word with e | e
    · rw [e]; decide +kernel
    · rw [e]; decide +kernel
  have h2 : lineD k (rD w.2) = true := by
    show (decide ((w.2.map D.int).length = k + 1) && (w.2.map D.int).all isW) = true
    rw [List.length_map, W.len, decide_eq_true rfl, Bool.true_and, List.all_map, List.all_eq_true]
    exact fun x _ => rfl
  rw [h1, h2]; rfl
section
variable {S : Sto} {P : D → Sto → Prop} {Q : XD → Sto → Prop} {r n p m : Nat} {z u : Int} {ws : List Wi}
theorem is_wish_w {w : Wi} (W : WiOk r n w) (h0 : 0 < r) (h1 : r ≤ 1920) (hn : n ≤ 8) (hz : z = (n : Int)) (q : P (.bl true) S) : Ok (Lw.f_is_wish [.int z, wD w] S) P :=
  is_wish_ok (th_wish W h0 h1 (by omega)) hn hz (by rw [wishB_yes W]; exact q)
theorem are_wishes_ok (hw : ∀ w ∈ ws, WiOk r n w) (h0 : 0 < r) (h1 : r ≤ 1920) (hn : n ≤ 8) (hz : z = (n : Int)) (hl : ws.length ≤ 12) (q : P (.bl true) S) : Ok (Lw.f_are_wishes [.int z, .lst (ws.map wD), .int 12] S) P := by
  unfold Lw.f_are_wishes
  refine k_fn rfl ?_
  unfold Lw.d_are_wishes
  walk_at "dl"
  refine o_isi (k := "list") rfl rfl ?_
  walk_at "dl"
  refine k_ifT (by simp; omega) ?_
  walk_at "dl"
  refine i_list ?_
  refine lc_map (l := ws) (f := wD) (g := fun _ => .bl true) (by rw [sizeLine_eq]; omega) ?_ ?_
  · intro w hm
    refine ⟨_, rfl, ?_⟩
    walk_at "dl"
    exact is_wish_w (hw w hm) h0 h1 hn hz ⟨rfl, rfl⟩
  walk_at "dl"
  refine o_all (bs := ws.map fun _ => true) (by
    rw [show ws.map (fun _ => D.bl true) = (ws.map fun _ => true).map D.bl by rw [List.map_map]; rfl]
    exact blsOf_map _) ?_
  rw [trim_same rfl, show ((ws.map fun _ => true).all id) = true by simp]
  exact q
theorem is_number_of_ok {a : Nat} (h : a < m) (hz : z = (a : Int)) (hu : u = (m : Int)) (q : P (.bl true) S) : Ok (Lw.f_is_number_of [.int z, .int u] S) P := by
  unfold Lw.f_is_number_of
  refine k_fn rfl ?_
  unfold Lw.d_is_number_of
  walk_at "dl"
  refine is_whole_ok (k := 1) (by rfl) ?_
  walk_at "dl"
  refine k_ifT (by rfl) ?_
  walk_at "dl"
  refine k_ifT (by simp; omega) ?_
  walk_at "dl"
  rw [trim_same rfl, decide_eq_true (show z < u by omega)]
  exact q
theorem is_row_ok {w : Rw} (W : RwOk r n p w) (h0 : 0 < r) (h1 : r ≤ 1920) (hn : n ≤ 4) (hz : z = (n : Int)) (hu : u = (p : Int)) (q : P (.bl true) S) : Ok (Lw.f_is_row [.int z, .int u, rwD w] S) P := by
  unfold Lw.f_is_row rwD
  refine k_fn rfl ?_
  unfold Lw.d_is_row
  walk_at "dl"
  refine o_isi (k := "tuple") rfl rfl ?_
  walk_at "dl"
  refine k_ifF (by simp) ?_
  walk_at "dl"
  refine k_ifF (by simp) ?_
  walk_at "dl"
  refine is_number_of_ok W.st rfl hu ?_
  walk_at "dl"
  refine k_ifF (by simp) ?_
  walk_at "dl"
  refine is_number_of_ok W.to rfl hu ?_
  walk_at "dl"
  refine k_ifF (by simp) ?_
  walk_at "dl"
  refine o_mul (.of_left (by decide)) ?_
  walk_at "dl"
  show Ok (Lw.f_are_wishes [.int (2 * z), .lst (w.2.2.map wD), .int 12] S) _
  refine are_wishes_ok (n := 2 * n) W.ws h0 h1 (by omega) (by omega) W.len ?_
  rw [trim_same rfl]
  exact q
theorem look_at_ok {g : Pg} (G : PgOk r g) (h0 : 0 < r) (h1 : r ≤ 1920) (q : P .non S) : Ok (Lw.f_look_at [pgD g] S) P := by
  have hl := G.len
  have hn := G.nas.hi
  unfold Lw.f_look_at pgD
  refine k_fn rfl ?_
  unfold Lw.d_look_at
  walk_at "dl"
  refine o_isi (k := "tuple") rfl rfl ?_
  walk_at "dl"
  refine k_ifF (by simp) ?_
  walk_at "dl"
  refine k_ifF (by simp) ?_
  walk_at "dl"
  show Ok (Lw.f_look_at_names [.str "names", nmsD g.1, .int 3] S) _
  refine look_at_names_ok G.nas (by decide) rfl ?_
  walk_at "dl"
  show Ok (Lw.f_look_at_names [.str "places", nmsD g.2.1, .int 6] S) _
  refine look_at_names_ok G.pls (by decide) rfl ?_
  walk_at "dl"
  refine o_isi (k := "list") rfl rfl ?_
  walk_at "dl"
  refine k_ifF (by simp) ?_
  walk_at "dl"
  unfold Lw.c_MOST_ROWS
  walk_at "dl"
  refine k_ifF (by simp; omega) ?_
  walk_at "dl"
  refine i_enum ?_
  refine k_forL (fun i ρ S' => S' = S ∧ ∃ x1 x2, ρ = [some (pgD g), some (nmsD g.1), some (nmsD g.2.1), some (.lst (g.2.2.map rwD)), x1, x2]) ⟨rfl, _, _, rfl⟩ ?_ ?_
  · rintro i ρ S' d hd ⟨rfl, x1, x2, rfl⟩
    obtain ⟨x, hx, rfl⟩ := enum_get hd
    obtain ⟨w, hw, rfl⟩ := getElem?_map_some hx
    refine ⟨_, rfl, ?_⟩
    walk_at "dl"
    refine is_row_ok (G.rows w (List.mem_of_getElem? hw)) h0 h1 (by omega) (by simp) (by simp) ?_
    walk_at "dl"
    refine k_ifF (by simp) ?_
    walk_at "dl"
    exact ⟨rfl, _, _, rfl⟩
  · rintro ρ S' ⟨rfl, x1, x2, rfl⟩
    walk_at "dl"
    rw [trim_same rfl]
    exact q
end

/-! ### k21 .. k27: drawn programs -/
def AL : List Nat := [97, 98, 99, 100, 101, 102, 103, 104, 105, 106, 107, 108, 109, 110, 111, 112, 113, 114, 115, 116, 117, 118, 119, 120, 121, 122]
def EN6 : List Nat := [120, 121, 122, 117, 118, 119]
theorem lit_S (s : String) : Str.ofString s = SX.S (s.toList.map Char.toNat) := TL.ext_tl (TL.tl_ofString s)
theorem lit_AL : ("abcdefghijklmnopqrstuvwxyz" : Str) = SX.S AL := lit_S "abcdefghijklmnopqrstuvwxyz"
theorem lit_EN : ("xyzuvw" : Str) = SX.S EN6 := lit_S "xyzuvw"
theorem lit_E0 : ("" : Str) = SX.S [] := lit_S ""
theorem al_at {k : Nat} (h : k < 26) (hk : k < AL.length) : L2.atI (SX.S AL).cps.toList (k : Int) = some AL[k] := by
  have : ∀ k : Fin 26, L2.atI AL ((k.val : Nat) : Int) = AL[k.val]? := by decide
  have e := this ⟨k, h⟩
  rw [List.getElem?_eq_getElem hk] at e
  exact e
theorem en_at {k : Nat} (h : k < 6) (hk : k < EN6.length) : L2.atI (SX.S EN6).cps.toList (k : Int) = some EN6[k] := by
  have : ∀ k : Fin 6, L2.atI EN6 ((k.val : Nat) : Int) = EN6[k.val]? := by decide
  have e := this ⟨k, h⟩
  rw [List.getElem?_eq_getElem hk] at e
  exact e
theorem o_ixS {z : Str} {i : Int} {c : Nat} {S : Sto} {P : D → Sto → Prop} (hz : z.length ≤ sizeLine) (h : L2.atI z.cps.toList i = some c) (q : P (.str (SX.S [c])) S) : Ok (oIx (.str z) (.int i) S) P := by
  unfold oIx; dsimp only; rw [if_pos hz, h]; exact ⟨q⟩
theorem o_addS {a b : Str} {S : Sto} {P : D → Sto → Prop} (hz : a.length + b.length ≤ sizeLine) (q : P (.str (a ++ b)) S) : Ok (oAdd (.str a) (.str b) S) P := by
  show Ok (oAddStr (.str a) (.str b) S) P
  unfold oAddStr; dsimp only; rw [if_pos hz]; exact ⟨q⟩
theorem app_S (a b : List Nat) : SX.S a ++ SX.S b = SX.S (a ++ b) := SX.S_cat a b
theorem na_S {l : List Nat} (h1 : 1 ≤ l.length) (h2 : l.length ≤ 6) (h : ∀ c ∈ l, c ∈ AL) : NaOk (SX.S l) := by
  refine ⟨by rw [SX.S_len]; exact h1, by rw [SX.S_len]; exact h2, ?_, ?_⟩
  · show ((l.map fun c => D.str (SX.S [c])).all _) = true
    rw [List.all_map, List.all_eq_true]
    intro c hc
    have : AL.all (fun c => inD [] (.str (SX.S [c])) (.str "abcdefghijklmnopqrstuvwxyz") == some true) = true := by decide +kernel
    exact List.all_eq_true.mp this c (h c hc)
  · show (l.toArray).all (· < 0x110000) = true
    rw [List.all_toArray, List.all_eq_true]
    intro c hc
    have : AL.all (fun c => decide (c < 0x110000)) = true := by decide
    exact List.all_eq_true.mp this c (h c hc)
/-- drawn names: each ends otherwise -/
structure Nam (ls : List (List Nat)) (i : Nat) : Prop where
  len : ls.length = i
  at_ : ∀ j l, ls[j]? = some l → ∃ w, l = w ++ [EN6.getD j 0] ∧ w.length ≤ 5 ∧ ∀ c ∈ w, c ∈ AL
theorem Nam.push {ls : List (List Nat)} {i : Nat} (N : Nam ls i) {w : List Nat} (h1 : w.length ≤ 5) (h2 : ∀ c ∈ w, c ∈ AL) : Nam (ls ++ [w ++ [EN6.getD i 0]]) (i + 1) := by
  refine ⟨by rw [List.length_append, N.len]; rfl, fun j l h => ?_⟩
  by_cases hj : j < ls.length
  · rw [List.getElem?_append_left hj] at h
    exact N.at_ j l h
  · rw [List.getElem?_append_right (by omega)] at h
    have hj0 : j - ls.length = 0 := by
      by_cases z : j - ls.length = 0
      · exact z
      · rw [List.getElem?_eq_none (by simp; omega)] at h; cases h
    rw [hj0] at h
    have hl := N.len
    have : j = i := by omega
    subst this
    exact ⟨w, (Option.some.inj h).symm, h1, h2⟩
theorem Nam.nas {ls : List (List Nat)} {i : Nat} (N : Nam ls i) (h1 : 1 ≤ i) (h6 : i ≤ 6) : NasOk i (ls.map SX.S) := by
  have e6 : ∀ j, j < 6 → EN6.getD j 0 ∈ AL := by decide
  refine ⟨by rw [List.length_map, N.len]; exact h1, by rw [List.length_map, N.len]; exact Nat.le_refl _, fun s hs => ?_, ?_⟩
  · obtain ⟨l, hl, rfl⟩ := List.mem_map.mp hs
    obtain ⟨j, hj, e⟩ := List.mem_iff_getElem.mp hl
    obtain ⟨w, rfl, l5, ha⟩ := N.at_ j l (by rw [← e]; exact List.getElem?_eq_getElem hj)
    have := N.len
    refine na_S (by simp) (by rw [List.length_append]; simp; omega) fun c hc => ?_
    rcases List.mem_append.mp hc with h | h
    · exact ha c h
    · rw [List.mem_singleton.mp h]; exact e6 j (by omega)
  · have nd6 : ∀ j < 6, ∀ k < 6, EN6.getD j 0 = EN6.getD k 0 → j = k := by decide
    rw [List.Nodup, List.pairwise_map]
    refine List.pairwise_iff_getElem.mpr fun j k hj hk hjk z => ?_
    have z := SX.S_inj z
    obtain ⟨w, e1, -, -⟩ := N.at_ j _ (List.getElem?_eq_getElem hj)
    obtain ⟨v, e2, -, -⟩ := N.at_ k _ (List.getElem?_eq_getElem hk)
    rw [e1, e2] at z
    have := N.len
    have := nd6 j (by omega) k (by omega) (by have := (List.append_inj' z rfl).2; simpa using this)
    omega

/-! ### rows drawn -/
theorem bel_ints (m : Nat) (l : List Int) : D.belL m (l.map .int) = true := belL_all fun d hd => by
  obtain ⟨i, _, rfl⟩ := List.mem_map.mp hd; rfl
theorem bel_w (m : Nat) (w : Wi) : (wD w).bel m = true := by
  simp only [wD, rD, D.bel, D.belL, bel_ints, Bool.and_self]
theorem bel_ws (m : Nat) (ws : List Wi) : D.belL m (ws.map wD) = true := belL_all fun d hd => by
  obtain ⟨w, _, rfl⟩ := List.mem_map.mp hd; exact bel_w m w
def wordQ (d : D) : Prop := ∃ s : Str, d = .str s ∧ (s = "least" ∨ s = "just")
theorem wq1 : wordQ (.str "least") := ⟨_, rfl, .inl rfl⟩
theorem wq2 : wordQ (.str "just") := ⟨_, rfl, .inr rfl⟩
/-! ### k21 .. k27: the maker of programs -/
theorem chkL_c {S : Sto} {c : Nat} {xs : List D} (h : S[c]? = some (some (.lst xs))) : chkL (.cell c) S = true := by simp [chkL, DL.listOf, h]
theorem trim_keep {S S' : Sto} {d : D} (h : d.bel S.length = false) : trim S d S' = S' := by
  unfold trim
  rw [if_neg]
  rintro ⟨z, _⟩
  rw [h] at z; cases z
section
variable {p n m : Nat} {S : Sto} {P : D → Sto → Prop}
set_option maxHeartbeats 4000000 in
theorem names_ok {z : Int} (h : IsPool S p) (hz : z = (n : Int)) (n1 : 1 ≤ n) (n6 : n ≤ 6) (q : ∀ ns S', ns.length = n → NasOk n ns → SP p S S' → P (nmsD ns) S') : Ok (Lw.f__law_names [.cell p, .int z, .int 6] S) P := by
  subst hz
  have hp := h.lt
  unfold Lw.f__law_names
  refine k_fn rfl ?_
  unfold Lw.d__law_names
  rw [lit_AL, lit_EN, lit_E0]
  walk_at "dl"
  refine i_rng1 (by omega) (by omega) ?_
  refine k_forL (fun i ρ S' => SQ p S S' ∧ (∃ ls, Nam ls i ∧ S'[S.length]? = some (some (.lst (ls.map fun l => D.str (SX.S l))))) ∧ ∃ x4 x5 x6, ρ = [some (.cell p), some (.int n), some (.int 6), some (.cell S.length), x4, x5, x6]) ⟨(SQ.refl h).push, ⟨[], ⟨rfl, by simp⟩, by simp⟩, _, _, _, rfl⟩ ?_ ?_
  · rintro i ρ S1 d hd ⟨q1, ⟨ls, N, c1⟩, x4, x5, x6, rfl⟩
    obtain ⟨j, hj, rfl⟩ := getElem?_map_some hd
    have hij : j = i ∧ i < n := by
      have hi : i < n := by simpa using (List.getElem?_eq_some_iff.mp hd).1
      rw [List.getElem?_range (by simpa using hi)] at hj
      exact ⟨(Option.some.inj hj).symm, hi⟩
    obtain ⟨rfl, hin⟩ := hij
    clear hd hj
    refine ⟨_, rfl, ?_⟩
    walk_at "dl"
    refine take_ok q1.pool (by decide) (by decide) fun r S2 a2 b2 s2 => ?_
    have q2 := q1.draw s2
    have c2 := s2.at (by omega) c1
    walk_at "dl"
    refine i_rng1 (by omega) (by omega) ?_
    refine k_forL (fun t ρ S' => SQ p S S' ∧ S'[S.length]? = some (some (.lst (ls.map fun l => D.str (SX.S l)))) ∧ ∃ (w : List Nat) (x6 : Option D), w.length = t ∧ t ≤ 5 ∧ (∀ c ∈ w, c ∈ AL) ∧ ρ = [some (.cell p), some (.int n), some (.int 6), some (.cell S.length), some (.int (j : Int)), some (.str (SX.S w)), x6]) ⟨q2, c2, [], _, rfl, by omega, by simp, rfl⟩ ?_ ?_
    · rintro t ρ S3 d hd ⟨q3, c3, w, x6, hw, ht, ha, rfl⟩
      have htr : t < r.toNat := by simpa using (List.getElem?_eq_some_iff.mp hd).1
      refine ⟨_, rfl, ?_⟩
      walk_at "dl"
      refine take_ok q3.pool (by decide) (by decide) fun u S4 a4 b4 s4 => ?_
      obtain ⟨k, rfl⟩ : ∃ k : Nat, u = (k : Int) := ⟨u.toNat, by omega⟩
      have hk : k < AL.length := by have : AL.length = 26 := by decide
                                    omega
      refine o_ixS (c := AL[k]) (by decide) (al_at (by omega) hk) ?_
      walk_at "dl"
      refine o_addS (by rw [SX.S_len, SX.S_len, sizeLine_eq]; simp; omega) ?_
      rw [app_S]
      refine ⟨q3.draw s4, s4.at (by omega) c3, w ++ [AL[k]], _, by rw [List.length_append, hw]; rfl, by omega, fun c hc => ?_, rfl⟩
      rcases List.mem_append.mp hc with h | h
      · exact ha c h
      · rw [List.mem_singleton.mp h]; exact List.getElem_mem _
    · rintro ρ S3 ⟨q3, c3, w, x6, hw, ht, ha, rfl⟩
      walk_at "dl"
      refine ⟨chkL_c c3, ?_⟩
      walk_at "dl"
      have hj6 : j < EN6.length := by have : EN6.length = 6 := by decide
                                      omega
      refine o_ixS (c := EN6[j]) (by decide) (en_at (by omega) hj6) ?_
      walk_at "dl"
      refine o_addS (by rw [SX.S_len, SX.S_len, sizeLine_eq]; simp; omega) ?_
      rw [app_S]
      walk_at "dl"
      have hN := N.len
      refine o_app c3 (by rw [sizeLine_eq, List.length_map]; omega) ?_
      have hlt := (List.getElem?_eq_some_iff.mp c3).1
      have N' := N.push (w := w) (by omega) ha
      have e6 : EN6.getD j 0 = EN6[j] := by rw [List.getD_eq_getElem?_getD, List.getElem?_eq_getElem hj6]; rfl
      rw [e6] at N'
      exact ⟨q3.put (Nat.le_refl _) hp, ⟨_, N', by rw [List.getElem?_set_self hlt, List.map_append]; rfl⟩, _, _, _, rfl⟩
  · rintro ρ S1 ⟨q1, ⟨ls, N, c1⟩, x4, x5, x6, rfl⟩
    rw [show ((List.range (n : Int).toNat).map fun i : Nat => D.int i).length = n by simp] at N
    walk_at "dl"
    refine k_frzC c1 ?_
    have e : D.lst (ls.map fun l => D.str (SX.S l)) = nmsD (ls.map SX.S) := by unfold nmsD; rw [List.map_map]; rfl
    rw [e]
    have b : (nmsD (ls.map SX.S)).bel S.length = true := belL_all fun d hd => by
      obtain ⟨s, _, rfl⟩ := List.mem_map.mp hd
      rfl
    have hx := (q1.put (o := none) (Nat.le_refl _) hp).trim hp b
    exact q _ _ (by rw [List.length_map]; exact N.len) (N.nas n1 n6) hx
theorem factor_ok (h : IsPool S p) (q : ∀ (i : Int) S', Sz 40 i → SP p S S' → P (.int i) S') : Ok (Lw.f__law_factor [.cell p] S) P := by
  unfold Lw.f__law_factor
  refine k_fn rfl ?_
  unfold Lw.d__law_factor
  walk_at "dl"
  refine take_ok h (by decide) (by decide) fun r S1 a1 b1 s1 => ?_
  walk_at "dl"
  refine k_condD (fun hr => ?_) fun hr => ?_
  · walk_at "dl"
    refine o_pow (by unfold L2.CPow; decide) ?_
    walk_at "dl"
    refine o_mul (.of_left (by decide)) ?_
    walk_at "dl"
    refine take_ok s1.pool (by decide) (by decide) fun u S2 a2 b2 s2 => ?_
    walk_at "dl"
    refine o_pow (by unfold L2.CPow; decide) ?_
    walk_at "dl"
    rw [trim_same (s1.trans s2).len]
    have e12 : (10 : Int) ^ Int.toNat 12 = 1000000000000 := by decide
    exact q _ _ (by rw [e12] at b2 ⊢; unfold Sz; omega) (s1.trans s2)
  · walk_at "dl"
    refine take_ok s1.pool (by decide) (by decide) fun u S2 a2 b2 s2 => ?_
    walk_at "dl"
    refine o_pick (fun d => ∃ i : Int, Sz 2 i ∧ d = .int i) a2 (by simpa using b2) ?_ ?_
    · refine all_cons ⟨0, ?_, rfl⟩ (all_cons ⟨1, ?_, rfl⟩ (all_cons ⟨-1, ?_, rfl⟩ (all_cons ⟨0, ?_, rfl⟩ (all_cons ⟨2, ?_, rfl⟩ (all_cons ⟨-3, ?_, rfl⟩ (all_cons ⟨1, ?_, rfl⟩ (all_cons ⟨0, ?_, rfl⟩ all_nil))))))) <;> (unfold Sz; decide)
    rintro v ⟨i, hi, rfl⟩
    rw [trim_same (s1.trans s2).len]
    exact q _ _ (hi.mono (by decide)) (s1.trans s2)
theorem line21_ok {z : Int} (h : IsPool S p) (hz : z = (n : Int)) (hn : n ≤ 1000) (q : ∀ (row : List Int) S', row.length = n + 1 → (∀ i ∈ row, Sz 40 i) → SP p S S' → P (rD row) S') : Ok (Lw.f__law_line [.cell p, .int z] S) P := by
  subst hz
  unfold Lw.f__law_line
  refine k_fn rfl ?_
  unfold Lw.d__law_line
  walk_at "dl"
  refine take_ok h (by decide) (by decide) fun r S1 a1 b1 s1 => ?_
  walk_at "dl"
  refine i_rng1 (by omega) (by omega) ?_
  refine lc_any (Q := fun d => ∃ i : Int, Sz 40 i ∧ d = .int i) (R := SP p S) (by rw [sizeLine_eq]; simp; omega) s1 ?_ ?_
  · intro d _ S2 s2
    refine ⟨_, rfl, ?_⟩
    walk_at "dl"
    refine factor_ok s2.pool fun i S3 hi s3 => ?_
    exact ⟨⟨i, hi, rfl⟩, s2.trans s3⟩
  intro ys S2 hly hq s2
  obtain ⟨is, his, rfl⟩ := made hq
  have hl : is.length = n := by simpa using hly
  walk_at "dl"
  refine o_addL (by rw [sizeLine_eq, List.length_map]; simp; omega) ?_
  walk_at "dl"
  rw [trim_same s2.len]
  refine q ((r - 4) :: is) S2 (by simp [hl]) (fun i hi => ?_) s2
  rcases List.mem_cons.mp hi with rfl | hi
  · unfold Sz; omega
  · exact his i hi
theorem wishes21_ok {z u : Int} {most : Nat} (h : IsPool S p) (hz : z = (n : Int)) (hn : n ≤ 1000) (hu : u = (most : Int)) (hm : most ≤ 12) (q : ∀ (ws : List Wi) S', ws.length ≤ most → (∀ w ∈ ws, WiOk 40 n w) → SP p S S' → P (.lst (ws.map wD)) S') : Ok (Lw.f__law_wishes [.cell p, .int z, .int u] S) P := by
  subst hz hu
  have hp := h.lt
  unfold Lw.f__law_wishes
  refine k_fn rfl ?_
  unfold Lw.d__law_wishes
  walk_at "dl"
  have q0 : SQ p S (S ++ [some (.lst [])]) := (SQ.refl h).push
  have c0 : (S ++ [some (CO.lst [])])[S.length]? = some (some (.lst (([] : List Wi).map wD))) := by simp
  generalize S ++ [some (CO.lst [])] = S0 at q0 c0 ⊢
  refine take_ok q0.pool (by omega) (by omega) fun r S1 a1 b1 s1 => ?_
  walk_at "dl"
  refine i_rng1 (by omega) (by omega) ?_
  refine k_forL (fun i ρ S' => SQ p S S' ∧ ∃ (ws : List Wi) (x4 : Option D), ws.length = i ∧ i ≤ most ∧ (∀ w ∈ ws, WiOk 40 n w) ∧ S'[S.length]? = some (some (.lst (ws.map wD))) ∧ ρ = [some (.cell p), some (.int n), some (.int most), some (.cell S.length), x4]) ⟨q0.draw s1, [], _, rfl, Nat.zero_le _, by simp, s1.at (by omega) c0, rfl⟩ ?_ ?_
  · rintro i ρ S2 d hd ⟨q2, ws, x4, hl, hi, hw, c2, rfl⟩
    have hir : i < r.toNat := by simpa using (List.getElem?_eq_some_iff.mp hd).1
    refine ⟨_, rfl, ?_⟩
    walk_at "dl"
    refine ⟨chkL_c c2, ?_⟩
    walk_at "dl"
    refine take_ok q2.pool (by decide) (by decide) fun e S3 e0 e1 s3 => ?_
    walk_at "dl"
    refine o_pick wordQ e0 (by simpa using e1) (all_cons wq1 (all_cons wq1 (all_cons wq2 all_nil))) ?_
    rintro v ⟨s, rfl, hs⟩
    walk_at "dl"
    refine line21_ok (n := n) s3.pool rfl hn fun row S4 hr hz4 s4 => ?_
    walk_at "dl"
    have c4 := s4.at (by omega) (s3.at (by omega) c2)
    refine o_app c4 (by rw [sizeLine_eq, List.length_map]; omega) ?_
    have hlt := (List.getElem?_eq_some_iff.mp c4).1
    refine ⟨((q2.draw s3).draw s4).put (Nat.le_refl _) hp, ws ++ [(s, row)], _, by simp [hl], by omega, fun w hm => ?_, by rw [List.getElem?_set_self hlt]; simp [wD], rfl⟩
    rcases List.mem_append.mp hm with hm | hm
    · exact hw w hm
    · rw [List.mem_singleton.mp hm]; exact ⟨hs, hr, hz4⟩
  · rintro ρ S2 ⟨q2, ws, x4, hl, hi, hw, c2, rfl⟩
    rw [show ((List.range r.toNat).map fun i : Nat => D.int i).length = r.toNat by simp] at hl hi
    walk_at "dl"
    refine k_frzC c2 ?_
    exact q ws _ (by omega) hw ((q2.put (o := none) (Nat.le_refl _) hp).trim hp (bel_ws S.length ws))
set_option maxHeartbeats 4000000 in
/-- names, places, rows: the rows a list of its own -/
theorem program21_ok (h : IsPool S p) (q : ∀ (g : Pg) S', PgOk 40 g → S'[S.length]? = some (some (.lst (g.2.2.map rwD))) → SQ p S S' → P (.tup [nmsD g.1, nmsD g.2.1, .cell S.length]) S') : Ok (Lw.f__law_program [.cell p, .int 6, .int 10] S) P := by
  have hp := h.lt
  unfold Lw.f__law_program
  refine k_fn rfl ?_
  unfold Lw.d__law_program
  walk_at "dl"
  refine take_ok h (by decide) (by decide) fun r S1 a1 b1 s1 => ?_
  walk_at "dl"
  refine names_ok (n := (1 + r).toNat) s1.pool (by omega) (by omega) (by omega) fun ns S2 hl N s2 => ?_
  walk_at "dl"
  refine take_ok s2.pool (by decide) (by decide) fun u S3 a3 b3 s3 => ?_
  walk_at "dl"
  refine names_ok (n := (1 + u).toNat) s3.pool (by omega) (by omega) (by omega) fun ms S4 hl2 N2 s4 => ?_
  walk_at "dl"
  have s5 := s1.trans (s2.trans (s3.trans s4))
  have q5 : SQ p S (S4 ++ [some (.lst [])]) := ((SQ.refl h).draw s5).push
  have c5 : (S4 ++ [some (CO.lst [])])[S.length]? = some (some (.lst (([] : List Rw).map rwD))) := by rw [← s5.len]; simp
  rw [s5.len]
  generalize S4 ++ [some (CO.lst [])] = S5 at q5 c5 ⊢
  refine take_ok q5.pool (by decide) (by decide) fun v S6 a6 b6 s6 => ?_
  walk_at "dl"
  refine i_rng1 (by omega) (by omega) ?_
  have N3 : NasOk 3 ns := N.mono (by omega)
  have N6 : NasOk 6 ms := N2.mono (by omega)
  refine k_forL (fun i ρ S' => SQ p S S' ∧ ∃ (rws : List Rw) (x6 x7 x8 : Option D), rws.length = i ∧ i ≤ 10 ∧ (∀ w ∈ rws, RwOk 40 ns.length ms.length w) ∧ S'[S.length]? = some (some (.lst (rws.map rwD))) ∧ ρ = [some (.cell p), some (.int 6), some (.int 10), some (nmsD ns), some (nmsD ms), some (.cell S.length), x6, x7, x8]) ⟨q5.draw s6, [], _, _, _, rfl, Nat.zero_le _, by simp, s6.at (by omega) c5, rfl⟩ ?_ ?_
  · rintro i ρ S7 d hd ⟨q7, rws, x6, x7, x8, hr, hi, hw, c7, rfl⟩
    have hir : i < v.toNat := by simpa using (List.getElem?_eq_some_iff.mp hd).1
    refine ⟨_, rfl, ?_⟩
    unfold nmsD
    walk_at "dl"
    rw [List.length_map]
    refine take_ok q7.pool (by have := N6.lo; omega) (by have := N6.hi; omega) fun a S8 a8 b8 s8 => ?_
    walk_at "dl"
    rw [List.length_map]
    refine take_ok s8.pool (by have := N6.lo; omega) (by have := N6.hi; omega) fun b S9 a9 b9 s9 => ?_
    walk_at "dl"
    have c9 := s9.at (by omega) (s8.at (by omega) c7)
    refine ⟨chkL_c c9, ?_⟩
    walk_at "dl"
    rw [List.length_map]
    refine o_mul (.of_left (by decide)) ?_
    walk_at "dl"
    refine take_ok s9.pool (by decide) (by decide) fun e S10 a10 b10 s10 => ?_
    walk_at "dl"
    refine o_pick (fun d => ∃ k : Nat, k ≤ 12 ∧ d = .int k) a10 (by simpa using b10) (all_cons ⟨1, by decide, rfl⟩ (all_cons ⟨3, by decide, rfl⟩ (all_cons ⟨4, by decide, rfl⟩ (all_cons ⟨12, by decide, rfl⟩ all_nil)))) ?_
    rintro _ ⟨k, hk, rfl⟩
    walk_at "dl"
    refine wishes21_ok (n := 2 * ns.length) (most := k) s10.pool (by omega) (by have := N3.hi; omega) rfl hk fun ws S11 l11 w11 s11 => ?_
    walk_at "dl"
    have c11 := s11.at (by omega) (s10.at (by omega) c9)
    refine o_app c11 (by rw [sizeLine_eq, List.length_map]; omega) ?_
    have hlt := (List.getElem?_eq_some_iff.mp c11).1
    refine ⟨((((q7.draw s8).draw s9).draw s10).draw s11).put (Nat.le_refl _) hp, rws ++ [(a.toNat, b.toNat, ws)], _, _, _, by simp [hr], by omega, fun w hm => ?_, ?_, rfl⟩
    · rcases List.mem_append.mp hm with hm | hm
      · exact hw w hm
      · rw [List.mem_singleton.mp hm]
        exact ⟨by show a.toNat < ms.length; omega, by show b.toNat < ms.length; omega, w11, by show ws.length ≤ 12; omega⟩
    · rw [List.getElem?_set_self hlt, List.map_append, List.map_singleton]
      have : rwD (a.toNat, b.toNat, ws) = .tup [.int a, .int b, .lst (ws.map wD)] := by
        unfold rwD
        rw [show ((a.toNat, b.toNat, ws) : Rw).1 = a.toNat from rfl, show ((a.toNat, b.toNat, ws) : Rw).2.1 = b.toNat from rfl, show (a.toNat : Int) = a by omega, show (b.toNat : Int) = b by omega]
      rw [this]
  · rintro ρ S7 ⟨q7, rws, x6, x7, x8, hr, hi, hw, c7, rfl⟩
    walk_at "dl"
    have e : D.bel S.length (.tup [nmsD ns, nmsD ms, .cell S.length]) = false := by
      simp [D.bel, D.belL]
    rw [trim_keep e]
    exact q (ns, ms, rws) S7 ⟨N3, N6, hw, by show rws.length ≤ 10; omega⟩ c7 q7
end

/-! ### a thing beside itself -/
mutual
theorem eqv_self : ∀ {d : D} {k : Nat}, d.pl k = true → PyData.eqv d.py d.py = true
  | .non, _, _ => by simp [D.py, PyData.eqv]
  | .bl b, _, _ => by cases b <;> simp [D.py, PyData.eqv]
  | .int i, _, _ => by simp [D.py, PyData.eqv]
  | .str s, _, _ => by simp [D.py, PyData.eqv]
  | .tup xs, k, h => by
    simp only [D.pl, Bool.and_eq_true] at h
    simp only [D.py, PyData.eqv]
    exact eqv_selfL h.2
  | .lst xs, k, h => by
    simp only [D.pl, Bool.and_eq_true] at h
    simp only [D.py, PyData.eqv]
    exact eqv_selfL h.2
  | .dE, k, h => by simp [D.pl] at h
  | .ro xs, k, h => by
    simp only [D.pl, Bool.and_eq_true] at h
    simp only [D.py, PyData.eqv]
    exact eqv_selfL h.2
  | .cell _, k, h => by simp [D.pl] at h
  | .ty _, k, h => by simp [D.pl] at h
  | .err _ _ _, k, h => by simp [D.pl] at h
  | .cls _, k, h => by simp [D.pl] at h
theorem eqv_selfL : ∀ {ds : List D} {k : Nat}, D.plL k ds = true → PyData.eqvAll (D.pyL ds) (D.pyL ds) = true
  | [], _, _ => by simp [D.pyL, PyData.eqvAll]
  | d :: ds, k, h => by
    simp only [D.plL, Bool.and_eq_true] at h
    simp only [D.pyL, PyData.eqvAll, eqv_self h.1, eqv_selfL h.2, Bool.and_self]
end
/-! ### programs can be shown -/
theorem o_reprP {S : Sto} {P : D → Sto → Prop} {d e : D} {b : Nat} (he : deepD S 12 d = e) (h : DatE 60 b e) (hb : b ≤ 8000) (q : P (.str e.shown) S) : Ok (fReprD [d] S) P := by
  unfold fReprD
  dsimp only
  rw [he, h.pl, h.shows hb]
  exact ⟨q⟩
theorem o_reprQ {S : Sto} {P : D → Sto → Prop} {d : D} {b : Nat} (h : DatE 60 b d) (hb : b ≤ 8000) (q : P (.str d.shown) S) : Ok (fReprD [d] S) P := o_reprP (deep_pr h.pl) h hb q
theorem dat_ints2 {k m s : Nat} {row : List Int} (h : ∀ i ∈ row, Sz s i) (h0 : 0 < s) (h1 : s ≤ 1920) (hl : row.length ≤ m) : DatE (k + 1) m (.lst (row.map .int)) :=
  DatE.lst (DatEL.mono (DatEL.all (b := 0) (n := m) (dat_ints h h0 h1) (by rw [List.length_map]; exact hl)) (by omega))
theorem dat_wish2 {r n k : Nat} {w : Wi} (W : WiOk r n w) (h0 : 0 < r) (h1 : r ≤ 1920) (hn : n ≤ 6) : DatE (k + 2) 14 (wD w) := by
  have hs : DatE (k + 1) 5 (.str w.1) := by
    rcases W.word with e | e
    · rw [e]; exact (DatE.str (by decide +kernel)).mono (by decide +kernel)
    · rw [e]; exact (DatE.str (by decide +kernel)).mono (by decide +kernel)
  exact DatE.tup (DatEL.mono (DatEL.cons hs (DatEL.cons (dat_ints2 (m := 7) W.sz h0 h1 (by rw [W.len]; omega)) DatEL.nil)) (by decide))
theorem dat_row2 {r n p k : Nat} {w : Rw} (W : RwOk r n p w) (h0 : 0 < r) (h1 : r ≤ 1920) (hn : n ≤ 3) (hp : p ≤ 1000) : DatE (k + 4) 183 (rwD w) := by
  have hs := W.st
  have ht := W.to
  have hw : DatE (k + 3) 180 (.lst (w.2.2.map wD)) := DatE.lst (DatEL.mono (DatEL.all (b := 14) (n := 12) (fun x hx => by
    obtain ⟨y, hy, rfl⟩ := List.mem_map.mp hx
    exact dat_wish2 (W.ws y hy) h0 h1 (by omega)) (by rw [List.length_map]; exact W.len)) (by decide))
  exact DatE.tup (DatEL.mono (DatEL.cons (DatE.int (m := 11) (by unfold Sz; omega) (by decide) (by decide)) (DatEL.cons (DatE.int (m := 11) (by unfold Sz; omega) (by decide) (by decide)) (DatEL.cons hw DatEL.nil))) (by decide))
theorem dat_nms {m k : Nat} {ns : List Str} (h : NasOk m ns) : DatE (k + 1) (m * 7) (nmsD ns) :=
  DatE.lst (DatEL.all (b := 6) (n := m) (fun x hx => by
    obtain ⟨y, hy, rfl⟩ := List.mem_map.mp hx
    exact (DatE.str (h.ok y hy).so).mono (h.ok y hy).hi) (by rw [List.length_map]; exact h.hi))
theorem dat_pg {r k : Nat} {g : Pg} (G : PgOk r g) (h0 : 0 < r) (h1 : r ≤ 1920) : DatE (k + 6) 2000 (pgD g) := by
  have hn := G.nas.hi
  have hp := G.pls.hi
  have hr : DatE (k + 5) 1840 (.lst (g.2.2.map rwD)) := DatE.lst (DatEL.mono (DatEL.all (b := 183) (n := 10) (fun x hx => by
    obtain ⟨y, hy, rfl⟩ := List.mem_map.mp hx
    exact dat_row2 (G.rows y hy) h0 h1 hn (by omega)) (by rw [List.length_map]; exact G.len)) (by decide))
  exact DatE.tup (DatEL.mono (DatEL.cons (dat_nms G.nas) (DatEL.cons (dat_nms G.pls) (DatEL.cons hr DatEL.nil))) (by decide))
/-! ### changed no more -/
theorem k_thenFrzD {i : Nat} {m : SD} {ρ : DL.Env} {S : Sto} {PS : Flw → DL.Env → Sto → Prop} (h : OkS (m ρ S) fun f ρ1 S1 => f = .nx ∧ ∃ d e S2, ρ1[i]? = some (some d) ∧ frzN 12 d S1 = some (e, S2) ∧ PS .nx (ρ1.set i (some e)) S2) : OkS (sThenFrzD i m ρ S) PS := by
  unfold sThenFrzD
  cases e : m ρ S with
  | exc x ρ1 S1 => rw [e] at h; exact h.out.elim
  | stuck => rw [e] at h; exact h.out.elim
  | ok f ρ1 S1 =>
    rw [e] at h
    obtain ⟨rfl, d, e', S2, h1, h2, q⟩ := h.out
    simp only [frzSlotD, h1, h2]
    exact ⟨q⟩
mutual
theorem frz_pr {S : Sto} : ∀ {d : D} {n k : Nat}, d.pr k = true → frzN n d S = some (d, S)
  | d, 0, _, _ => rfl
  | .non, n + 1, _, _ => rfl
  | .bl b, n + 1, _, _ => rfl
  | .int i, n + 1, _, _ => rfl
  | .str s, n + 1, _, _ => rfl
  | .dE, n + 1, _, _ => rfl
  | .ro _, n + 1, _, _ => rfl
  | .tup xs, n + 1, k, h => by
    simp only [D.pr, Bool.and_eq_true] at h
    show (frzM (frzN n) xs S).map _ = _
    rw [frz_prL h.2]; rfl
  | .lst xs, n + 1, k, h => by
    simp only [D.pr, Bool.and_eq_true] at h
    show (frzM (frzN n) xs S).map _ = _
    rw [frz_prL h.2]; rfl
  | .cell m, n + 1, k, h => by simp [D.pr] at h
  | .ty _, n + 1, k, h => by simp [D.pr] at h
  | .err _ _ _, n + 1, k, h => by simp [D.pr] at h
  | .cls _, n + 1, k, h => by simp [D.pr] at h
theorem frz_prL {S : Sto} : ∀ {xs : List D} {n k : Nat}, D.prL k xs = true → frzM (frzN n) xs S = some (xs, S)
  | [], _, _, _ => rfl
  | x :: xs, n, k, h => by
    simp only [D.prL, Bool.and_eq_true] at h
    show (frzN n x S).bind _ = _
    rw [frz_pr h.1]
    show (frzM (frzN n) xs S).map _ = _
    rw [frz_prL h.2]; rfl
end
/-! ### changed no more: programs -/
theorem frzM_pr {f : D → Sto → Option (D × Sto)} {S : Sto} : ∀ {xs : List D}, (∀ x ∈ xs, f x S = some (x, S)) → frzM f xs S = some (xs, S)
  | [], _ => rfl
  | x :: xs, h => by
    show (f x S).bind _ = _
    rw [h x (by simp)]
    show (frzM f xs S).map _ = _
    rw [frzM_pr fun y hy => h y (by simp [hy])]; rfl
theorem frzM_cons {f : D → Sto → Option (D × Sto)} {x x' : D} {xs xs' : List D} {S S1 S2 : Sto} (h1 : f x S = some (x', S1)) (h2 : frzM f xs S1 = some (xs', S2)) : frzM f (x :: xs) S = some (x' :: xs', S2) := by
  simp only [frzM, h1, Option.bind_some, h2, Option.map_some]
theorem frzN_tup {n : Nat} {xs ys : List D} {S S2 : Sto} (h : frzM (frzN n) xs S = some (ys, S2)) : frzN (n + 1) (.tup xs) S = some (.tup ys, S2) := by
  simp only [frzN, h, Option.map_some]
theorem frzN_cell {n c : Nat} {xs ys : List D} {S S2 : Sto} (hc : S[c]? = some (some (.lst xs))) (h : frzM (frzN n) xs (S.set c none) = some (ys, S2)) : frzN (n + 1) (.cell c) S = some (.lst ys, S2) := by
  simp only [frzN, hc, h, Option.map_some]
/-- the program's rows are changed no more -/
theorem frz_prog {r c : Nat} {g : Pg} {S S2 : Sto} {rows : List D} {ys : List Rw} (G : PgOk r g) (hc : S[c]? = some (some (.lst rows))) (h : frzM (frzN 10) rows (S.set c none) = some (ys.map rwD, S2)) : frzN 12 (.tup [nmsD g.1, nmsD g.2.1, .cell c]) S = some (pgD (g.1, g.2.1, ys), S2) := by
  have e1 : ∀ {m : Nat} {ns : List Str}, NasOk m ns → frzN 11 (nmsD ns) S = some (nmsD ns, S) := fun h => frz_pr (k := 60) (dat_nms (k := 59) h).pl
  exact frzN_tup (frzM_cons (e1 G.nas) (frzM_cons (e1 G.pls) (frzM_cons (frzN_cell hc h) rfl)))
theorem frz_rows {r : Nat} {g : Pg} {S : Sto} {k : Nat} (G : PgOk r g) (h0 : 0 < r) (h1 : r ≤ 1920) : frzM (frzN k) (g.2.2.map rwD) S = some (g.2.2.map rwD, S) := frzM_pr fun x hx => by
  obtain ⟨w, hw, rfl⟩ := List.mem_map.mp hx
  have hn := G.nas.hi
  have hp := G.pls.hi
  exact frz_pr (k := 60) (dat_row2 (k := 56) (G.rows w hw) h0 h1 hn (by omega)).pl
theorem IsPool.put {p c : Nat} {o : Option CO} {S : Sto} (h : IsPool S p) (hc : c ≠ p) : IsPool (S.set c o) p := by
  obtain ⟨x, y, h0, h1, e⟩ := h
  exact ⟨x, y, h0, h1, by rw [List.getElem?_set_ne hc]; exact e⟩
/-! ### a told program, each of its lists one that is changed: where they are -/
abbrev RK := Nat × List Nat
def wsK (ws : List Wi) (ls : List Nat) : List D := List.zipWith (fun w l => .tup [.str w.1, .cell l]) ws ls
def rsK (rows : List Rw) (ks : List RK) : List D := List.zipWith (fun w k => .tup [.int w.1, .int w.2.1, .cell k.1]) rows ks
def cellsR (ks : List RK) : List Nat := ks.flatMap fun k => k.1 :: k.2
def pgC (a b c : Nat) : D := .tup [.cell a, .cell b, .cell c]
inductive LnAt (S : Sto) : List Wi → List Nat → Prop
  | nil : LnAt S [] []
  | cons {w : Wi} {ws : List Wi} {l : Nat} {ls : List Nat} : S[l]? = some (some (.lst (w.2.map .int))) → LnAt S ws ls → LnAt S (w :: ws) (l :: ls)
inductive RwAt (S : Sto) : List Rw → List RK → Prop
  | nil : RwAt S [] []
  | cons {w : Rw} {ws : List Rw} {k : RK} {ks : List RK} : S[k.1]? = some (some (.lst (wsK w.2.2 k.2))) → LnAt S w.2.2 k.2 → RwAt S ws ks → RwAt S (w :: ws) (k :: ks)
structure PgAt (S : Sto) (g : Pg) (a b c : Nat) (ks : List RK) : Prop where
  ha : S[a]? = some (some (.lst (g.1.map .str)))
  hb : S[b]? = some (some (.lst (g.2.1.map .str)))
  hc : S[c]? = some (some (.lst (rsK g.2.2 ks)))
  hr : RwAt S g.2.2 ks
  nd : (a :: b :: c :: cellsR ks).Nodup
theorem cellsR_cons {k : RK} {ks : List RK} : cellsR (k :: ks) = (k.1 :: k.2) ++ cellsR ks := by simp [cellsR]
theorem cellsR_snoc {k : RK} {ks : List RK} : cellsR (ks ++ [k]) = cellsR ks ++ (k.1 :: k.2) := by simp [cellsR]
theorem wsK_cons {w : Wi} {ws : List Wi} {l : Nat} {ls : List Nat} : wsK (w :: ws) (l :: ls) = .tup [.str w.1, .cell l] :: wsK ws ls := rfl
theorem rsK_cons {w : Rw} {ws : List Rw} {k : RK} {ks : List RK} : rsK (w :: ws) (k :: ks) = .tup [.int w.1, .int w.2.1, .cell k.1] :: rsK ws ks := rfl
section
variable {S S' : Sto} {r n m : Nat}
theorem LnAt.len {ws : List Wi} {ls : List Nat} (h : LnAt S ws ls) : ls.length = ws.length := by
  induction h with
  | nil => rfl
  | cons _ _ ih => rw [List.length_cons, List.length_cons, ih]
theorem RwAt.len {ws : List Rw} {ks : List RK} (h : RwAt S ws ks) : ks.length = ws.length := by
  induction h with
  | nil => rfl
  | cons _ _ _ ih => rw [List.length_cons, List.length_cons, ih]
theorem wsK_len {ws : List Wi} {ls : List Nat} (h : ls.length = ws.length) : (wsK ws ls).length = ws.length := by unfold wsK; rw [List.length_zipWith, h, Nat.min_self]
theorem rsK_len {ws : List Rw} {ks : List RK} (h : ks.length = ws.length) : (rsK ws ks).length = ws.length := by unfold rsK; rw [List.length_zipWith, h, Nat.min_self]
theorem wsK_snoc {ws : List Wi} {ls : List Nat} {w : Wi} {l : Nat} (h : ls.length = ws.length) : wsK (ws ++ [w]) (ls ++ [l]) = wsK ws ls ++ [.tup [.str w.1, .cell l]] := by
  unfold wsK
  rw [List.zipWith_append h.symm]; rfl
theorem rsK_snoc {ws : List Rw} {ks : List RK} {w : Rw} {k : RK} (h : ks.length = ws.length) : rsK (ws ++ [w]) (ks ++ [k]) = rsK ws ks ++ [.tup [.int w.1, .int w.2.1, .cell k.1]] := by
  unfold rsK
  rw [List.zipWith_append h.symm]; rfl
theorem LnAt.stay {ws : List Wi} {ls : List Nat} (h : LnAt S ws ls) (e : ∀ i ∈ ls, S'[i]? = S[i]?) : LnAt S' ws ls := by
  induction h with
  | nil => exact .nil
  | cons h1 _ ih => exact .cons (by rw [e _ (List.mem_cons_self ..)]; exact h1) (ih fun i hi => e i (List.mem_cons_of_mem _ hi))
theorem RwAt.stay {ws : List Rw} {ks : List RK} (h : RwAt S ws ks) (e : ∀ i ∈ cellsR ks, S'[i]? = S[i]?) : RwAt S' ws ks := by
  induction h with
  | nil => exact .nil
  | cons h1 h2 _ ih =>
    rw [cellsR_cons] at e
    exact .cons (by rw [e _ (by simp)]; exact h1) (h2.stay fun i hi => e i (by simp [hi])) (ih fun i hi => e i (List.mem_append_right _ hi))
theorem LnAt.snoc {ws : List Wi} {ls : List Nat} {w : Wi} {l : Nat} (h : LnAt S ws ls) (e : S[l]? = some (some (.lst (w.2.map .int)))) : LnAt S (ws ++ [w]) (ls ++ [l]) := by
  induction h with
  | nil => exact .cons e .nil
  | cons h1 _ ih => exact .cons h1 ih
theorem RwAt.snoc {ws : List Rw} {ks : List RK} {w : Rw} {k : RK} (h : RwAt S ws ks) (e1 : S[k.1]? = some (some (.lst (wsK w.2.2 k.2)))) (e2 : LnAt S w.2.2 k.2) : RwAt S (ws ++ [w]) (ks ++ [k]) := by
  induction h with
  | nil => exact .cons e1 e2 .nil
  | cons h1 h2 _ ih => exact .cons h1 h2 ih
theorem RwAt.get {ws : List Rw} {ks : List RK} (h : RwAt S ws ks) : ∀ {i : Nat} {w : Rw}, ws[i]? = some w → ∃ k, ks[i]? = some k ∧ (rsK ws ks)[i]? = some (.tup [.int w.1, .int w.2.1, .cell k.1]) ∧ S[k.1]? = some (some (.lst (wsK w.2.2 k.2))) ∧ LnAt S w.2.2 k.2 := by
  induction h with
  | nil => intro i w e; simp at e
  | cons h1 h2 h3 ih =>
    intro i w e
    match i, e with
    | 0, e => cases e; exact ⟨_, rfl, rfl, h1, h2⟩
    | i + 1, e =>
      obtain ⟨k, a, b, c, d⟩ := ih e
      exact ⟨k, a, b, c, d⟩
theorem LnAt.all {ws : List Wi} {ls : List Nat} (h : LnAt S ws ls) (hw : ∀ w ∈ ws, w.2.length < 1000) : ∀ x ∈ ls, ∃ xs, S[x]? = some (some (CO.lst xs)) ∧ xs.length < 1000 := by
  induction h with
  | nil => intro x hx; simp at hx
  | cons h1 _ ih =>
    intro x hx
    rcases List.mem_cons.mp hx with rfl | hx
    · exact ⟨_, h1, by rw [List.length_map]; exact hw _ (List.mem_cons_self ..)⟩
    · exact ih (fun w h => hw w (List.mem_cons_of_mem _ h)) x hx
theorem RwAt.all {ws : List Rw} {ks : List RK} (h : RwAt S ws ks) (hw : ∀ w ∈ ws, w.2.2.length < 1000 ∧ ∀ v ∈ w.2.2, v.2.length < 1000) : ∀ x ∈ cellsR ks, ∃ xs, S[x]? = some (some (CO.lst xs)) ∧ xs.length < 1000 := by
  induction h with
  | nil => intro x hx; simp [cellsR] at hx
  | cons h1 h2 _ ih =>
    intro x hx
    rw [cellsR_cons] at hx
    rcases List.mem_append.mp hx with hx | hx
    · rcases List.mem_cons.mp hx with rfl | hx
      · exact ⟨_, h1, by rw [wsK_len h2.len]; exact (hw _ (List.mem_cons_self ..)).1⟩
      · exact h2.all (hw _ (List.mem_cons_self ..)).2 x hx
    · exact ih (fun w h => hw w (List.mem_cons_of_mem _ h)) x hx
theorem RwAt.cnt {ws : List Rw} {ks : List RK} (h : RwAt S ws ks) (hw : ∀ w ∈ ws, w.2.2.length ≤ 12) : (cellsR ks).length ≤ 13 * ws.length := by
  induction h with
  | nil => simp [cellsR]
  | cons h1 h2 _ ih =>
    have := hw _ (List.mem_cons_self ..)
    have := ih fun w h => hw w (List.mem_cons_of_mem _ h)
    have := h2.len
    rw [cellsR_cons, List.length_append, List.length_cons, List.length_cons]
    omega
theorem PgAt.stay {g : Pg} {a b c : Nat} {ks : List RK} (h : PgAt S g a b c ks) (e : ∀ i ∈ a :: b :: c :: cellsR ks, S'[i]? = S[i]?) : PgAt S' g a b c ks :=
  ⟨by rw [e _ (by simp)]; exact h.ha, by rw [e _ (by simp)]; exact h.hb, by rw [e _ (by simp)]; exact h.hc, h.hr.stay fun i hi => e i (by simp [hi]), h.nd⟩
theorem PgAt.all {g : Pg} {a b c : Nat} {ks : List RK} (h : PgAt S g a b c ks) (G : PgOk r g) : (∀ x ∈ a :: b :: c :: cellsR ks, ∃ xs, S[x]? = some (some (CO.lst xs)) ∧ xs.length < 1000) ∧ (a :: b :: c :: cellsR ks).length ≤ 140 := by
  have h1 := G.nas.hi; have h2 := G.pls.hi; have h3 := G.len
  refine ⟨fun x hx => ?_, ?_⟩
  · simp only [List.mem_cons] at hx
    rcases hx with rfl | rfl | rfl | hx
    · exact ⟨_, h.ha, by rw [List.length_map]; omega⟩
    · exact ⟨_, h.hb, by rw [List.length_map]; omega⟩
    · exact ⟨_, h.hc, by rw [rsK_len h.hr.len]; omega⟩
    · refine h.hr.all (fun w hw => ?_) x hx
      have W := G.rows w hw
      exact ⟨by have := W.len; omega, fun v hv => by rw [(W.ws v hv).len]; omega⟩
  · have := h.hr.cnt fun w hw => (G.rows w hw).len
    simp only [List.length_cons]; omega
/-! #### read deeply -/
theorem deepK_ints (S : Sto) (n : Nat) (l : List Int) : (l.map D.int).map (deepD S n) = l.map .int := by
  rw [List.map_map]
  refine List.map_congr_left fun i _ => ?_
  cases n <;> rfl
theorem deepK_strs (S : Sto) (n : Nat) (l : List Str) : (l.map D.str).map (deepD S n) = l.map .str := by
  rw [List.map_map]
  refine List.map_congr_left fun i _ => ?_
  cases n <;> rfl
theorem deepK_cell {n c : Nat} {xs : List D} (h : S[c]? = some (some (.lst xs))) : deepD S (n + 1) (.cell c) = .lst (xs.map (deepD S n)) := by
  show (match S[c]? with
    | some (some (.lst xs)) => D.lst (xs.map (deepD S n))
    | _ => .cell c) = _
  rw [h]
theorem LnAt.deep {ws : List Wi} {ls : List Nat} (h : LnAt S ws ls) : (wsK ws ls).map (deepD S (n + 3)) = ws.map wD := by
  induction h with
  | nil => rfl
  | @cons w ws l ls h1 _ ih =>
    rw [wsK_cons, List.map_cons, List.map_cons, ih]
    congr 1
    show D.tup [deepD S (n + 2) (.str w.1), deepD S (n + 2) (.cell l)] = wD w
    rw [deepK_cell h1, deepK_ints]; rfl
theorem RwAt.deep {ws : List Rw} {ks : List RK} (h : RwAt S ws ks) : (rsK ws ks).map (deepD S (n + 5)) = ws.map rwD := by
  induction h with
  | nil => rfl
  | @cons w ws k ks h1 h2 _ ih =>
    rw [rsK_cons, List.map_cons, List.map_cons, ih]
    congr 1
    show D.tup [deepD S (n + 4) (.int w.1), deepD S (n + 4) (.int w.2.1), deepD S (n + 4) (.cell k.1)] = rwD w
    rw [deepK_cell h1, h2.deep]; rfl
theorem PgAt.deep {g : Pg} {a b c : Nat} {ks : List RK} (h : PgAt S g a b c ks) : deepD S 12 (pgC a b c) = pgD g := by
  show D.tup [deepD S 11 (.cell a), deepD S 11 (.cell b), deepD S 11 (.cell c)] = pgD g
  rw [deepK_cell h.ha, deepK_cell h.hb, deepK_cell h.hc, deepK_strs, deepK_strs, h.hr.deep]; rfl
/-! #### changed no more -/
/-- all but these cells stay -/
structure Off (cs : List Nat) (S S' : Sto) : Prop where
  len : S'.length = S.length
  oth : ∀ i, i ∉ cs → S'[i]? = S[i]?
theorem Off.set {c : Nat} {S : Sto} {x : Option CO} : Off [c] S (S.set c x) := ⟨by simp, fun i h => by rw [List.getElem?_set_ne (fun e => h (by rw [e]; exact List.mem_singleton.mpr rfl))]⟩
theorem Off.trans {a b : List Nat} {S S1 S2 : Sto} (h : Off a S S1) (h2 : Off b S1 S2) : Off (a ++ b) S S2 := ⟨h2.len.trans h.len, fun i hi => by
  rw [List.mem_append] at hi
  rw [h2.oth i fun z => hi (.inr z), h.oth i fun z => hi (.inl z)]⟩
theorem Off.mono {a b : List Nat} {S S1 : Sto} (h : Off a S S1) (h2 : ∀ x ∈ a, x ∈ b) : Off b S S1 := ⟨h.len, fun i hi => h.oth i fun z => hi (h2 i z)⟩
/-! #### cells new behind a store -/
/-- cells from n on, all of them below k -/
structure NewC (n k : Nat) (cs : List Nat) : Prop where
  lo : ∀ x ∈ cs, n ≤ x
  hi : ∀ x ∈ cs, x < k
  nd : cs.Nodup
theorem NewC.nil {n k : Nat} : NewC n k [] := ⟨fun _ h => by simp at h, fun _ h => by simp at h, List.nodup_nil⟩
theorem NewC.app {n k l : Nat} {a b : List Nat} (h : NewC n k a) (h2 : NewC k l b) (h3 : n ≤ k) (h4 : k ≤ l) : NewC n l (a ++ b) :=
  ⟨fun x hx => (List.mem_append.mp hx).elim (h.lo x) fun z => Nat.le_trans h3 (h2.lo x z), fun x hx => (List.mem_append.mp hx).elim (fun z => Nat.lt_of_lt_of_le (h.hi x z) h4) (h2.hi x),
    List.nodup_append.mpr ⟨h.nd, h2.nd, fun x hx y hy e => by have := h.hi x hx; have := h2.lo y hy; omega⟩⟩
theorem NewC.one {n k c : Nat} (h1 : n ≤ c) (h2 : c < k) : NewC n k [c] := ⟨fun x hx => by rw [List.mem_singleton.mp hx]; exact h1, fun x hx => by rw [List.mem_singleton.mp hx]; exact h2, by simp⟩
theorem NewC.mono {n k n' k' : Nat} {a : List Nat} (h : NewC n k a) (h1 : n' ≤ n) (h2 : k ≤ k') : NewC n' k' a := ⟨fun x hx => Nat.le_trans h1 (h.lo x hx), fun x hx => Nat.lt_of_lt_of_le (h.hi x hx) h2, h.nd⟩
end

/-! ### k24: the law's look whether the lists are apart -/
/-- how long a list is that is changed -/
def lenC (S : Sto) (c : Nat) : Nat := match S[c]? with
  | some (some (.lst xs)) => xs.length
  | _ => 0
theorem lenC_of {S : Sto} {c : Nat} {xs : List D} (h : S[c]? = some (some (.lst xs))) : lenC S c = xs.length := by unfold lenC; rw [h]
theorem sum_inc {f h : Nat → Nat} : ∀ {A B : List Nat}, (∀ c ∈ A, h c = f c + 1) → (∀ c ∈ B, h c = f c) → ((A ++ B).map h).sum = ((A ++ B).map f).sum + A.length
  | [], [], _, _ => rfl
  | [], b :: B, hA, hB => by
    have := sum_inc (A := []) (B := B) hA fun c hc => hB c (List.mem_cons_of_mem _ hc)
    rw [List.nil_append] at this ⊢
    rw [List.map_cons, List.map_cons, List.sum_cons, List.sum_cons, this, hB b (List.mem_cons_self ..)]
    simp
  | a :: A, B, hA, hB => by
    have := sum_inc (A := A) (B := B) (fun c hc => hA c (List.mem_cons_of_mem _ hc)) hB
    rw [List.cons_append, List.map_cons, List.map_cons, List.sum_cons, List.sum_cons, this, hA a (List.mem_cons_self ..), List.length_cons]
    omega
theorem ints_sum : ∀ l : List Nat, (l.map fun n : Nat => (n : Int)).sum = ((l.sum : Nat) : Int)
  | [] => rfl
  | n :: l => by rw [List.map_cons, List.sum_cons, List.sum_cons, ints_sum l]; omega
theorem ints_of_map : ∀ l : List Nat, intsOf (l.map fun n : Nat => D.int n) = some (l.map fun n : Nat => (n : Int))
  | [] => rfl
  | i :: R => by
    show (intsOf (R.map fun i : Nat => D.int i)).map _ = _
    rw [ints_of_map R]; rfl
theorem trim_le {S S' : Sto} {d : D} (hl : S.length ≤ S'.length) : S.length ≤ (trim S d S').length ∧ ∀ i, i < S.length → (trim S d S')[i]? = S'[i]? := by
  unfold trim
  split
  · exact ⟨by rw [List.length_take]; omega, fun i hi => by rw [List.getElem?_take_of_lt hi]⟩
  · exact ⟨hl, fun _ _ => rfl⟩
section
variable {r : Nat} {g : Pg} {S : Sto} {P : D → Sto → Prop}
theorem o_listCs {d : D} {xs : List D} (h : seqOf S d = some xs) (q : P (.cell S.length) (S ++ [some (.lst xs)])) : Ok (fListC [d] S) P := by
  unfold fListC
  simp only [h]
  exact ⟨q⟩
theorem o_addCC {n : Nat} {xs ys : List D} (h : S[n]? = some (some (.lst xs))) (hz : xs.length + ys.length ≤ sizeLine) (q : P (.cell S.length) (S ++ [some (.lst (xs ++ ys))])) : Ok (oAddC (.cell n) (.lst ys) S) P := by
  unfold oAddC
  have e : listOw S (.cell n) = some xs := by simp only [listOw, DL.listOf, h]
  rw [e]
  show Ok (if xs.length + ys.length ≤ sizeLine then _ else _) P
  rw [if_pos hz]; exact ⟨q⟩
@[reducible] def apE (t : D) (k : Nat) (x2 x3 x4 x5 : Option D) : DL.Env := [some t, some (.cell k), x2, x3, x4, x5, none, none, none]
set_option maxHeartbeats 2000000 in
theorem law_apartK_ok {a b c : Nat} {ks : List RK} (G : PgOk r g) (hA : PgAt S g a b c ks) (q : ∀ S' : Sto, S.length ≤ S'.length → (∀ i, i < S.length → i ∉ a :: b :: c :: cellsR ks → S'[i]? = S[i]?) → P (.bl true) S') : Ok (Lw.f__law_apart [pgC a b c] S) P := by
  have gl := G.len
  have cmS : ∀ x ∈ a :: b :: c :: cellsR ks, x < S.length := fun x hx => by
    obtain ⟨xs, h, -⟩ := (hA.all G).1 x hx
    exact (List.getElem?_eq_some_iff.mp h).1
  have ca := cmS a (by simp); have cb := cmS b (by simp); have cc := cmS c (by simp)
  have hcnt := (hA.all G).2
  unfold Lw.f__law_apart
  refine k_fn rfl ?_
  unfold Lw.d__law_apart
  refine k_seqQ (fun f ρ1 S1 => f = .nx ∧ S1 = S ++ [some (.lst (([a, b, c] : List Nat).map .cell))] ∧ ρ1 = apE (pgC a b c) S.length none none none none) ?_ ?_
  · walk_at "dl"
    refine o_listCs (xs := ([a, b, c] : List Nat).map .cell) rfl ?_
    exact ⟨rfl, rfl, rfl⟩
  rintro f ρ1 S1 ⟨rfl, hS1, rfl⟩
  dsimp only
  have l1 : S1.length = S.length + 1 := by rw [hS1]; simp
  have k1 : S1[S.length]? = some (some (.lst (([a, b, c] : List Nat).map .cell))) := by rw [hS1]; simp
  have o1 : ∀ i, i < S.length → S1[i]? = S[i]? := fun i hi => by rw [hS1, List.getElem?_append_left hi]
  refine k_seqQ (fun f ρ1 S2 => f = .nx ∧ ∃ (k : Nat) (x2 : Option D), S.length ≤ k ∧ S.length ≤ S2.length ∧ S2[k]? = some (some (.lst ((a :: b :: c :: cellsR ks).map .cell))) ∧ (∀ i, i < S.length → S2[i]? = S[i]?) ∧ ρ1 = apE (pgC a b c) k x2 none none none) ?_ ?_
  · unfold apE pgC
    walk_at "dl"
    have f4' : S1[c]? = some (some (.lst (rsK g.2.2 ks))) := by rw [o1 _ cc]; exact hA.hc
    have kl := hA.hr.len
    refine i_cell f4' ?_
    refine k_forN (xs := rsK g.2.2 ks) (fun i ρ S' => i ≤ g.2.2.length ∧ ∃ (k : Nat) (x2 : Option D), S.length ≤ k ∧ S.length ≤ S'.length ∧ S'[k]? = some (some (.lst ((([a, b, c] : List Nat) ++ cellsR (ks.take i)).map .cell))) ∧ (∀ i, i < S.length → S'[i]? = S[i]?) ∧ ρ = apE (pgC a b c) k x2 none none none) rfl ⟨Nat.zero_le _, S.length, none, Nat.le_refl _, by omega, by rw [k1]; rfl, o1, rfl⟩ ?_ ?_ ?_
    · rintro i ρ S2 ⟨-, k, x2, -, -, -, o2, -⟩
      exact itC_nx (by rw [o2 _ cc]; exact hA.hc)
    · rintro i ρ S2 d hd ⟨-, k, x2, hk, hl2, hk2, o2, rfl⟩
      have hi : i < g.2.2.length := by have := (List.getElem?_eq_some_iff.mp hd).1; rwa [rsK_len kl] at this
      obtain ⟨w, hw⟩ : ∃ w, g.2.2[i]? = some w := ⟨_, List.getElem?_eq_getElem hi⟩
      have W := G.rows w (List.mem_of_getElem? hw)
      obtain ⟨kk, hkk, hdk, hcW, hL⟩ := hA.hr.get hw
      rw [hdk] at hd
      cases hd
      have ht : ks.take (i + 1) = ks.take i ++ [kk] := by rw [List.take_add_one, hkk]; rfl
      have hkS : kk.1 < S.length := (List.getElem?_eq_some_iff.mp hcW).1
      have wl := W.len
      have ll := hL.len
      have hcn : (cellsR (ks.take i)).length ≤ 130 := by
        have h1 : (cellsR ks).length = (cellsR (ks.take i)).length + (cellsR (ks.drop i)).length := by
          rw [← List.length_append]
          congr 1
          unfold cellsR
          rw [← List.flatMap_append, List.take_append_drop]
        have h2 := hcnt
        simp only [List.length_cons] at h2
        have h3 := hA.hr.cnt fun w hw => (G.rows w hw).len
        omega
      refine ⟨_, rfl, ?_⟩
      unfold apE
      walk_at "dl"
      refine ⟨chkL_c hk2, ?_⟩
      walk_at "dl"
      refine o_app hk2 (by rw [sizeLine_eq]; simp; omega) ?_
      have hklt := (List.getElem?_eq_some_iff.mp hk2).1
      walk_at "dl"
      have hcW2 : (S2.set k (some (.lst ((([a, b, c] ++ cellsR (ks.take i)).map .cell) ++ [.cell kk.1]))))[kk.1]? = some (some (.lst (wsK w.2.2 kk.2))) := by
        rw [List.getElem?_set_ne (by omega), o2 _ hkS]; exact hcW
      refine i_cell hcW2 ?_
      have hz : wsK w.2.2 kk.2 = (List.range w.2.2.length).map fun j => .tup [.str (w.2.2.getD j ("", [])).1, .cell (kk.2.getD j 0)] := by
        refine List.ext_getElem? fun j => ?_
        unfold wsK
        rw [List.getElem?_zipWith, List.getElem?_map]
        by_cases hj : j < w.2.2.length
        · have e1 : w.2.2.getD j ("", []) = w.2.2[j] := by rw [List.getD_eq_getElem?_getD, List.getElem?_eq_getElem hj]; rfl
          have e3 : kk.2.getD j 0 = kk.2[j]'(by omega) := by rw [List.getD_eq_getElem?_getD, List.getElem?_eq_getElem (by omega : j < kk.2.length)]; rfl
          rw [List.getElem?_range hj, List.getElem?_eq_getElem hj, List.getElem?_eq_getElem (by omega : j < kk.2.length), Option.map_some, e1, e3]
        · rw [List.getElem?_eq_none (by omega : w.2.2.length ≤ j), List.getElem?_eq_none (by omega : kk.2.length ≤ j), List.getElem?_eq_none (show (List.range w.2.2.length).length ≤ j by rw [List.length_range]; omega)]; rfl
      have e2 : kk.2.map D.cell = (List.range w.2.2.length).map fun j => D.cell (kk.2.getD j 0) := by
        refine List.ext_getElem? fun j => ?_
        rw [List.getElem?_map, List.getElem?_map]
        by_cases hj : j < w.2.2.length
        · rw [List.getElem?_range hj, List.getElem?_eq_getElem (by omega : j < kk.2.length), Option.map_some, Option.map_some, List.getD_eq_getElem?_getD, List.getElem?_eq_getElem (by omega : j < kk.2.length)]; rfl
        · rw [List.getElem?_eq_none (by omega : kk.2.length ≤ j), List.getElem?_eq_none (show (List.range w.2.2.length).length ≤ j by rw [List.length_range]; omega)]; rfl
      refine lc_mapN (l := List.range w.2.2.length) (f := fun j => .tup [.str (w.2.2.getD j ("", [])).1, .cell (kk.2.getD j 0)]) (g := fun j => .cell (kk.2.getD j 0)) (by rw [wsK_len ll, List.length_range]; rfl) (fun j => by rw [← hz]; exact itC_nx hcW2) (by rw [sizeLine_eq, List.length_range]; omega) ?_ ?_
      · intro j _
        refine ⟨_, rfl, ?_⟩
        walk_at "dl"
        exact ⟨rfl, rfl⟩
      walk_at "dl"
      rw [← e2]
      refine o_addCC (n := k) (by rw [List.getElem?_set_self hklt]) (by rw [sizeLine_eq]; simp; omega) ?_
      refine ⟨by omega, _, _, ?_, ?_, ?_, fun i hi => ?_, rfl⟩
      · rw [List.length_set]; omega
      · rw [List.length_append, List.length_set]; omega
      · rw [List.getElem?_concat_length, ht, cellsR_snoc]
        simp
      · rw [List.getElem?_append_left (by rw [List.length_set]; omega), List.getElem?_set_ne (by omega)]
        exact o2 i hi
    · rintro ρ S2 ⟨-, k, x2, hk, hl2, hk2, o2, rfl⟩
      rw [rsK_len kl, ← kl, List.take_length] at hk2
      exact ⟨rfl, k, x2, hk, hl2, hk2, o2, rfl⟩
  rintro f ρ1 S2 ⟨rfl, k, x2, hk, hl2, hk2, o2, rfl⟩
  dsimp only
  have cl := hcnt
  have nd := hA.nd
  have cm : ∀ x ∈ a :: b :: c :: cellsR ks, x < S.length := cmS
  have hS : ∀ x ∈ a :: b :: c :: cellsR ks, ∃ xs, S2[x]? = some (some (CO.lst xs)) ∧ xs.length < 1000 := fun x hx => by
    obtain ⟨xs, h1, h2⟩ := (hA.all G).1 x hx
    exact ⟨xs, by rw [o2 x (cm x hx)]; exact h1, h2⟩
  clear hcnt
  generalize hcs : a :: b :: c :: cellsR ks = cs at cl nd cm hS hk2 q
  clear hcs
  -- the sum of the lengths
  have sumI : ∀ (S3 : Sto) {P' : D → Sto → Prop}, P' (.int (((cs.map (lenC S3)).sum : Nat) : Int)) S3 → Ok (fSum [.lst (cs.map fun x => .int (lenC S3 x : Nat))] S3) P' := fun S3 P' q' => by
    refine o_sum (ns := (cs.map (lenC S3)).map fun n : Nat => (n : Int)) ?_ (by rw [ints_sum]; exact q')
    show intsOf (cs.map fun x => D.int (lenC S3 x : Nat)) = _
    have := ints_of_map (cs.map (lenC S3))
    rw [List.map_map] at this
    exact this
  refine k_seqQ (fun f ρ1 S3 => f = .nx ∧ S3 = S2 ∧ ρ1 = apE (pgC a b c) k x2 (some (.int (((cs.map (lenC S2)).sum : Nat) : Int))) none none) ?_ ?_
  · unfold apE
    walk_at "dl"
    refine i_cell hk2 ?_
    refine lc_mapN (l := cs) (f := D.cell) (g := fun x => .int (lenC S2 x : Nat)) (by rw [List.length_map]; rfl) (fun j => itC_nx hk2) (by rw [sizeLine_eq]; omega) ?_ ?_
    · intro x hx
      obtain ⟨xs, h1, -⟩ := hS x hx
      refine ⟨_, rfl, ?_⟩
      walk_at "dl"
      refine o_lenC h1 ?_
      exact ⟨by rw [lenC_of h1], rfl⟩
    walk_at "dl"
    refine sumI S2 ?_
    exact ⟨rfl, rfl, rfl⟩
  rintro f ρ1 S3 ⟨rfl, rfl, rfl⟩
  dsimp only
  refine k_seqQ (fun f ρ1 S4 => f = .nx ∧ S3.length ≤ S4.length ∧ (∀ i, i ∉ cs → S4[i]? = S3[i]?) ∧ ∃ x4 x5 : Option D, ρ1 = apE (pgC a b c) k x2 (some (.int (((cs.map (lenC S3)).sum : Nat) : Int))) x4 x5) ?_ ?_
  · unfold apE
    walk_at "dl"
    refine i_enumC hk2 ?_
    have kcs : k ∉ cs := fun h => by have := cm k h; omega
    refine k_forN (xs := enumD (cs.map .cell)) (fun i ρ S' => S'.length = S3.length ∧ (∀ x ∈ cs.take i, ∃ xs, S3[x]? = some (some (CO.lst xs)) ∧ S'[x]? = some (some (CO.lst (xs ++ [.non])))) ∧ (∀ x, x ∉ cs.take i → S'[x]? = S3[x]?) ∧ ∃ x4 x5 : Option D, ρ = apE (pgC a b c) k x2 (some (.int (((cs.map (lenC S3)).sum : Nat) : Int))) x4 x5) rfl ⟨rfl, fun x hx => by simp at hx, fun _ _ => rfl, _, _, rfl⟩ ?_ ?_ ?_
    · rintro i ρ S4 ⟨-, -, hb, -⟩
      exact itE_nx (by rw [hb k fun h => kcs (List.mem_of_mem_take h)]; exact hk2)
    · rintro i ρ S4 d hd ⟨hl4, ha, hb, x4, x5, rfl⟩
      obtain ⟨y, hy, rfl⟩ := enum_get hd
      obtain ⟨x, hx, rfl⟩ := getElem?_map_some hy
      have hxm := List.mem_of_getElem? hx
      have hi := (List.getElem?_eq_some_iff.mp hx).1
      have htk : cs.take (i + 1) = cs.take i ++ [x] := by rw [List.take_add_one, hx]; rfl
      have hsp : cs = cs.take (i + 1) ++ cs.drop (i + 1) := (List.take_append_drop _ _).symm
      have nd2 : (cs.take (i + 1) ++ cs.drop (i + 1)).Nodup := by rw [← hsp]; exact nd
      have hnt : x ∉ cs.take i := fun z => by
        rw [htk] at nd2
        have := (List.nodup_append.mp (List.nodup_append.mp nd2).1).2.2 x z x (List.mem_singleton.mpr rfl)
        exact this rfl
      obtain ⟨xs, h1, hxl⟩ := hS x hxm
      have h4 : S4[x]? = some (some (CO.lst xs)) := by rw [hb x hnt]; exact h1
      have hlt := (List.getElem?_eq_some_iff.mp h4).1
      refine ⟨_, rfl, ?_⟩
      unfold apE
      walk_at "dl"
      refine ⟨chkL_c h4, ?_⟩
      walk_at "dl"
      refine o_app h4 (by rw [sizeLine_eq]; omega) ?_
      obtain ⟨S5, hS5⟩ : ∃ S5, S5 = S4.set x (some (.lst (xs ++ [D.non]))) := ⟨_, rfl⟩
      rw [← hS5]
      have l5 : S5.length = S3.length := by rw [hS5, List.length_set]; exact hl4
      have ha5 : ∀ x' ∈ cs.take (i + 1), ∃ xs, S3[x']? = some (some (CO.lst xs)) ∧ S5[x']? = some (some (CO.lst (xs ++ [.non]))) := fun x' hx' => by
        by_cases e : x' = x
        · subst e
          exact ⟨xs, h1, by rw [hS5, List.getElem?_set_self hlt]⟩
        · rw [htk] at hx'
          rcases List.mem_append.mp hx' with h | h
          · obtain ⟨ys, g1, g2⟩ := ha x' h
            exact ⟨ys, g1, by rw [hS5, List.getElem?_set_ne (Ne.symm e)]; exact g2⟩
          · exact absurd (List.mem_singleton.mp h) e
      have hb5 : ∀ x', x' ∉ cs.take (i + 1) → S5[x']? = S3[x']? := fun x' hx' => by
        rw [htk] at hx'
        have e : x' ≠ x := fun z => hx' (List.mem_append.mpr (.inr (by rw [z]; exact List.mem_singleton.mpr rfl)))
        rw [hS5, List.getElem?_set_ne (Ne.symm e)]
        exact hb x' fun z => hx' (List.mem_append.mpr (.inl z))
      have hk5 : S5[k]? = some (some (.lst (cs.map .cell))) := by rw [hb5 k fun h => kcs (List.mem_of_mem_take h)]; exact hk2
      have hsum : (cs.map (lenC S5)).sum = (cs.map (lenC S3)).sum + (i + 1) := by
        have e := sum_inc (A := cs.take (i + 1)) (B := cs.drop (i + 1)) (f := lenC S3) (h := lenC S5) (fun x' hx' => by
          obtain ⟨ys, g1, g2⟩ := ha5 x' hx'
          rw [lenC_of g1, lenC_of g2, List.length_append]; rfl) fun x' hx' => by
          have hn : x' ∉ cs.take (i + 1) := fun z => (List.nodup_append.mp nd2).2.2 x' z x' hx' rfl
          unfold lenC
          rw [hb5 x' hn]
        rw [← hsp, List.length_take, Nat.min_eq_left (by omega)] at e
        exact e
      walk_at "dl"
      refine i_cell hk5 ?_
      refine lc_mapN (l := cs) (f := D.cell) (g := fun x => .int (lenC S5 x : Nat)) (by rw [List.length_map]; rfl) (fun j => itC_nx hk5) (by rw [sizeLine_eq]; omega) ?_ ?_
      · intro x' hx'
        obtain ⟨ys, h5⟩ : ∃ ys, S5[x']? = some (some (CO.lst ys)) := by
          by_cases e : x' ∈ cs.take (i + 1)
          · obtain ⟨ys, -, g2⟩ := ha5 x' e
            exact ⟨_, g2⟩
          · obtain ⟨ys, g1, -⟩ := hS x' hx'
            exact ⟨ys, by rw [hb5 x' e]; exact g1⟩
        refine ⟨_, rfl, ?_⟩
        walk_at "dl"
        refine o_lenC h5 ?_
        exact ⟨by rw [lenC_of h5], rfl⟩
      walk_at "dl"
      refine sumI S5 ?_
      rw [hsum]
      walk_at "dl"
      refine k_ifF (by simp; omega) ?_
      walk_at "dl"
      exact ⟨l5, ha5, hb5, _, _, rfl⟩
    · rintro ρ S4 ⟨hl4, ha, hb, x4, x5, rfl⟩
      exact ⟨rfl, by omega, fun i hi => hb i fun h => hi (List.mem_of_mem_take h), _, _, rfl⟩
  rintro f ρ1 S4 ⟨rfl, l4, o4, x4, x5, rfl⟩
  dsimp only
  unfold apE
  walk_at "dl"
  have tl := trim_le (S := S) (S' := S4) (d := .bl true) (by omega)
  exact q _ tl.1 fun i hi hn => by rw [tl.2 i (by omega), o4 i hn, o2 i (by omega)]
end

/-! ### kinds of things -/
section
variable {S : Sto} {P : D → Sto → Prop} {k : Nat} {d : D}
end
/-! ### texts by their signs -/
open SX in
theorem S_of (s : String) : Str.ofString s = S (s.toList.map Char.toNat) := TL.ext_tl (TL.tl_ofString s)
/-- figures without a nought ahead -/
def figs (l : List Nat) : Bool := !l.isEmpty && l.all (fun c => decide (48 ≤ c ∧ c ≤ 57)) && (decide (l = [48]) || !decide (l.head? = some 48))
def neg (l : List Nat) : Bool := decide (l.head? = some 45)
/-- numbers' own texts -/
theorem numL_head : ∀ n : Nat, 0 < n → (TL.numL n).head? ≠ some 48 := by
  intro n
  induction n using Nat.strongRecOn with
  | _ n ih =>
    intro h0
    by_cases h : n < 10
    · rw [TL.numL_lt h]
      simp
      omega
    · rw [TL.numL_step (by omega)]
      have := ih (n / 10) (by omega) (by omega)
      have hne := TL.numL_ne (n / 10)
      cases e : TL.numL (n / 10) with
      | nil => exact absurd e hne
      | cons x xs => rw [e] at this; simpa using this
theorem numL_figs (n : Nat) : figs (TL.numL n) = true := by
  unfold figs
  have h1 := TL.numL_digits n
  have h2 := TL.numL_ne n
  have h3 : decide (TL.numL n = [48]) = true ∨ (TL.numL n).head? ≠ some 48 := by
    by_cases h : n = 0
    · left; subst h; rw [TL.numL_lt (by decide)]; rfl
    · exact .inr (numL_head n (by omega))
  simp only [Bool.and_eq_true, Bool.or_eq_true, Bool.not_eq_true', List.isEmpty_eq_false_iff, List.all_eq_true, decide_eq_true_eq, decide_eq_false_iff_not]
  refine ⟨⟨h2, h1⟩, ?_⟩
  rcases h3 with h3 | h3
  · exact .inl (by simpa using h3)
  · exact .inr h3
/-! ### text steps -/
section
variable {S : Sto} {P : D → Sto → Prop} {ρ : DL.Env}
theorem k_jsN {acc : Str} (q : P (.str acc) S) : Ok (jsL [] acc ρ S) P := ⟨q⟩
theorem k_jsC {m : EM} {ms : List EM} {acc : Str} (h : Ok (m ρ S) fun d S1 => ∃ y, d = .str y ∧ (acc ++ y).length ≤ sizeLine ∧ Ok (jsL ms (acc ++ y) ρ S1) P) : Ok (jsL (m :: ms) acc ρ S) P :=
  Ok.bind (h.imp fun d S1 ⟨y, e, hz, q⟩ => by subst e; dsimp only; rw [if_pos hz]; exact q)
theorem k_fmt {a : EM} (h : Ok (a ρ S) fun d S1 => ∃ y, fmtD d = some y ∧ P (.str y) S1) : Ok (eFmt a ρ S) P :=
  Ok.bind (h.imp fun d S1 ⟨y, e, q⟩ => by rw [e]; exact ⟨q⟩)
theorem k_orV {a b : EM} (h : Ok (a ρ S) fun d S1 => ∃ k, truD S1 d = some k ∧ if k = true then P d S1 else Ok (b ρ S1) P) : Ok (eOrV a b ρ S) P :=
  Ok.bind (h.imp fun d S1 ⟨k, e, q⟩ => by
    rw [e]
    cases k with
    | true => exact ⟨q⟩
    | false => exact q)
theorem o_notIn {d e : D} {b : Bool} (h : inD S d e = some b) (q : P (.bl (!b)) S) : Ok (oNotIn d e S) P := by
  unfold oNotIn; rw [h]; exact ⟨q⟩
theorem o_split {a b : Str} (h : (b.length == 0) = false) (hz : a.length + 2 ≤ sizeLine) (q : P (.lst ((Txt.split a b).map .str)) S) : Ok (mSplit (.str a) [.str b] S) P := by
  unfold mSplit; dsimp only; rw [if_pos ⟨h, hz⟩]; exact ⟨q⟩
theorem o_starts {a b : Str} (q : P (.bl (Txt.startswith a b)) S) : Ok (mStarts (.str a) [.str b] S) P := ⟨q⟩
theorem o_slS {z : Str} {lo hi : Option Int} (hz : z.length ≤ sizeLine) (q : P (.str (L2.cutS z lo hi)) S) : Ok (oSl (.str z) lo hi S) P := by
  show Ok (oSlS (.str z) lo hi S) P
  unfold oSlS; dsimp only; rw [if_pos hz]; exact ⟨q⟩
theorem o_intX {a : Str} {n : Int} (h : PySem.intText? a = some n) (hz : a.length ≤ 640) (q : P (.int n) S) : Ok (fIntX [.str a] S) P := by
  unfold fIntX; dsimp only; rw [h]; dsimp only; rw [if_pos hz]; exact ⟨q⟩
end
theorem i_str {z : Str} {S : Sto} {PI : ItD → Sto → Prop} (q : PI (itL (signsD z)) S) : Ok (mItS (.str z) S) PI := ⟨q⟩
theorem signs_S (l : List Nat) : signsD (SX.S l) = l.map fun c => D.str (SX.S [c]) := rfl
theorem cut_from1 (l : List Nat) : L2.cutS (SX.S l) (some 1) none = SX.S (l.drop 1) := by
  unfold L2.cutS
  rw [SX.S_len, show (1 : Int) = ((1 : Nat) : Int) from rfl, HT.sIx_nat, HT.sIx_none]
  refine TL.ext_tl ?_
  show (l.drop (min 1 l.length)).take (l.length - min 1 l.length) = l.drop 1
  cases l with
  | nil => rfl
  | cons x xs => simp
theorem S_eq {a b : List Nat} : (SX.S a = SX.S b) ↔ a = b := ⟨SX.S_inj, fun h => by rw [h]⟩
theorem dec_S (a b : List Nat) : decide (SX.S a = SX.S b) = decide (a = b) := decide_eq_decide.mpr S_eq
theorem starts_neg (l : List Nat) : Txt.startswith (SX.S l) (SX.S [45]) = neg l := by
  unfold Txt.startswith
  rw [PySem.StrLaws.subAt_eq]
  unfold neg
  rw [SX.S_len, SX.S_len]
  show (decide (0 + 1 ≤ l.length) && ((l.drop 0).take (SX.S [45]).length == [45])) = _
  rw [SX.S_len]
  cases l with
  | nil => rfl
  | cons x xs =>
    by_cases h : x = 45
    · subst h; simp
    · simp [h]
theorem lit_e : ("" : Str) = SX.S [] := S_of ""
theorem lit_0 : ("0" : Str) = SX.S [48] := S_of "0"
theorem lit_1 : ("1" : Str) = SX.S [49] := S_of "1"
theorem lit_m : ("-" : Str) = SX.S [45] := S_of "-"
theorem list_two (l : List Nat) : l = [] ∨ ∃ x xs, l = x :: xs := by cases l <;> simp
def FG : List Nat := [48, 49, 50, 51, 52, 53, 54, 55, 56, 57]
theorem lit_F : ("0123456789" : Str) = SX.S FG := S_of "0123456789"
theorem fg_iff (c : Nat) : c ∈ FG ↔ 48 ≤ c ∧ c ≤ 57 := by
  unfold FG
  simp only [List.mem_cons, List.not_mem_nil, or_false]
  omega
theorem fg_all (l : List Nat) : (l.all fun c => decide (c ∈ FG)) = l.all fun c => decide (48 ≤ c ∧ c ≤ 57) := by
  congr 1
  funext c
  exact decide_eq_decide.mpr (fg_iff c)
theorem fg_in {c : Nat} {S : Sto} : inD S (.str (SX.S [c])) (.str (SX.S FG)) = some (decide (c ∈ FG)) := by
  show some (!(Builtin.Str.occurrences (SX.S FG) (SX.S [c]) 0 (SX.S FG).length 1).isEmpty) = _
  rw [SX.in_one]
theorem at_zero {x : Nat} {xs : List Nat} : L2.atI (SX.S (x :: xs)).cps.toList 0 = some x := by
  show L2.atI (x :: xs) 0 = _
  unfold L2.atI L2.ixN
  rw [if_pos (by decide), if_pos (by simp)]
  rfl
section
variable {l : List Nat} {S : Sto} {P : D → Sto → Prop}
theorem are_figures_ok (hl : l.length ≤ 1000) (q : P (.bl (figs l)) S) : Ok (Lw.f_are_figures [.str (SX.S l)] S) P := by
  unfold Lw.f_are_figures
  refine k_fn rfl ?_
  unfold Lw.d_are_figures Lw.c_FIGURES
  rw [lit_e, lit_0, lit_F]
  rcases list_two l with h0 | ⟨x, xs, h0⟩
  · subst h0
    walk_at "dl"
    refine k_ifT (by simp) ?_
    refine k_ifT (by simp) ?_
    walk_at "dl"
    rw [trim_same rfl]
    exact q
  · subst h0
    walk_at "dl"
    rw [dec_S]
    with_reducible refine k_ifF ?hc ?_
    case hc => simp
    walk_at "dl"
    refine i_str ?_
    rw [signs_S]
    refine lc_map (g := fun c => .bl (decide (c ∈ FG))) (by rw [sizeLine_eq]; omega) ?_ ?_
    · intro c _
      refine ⟨_, rfl, ?_⟩
      walk_at "dl"
      exact o_in fg_in ⟨rfl, rfl⟩
    walk_at "dl"
    refine o_all (bs := (x :: xs).map fun c => decide (c ∈ FG)) (by
      rw [show ((x :: xs).map fun c => D.bl (decide (c ∈ FG))) = ((x :: xs).map fun c => decide (c ∈ FG)).map D.bl by rw [List.map_map]; rfl]
      exact blsOf_map _) ?_
    walk_at "dl"
    rw [List.all_map, show (id ∘ fun c => decide (c ∈ FG)) = fun c => decide (c ∈ FG) from rfl, fg_all]
    unfold figs at q
    cases ha : (x :: xs).all fun c => decide (48 ≤ c ∧ c ≤ 57) with
    | false =>
      rw [ha] at q
      refine k_ifT (by simp) ?_
      walk_at "dl"
      rw [trim_same rfl]
      simpa using q
    | true =>
      rw [ha] at q
      with_reducible refine k_ifF ?hc ?_
      case hc => simp
      walk_at "dl"
      rw [dec_S]
      by_cases h0 : x :: xs = [48]
      · refine k_ifT (by simpa using h0) ?_
        rw [trim_same rfl]
        rw [decide_eq_true h0] at q
        simpa using q
      · with_reducible refine k_ifF ?hc ?_
        case hc => simpa using h0
        walk_at "dl"
        refine o_ixS (by rw [SX.S_len, sizeLine_eq]; omega) at_zero ?_
        walk_at "dl"
        rw [dec_S, trim_same rfl]
        rw [decide_eq_false h0] at q
        have e : (!decide ([x] = [48])) = !decide ((x :: xs).head? = some 48) := by
          congr 1
          exact decide_eq_decide.mpr (by simp)
        rw [e]
        simpa using q
end

/-! ### lines as texts: by their signs -/
open SX in
theorem rpart_none {l : List Nat} (h : 42 ∉ l) : Txt.rpartition (S l) (S [42]) = (S [], S [], S l) := by
  unfold Txt.rpartition
  rcases StrLaws.last_spec (S l) (S [42]) with ⟨e, _⟩ | ⟨i, e, hA, _⟩
  · rw [e]; rfl
  · exfalso
    have h1 := (TL.at_iff (x := S l) (y := S [42]) (by simp [TL.tl, S]) i).mp hA
    have h2 : TL.pre [42] (l.drop i) = true := h1
    cases e2 : l.drop i with
    | nil => rw [e2, TL.pre_nil (by simp)] at h2; cases h2
    | cons c r =>
      have : c ∈ l := List.mem_of_mem_drop (i := i) (by rw [e2]; exact List.mem_cons_self ..)
      rw [e2, TL.pre_of_head [] r (fun z : c = 42 => h (by rw [← z]; exact this))] at h2
      cases h2
open SX in
theorem rpart_some {a b : List Nat} (h : 42 ∉ b) : Txt.rpartition (S (a ++ 42 :: b)) (S [42]) = (S a, S [42], S b) := by
  unfold Txt.rpartition
  have hy : TL.tl (S [42]) ≠ [] := by simp [TL.tl, S]
  have here : StrLaws.At (S (a ++ 42 :: b)) (S [42]) (S (a ++ 42 :: b)).length a.length := by
    refine (TL.at_iff hy a.length).mpr ?_
    show TL.pre [42] ((a ++ 42 :: b).drop a.length) = true
    rw [List.drop_left' rfl]
    exact TL.pre_self [42] b
  rcases StrLaws.last_spec (S (a ++ 42 :: b)) (S [42]) with ⟨_, hn⟩ | ⟨i, e, hA, hn⟩
  · exact absurd here (hn _)
  · have h1 : TL.pre [42] ((a ++ 42 :: b).drop i) = true := (TL.at_iff hy i).mp hA
    have hi : i = a.length := by
      rcases Nat.lt_trichotomy i a.length with q | q | q
      · exact absurd here (hn _ q)
      · exact q
      · exfalso
        obtain ⟨k, rfl⟩ : ∃ k, i = a.length + 1 + k := ⟨i - (a.length + 1), by omega⟩
        rw [show (a ++ 42 :: b).drop (a.length + 1 + k) = b.drop k by
          rw [← List.drop_drop, ← List.singleton_append, ← List.append_assoc, List.drop_left' (by simp)]] at h1
        cases e2 : b.drop k with
        | nil => rw [e2, TL.pre_nil (by simp)] at h1; cases h1
        | cons c r =>
          have : c ∈ b := List.mem_of_mem_drop (i := k) (by rw [e2]; exact List.mem_cons_self ..)
          rw [e2, TL.pre_of_head [] r (fun z : c = 42 => h (by rw [← z]; exact this))] at h1
          cases h1
    subst hi
    rw [e]
    dsimp only
    have e1 : Builtin.Str.strSub (S (a ++ 42 :: b)) 0 a.length = S a := by
      refine TL.ext_tl ?_
      rw [TL.tl_strSub]
      show ((a ++ 42 :: b).drop 0).take (a.length - 0) = a
      simp
    have e2 : Builtin.Str.strSub (S (a ++ 42 :: b)) (a.length + (S [42]).length) (S (a ++ 42 :: b)).length = S b := by
      refine TL.ext_tl ?_
      rw [TL.tl_strSub_end, S_len]
      show (a ++ 42 :: b).drop (a.length + 1) = b
      rw [← List.singleton_append, ← List.append_assoc, List.drop_left' (by simp)]
    rw [e1, e2]
/-- a name: letters -/
structure NmOk (n : List Nat) : Prop where
  ne : n ≠ []
  al : ∀ c ∈ n, c = 39 ∨ (97 ≤ c ∧ c ≤ 122)
  len : n.length ≤ 20
def ptL (o : Option (List Nat)) (a : Nat) : List Nat := match o with
  | none => TL.numL a
  | some n => if a = 1 then n else TL.numL a ++ 42 :: n
def nmO (ns : List (List Nat)) : Nat → Option (List Nat)
  | 0 => none
  | i + 1 => some (ns.getD i [])
def sgL (f : Int) : List Nat := if f < 0 then [45] else [43]
def hdL (f : Int) : List Nat := if f < 0 then [45] else []
def lnA (ns : List (List Nat)) (row : Nat → Int) (acc : List Nat) (i : Nat) : List Nat :=
  if row i = 0 then acc else acc ++ (if acc = [] then hdL (row i) else 32 :: (sgL (row i) ++ [32])) ++ ptL (nmO ns i) (row i).natAbs
def lnK (ns : List (List Nat)) (row : Nat → Int) (k : Nat) : List Nat := (List.range k).foldl (lnA ns row) []
def lnT (ns : List (List Nat)) (row : Nat → Int) (m : Nat) : List Nat := if lnK ns row (m + 1) = [] then [48] else lnK ns row (m + 1)
structure Nms (ns : List (List Nat)) (m : Nat) : Prop where
  len : ns.length = m
  ok : ∀ n ∈ ns, NmOk n
  nd : ns.Nodup
  m : m ≤ 10
section
variable {ns : List (List Nat)} {m k : Nat} {row : Nat → Int}
theorem Nms.get (h : Nms ns m) {i : Nat} (hi : i < m) : ns[i]? = some (ns.getD i []) ∧ NmOk (ns.getD i []) := by
  have e : ns[i]? = some (ns.getD i []) := by
    rw [List.getD_eq_getElem?_getD, List.getElem?_eq_getElem (by rw [h.len]; exact hi)]; rfl
  exact ⟨e, h.ok _ (List.mem_of_getElem? e)⟩
theorem ptL_ne (h : Nms ns m) {i : Nat} (hi : i ≤ m) (a : Nat) : ptL (nmO ns i) a ≠ [] := by
  cases i with
  | zero => exact TL.numL_ne a
  | succ i =>
    show (if a = 1 then _ else _) ≠ []
    split
    · exact (h.get (by omega)).2.ne
    · simp
theorem ptL_mem (h : Nms ns m) {i : Nat} (hi : i ≤ m) {a c : Nat} (hc : c ∈ ptL (nmO ns i) a) : c = 42 ∨ (48 ≤ c ∧ c ≤ 57) ∨ (c = 39 ∨ (97 ≤ c ∧ c ≤ 122)) := by
  cases i with
  | zero => exact .inr (.inl (TL.numL_digits a c hc))
  | succ i =>
    have hc : c ∈ (if a = 1 then ns.getD i [] else TL.numL a ++ 42 :: ns.getD i []) := hc
    have ok := (h.get (show i < m by omega)).2
    split at hc
    · exact .inr (.inr (ok.al c hc))
    · rcases List.mem_append.mp hc with q | q
      · exact .inr (.inl (TL.numL_digits a c q))
      · rcases List.mem_cons.mp q with q | q
        · exact .inl q
        · exact .inr (.inr (ok.al c q))
theorem ptL_len (h : Nms ns m) {i : Nat} (hi : i ≤ m) {a : Nat} (ha : (TL.numL a).length ≤ 600) : (ptL (nmO ns i) a).length ≤ 621 := by
  cases i with
  | zero => show (TL.numL a).length ≤ _; omega
  | succ i =>
    show (if a = 1 then ns.getD i [] else TL.numL a ++ 42 :: ns.getD i []).length ≤ _
    have := (h.get (show i < m by omega)).2.len
    split
    · omega
    · rw [List.length_append, List.length_cons]; omega
theorem lnK_succ : lnK ns row (k + 1) = lnA ns row (lnK ns row k) k := by
  unfold lnK
  rw [List.range_succ, List.foldl_append]; rfl
theorem lnK_len (h : Nms ns m) (hf : ∀ i, i ≤ m → (TL.numL (row i).natAbs).length ≤ 600) : ∀ k, k ≤ m + 1 → (lnK ns row k).length ≤ k * 624
  | 0, _ => by simp [lnK]
  | k + 1, hk => by
    have ih := lnK_len h hf k (by omega)
    rw [lnK_succ]
    unfold lnA
    split
    · omega
    · have h1 := ptL_len h (show k ≤ m by omega) (hf k (by omega))
      have h2 : (if lnK ns row k = [] then hdL (row k) else 32 :: (sgL (row k) ++ [32])).length ≤ 3 := by
        unfold hdL sgL
        split <;> split <;> simp
      rw [List.length_append, List.length_append]
      omega
/-- the places of a line that are not nought -/
def plc (row : Nat → Int) (k : Nat) : List Nat := (List.range k).filter fun i => !decide (row i = 0)
theorem plc_succ : plc row (k + 1) = if row k = 0 then plc row k else plc row k ++ [k] := by
  unfold plc
  rw [List.range_succ, List.filter_append]
  by_cases h : row k = 0
  · simp [h]
  · simp [h]
theorem plc_mem {i : Nat} : i ∈ plc row k ↔ i < k ∧ row i ≠ 0 := by
  unfold plc
  simp
/-- the words of a line's text -/
def wds (ns : List (List Nat)) (row : Nat → Int) : List Nat → List (List Nat)
  | [] => []
  | i :: is => (hdL (row i) ++ ptL (nmO ns i) (row i).natAbs) :: is.flatMap fun j => [sgL (row j), ptL (nmO ns j) (row j).natAbs]
theorem joinL_snoc {s : List Nat} : ∀ {ws : List (List Nat)} {w : List Nat}, ws ≠ [] → TL.joinL s (ws ++ [w]) = TL.joinL s ws ++ s ++ w
  | [], _, h => absurd rfl h
  | [a], w, _ => by simp [TL.joinL]
  | a :: b :: ws, w, _ => by
    have ih := joinL_snoc (s := s) (ws := b :: ws) (w := w) (by simp)
    show a ++ (s ++ TL.joinL s (b :: (ws ++ [w]))) = _
    have e : b :: (ws ++ [w]) = b :: ws ++ [w] := rfl
    rw [e, ih]
    show _ = a ++ (s ++ TL.joinL s (b :: ws)) ++ s ++ w
    simp [List.append_assoc]
theorem wds_ne {is : List Nat} (h : is ≠ []) : wds ns row is ≠ [] := by cases is with
  | nil => exact absurd rfl h
  | cons i is => simp [wds]
theorem wds_snoc {is : List Nat} {j : Nat} (h : is ≠ []) : wds ns row (is ++ [j]) = wds ns row is ++ [sgL (row j)] ++ [ptL (nmO ns j) (row j).natAbs] := by cases is with
  | nil => exact absurd rfl h
  | cons i is => simp [wds]
theorem lnK_wds (h : Nms ns m) : ∀ k, k ≤ m + 1 → lnK ns row k = TL.joinL [32] (wds ns row (plc row k)) ∧ (lnK ns row k = [] ↔ plc row k = [])
  | 0, _ => by simp [lnK, plc, wds, TL.joinL]
  | k + 1, hk => by
    obtain ⟨ih1, ih2⟩ := lnK_wds h k (by omega)
    rw [lnK_succ, plc_succ]
    unfold lnA
    by_cases z : row k = 0
    · rw [if_pos z, if_pos z]; exact ⟨ih1, ih2⟩
    · rw [if_neg z, if_neg z]
      have pn := ptL_ne h (show k ≤ m by omega) (row k).natAbs
      refine ⟨?_, by simp [pn]⟩
      by_cases e : plc row k = []
      · rw [if_pos (ih2.mpr e), ih2.mpr e, e]
        simp [wds, TL.joinL]
      · rw [if_neg fun q => e (ih2.mp q), ih1, wds_snoc e, joinL_snoc (by simp), joinL_snoc (wds_ne e)]
        simp [List.append_assoc]
theorem wds_no (h : Nms ns m) (hk : k ≤ m + 1) : ∀ w ∈ wds ns row (plc row k), 32 ∉ w := by
  have all : ∀ is : List Nat, (∀ i ∈ is, i ≤ m) → ∀ w ∈ wds ns row is, 32 ∉ w := by
    intro is hi w hw h32
    have np : ∀ i, i ≤ m → 32 ∉ ptL (nmO ns i) (row i).natAbs := fun i hi q => by
      rcases ptL_mem h hi q with z | z | z <;> omega
    cases is with
    | nil => simp [wds] at hw
    | cons i is =>
      simp only [wds, List.mem_cons, List.mem_flatMap] at hw
      rcases hw with rfl | ⟨j, hj, q⟩
      · rcases List.mem_append.mp h32 with q | q
        · unfold hdL at q
          split at q <;> simp at q
        · exact np i (hi i (List.mem_cons_self ..)) q
      · simp only [List.mem_cons, List.not_mem_nil, or_false] at q
        rcases q with rfl | rfl
        · unfold sgL at h32
          split at h32 <;> simp at h32
        · exact np j (hi j (List.mem_cons_of_mem _ hj)) h32
  exact all _ fun i hi => by have := (plc_mem.mp hi).1; omega
theorem spl_line (h : Nms ns m) (hp : plc row (m + 1) ≠ []) : TL.spl [32] 0 [] (lnT ns row m) = wds ns row (plc row (m + 1)) := by
  have h1 := lnK_wds (row := row) h (m + 1) (Nat.le_refl _)
  unfold lnT
  rw [if_neg fun q => hp (h1.2.mp q), h1.1]
  exact SX.spl_join (wds_ne hp) (wds_no h (Nat.le_refl _))
/-- every second of what is told in twos -/
theorem twos_get {α β : Type} (f g : α → β) : ∀ (l : List α) (k : Nat), (l.flatMap fun x => [f x, g x])[2 * k]? = l[k]?.map f ∧ (l.flatMap fun x => [f x, g x])[2 * k + 1]? = l[k]?.map g
  | [], k => by simp
  | x :: l, 0 => by simp
  | x :: l, k + 1 => by
    have ih := twos_get f g l k
    rw [List.flatMap_cons]
    refine ⟨?_, ?_⟩
    · rw [show 2 * (k + 1) = 2 * k + 1 + 1 by omega]
      exact ih.1
    · rw [show 2 * (k + 1) + 1 = 2 * k + 1 + 1 + 1 by omega]
      exact ih.2
theorem twos_len {α β : Type} (f g : α → β) (l : List α) : (l.flatMap fun x => [f x, g x]).length = 2 * l.length := by
  induction l with
  | nil => rfl
  | cons x l ih => rw [List.flatMap_cons, List.length_append, ih, List.length_cons, List.length_cons, List.length_cons, List.length_nil]; omega
theorem some_map {α β : Type} (f : Nat → Option β) (g : α → β) (l : List α) (h : ∀ k, f k = l[k]?.map g) : (List.range l.length).filterMap f = l.map g := by
  induction l generalizing f with
  | nil => rfl
  | cons x l ih =>
    rw [List.length_cons, List.range_succ_eq_map, List.filterMap_cons_some (b := g x) (by rw [h]; rfl), List.filterMap_map, List.map_cons]
    congr 1
    exact ih (f ∘ Nat.succ) fun k => by
      show f (k + 1) = _
      rw [h]; rfl
theorem ixs_even (n : Nat) : DL.ixs3 none none (some 2) (2 * n) = (List.range n).map (2 * ·) := by
  unfold DL.ixs3 sliceBounds sliceRange
  simp only [Option.getD_some]
  have e : (if (0 : Int) < ((2 * n : Nat) : Int) then (((2 * n : Nat) : Int) - 0 + 2 - 1) / 2 else 0).toNat = n := by split <;> omega
  simp only [show (2 : Int) > 0 by decide, if_true]
  rw [e]
  exact List.map_congr_left fun k _ => by omega
theorem ixs_odd (n : Nat) : DL.ixs3 (some 1) none (some 2) (2 * n) = (List.range n).map fun k => 2 * k + 1 := by
  cases n with
  | zero => decide +kernel
  | succ n =>
    unfold DL.ixs3 sliceBounds sliceRange
    simp only [Option.getD_some]
    simp only [show (2 : Int) > 0 by decide, if_true, show ¬ (1 : Int) < 0 by decide, if_false]
    have e1 : max 0 (min 1 ((2 * (n + 1) : Nat) : Int)) = 1 := by omega
    rw [e1]
    have e : (if (1 : Int) < ((2 * (n + 1) : Nat) : Int) then (((2 * (n + 1) : Nat) : Int) - 1 + 2 - 1) / 2 else 0).toNat = n + 1 := by split <;> omega
    rw [e]
    exact List.map_congr_left fun k _ => by omega
theorem pick_even {α β : Type} (f g : α → β) (l : List α) : DL.pick3 (l.flatMap fun x => [f x, g x]) none none (some 2) = l.map f := by
  unfold DL.pick3
  rw [twos_len, ixs_even, List.filterMap_map]
  exact some_map _ f l fun k => (twos_get f g l k).1
theorem pick_odd {α β : Type} (f g : α → β) (l : List α) : DL.pick3 (l.flatMap fun x => [f x, g x]) (some 1) none (some 2) = l.map g := by
  unfold DL.pick3
  rw [twos_len, ixs_odd, List.filterMap_map]
  exact some_map _ g l fun k => (twos_get f g l k).2
end

/-! ### rows; lists of either kind -/
def rowL (w : Nat) (g : Nat → Int) : List D := (List.range w).map fun j => D.int (g j)
theorem rowL_get {w j : Nat} {g : Nat → Int} (h : j < w) : (rowL w g)[j]? = some (.int (g j)) := by simp [rowL, h]
section
variable {S : Sto} {P : D → Sto → Prop} {PI : ItD → Sto → Prop} {d e : D} {xs ys : List D} {m : Nat}
theorem i_lof (h : DL.listOf S d = some xs) (q : ∀ it : ItD, it.fu = xs.length + 1 → (∀ i, it.nx i S = some xs[i]?) → PI it S) : Ok (mItL d S) PI := by
  cases d with
  | lst zs => cases h; exact i_list (q _ rfl fun _ => rfl)
  | ro zs => cases h; exact i_ro (q _ rfl fun _ => rfl)
  | cell n =>
    have e : S[n]? = some (some (.lst xs)) := by
      simp only [DL.listOf] at h
      split at h
      · rename_i zs e; cases h; exact e
      · cases h
    exact i_cell e (q _ rfl fun _ => itC_nx e)
  | _ => simp [DL.listOf] at h
theorem i_zof (h1 : DL.listOf S d = some xs) (h2 : DL.listOf S e = some ys) (q : ∀ it : ItD, it.fu = (zipD xs ys).length + 1 → (∀ i, it.nx i S = some (zipD xs ys)[i]?) → PI it S) : Ok (mItZ [d, e] S) PI := by
  have live : Ok ((match DL.listOf S d, DL.listOf S e with
      | some xs, some ys => .ok (itZ d e (zipD xs ys).length) S
      | _, _ => .stuck : R ItD)) PI := by
    rw [h1, h2]
    exact ⟨q _ rfl fun i => by simp only [itZ, h1, h2]⟩
  unfold mItZ
  dsimp only
  cases d with
  | lst zs =>
    cases h1
    cases e with
    | lst ws => cases h2; exact ⟨q _ rfl fun _ => rfl⟩
    | ro ws => cases h2; exact ⟨q _ rfl fun _ => rfl⟩
    | cell n => exact live
    | _ => simp [DL.listOf] at h2
  | ro zs =>
    cases h1
    cases e with
    | lst ws => cases h2; exact ⟨q _ rfl fun _ => rfl⟩
    | ro ws => cases h2; exact ⟨q _ rfl fun _ => rfl⟩
    | cell n => exact live
    | _ => simp [DL.listOf] at h2
  | cell n => exact live
  | _ => simp [DL.listOf] at h1
theorem seq_lof (h : DL.listOf S d = some xs) : seqOf S d = some xs := by
  cases d with
  | tup zs => simp [DL.listOf] at h
  | _ => exact h
theorem zip_frow {f : Nat → D} {u : Nat → Int} : zipD ((List.range m).map f) (rowL m u) = (List.range m).map fun l => .tup [f l, .int (u l)] := by
  refine List.ext_getElem? fun i => ?_
  rw [zipD_get]
  by_cases hi : i < m
  · rw [List.getElem?_map, List.getElem?_range hi, rowL_get hi, List.getElem?_map, List.getElem?_range hi]; rfl
  · rw [List.getElem?_eq_none (by simp; omega)]
    exact (List.getElem?_eq_none (by simp; omega)).symm
end

theorem o_strE {S : Sto} {P : D → Sto → Prop} {d : D} {b : Nat} (h : DatE 60 b d) (hn : ∀ s, d ≠ .str s) (hb : b ≤ 8000) (q : P (.str d.shown) S) : Ok (fStrR [d] S) P := by
  have e : topD S d = d := by
    cases d with
    | cell n => exact absurd h.pl (by simp [D.pr])
    | _ => rfl
  cases d with
  | str s => exact absurd rfl (hn s)
  | _ =>
    unfold fStrR
    dsimp only
    rw [e, h.pl, h.shows hb]
    exact ⟨q⟩

/-! ### fractions' texts -/
theorem fmt_int {i : Int} {k : Nat} (hk : 0 < k) (hk2 : k ≤ 1920) (h : Sz k i) : fmtD (.int i) = some (Str.ofString (toString i)) := by
  have := h.log hk
  show (if i.natAbs.log2 < 1920 then some (Str.ofString (toString i)) else none) = _
  rw [if_pos (by omega)]
section
variable {f : Fr} {S : Sto} {P : D → Sto → Prop}
end
theorem one_txt : PySem.intText? (SX.S [49]) = some 1 := PySem.intText_digits (x := SX.S [49]) (by intro c hc; cases hc with | head => decide | tail _ h => cases h) (by simp) (by decide)
section
variable {l a m b : List Nat} {S : Sto} {P : D → Sto → Prop} {Q : XD → Sto → Prop} {PB : Bool → Sto → Prop} {ρ : DL.Env}
end

/-! ### lines written -/
abbrev strD (l : List Nat) : D := .str (SX.S l)
def nsD (ns : List (List Nat)) : D := .lst (ns.map strD)
def nmD : Option (List Nat) → D
  | none => .non
  | some n => strD n
theorem lit_t : ("*" : Str) = SX.S [42] := S_of "*"
theorem lit_p : ("+" : Str) = SX.S [43] := S_of "+"
theorem lit_sp : (" " : Str) = SX.S [32] := S_of " "
theorem lit_sps : (" + " : Str) = SX.S [32, 43, 32] := S_of " + "
theorem lit_sms : (" - " : Str) = SX.S [32, 45, 32] := S_of " - "
theorem num_nat (n : Nat) : (Str.ofString (toString ((n : Nat) : Int))) = SX.S (TL.numL n) := SX.num_S n
theorem num_len {f : Int} (h : Sz 600 f) : (TL.numL f.natAbs).length ≤ 600 := TL.numL_len (by decide) (Nat.lt_of_lt_of_le h (Nat.pow_le_pow_left (by decide) 600))
theorem sz_abs {k : Nat} {f : Int} (h : Sz k f) : Sz k ((f.natAbs : Nat) : Int) := by unfold Sz at *; rw [Int.natAbs_natCast]; exact h
theorem nm_list {ns : List (List Nat)} {m : Nat} (h : ns.length = m) : [D.non] ++ ns.map strD = (List.range (m + 1)).map fun i => nmD (nmO ns i) := by
  rw [List.range_succ_eq_map, List.map_cons, List.map_map]
  show D.non :: ns.map strD = D.non :: _
  congr 1
  refine List.ext_getElem? fun i => ?_
  by_cases hi : i < m
  · rw [List.getElem?_map, List.getElem?_map, List.getElem?_range hi, List.getElem?_eq_getElem (by omega)]
    show some (strD ns[i]) = some (strD (ns.getD i []))
    rw [List.getD_eq_getElem?_getD, List.getElem?_eq_getElem (by omega)]; rfl
  · rw [List.getElem?_eq_none (by simp; omega), List.getElem?_eq_none (by simp; omega)]
section
variable {S : Sto} {P : D → Sto → Prop} {ns : List (List Nat)} {m : Nat} {row : Nat → Int} {d : D}
theorem fmt_str {y : Str} (h : y.length ≤ sizeLine) : fmtD (.str y) = some y := if_pos h
theorem o_sgn {f : Int} {x y : Str} (q : P (.str (if f < 0 then y else x)) S) : Ok (oIx (.lst [.str x, .str y]) (.int (if decide (f < 0) = true then 1 else 0)) S) P := by
  by_cases h : f < 0
  · rw [if_pos h] at q
    rw [if_pos (by simpa using h)]
    exact o_ix rfl q
  · rw [if_neg h] at q
    rw [if_neg (by simpa using h)]
    exact o_ix rfl q
theorem o_isNs {s : Str} (q : P (.bl false) S) : Ok (oIsN (.str s) .non S) P := ⟨q⟩
theorem o_isNn' (q : P (.bl true) S) : Ok (oIsN .non .non S) P := ⟨q⟩
set_option maxHeartbeats 1000000 in
theorem shown_part_ok (h : Nms ns m) {i : Nat} (hi : i ≤ m) {f : Int} (hf : Sz 600 f) (q : P (strD (ptL (nmO ns i) f.natAbs)) S) : Ok (Lw.f_shown_part [nmD (nmO ns i), .int f] S) P := by
  have hlen := num_len hf
  have hpl := ptL_len h hi hlen
  unfold Lw.f_shown_part
  refine k_fn rfl ?_
  unfold Lw.d_shown_part
  cases i with
  | zero =>
    rw [show nmD (nmO ns 0) = D.non from rfl]
    walk_at "dl"
    refine o_isNn' ?_
    walk_at "dl"
    refine o_strE (b := 0) (DatE.int (sz_abs hf) (by decide) (by decide)) (by intro s hs; cases hs) (by decide) ?_
    rw [trim_same rfl, show (D.int ((f.natAbs : Nat) : Int)).shown = SX.S (TL.numL f.natAbs) from num_nat _]
    exact q
  | succ i =>
    have ok := (h.get (show i < m by omega)).2
    have e : nmD (nmO ns (i + 1)) = .str (SX.S (ns.getD i [])) := rfl
    rw [e]
    walk_at "dl"
    refine o_isNs ?_
    walk_at "dl"
    refine k_condD (fun h1 => ?_) (fun h1 => ?_)
    · have q : P (strD (if f.natAbs = 1 then ns.getD i [] else TL.numL f.natAbs ++ 42 :: ns.getD i [])) S := q
      rw [if_pos (by omega)] at q
      walk_at "dl"
      rw [trim_same rfl]
      exact q
    · have q : P (strD (if f.natAbs = 1 then ns.getD i [] else TL.numL f.natAbs ++ 42 :: ns.getD i [])) S := q
      rw [if_neg (by omega)] at q
      walk_at "dl"
      have l1 : (Str.ofString (toString ((f.natAbs : Nat) : Int))).length ≤ 600 := by rw [num_nat, SX.S_len]; exact hlen
      have l3 : ("*" : Str).length = 1 := by rw [lit_t]; rfl
      have l0 : (Str.empty).length = 0 := rfl
      have l2 := ok.len
      unfold eJs
      refine k_jsC (k_fmt ?_)
      walk_at "dl"
      refine ⟨_, fmt_int (k := 600) (by decide) (by decide) (sz_abs hf), _, rfl, by rw [sizeLine_eq, Str.length_append]; omega, ?_⟩
      refine k_jsC (k_c ⟨_, rfl, by rw [sizeLine_eq, Str.length_append, Str.length_append]; omega, ?_⟩)
      refine k_jsC (k_fmt ?_)
      walk_at "dl"
      refine ⟨SX.S (ns.getD i []), fmt_str (by rw [SX.S_len, sizeLine_eq]; omega), SX.S (ns.getD i []), rfl, by rw [sizeLine_eq, Str.length_append, Str.length_append, Str.length_append, SX.S_len (ns.getD i [])]; omega, ?_⟩
      refine k_jsN ?_
      rw [trim_same rfl, show Str.empty = SX.S [] from rfl, num_nat, lit_t, SX.S_cat, SX.S_cat, SX.S_cat]
      simpa [strD] using q
theorem in_str {a : List Nat} {ns : List (List Nat)} {S : Sto} : inD S (strD a) (nsD ns) = some (decide (a ∈ ns)) := by
  have e1 : (ns.map strD).all flatD = true := List.all_eq_true.mpr fun x hx => by
    obtain ⟨y, _, rfl⟩ := List.mem_map.mp hx; rfl
  have e2 : ((ns.map strD).any fun y => eqF y (strD a)) = decide (a ∈ ns) := by
    rw [List.any_map]
    by_cases h : a ∈ ns
    · rw [decide_eq_true h]
      exact List.any_eq_true.mpr ⟨a, h, by show (SX.S a == SX.S a) = true; exact beq_self_eq_true _⟩
    · rw [decide_eq_false h]
      refine List.any_eq_false.mpr fun x hx => ?_
      show ¬ (SX.S x == SX.S a) = true
      rw [SX.S_beq_eq]
      intro z
      exact h ((of_decide_eq_true z) ▸ hx)
  show (if flatD (strD a) && (ns.map strD).all flatD then some ((ns.map strD).any fun y => eqF y (strD a)) else none) = _
  rw [e1, e2]; rfl
theorem ln_step {acc : List Nat} {f : Int} : (if acc = [] then hdL f else 32 :: (sgL f ++ [32])) = if acc = [] then (if f < 0 then [45] else []) else if f < 0 then [32, 45, 32] else [32, 43, 32] := by
  unfold hdL sgL
  split <;> split <;> rfl
set_option maxHeartbeats 1000000 in
theorem shown_line_ok (h : Nms ns m) (hf : ∀ i, i ≤ m → Sz 600 (row i)) (hd : DL.listOf S d = some (rowL (m + 1) row)) (q : P (strD (lnT ns row m)) S) : Ok (Lw.f_shown_line [nsD ns, d] S) P := by
  have hm := h.m
  have hl := h.len
  have hb : ∀ k, k ≤ m + 1 → (lnK ns row k).length ≤ 6864 := fun k hk => by
    have := lnK_len (row := row) h (fun i hi => num_len (hf i hi)) k hk
    have : k * 624 ≤ 11 * 624 := Nat.mul_le_mul_right _ (by omega)
    omega
  unfold Lw.f_shown_line
  refine k_fn rfl ?_
  unfold Lw.d_shown_line
  rw [lit_e]
  walk_at "dl"
  refine o_addL (by rw [sizeLine_eq]; simp; omega) ?_
  walk_at "dl"
  rw [nm_list hl]
  refine i_zof (xs := (List.range (m + 1)).map fun i => nmD (nmO ns i)) (by rfl) hd fun it hf' hx => ?_
  rw [zip_frow] at hf' hx
  refine k_forN (xs := (List.range (m + 1)).map fun i => D.tup [nmD (nmO ns i), .int (row i)]) (fun k ρ S' => S' = S ∧ ∃ x3 x4 x5, ρ = [some (nsD ns), some d, some (strD (lnK ns row k)), x3, x4, x5]) hf' ⟨rfl, _, _, _, rfl⟩ ?_ ?_ ?_
  · rintro i ρ S' ⟨rfl, _⟩
    exact hx i
  · rintro i ρ S' dd hd' ⟨rfl, x3, x4, x5, rfl⟩
    have hi : i < m + 1 := by simpa using (List.getElem?_eq_some_iff.mp hd').1
    rw [List.getElem?_map, List.getElem?_range hi] at hd'
    cases hd'
    refine ⟨_, rfl, ?_⟩
    walk_at "dl"
    have hb1 := hb i (by omega)
    have lk : lnK ns row (i + 1) = lnA ns row (lnK ns row i) i := lnK_succ
    unfold lnA at lk
    by_cases hz : row i = 0
    · rw [if_pos hz] at lk
      refine k_ifF (by simp [hz]) ?_
      walk_at "dl"
      refine ⟨rfl, some (nmD (nmO ns i)), some (.int (row i)), x5, ?_⟩
      rw [lk]; rfl
    · rw [if_neg hz, ln_step] at lk
      refine k_ifT (by simp [hz]) ?_
      have pt := ptL_len h (show i ≤ m by omega) (num_len (hf i (by omega)))
      have fin : ∀ (sg : List Nat) (x5 : Option D), sg.length ≤ 3 → lnK ns row (i + 1) = lnK ns row i ++ sg ++ ptL (nmO ns i) (row i).natAbs →
          OkS (sSet 2 (e2 oAdd (e2 oAdd (eVar 2) (eVar 5)) (eL Lw.f_shown_part (aCons (eVar 3) (aCons (eVar 4) aNil)))) [some (nsD ns), some d, some (strD (lnK ns row i)), some (nmD (nmO ns i)), some (.int (row i)), some (strD sg)] S')
            fun f ρ2 S2 => f = .nx ∧ S2 = S' ∧ ∃ x3 x4 x5, ρ2 = [some (nsD ns), some d, some (strD (lnK ns row (i + 1))), x3, x4, x5] := by
        intro sg x5 hs he
        walk_at "dl"
        refine o_addS (by rw [SX.S_len, SX.S_len, sizeLine_eq]; omega) ?_
        rw [SX.S_cat]
        walk_at "dl"
        refine shown_part_ok h (by omega) (hf i (by omega)) ?_
        refine o_addS (by rw [SX.S_len, SX.S_len, List.length_append, sizeLine_eq]; omega) ?_
        rw [SX.S_cat, ← he]
        exact ⟨rfl, rfl, _, _, _, rfl⟩
      walk_at "dl"
      refine o_sgn ?_
      have fin2 : ∀ (sg : List Nat), sg.length ≤ 3 → lnK ns row (i + 1) = lnK ns row i ++ sg ++ ptL (nmO ns i) (row i).natAbs →
          OkS (sSet 2 (e2 oAdd (e2 oAdd (eVar 2) (eVar 5)) (eL Lw.f_shown_part (aCons (eVar 3) (aCons (eVar 4) aNil)))) [some (nsD ns), some d, some (strD (lnK ns row i)), some (nmD (nmO ns i)), some (.int (row i)), some (strD sg)] S')
            fun f ρ2 S2 => match f with
              | .nx => S2 = S' ∧ ∃ x3 x4 x5, ρ2 = [some (nsD ns), some d, some (strD (lnK ns row (i + 1))), x3, x4, x5]
              | .cnt => S2 = S' ∧ ∃ x3 x4 x5, ρ2 = [some (nsD ns), some d, some (strD (lnK ns row (i + 1))), x3, x4, x5]
              | .brk => OkS (sRet (eOrV (eVar 2) (eC (D.str (Str.ofString "0")))) ρ2 S2) fun f ρ' S'_1 =>
                  match f with
                  | .nx => P D.non (trim S' D.non S'_1)
                  | .ret d => P d (trim S' d S'_1)
                  | x => False
              | .ret d => P d (trim S' d S2) := fun sg h1 h2 => (fin sg x5 h1 h2).imp fun f ρ2 S2 ⟨e1, e2, e3⟩ => by subst e1; exact ⟨e2, e3⟩
      have es : ∀ a b : List Nat, (if row i < 0 then SX.S a else SX.S b) = SX.S (if row i < 0 then a else b) := fun a b => by split <;> rfl
      walk_at "dl"
      rw [dec_S]
      by_cases ha : lnK ns row i = []
      · rw [if_pos ha] at lk
        refine k_ifT (by simp [ha]) ?_
        walk_at "dl"
        refine o_sgn ?_
        rw [lit_m, es [45] []]
        exact fin2 (if row i < 0 then [45] else []) (by split <;> simp) lk
      · rw [if_neg ha] at lk
        refine k_ifF (by simp [ha]) ?_
        walk_at "dl"
        rw [lit_sps, lit_sms, es]
        have h3 : (if row i < 0 then [32, 45, 32] else [32, 43, 32]).length ≤ 3 := by split <;> simp
        refine o_addS (by rw [SX.S_len, SX.S_len, sizeLine_eq]; omega) ?_
        rw [SX.S_cat]
        walk_at "dl"
        refine shown_part_ok h (by omega) (hf i (by omega)) ?_
        refine o_addS (by rw [SX.S_len, SX.S_len, List.length_append, sizeLine_eq]; omega) ?_
        rw [SX.S_cat, ← lk]
        exact ⟨rfl, _, _, _, rfl⟩
  · rintro ρ S' ⟨rfl, x3, x4, x5, rfl⟩
    rw [List.length_map, List.length_range]
    walk_at "dl"
    refine k_orV (k_var rfl ?_)
    have hb1 := hb (m + 1) (Nat.le_refl _)
    refine ⟨!decide (lnK ns row (m + 1) = []), ?_, ?_⟩
    · show (if (SX.S (lnK ns row (m + 1))).length ≤ sizeLine then some (((SX.S (lnK ns row (m + 1))).length : Int) != 0) else none) = _
      rw [SX.S_len, if_pos (by rw [sizeLine_eq]; omega)]
      cases lnK ns row (m + 1) <;> simp
      omega
    · unfold lnT at q
      by_cases e : lnK ns row (m + 1) = []
      · rw [if_pos e] at q
        rw [if_neg (by simp [e])]
        refine k_c ?_
        rw [trim_same rfl, lit_0]
        exact q
      · rw [if_neg e] at q
        rw [if_pos (by simp [e]), trim_same rfl]
        exact q
end

/-! ### parts read -/
section
variable {S : Sto} {P : D → Sto → Prop} {ns : List (List Nat)} {m : Nat} {row : Nat → Int} {d : D}
theorem o_rpart {a b : Str} {x y z : Str} (h : (b.length == 0) = false) (hz : a.length ≤ sizeLine) (e : Txt.rpartition a b = (x, y, z)) (q : P (.tup [.str x, .str y, .str z]) S) : Ok (mRPart (.str a) [.str b] S) P := by
  unfold mRPart
  dsimp only
  rw [if_pos ⟨h, hz⟩, e]
  exact ⟨q⟩
theorem strs_map : ∀ l : List (List Nat), strsD (l.map strD) = some (l.map SX.S)
  | [] => rfl
  | x :: l => by
    show (strsD (l.map strD)).map (SX.S x :: ·) = _
    rw [strs_map l]; rfl
theorem o_index (h : Nms ns m) {i : Nat} (hi : i < m) (q : P (.int i) S) : Ok (mIndexS (nsD ns) [strD (ns.getD i [])] S) P := by
  have hl : i < ns.length := by rw [h.len]; exact hi
  have e : ns.getD i [] = ns[i] := by rw [List.getD_eq_getElem?_getD, List.getElem?_eq_getElem hl]; rfl
  have f : (ns.map SX.S).findIdx? (· == SX.S (ns.getD i [])) = some i := by
    refine List.findIdx?_eq_some_iff_getElem.mpr ⟨by simpa using hl, by rw [List.getElem_map, e]; exact beq_self_eq_true _, fun j hj => ?_⟩
    rw [List.getElem_map, e, SX.S_beq_eq]
    have : ns[j] ≠ ns[i] := fun z => by
      have := (List.getElem_inj h.nd).mp z
      omega
    simpa using this
  show Ok (match ((some (ns.map strD)).bind strsD : Option (List Str)) with
    | some ys => (match ys.findIdx? (· == SX.S (ns.getD i [])) with
      | some j => .ok (.int (j : Nat)) S
      | none => .stuck)
    | none => .stuck) P
  rw [Option.bind_some, strs_map]
  dsimp only
  rw [f]
  exact ⟨q⟩
theorem int_num600 {a : Nat} (h : (TL.numL a).length ≤ 640) : PySem.intText? (SX.S (TL.numL a)) = some (a : Int) := by
  rw [← num_nat]
  exact TL.int_num (by omega)
theorem figs_name {n : List Nat} (h : NmOk n) : figs n = false := by
  cases n with
  | nil => exact absurd rfl h.ne
  | cons c r =>
    have := h.al c (List.mem_cons_self ..)
    have e : ((c :: r).all fun c => decide (48 ≤ c ∧ c ≤ 57)) = false := by
      rw [List.all_cons, decide_eq_false (by omega), Bool.false_and]
    unfold figs
    rw [e]; simp
theorem name_42 {n : List Nat} (h : NmOk n) : 42 ∉ n := fun q => by have := h.al _ q; omega
set_option maxHeartbeats 2000000 in
theorem part_of_text_ok (h : Nms ns m) {i : Nat} (hi : i ≤ m) {a : Nat} (ha : (TL.numL a).length ≤ 600) (q : P (.tup [.int i, .int a]) S) : Ok (Lw.f_part_of_text [nsD ns, strD (ptL (nmO ns i) a)] S) P := by
  have hpl := ptL_len h hi ha
  have sz : (SX.S (ptL (nmO ns i) a)).length ≤ sizeLine := by rw [SX.S_len, sizeLine_eq]; omega
  unfold Lw.f_part_of_text
  refine k_fn rfl ?_
  unfold Lw.d_part_of_text
  rw [lit_e, lit_t, lit_1]
  walk_at "dl"
  cases i with
  | zero =>
    refine ⟨rfl, ?_⟩
    walk_at "dl"
    refine o_rpart (by decide) sz (rpart_none (TL.numL_free (n := a) (.inl (by decide)))) ?_
    refine ⟨_, rfl, ?_⟩
    walk_at "dl"
    refine k_ifT (by simp) ?_
    walk_at "dl"
    refine are_figures_ok (by omega) ?_
    walk_at "dl"
    refine k_ifT (numL_figs a) ?_
    walk_at "dl"
    refine o_intX (int_num600 (by omega)) (by rw [SX.S_len]; omega) ?_
    walk_at "dl"
    rw [trim_same rfl]
    exact q
  | succ i =>
    have ok := (h.get (show i < m by omega)).2
    have hin : ns.getD i [] ∈ ns := List.mem_of_getElem? (h.get (show i < m by omega)).1
    have hl := ok.len
    have ep : ptL (nmO ns (i + 1)) a = if a = 1 then ns.getD i [] else TL.numL a ++ 42 :: ns.getD i [] := rfl
    by_cases h1 : a = 1
    · rw [if_pos h1] at ep
      rw [ep] at sz ⊢
      refine ⟨rfl, ?_⟩
      walk_at "dl"
      refine o_rpart (by decide) sz (rpart_none (name_42 ok)) ?_
      refine ⟨_, rfl, ?_⟩
      walk_at "dl"
      refine k_ifT (by simp) ?_
      walk_at "dl"
      refine are_figures_ok (by omega) ?_
      rw [figs_name ok]
      walk_at "dl"
      refine o_notIn in_str ?_
      rw [decide_eq_true hin]
      walk_at "dl"
      refine k_ifF (by decide) ?_
      walk_at "dl"
      refine k_ifF (by first | decide | simp [SX.S] | (rw [dec_S]; simp)) ?_
      walk_at "dl"
      refine ⟨rfl, ?_⟩
      walk_at "dl"
      refine o_index h (show i < m by omega) ?_
      walk_at "dl"
      refine k_orV (k_var rfl ?_)
      refine ⟨false, by rfl, ?_⟩
      refine k_ifF (by decide) ?_
      refine k_c ?_
      walk_at "dl"
      refine o_intX one_txt (by decide) ?_
      walk_at "dl"
      rw [trim_same rfl, show (1 : Int) + (i : Int) = ((i + 1 : Nat) : Int) by omega]
      rw [h1] at q
      exact q
    · rw [if_neg h1] at ep
      rw [ep] at sz ⊢
      refine ⟨rfl, ?_⟩
      walk_at "dl"
      refine o_rpart (by decide) sz (rpart_some (name_42 ok)) ?_
      refine ⟨_, rfl, ?_⟩
      walk_at "dl"
      refine k_ifF (by first | decide | simp [SX.S] | (rw [dec_S]; simp)) ?_
      walk_at "dl"
      refine o_notIn in_str ?_
      rw [decide_eq_true hin]
      walk_at "dl"
      refine k_ifF (by decide) ?_
      walk_at "dl"
      refine k_ifT (by simp) ?_
      walk_at "dl"
      refine are_figures_ok (by omega) ?_
      rw [numL_figs]
      walk_at "dl"
      refine k_ifF (by first | decide | simp) ?_
      walk_at "dl"
      refine ⟨rfl, ?_⟩
      walk_at "dl"
      refine o_index h (show i < m by omega) ?_
      walk_at "dl"
      refine k_orV (k_var rfl ?_)
      refine ⟨true, ?_, ?_⟩
      · show (if (SX.S (TL.numL a)).length ≤ sizeLine then some (((SX.S (TL.numL a)).length : Int) != 0) else none) = some true
        rw [SX.S_len, if_pos (by rw [sizeLine_eq]; omega)]
        obtain ⟨x, xs, e⟩ := List.exists_cons_of_ne_nil (TL.numL_ne a)
        rw [e]
        simp
        omega
      refine k_ifT rfl ?_
      walk_at "dl"
      refine o_intX (int_num600 (a := a) (by omega)) (by rw [SX.S_len]; omega) ?_
      walk_at "dl"
      rw [trim_same rfl, show (1 : Int) + (i : Int) = ((i + 1 : Nat) : Int) by omega]
      exact q
end

/-! ### lines read -/
theorem rep_one {x : D} : ∀ n : Nat, (List.replicate n [x]).flatten = List.replicate n x
  | 0 => rfl
  | n + 1 => by rw [List.replicate_succ, List.flatten_cons, rep_one n, List.replicate_succ]; rfl
theorem o_isNt {xs : List D} {S : Sto} {P : D → Sto → Prop} (q : P (.bl false) S) : Ok (oIsN (.tup xs) .non S) P := ⟨q⟩
theorem cell_rep {n : Nat} {x : D} {i : Int} {S : Sto} {P : D → Sto → Prop} (hi : i = (n : Int)) (hn : n ≤ 1000) (q : P (.cell S.length) (S ++ [some (.lst (List.replicate n x))])) : Ok (oMulC (.lst [x]) (.int i) S) P := by
  subst hi
  unfold oMulC
  simp only [listOw]
  have e : (List.replicate ((n : Nat) : Int).toNat [x]).flatten = List.replicate n x := by
    rw [Int.toNat_natCast]
    exact rep_one n
  rw [e, if_pos ⟨by omega, by omega, by rw [sizeLine_eq]; simp; omega⟩]
  exact ⟨q⟩
theorem cell_cat {xs ys : List D} {S : Sto} {P : D → Sto → Prop} (hz : xs.length + ys.length ≤ sizeLine) (q : P (.cell S.length) (S ++ [some (.lst (xs ++ ys))])) : Ok (oAddC (.lst xs) (.lst ys) S) P := by
  unfold oAddC
  simp only [listOw, hz, if_true]
  exact ⟨q⟩
theorem o_sl3 {d : D} {xs : List D} {c : Int} {lo hi : Option Int} {S : Sto} {P : D → Sto → Prop} (h : DL.listOf S d = some xs) (q : P (.lst (DL.pick3 xs lo hi (some c))) S) : Ok (oSl3 c d lo hi S) P := by
  unfold oSl3
  simp only [h]
  exact ⟨q⟩
/-- places put one by one -/
def putR (row : Nat → Int) (is : List Nat) (n : Nat) : List D := (List.range n).map fun j => D.int (if j ∈ is then row j else 0)
theorem putR_nil {row : Nat → Int} {n : Nat} : putR row [] n = List.replicate n (.int 0) := by
  unfold putR
  simp [List.map_const']
theorem putR_set {row : Nat → Int} {is : List Nat} {n i : Nat} (hi : i < n) : (putR row is n).set i (.int (row i)) = putR row (is ++ [i]) n := by
  unfold putR
  refine List.ext_getElem? fun j => ?_
  by_cases hj : j < n
  · rw [List.getElem?_map, List.getElem?_range hj]
    by_cases e : i = j
    · subst e
      rw [List.getElem?_set_self (by simpa using hi)]
      simp
    · rw [List.getElem?_set_ne e, List.getElem?_map, List.getElem?_range hj]
      simp [List.mem_append, Ne.symm e]
  · rw [List.getElem?_eq_none (by simp; omega), List.getElem?_eq_none (by simp; omega)]
theorem putR_all {row : Nat → Int} {m : Nat} : putR row (plc row (m + 1)) (m + 1) = rowL (m + 1) row := by
  unfold putR rowL
  refine List.map_congr_left fun j hj => ?_
  have hj := List.mem_range.mp hj
  congr 1
  by_cases z : row j = 0
  · rw [if_neg fun q => (plc_mem.mp q).2 z, z]
  · rw [if_pos (plc_mem.mpr ⟨hj, z⟩)]
theorem neg_pt {ns : List (List Nat)} {m i a : Nat} (h : Nms ns m) (hi : i ≤ m) (f : Int) : neg (hdL f ++ ptL (nmO ns i) a) = decide (f < 0) := by
  unfold neg hdL
  by_cases z : f < 0
  · rw [if_pos z]; simp [z]
  · rw [if_neg z, List.nil_append, decide_eq_false z]
    refine decide_eq_false fun q => ?_
    have : 45 ∈ ptL (nmO ns i) a := List.mem_of_head? q
    rcases ptL_mem h hi this with e | e | e <;> omega
abbrev sgD (f : Int) : D := strD (sgL f)
section
variable {S : Sto} {P : D → Sto → Prop} {ns : List (List Nat)} {m : Nat} {row : Nat → Int} {d : D}
theorem sg_45 (f : Int) : decide (SX.S (sgL f) = SX.S [45]) = decide (f < 0) := by
  rw [dec_S]
  unfold sgL
  split <;> simp_all
theorem zip_two {α : Type} {f g : α → D} (l : List α) : zipD (l.map f) (l.map g) = l.map fun x => D.tup [f x, g x] := by
  refine List.ext_getElem? fun i => ?_
  rw [zipD_get, List.getElem?_map, List.getElem?_map, List.getElem?_map]
  cases l[i]? <;> rfl
/-- the places of a text, read one by one -/
def rdLoop : SD := (sSeq (sSet 8 (eL Lw.f_part_of_text (aCons (eVar 0) (aCons (eVar 7) aNil)))) (sSeq (sIf (bOr (bVal (e2 oIsN (eVar 8) (eC .non))) (bVal (e2 oNotIn (eVar 6) (eL mTup (aCons (eC (.str (SX.S [43]))) (aCons (eC (.str (SX.S [45]))) aNil)))))) (sRaise1 "NoText" "row" (aCons (eC (.int 0)) aNil)) sNx) (sSub setD (eVar 4) (e2 oIx (eVar 8) (eC (.int 0))) (e2 oIx (eL mLst (aCons (e2 oIx (eVar 8) (eC (.int 1))) (aCons (e1 oNeg (e2 oIx (eVar 8) (eC (.int 1)))) aNil))) (eL fInt (aCons (e2 oEq (eVar 6) (eC (.str (SX.S [45])))) aNil))))))
theorem in_sgs {f : Int} : inD S (sgD f) (.tup [.str (SX.S [43]), .str (SX.S [45])]) = some true := by
  unfold sgD
  show (if flatD (strD (sgL f)) && [D.str (SX.S [43]), D.str (SX.S [45])].all flatD then some ([D.str (SX.S [43]), D.str (SX.S [45])].any fun y => eqF y (strD (sgL f))) else none) = some true
  unfold sgL
  split
  · rfl
  · rfl
set_option maxHeartbeats 2000000 in
theorem step_ok (h : Nms ns m) {i c : Nat} {is : List Nat} {x1 x2 x3 x5 x8 x9 : Option D} (hi : i ≤ m) (hf : Sz 600 (row i)) (hc : S[c]? = some (some (.lst (putR row is (m + 1))))) :
    OkS (rdLoop [some (nsD ns), x1, x2, x3, some (.cell c), x5, some (sgD (row i)), some (strD (ptL (nmO ns i) (row i).natAbs)), x8, x9] S) fun f ρ S' => f = .nx ∧ S' = S.set c (some (.lst (putR row (is ++ [i]) (m + 1)))) ∧ ∃ x8, ρ = [some (nsD ns), x1, x2, x3, some (.cell c), x5, some (sgD (row i)), some (strD (ptL (nmO ns i) (row i).natAbs)), x8, x9] := by
  unfold rdLoop
  walk_at "dl"
  refine part_of_text_ok h hi (num_len hf) ?_
  walk_at "dl"
  refine o_isNt ?_
  walk_at "dl"
  refine o_notIn in_sgs ?_
  walk_at "dl"
  refine k_ifF (by decide) ?_
  walk_at "dl"
  rw [sg_45]
  have ev : (if row i < 0 then -(((row i).natAbs : Nat) : Int) else (((row i).natAbs : Nat) : Int)) = row i := by split <;> omega
  have go : ∀ (P : D → Sto → Prop), P (.int (row i)) S → Ok (oIx (.lst [.int ((row i).natAbs : Nat), .int (-((row i).natAbs : Nat))]) (.int (if decide (row i < 0) = true then 1 else 0)) S) P := fun P q => by
    rw [← ev] at q
    by_cases z : row i < 0
    · rw [if_pos z] at q
      rw [if_pos (by simpa using z)]
      exact o_ix rfl q
    · rw [if_neg z] at q
      rw [if_neg (by simpa using z)]
      exact o_ix rfl q
  refine go _ ?_
  walk_at "dl"
  refine ⟨_, setD_at hc rfl (by simp [putR]; omega), ?_⟩
  refine ⟨rfl, by rw [putR_set (by omega)], _, rfl⟩
end

/-! ### whole lines read; what is told is a list of its own -/
/-- what stood, stands -/
def Kp (S S' : Sto) : Prop := S.length ≤ S'.length ∧ ∀ i : Nat, i < S.length → S'[i]? = S[i]?
theorem Kp.refl {S : Sto} : Kp S S := ⟨Nat.le_refl _, fun _ _ => rfl⟩
theorem Kp.trans {S S1 S2 : Sto} (a : Kp S S1) (b : Kp S1 S2) : Kp S S2 := ⟨Nat.le_trans a.1 b.1, fun i h => (b.2 i (Nat.lt_of_lt_of_le h a.1)).trans (a.2 i h)⟩
theorem Kp.put {S S1 : Sto} {o : Option CO} {c : Nat} (a : Kp S S1) (h : S.length ≤ c) : Kp S (S1.set c o) := ⟨by rw [List.length_set]; exact a.1, fun i hi => by rw [List.getElem?_set_ne (by omega)]; exact a.2 i hi⟩
theorem trim_not {S S' : Sto} {d : D} (h : ¬ Cut S d S') : trim S d S' = S' := if_neg h
theorem trim_cell {S S' : Sto} {c : Nat} (h : S.length ≤ c) : trim S (.cell c) S' = S' := trim_not fun z => by
  have := z.1
  simp [D.bel] at this; omega
theorem trim_told {S S' : Sto} {w : Str} {c : Nat} (h : S.length ≤ c) : trim S (.tup [.str w, .cell c]) S' = S' := trim_not fun z => by
  have := z.1
  simp [D.bel, D.belL] at this; omega

theorem trim_back {S S' : Sto} {d : D} (h : ∀ i : Nat, i < S.length → S'[i]? = S[i]?) (hl : S.length ≤ S'.length) (hd : d.bel S.length = true) : trim S d S' = S := by
  have hc : Cut S d S' := ⟨hd, fun i c hi e => .inl (by rw [← h i hi]; exact e)⟩
  rw [trim_cut hc]
  refine List.ext_getElem? fun i => ?_
  by_cases hi : i < S.length
  · rw [List.getElem?_take_of_lt hi, h i hi]
  · rw [List.getElem?_eq_none (by rw [List.length_take]; omega), List.getElem?_eq_none (by omega)]
section
variable {S : Sto} {P : D → Sto → Prop} {ns : List (List Nat)} {m : Nat} {row : Nat → Int} {d e : D} {PI : ItD → Sto → Prop} {xs ys : List D}
theorem i_zofC {a b : Nat} (h1 : S[a]? = some (some (.lst xs))) (h2 : S[b]? = some (some (.lst ys))) (q : ∀ it : ItD, it.fu = (zipD xs ys).length + 1 → (∀ S' i, S'[a]? = some (some (.lst xs)) → S'[b]? = some (some (.lst ys)) → it.nx i S' = some (zipD xs ys)[i]?) → PI it S) : Ok (mItZ [.cell a, .cell b] S) PI := by
  have e1 : ∀ {S' : Sto} {c : Nat} {zs : List D}, S'[c]? = some (some (.lst zs)) → DL.listOf S' (.cell c) = some zs := fun h => by simp only [DL.listOf, h]
  show Ok ((match DL.listOf S (.cell a), DL.listOf S (.cell b) with
      | some xs, some ys => .ok (itZ (.cell a) (.cell b) (zipD xs ys).length) S
      | _, _ => .stuck : R ItD)) PI
  rw [e1 h1, e1 h2]
  exact ⟨q _ rfl fun S' i g1 g2 => by simp only [itZ, e1 g1, e1 g2]⟩
theorem rd_words (h : Nms ns m) : ∃ i0 is, TL.spl [32] 0 [] (lnT ns row m) = wds ns row (i0 :: is) ∧ (∀ j ∈ i0 :: is, j ≤ m) ∧ putR row (i0 :: is) (m + 1) = rowL (m + 1) row ∧ (i0 :: is).length ≤ m + 1 := by
  cases e : plc row (m + 1) with
  | nil =>
    have z : ∀ j, j < m + 1 → row j = 0 := fun j hj => by
      apply Classical.byContradiction
      intro q
      have := (plc_mem (row := row) (k := m + 1)).mpr ⟨hj, q⟩
      rw [e] at this
      cases this
    have h1 := (lnK_wds (row := row) h (m + 1) (Nat.le_refl _)).2.mpr e
    refine ⟨0, [], ?_, fun j hj => ?_, ?_, by simp⟩
    · unfold lnT
      rw [if_pos h1]
      show _ = [hdL (row 0) ++ TL.numL (row 0).natAbs]
      rw [z 0 (by omega)]
      decide +kernel
    · simp at hj; omega
    · unfold putR rowL
      refine List.map_congr_left fun j hj => ?_
      have hj := List.mem_range.mp hj
      rw [z j hj]
      simp
  | cons i0 is =>
    refine ⟨i0, is, ?_, fun j hj => ?_, ?_, ?_⟩
    · rw [spl_line h (by rw [e]; simp), e]
    · have := (plc_mem (row := row) (k := m + 1)).mp (by rw [e]; exact hj)
      omega
    · rw [← e]; exact putR_all
    · rw [← e]
      unfold plc
      refine Nat.le_trans (List.length_filter_le _ _) ?_
      simp
theorem wds_D {i0 : Nat} {is : List Nat} : ((wds ns row (i0 :: is)).map SX.S).map D.str = strD (hdL (row i0) ++ ptL (nmO ns i0) (row i0).natAbs) :: is.flatMap fun j => [sgD (row j), strD (ptL (nmO ns j) (row j).natAbs)] := by
  unfold wds
  rw [List.map_cons, List.map_cons]
  congr 1
  induction is with
  | nil => rfl
  | cons j is ih =>
    rw [List.flatMap_cons, List.flatMap_cons, List.map_append, List.map_append, ih]
    rfl
theorem lnT_len (h : Nms ns m) (hf : ∀ i, i ≤ m → Sz 600 (row i)) : (lnT ns row m).length ≤ 6864 := by
  have hm := h.m
  have := lnK_len (row := row) h (fun i hi => num_len (hf i hi)) (m + 1) (Nat.le_refl _)
  have : (m + 1) * 624 ≤ 11 * 624 := Nat.mul_le_mul_right _ (by omega)
  unfold lnT
  split
  · simp
  · omega
set_option maxHeartbeats 4000000 in
theorem read_line_ok (h : Nms ns m) (hf : ∀ i, i ≤ m → Sz 600 (row i)) (q : ∀ c S', S.length ≤ c → Kp S S' → S'[c]? = some (some (.lst (rowL (m + 1) row))) → P (.cell c) S') : Ok (Lw.f_read_line [nsD ns, strD (lnT ns row m)] S) P := by
  obtain ⟨i0, is, hw, hle, hput, hlen⟩ := rd_words (row := row) h
  have hT := lnT_len h hf
  have hm := h.m
  have hnl := h.len
  unfold Lw.f_read_line
  refine k_fn rfl ?_
  unfold Lw.d_read_line
  rw [lit_p, lit_m, lit_sp]
  walk_at "dl"
  refine o_isi (k := "str") rfl rfl ?_
  walk_at "dl"
  refine k_ifF (by decide) ?_
  walk_at "dl"
  refine ⟨rfl, ?_⟩
  walk_at "dl"
  refine o_split (by decide) (by rw [SX.S_len, sizeLine_eq]; omega) ?_
  rw [SX.split_S (by decide) (by decide), hw, wds_D]
  have i0le := hle i0 (List.mem_cons_self ..)
  have plen := ptL_len h i0le (num_len (hf i0 i0le))
  have hln : is.length ≤ 10 := by simp at hlen; omega
  refine ⟨_, _, rfl, by rw [twos_len]; omega, ?_⟩
  walk_at "dl"
  refine o_sl3 rfl ?_
  rw [pick_even]
  refine cell_cat (by rw [sizeLine_eq]; simp; omega) ?_
  walk_at "dl"
  refine o_sl3 rfl ?_
  rw [pick_odd]
  refine cell_cat (by rw [sizeLine_eq]; simp; omega) ?_
  have l1 : (S ++ [some (CO.lst ([D.str (SX.S [43])] ++ is.map fun j => sgD (row j)))]).length = S.length + 1 := by simp
  rw [l1]
  generalize hS2 : S ++ [some (CO.lst ([D.str (SX.S [43])] ++ is.map fun j => sgD (row j)))] ++ [some (CO.lst ([strD (hdL (row i0) ++ ptL (nmO ns i0) (row i0).natAbs)] ++ is.map fun j => strD (ptL (nmO ns j) (row j).natAbs)))] = S2
  have old2 : ∀ i : Nat, i < S.length → S2[i]? = S[i]? := fun i hi => by rw [← hS2, List.append_assoc, List.getElem?_append_left hi]
  have c2 : S2[S.length]? = some (some (.lst ([D.str (SX.S [43])] ++ is.map fun j => sgD (row j)))) := by rw [← hS2, List.append_assoc, List.getElem?_append_right (Nat.le_refl _)]; simp
  have c3 : S2[S.length + 1]? = some (some (.lst ([strD (hdL (row i0) ++ ptL (nmO ns i0) (row i0).natAbs)] ++ is.map fun j => strD (ptL (nmO ns j) (row j).natAbs)))) := by rw [← hS2, List.append_assoc, List.getElem?_append_right (by omega)]; simp
  have len2 : S2.length = S.length + 2 := by rw [← hS2]; simp
  clear hS2
  refine k_seqQ (Q := fun f ρ S' => f = .nx ∧ S'.length = S.length + 2 ∧ (∀ i : Nat, i < S.length → S'[i]? = S[i]?) ∧ S'[S.length]? = some (some (.lst ((i0 :: is).map fun j => sgD (row j)))) ∧ S'[S.length + 1]? = some (some (.lst ((i0 :: is).map fun j => strD (ptL (nmO ns j) (row j).natAbs)))) ∧
      ρ = [some (nsD ns), some (strD (lnT ns row m)), some (.cell S.length), some (.cell (S.length + 1)), none, some (strD (hdL (row i0) ++ ptL (nmO ns i0) (row i0).natAbs)), none, none, none, some (.lst (is.flatMap fun j => [sgD (row j), strD (ptL (nmO ns j) (row j).natAbs)]))]) ?_ ?_
  · walk_at "dl"
    refine ⟨rfl, ?_⟩
    walk_at "dl"
    refine o_starts ?_
    rw [starts_neg, neg_pt h i0le]
    walk_at "dl"
    by_cases z : row i0 < 0
    · have eh : hdL (row i0) = [45] := by unfold hdL; rw [if_pos z]
      have es : sgD (row i0) = strD [45] := by show strD (sgL (row i0)) = _; unfold sgL; rw [if_pos z]
      refine k_ifT (by simpa using z) ?_
      walk_at "dl"
      refine ⟨_, setD_at (j := 0) c2 rfl (by simp), ?_⟩
      walk_at "dl"
      refine o_slS (by rw [SX.S_len, List.length_append, eh, sizeLine_eq]; simp; omega) ?_
      rw [cut_from1, eh]
      walk_at "dl"
      refine ⟨_, setD_at (j := 0) (xs := [strD (hdL (row i0) ++ ptL (nmO ns i0) (row i0).natAbs)] ++ is.map fun j => strD (ptL (nmO ns j) (row j).natAbs)) (by rw [List.getElem?_set_ne (by omega)]; exact c3) rfl (by simp), ?_⟩
      refine ⟨rfl, by simp [len2], fun i hi => ?_, ?_, ?_, rfl⟩
      · rw [List.getElem?_set_ne (by omega), List.getElem?_set_ne (by omega)]; exact old2 i hi
      · rw [List.getElem?_set_ne (by omega), List.getElem?_set_self (by omega), List.map_cons, es]; rfl
      · rw [List.getElem?_set_self (by rw [List.length_set]; omega)]; rfl
    · have eh : hdL (row i0) = [] := by unfold hdL; rw [if_neg z]
      have es : sgD (row i0) = strD [43] := by show strD (sgL (row i0)) = _; unfold sgL; rw [if_neg z]
      refine k_ifF (by simpa using z) ?_
      walk_at "dl"
      refine ⟨rfl, len2, old2, ?_, ?_, rfl⟩
      · rw [c2, List.map_cons, es]; rfl
      · rw [c3, List.map_cons, eh]; rfl
  rintro f ρ S3 ⟨rfl, len3, old3, d2, d3, rfl⟩
  dsimp only
  have lo : ∀ {S' : Sto} {c : Nat} {zs : List D}, S'[c]? = some (some (.lst zs)) → DL.listOf S' (.cell c) = some zs := fun h => by simp only [DL.listOf, h]
  walk_at "dl"
  refine o_lenL (seq_lof (lo d2)) ?_
  walk_at "dl"
  refine o_lenL (seq_lof (lo d3)) ?_
  walk_at "dl"
  refine k_ifF (by simp) ?_
  walk_at "dl"
  refine cell_rep (n := m + 1) (by simp; omega) (by omega) ?_
  rw [len3]
  generalize hS4 : S3 ++ [some (CO.lst (List.replicate (m + 1) (D.int 0)))] = S4
  have len4 : S4.length = S.length + 3 := by rw [← hS4]; simp [len3]
  have old4 : ∀ i : Nat, i < S.length → S4[i]? = S[i]? := fun i hi => by rw [← hS4, List.getElem?_append_left (by omega)]; exact old3 i hi
  have g2 : S4[S.length]? = some (some (.lst ((i0 :: is).map fun j => sgD (row j)))) := by rw [← hS4, List.getElem?_append_left (by omega)]; exact d2
  have g3 : S4[S.length + 1]? = some (some (.lst ((i0 :: is).map fun j => strD (ptL (nmO ns j) (row j).natAbs)))) := by rw [← hS4, List.getElem?_append_left (by omega)]; exact d3
  have g4 : S4[S.length + 2]? = some (some (.lst (putR row [] (m + 1)))) := by rw [← hS4, List.getElem?_append_right (by omega), len3, putR_nil]; simp
  clear hS4
  walk_at "dl"
  refine i_zofC g2 g3 fun it hf' hx => ?_
  rw [zip_two] at hf' hx
  refine k_forN (xs := (i0 :: is).map fun j => D.tup [sgD (row j), strD (ptL (nmO ns j) (row j).natAbs)]) (fun k ρ S' => S'.length = S.length + 3 ∧ (∀ i : Nat, i < S.length → S'[i]? = S[i]?) ∧ S'[S.length]? = some (some (.lst ((i0 :: is).map fun j => sgD (row j)))) ∧ S'[S.length + 1]? = some (some (.lst ((i0 :: is).map fun j => strD (ptL (nmO ns j) (row j).natAbs)))) ∧ S'[S.length + 2]? = some (some (.lst (putR row ((i0 :: is).take k) (m + 1)))) ∧
      ∃ x6 x7 x8, ρ = [some (nsD ns), some (strD (lnT ns row m)), some (.cell S.length), some (.cell (S.length + 1)), some (.cell (S.length + 2)), some (strD (hdL (row i0) ++ ptL (nmO ns i0) (row i0).natAbs)), x6, x7, x8, some (.lst (is.flatMap fun j => [sgD (row j), strD (ptL (nmO ns j) (row j).natAbs)]))]) hf' ⟨len4, old4, g2, g3, g4, _, _, _, rfl⟩ ?_ ?_ ?_
  · rintro i ρ S' ⟨_, _, e2, e3, _⟩
    exact hx S' i e2 e3
  · rintro k ρ S' dd hd' ⟨f1, f2, f3, f4, f5, x6, x7, x8, rfl⟩
    obtain ⟨j, hj, rfl⟩ : ∃ j, (i0 :: is)[k]? = some j ∧ dd = D.tup [sgD (row j), strD (ptL (nmO ns j) (row j).natAbs)] := by
      rw [List.getElem?_map] at hd'
      cases hk : (i0 :: is)[k]? with
      | none => rw [hk] at hd'; cases hd'
      | some j => rw [hk] at hd'; cases hd'; exact ⟨j, rfl, rfl⟩
    have jle := hle j (List.mem_of_getElem? hj)
    refine ⟨_, rfl, ?_⟩
    refine (step_ok (S := S') h jle (hf j jle) f5).imp ?_
    rintro f ρ S5 ⟨rfl, rfl, x8, rfl⟩
    have et : (i0 :: is).take (k + 1) = (i0 :: is).take k ++ [j] := by rw [List.take_succ, hj]; rfl
    refine ⟨by rw [List.length_set]; exact f1, fun i hi => ?_, ?_, ?_, ?_, _, _, _, rfl⟩
    · rw [List.getElem?_set_ne (by omega)]; exact f2 i hi
    · rw [List.getElem?_set_ne (by omega)]; exact f3
    · rw [List.getElem?_set_ne (by omega)]; exact f4
    · rw [List.getElem?_set_self (by omega), et]
  · rintro ρ S' ⟨f1, f2, f3, f4, f5, x6, x7, x8, rfl⟩
    rw [List.length_map, List.take_length, hput] at f5
    walk_at "dl"
    refine shown_line_ok h hf (lo f5) ?_
    walk_at "dl"
    refine k_ifF (by simp) ?_
    walk_at "dl"
    rw [trim_cell (by omega)]
    exact q _ _ (by omega) ⟨by omega, f2⟩ f5
end

/-! ### wishes written and read -/
def endL (w : Str) : List Nat := if w = "just" then [32, 61, 32, 48] else [32, 62, 61, 32, 48]
theorem lit_ge : (" >= 0" : Str) = SX.S [32, 62, 61, 32, 48] := S_of " >= 0"
theorem lit_eq : (" = 0" : Str) = SX.S [32, 61, 32, 48] := S_of " = 0"
theorem ends_S (a b : List Nat) : Txt.endswith (SX.S a) (SX.S b) = (decide (b.length ≤ a.length) && ((a.drop (a.length - b.length)).take b.length == b)) := by
  unfold Txt.endswith
  rw [PySem.StrLaws.subAt_eq, SX.S_len, SX.S_len]
  show (decide (0 + b.length ≤ a.length) && ((a.drop (a.length - b.length)).take (SX.S b).length == b)) = _
  rw [SX.S_len, Nat.zero_add]
theorem ends_own (a b : List Nat) : Txt.endswith (SX.S (a ++ b)) (SX.S b) = true := by
  rw [ends_S, List.length_append, decide_eq_true (by omega), Nat.add_sub_cancel, List.drop_left' rfl, List.take_length]
  simp
theorem ends_other (a : List Nat) : Txt.endswith (SX.S (a ++ [32, 61, 32, 48])) (SX.S [32, 62, 61, 32, 48]) = false := by
  rw [ends_S, Bool.and_eq_false_iff]
  by_cases h : a = []
  · left; subst h; decide
  · right
    have hl : 0 < a.length := List.length_pos_iff.mpr h
    rw [List.length_append, show a.length + [32, 61, 32, 48].length - [32, 62, 61, 32, 48].length = a.length - 1 by simp, List.drop_append_of_le_length (by omega)]
    obtain ⟨c, e⟩ : ∃ c, a.drop (a.length - 1) = [c] := by
      have := List.length_drop (i := a.length - 1) (l := a)
      match hd : a.drop (a.length - 1), this with
      | [c], _ => exact ⟨c, rfl⟩
      | [], t => simp at t; omega
      | _ :: _ :: _, t => simp at t; omega
    rw [e]
    simp
theorem cut_end (a b : List Nat) : L2.cutS (SX.S (a ++ b)) none (some (((SX.S (a ++ b)).length : Int) - ((SX.S b).length : Int))) = SX.S a := by
  rw [C8.cutS_slice]
  exact SX.to_app a b (by rw [SX.S_len, SX.S_len, List.length_append]; omega)
section
variable {S : Sto} {P : D → Sto → Prop} {ns : List (List Nat)} {m : Nat} {row : Nat → Int} {d : D} {w : Str}
theorem o_ends {a b : Str} (q : P (.bl (Txt.endswith a b)) S) : Ok (mEnds (.str a) [.str b] S) P := ⟨q⟩
theorem o_tab {tb : List (Str × Str)} {k v : Str} (h : tb.lookup k = some v) (q : P (.str v) S) : Ok (oTab tb (.str k) S) P := by
  unfold oTab
  simp only [h]
  exact ⟨q⟩
theorem i_tab {tb : List (Str × Str)} {ρ : DL.Env} {PI : ItD → Sto → Prop} (q : PI (itL (tb.map fun kv => .tup [.str kv.1, .str kv.2])) S) : Ok (imTab tb ρ S) PI := ⟨q⟩
theorem end_look (hw : w = "least" ∨ w = "just") : Lw.c_ENDS.lookup w = some (SX.S (endL w)) := by
  rcases hw with rfl | rfl
  · rw [show endL "least" = [32, 62, 61, 32, 48] from rfl, ← lit_ge]; rfl
  · rw [show endL "just" = [32, 61, 32, 48] from rfl, ← lit_eq]; rfl
theorem end_len : (endL w).length ≤ 5 := by unfold endL; split <;> simp
set_option maxHeartbeats 1000000 in
theorem shown_wish_ok (h : Nms ns m) (hf : ∀ i, i ≤ m → Sz 600 (row i)) (hw : w = "least" ∨ w = "just") (hd : DL.listOf S d = some (rowL (m + 1) row)) (q : P (strD (lnT ns row m ++ endL w)) S) : Ok (Lw.f_shown_wish [nsD ns, .tup [.str w, d]] S) P := by
  have hT := lnT_len h hf
  have he := end_len (w := w)
  unfold Lw.f_shown_wish
  refine k_fn rfl ?_
  unfold Lw.d_shown_wish
  walk_at "dl"
  refine shown_line_ok h hf hd ?_
  walk_at "dl"
  refine o_tab (end_look hw) ?_
  walk_at "dl"
  refine o_addS (by rw [SX.S_len, SX.S_len, sizeLine_eq]; omega) ?_
  rw [SX.S_cat, trim_same rfl]
  exact q
set_option maxHeartbeats 2000000 in
theorem read_wish_ok (h : Nms ns m) (hf : ∀ i, i ≤ m → Sz 600 (row i)) (hw : w = "least" ∨ w = "just") (q : ∀ c S', S.length ≤ c → Kp S S' → S'[c]? = some (some (.lst (rowL (m + 1) row))) → P (.tup [.str w, .cell c]) S') : Ok (Lw.f_read_wish [nsD ns, strD (lnT ns row m ++ endL w)] S) P := by
  have hT := lnT_len h hf
  have he := end_len (w := w)
  have ht : (SX.S (lnT ns row m ++ endL w)).length ≤ sizeLine := by rw [SX.S_len, List.length_append, sizeLine_eq]; omega
  unfold Lw.f_read_wish
  refine k_fn rfl ?_
  unfold Lw.d_read_wish
  walk_at "dl"
  refine o_isi (k := "str") rfl rfl ?_
  walk_at "dl"
  refine k_ifF (by decide) ?_
  walk_at "dl"
  refine i_tab ?_
  refine k_forL (fun i ρ S' => S' = S ∧ (i = 0 ∨ (i = 1 ∧ w = "just")) ∧ ∃ x2 x3, ρ = [some (nsD ns), some (strD (lnT ns row m ++ endL w)), x2, x3]) ⟨rfl, .inl rfl, _, _, rfl⟩ ?_ ?_
  · rintro i ρ S' dd hd ⟨rfl, hi, x2, x3, rfl⟩
    rcases hi with rfl | ⟨rfl, hj⟩
    · cases hd
      refine ⟨_, rfl, ?_⟩
      walk_at "dl"
      refine ⟨rfl, ?_⟩
      walk_at "dl"
      refine o_ends ?_
      walk_at "dl"
      rw [lit_ge]
      rcases hw with rfl | rfl
      · rw [show endL "least" = [32, 62, 61, 32, 48] from rfl] at ht ⊢
        refine k_ifT (ends_own _ _) ?_
        walk_at "dl"
        refine o_lenS ht ?_
        walk_at "dl"
        refine o_lenS (by rw [SX.S_len, sizeLine_eq]; simp) ?_
        walk_at "dl"
        refine o_slS ht ?_
        rw [cut_end]
        walk_at "dl"
        refine read_line_ok h hf fun c S2 hc kp ec => ?_
        walk_at "dl"
        rw [trim_told hc]
        exact q c S2 hc kp ec
      · rw [show endL "just" = [32, 61, 32, 48] from rfl]
        refine k_ifF (by rw [ends_other]; decide) ?_
        walk_at "dl"
        exact ⟨rfl, .inr ⟨rfl, rfl⟩, _, _, rfl⟩
    · cases hd
      refine ⟨_, rfl, ?_⟩
      walk_at "dl"
      refine ⟨rfl, ?_⟩
      walk_at "dl"
      refine o_ends ?_
      walk_at "dl"
      subst hj
      rw [lit_eq, show endL "just" = [32, 61, 32, 48] from rfl]
      rw [show endL "just" = [32, 61, 32, 48] from rfl] at ht
      refine k_ifT (ends_own _ _) ?_
      walk_at "dl"
      refine o_lenS ht ?_
      walk_at "dl"
      refine o_lenS (by rw [SX.S_len, sizeLine_eq]; simp) ?_
      walk_at "dl"
      refine o_slS ht ?_
      rw [cut_end]
      walk_at "dl"
      refine read_line_ok h hf fun c S2 hc kp ec => ?_
      walk_at "dl"
      rw [trim_told hc]
      exact q c S2 hc kp ec
  · rintro ρ S' ⟨_, hi, _⟩
    rcases hi with hi | ⟨hi, _⟩ <;> cases hi
end

/-! ### drawn names -/
theorem in_strL {a : List Nat} {ns : List (List Nat)} {S : Sto} {e : D} (h : seqOf S e = some (ns.map strD)) : inD S (strD a) e = some (decide (a ∈ ns)) := by
  have := in_str (a := a) (ns := ns) (S := S)
  unfold inD at this ⊢
  rw [h]
  exact this
section
variable {p n : Nat} {S : Sto} {P : D → Sto → Prop}
theorem o_join {a : Str} {xs : List D} {ys : List Str} {d : D} (h : seqOf S d = some xs) (h2 : strsD xs = some ys) (hz : (ys.map (·.length)).sum + ys.length * a.length ≤ 16777216) (q : P (.str (Txt.join a ys)) S) : Ok (mJoin (.str a) [d] S) P := by
  unfold mJoin
  simp only [h, Option.bind_some, h2]
  rw [if_pos hz]
  exact ⟨q⟩
theorem chk_cell' {n : Nat} {xs : List D} {S : Sto} (h : S[n]? = some (some (.lst xs))) : chkL (.cell n) S = true := by simp [chkL, DL.listOf, h]
end

/-! ### the law's own writing -/
def nmE : Option (List Nat) → List Nat
  | none => []
  | some n => n
theorem nmE_list {ns : List (List Nat)} {m : Nat} (h : ns.length = m) : [strD []] ++ ns.map strD = (List.range (m + 1)).map fun i => strD (nmE (nmO ns i)) := by
  rw [List.range_succ_eq_map, List.map_cons, List.map_map]
  show strD [] :: ns.map strD = strD [] :: _
  congr 1
  refine List.ext_getElem? fun i => ?_
  by_cases hi : i < m
  · rw [List.getElem?_map, List.getElem?_map, List.getElem?_range hi, List.getElem?_eq_getElem (by omega)]
    show some (strD ns[i]) = some (strD (ns.getD i []))
    rw [List.getD_eq_getElem?_getD, List.getElem?_eq_getElem (by omega)]; rfl
  · rw [List.getElem?_eq_none (by simp; omega), List.getElem?_eq_none (by simp; omega)]
section
variable {p m : Nat} {S : Sto} {P : D → Sto → Prop} {ns : List (List Nat)} {row : Nat → Int} {d : D}
end

/-! ### programs as texts: by their signs -/
def cd (s : Str) : List Nat := s.cps.toList
theorem cd_S (s : Str) : SX.S (cd s) = s := rfl
theorem cd_inj {s t : Str} (h : cd s = cd t) : s = t := by rw [← cd_S s, h, cd_S]
def nl (ns : List Str) : List (List Nat) := ns.map cd
theorem nl_D (ns : List Str) : nmsD ns = nsD (nl ns) := by
  unfold nmsD nsD nl
  rw [List.map_map]; rfl
theorem nl_len (ns : List Str) : (nl ns).length = ns.length := by unfold nl; simp
theorem nodup_mapY {α β : Type} {f : α → β} (hf : ∀ a b, f a = f b → a = b) : ∀ {l : List α}, l.Nodup → (l.map f).Nodup
  | [], _ => List.nodup_nil
  | a :: l, h => by
    obtain ⟨h1, h2⟩ := List.nodup_cons.mp h
    rw [List.map_cons, List.nodup_cons]
    refine ⟨fun hm => ?_, nodup_mapY hf h2⟩
    obtain ⟨b, hb, e⟩ := List.mem_map.mp hm
    exact h1 (hf b a e ▸ hb)
theorem nl_nd {ns : List Str} (h : ns.Nodup) : (nl ns).Nodup := nodup_mapY (fun a b e => cd_inj e) h
def ALy : List Nat := [97, 98, 99, 100, 101, 102, 103, 104, 105, 106, 107, 108, 109, 110, 111, 112, 113, 114, 115, 116, 117, 118, 119, 120, 121, 122]
theorem lit_ALy : ("abcdefghijklmnopqrstuvwxyz" : Str) = SX.S ALy := S_of "abcdefghijklmnopqrstuvwxyz"
theorem na_cd {s : Str} (h : NaOk s) : ∀ c ∈ cd s, 97 ≤ c ∧ c ≤ 122 := fun c hc => by
  have := h.al
  unfold signsD at this
  rw [List.all_map, List.all_eq_true] at this
  have e1 : (inD [] (.str (SX.S [c])) (.str "abcdefghijklmnopqrstuvwxyz") == some true) = true := this c hc
  have e2 : inD [] (.str (SX.S [c])) (.str "abcdefghijklmnopqrstuvwxyz") = some (decide (c ∈ ALy)) := by
    rw [lit_ALy]
    show some (!(Builtin.Str.occurrences (SX.S ALy) (SX.S [c]) 0 (SX.S ALy).length 1).isEmpty) = _
    rw [SX.in_one]
  rw [e2] at e1
  have hm : c ∈ ALy := by simpa using e1
  unfold ALy at hm
  simp only [List.mem_cons, List.not_mem_nil, or_false] at hm
  omega
theorem na_len {s : Str} (h : NaOk s) : 1 ≤ (cd s).length ∧ (cd s).length ≤ 6 := by
  have := h.lo; have := h.hi
  have e : (cd s).length = s.length := by simp [cd, Str.length]
  omega
/-- a name behind -/
def bh (n : List Nat) : List Nat := n ++ [39]
def bN (ns : List Str) : List (List Nat) := nl ns ++ (nl ns).map bh
theorem bN_ok {ns : List Str} (N : NasOk 3 ns) : Nms (bN ns) (2 * ns.length) := by
  have h3 := N.hi
  refine ⟨by unfold bN; simp [nl_len]; omega, fun n hn => ?_, ?_, by omega⟩
  · unfold bN at hn
    rcases List.mem_append.mp hn with hn | hn
    · obtain ⟨s, hs, rfl⟩ := List.mem_map.mp hn
      have l := na_len (N.ok s hs)
      exact ⟨fun e => by rw [e] at l; simp at l, fun c hc => .inr (na_cd (N.ok s hs) c hc), by omega⟩
    · obtain ⟨n', hn', rfl⟩ := List.mem_map.mp hn
      obtain ⟨s, hs, rfl⟩ := List.mem_map.mp hn'
      have l := na_len (N.ok s hs)
      refine ⟨by simp [bh], fun c hc => ?_, by simp [bh]; omega⟩
      unfold bh at hc
      rcases List.mem_append.mp hc with hc | hc
      · exact .inr (na_cd (N.ok s hs) c hc)
      · exact .inl (List.mem_singleton.mp hc)
  · unfold bN
    rw [List.nodup_append]
    refine ⟨nl_nd N.nd, nodup_mapY (f := bh) (fun a b e => List.append_cancel_right e) (nl_nd N.nd), fun a ha b hb e => ?_⟩
    obtain ⟨n', hn', rfl⟩ := List.mem_map.mp hb
    obtain ⟨s, hs, rfl⟩ := List.mem_map.mp ha
    have := na_cd (N.ok s hs) 39 (by rw [e]; simp [bh])
    omega
def rwf (l : List Int) : Nat → Int := fun i => l.getD i 0
theorem rowL_of {l : List Int} {n : Nat} (h : l.length = n) : rowL n (rwf l) = l.map .int := by
  subst h
  refine List.ext_getElem (by simp [rowL]) fun i h1 h2 => ?_
  rw [List.length_map] at h2
  simp only [rowL, rwf, List.getElem_map, List.getElem_range, List.getD_eq_getElem?_getD, List.getElem?_eq_getElem h2, Option.getD_some]
theorem rwf_sz {l : List Int} {r : Nat} (h : ∀ i ∈ l, Sz r i) : ∀ i, Sz r (rwf l i) := fun i => by
  unfold rwf
  rw [List.getD_eq_getElem?_getD]
  cases e : l[i]? with
  | none =>
    show Sz r 0
    unfold Sz
    have := Nat.two_pow_pos r
    simp only [Int.natAbs_zero]; omega
  | some x => exact h x (List.mem_of_getElem? e)
/-- the text of a wish -/
def wT (ns : List Str) (w : Wi) : List Nat := lnT (bN ns) (rwf w.2) (2 * ns.length) ++ endL w.1
def rowC : List Nat := [114, 111, 119]
def hW (pls : List Str) (r : Rw) : List (List Nat) := [rowC, (nl pls).getD r.1 [], (nl pls).getD r.2.1 []]
def hT (pls : List Str) (r : Rw) : List Nat := TL.joinL [32] (hW pls r)
def numC : List Nat := [110, 117, 109, 98, 101, 114, 115]
def plaC : List Nat := [112, 108, 97, 99, 101, 115]
def nT (ns : List Str) : List Nat := TL.joinL [32] (numC :: nl ns)
def pT (ns : List Str) : List Nat := TL.joinL [32] (plaC :: nl ns)
def rT (ns pls : List Str) (r : Rw) : List (List Nat) := hT pls r :: r.2.2.map (wT ns)
def bT (ns pls : List Str) (rows : List Rw) : List (List Nat) := rows.flatMap (rT ns pls)
def lsT (g : Pg) : List (List Nat) := nT g.1 :: pT g.2.1 :: bT g.1 g.2.1 g.2.2
def pgT (g : Pg) : List Nat := TL.joinL [10] (lsT g)
section
variable {ns pls : List Str} {r n : Nat} {w : Wi} {row : Rw} {g : Pg}
theorem wi_num (W : WiOk r n w) (hr : r ≤ 600) : ∀ i, i ≤ n → Sz 600 (rwf w.2 i) := fun i _ => (rwf_sz W.sz i).mono hr
theorem pl_get (M : NasOk 6 pls) {i : Nat} (hi : i < pls.length) : ∃ s, pls[i]? = some s ∧ NaOk s ∧ (nl pls).getD i [] = cd s := by
  refine ⟨pls[i], List.getElem?_eq_getElem hi, M.ok _ (List.getElem_mem hi), ?_⟩
  unfold nl
  rw [List.getD_eq_getElem?_getD, List.getElem?_map, List.getElem?_eq_getElem hi]; rfl
theorem nl_no (h : ∀ s ∈ ns, NaOk s) : ∀ p ∈ nl ns, 32 ∉ p ∧ 10 ∉ p := fun p hp => by
  obtain ⟨s, hs, rfl⟩ := List.mem_map.mp hp
  exact ⟨fun q => by have := na_cd (h s hs) _ q; omega, fun q => by have := na_cd (h s hs) _ q; omega⟩
theorem join_no {x : Nat} {s : List Nat} (hs : x ∉ s) : ∀ {ws : List (List Nat)}, (∀ w ∈ ws, x ∉ w) → x ∉ TL.joinL s ws
  | [], _ => by simp [TL.joinL]
  | [a], h => by show x ∉ a; exact h a (by simp)
  | a :: b :: ws, h => by
    have ih := join_no hs (ws := b :: ws) fun w hw => h w (by simp [hw])
    show x ∉ a ++ (s ++ TL.joinL s (b :: ws))
    simp only [List.mem_append, not_or]
    exact ⟨h a (by simp), hs, ih⟩
theorem join_len {s : List Nat} {k : Nat} (hs : s.length = 1) : ∀ {ws : List (List Nat)}, (∀ w ∈ ws, w.length ≤ k) → (TL.joinL s ws).length ≤ ws.length * (k + 1)
  | [], _ => by simp [TL.joinL]
  | [a], h => by
    have := h a (by simp)
    show a.length ≤ 1 * (k + 1)
    omega
  | a :: b :: ws, h => by
    have ih := join_len hs (ws := b :: ws) fun w hw => h w (by simp [hw])
    have := h a (by simp)
    show (a ++ (s ++ TL.joinL s (b :: ws))).length ≤ (ws.length + 1 + 1) * (k + 1)
    rw [List.length_append, List.length_append, hs]
    rw [List.length_cons] at ih
    have : (ws.length + 1 + 1) * (k + 1) = (ws.length + 1) * (k + 1) + (k + 1) := by rw [Nat.add_mul (ws.length + 1) 1]; omega
    omega
theorem hT_spl (M : NasOk 6 pls) (h1 : row.1 < pls.length) (h2 : row.2.1 < pls.length) : TL.spl [32] 0 [] (hT pls row) = hW pls row := by
  refine SX.spl_join (by simp [hW]) fun p hp => ?_
  obtain ⟨s, _, A, e1⟩ := pl_get M h1
  obtain ⟨t, _, B, e2⟩ := pl_get M h2
  unfold hW at hp
  rw [e1, e2] at hp
  simp only [List.mem_cons, List.not_mem_nil, or_false] at hp
  rcases hp with rfl | rfl | rfl
  · decide
  · exact fun q => by have := na_cd A _ q; omega
  · exact fun q => by have := na_cd B _ q; omega
theorem lnT_mem {ns : List (List Nat)} {m c : Nat} {row : Nat → Int} (h : Nms ns m) (hc : c ∈ lnT ns row m) : c ≠ 10 := by
  intro e
  subst e
  have h1 := lnK_wds (row := row) h (m + 1) (Nat.le_refl _)
  unfold lnT at hc
  split at hc
  · simp at hc
  · rw [h1.1] at hc
    refine join_no (x := 10) (by decide) ?_ hc
    intro w hw h10
    have all : ∀ is : List Nat, (∀ i ∈ is, i ≤ m) → ∀ w ∈ wds ns row is, 10 ∉ w := by
      intro is hi w hw h32
      have np : ∀ i, i ≤ m → 10 ∉ ptL (nmO ns i) (row i).natAbs := fun i hi q => by
        rcases ptL_mem h hi q with z | z | z <;> omega
      cases is with
      | nil => simp [wds] at hw
      | cons i is =>
        simp only [wds, List.mem_cons, List.mem_flatMap] at hw
        rcases hw with rfl | ⟨j, hj, q⟩
        · rcases List.mem_append.mp h32 with q | q
          · unfold hdL at q
            split at q <;> simp at q
          · exact np i (hi i (List.mem_cons_self ..)) q
        · simp only [List.mem_cons, List.not_mem_nil, or_false] at q
          rcases q with rfl | rfl
          · unfold sgL at h32
            split at h32 <;> simp at h32
          · exact np j (hi j (List.mem_cons_of_mem _ hj)) h32
    exact all _ (fun i hi => by have := (plc_mem.mp hi).1; omega) w hw h10
theorem end_no (w : Str) : 10 ∉ endL w := by unfold endL; split <;> decide
theorem wT_no (N : NasOk 3 ns) : 10 ∉ wT ns w := by
  unfold wT
  simp only [List.mem_append, not_or]
  exact ⟨fun h => lnT_mem (bN_ok N) h rfl, end_no _⟩
theorem hT_no (M : NasOk 6 pls) (h1 : row.1 < pls.length) (h2 : row.2.1 < pls.length) : 10 ∉ hT pls row := by
  obtain ⟨s, _, A, e1⟩ := pl_get M h1
  obtain ⟨t, _, B, e2⟩ := pl_get M h2
  refine join_no (by decide) fun p hp => ?_
  unfold hW at hp
  rw [e1, e2] at hp
  simp only [List.mem_cons, List.not_mem_nil, or_false] at hp
  rcases hp with rfl | rfl | rfl
  · decide
  · exact fun q => by have := na_cd A _ q; omega
  · exact fun q => by have := na_cd B _ q; omega
theorem lsT_no (G : PgOk r g) : ∀ p ∈ lsT g, 10 ∉ p := fun p hp => by
  unfold lsT at hp
  rcases List.mem_cons.mp hp with rfl | hp
  · refine join_no (by decide) fun w hw => ?_
    rcases List.mem_cons.mp hw with rfl | hw
    · decide
    · exact (nl_no G.nas.ok w hw).2
  · rcases List.mem_cons.mp hp with rfl | hp
    · refine join_no (by decide) fun w hw => ?_
      rcases List.mem_cons.mp hw with rfl | hw
      · decide
      · exact (nl_no G.pls.ok w hw).2
    · obtain ⟨rw', hr, hp⟩ := List.mem_flatMap.mp hp
      have W := G.rows _ hr
      rcases List.mem_cons.mp hp with rfl | hp
      · exact hT_no G.pls W.st W.to
      · obtain ⟨w, _, rfl⟩ := List.mem_map.mp hp
        exact wT_no G.nas
theorem pgT_spl (G : PgOk r g) : TL.spl [10] 0 [] (pgT g) = lsT g := SX.spl_join (by simp [lsT]) (lsT_no G)
theorem wT_len (N : NasOk 3 ns) (W : WiOk r (2 * ns.length) w) (hr : r ≤ 600) : (wT ns w).length ≤ 6869 := by
  have h1 := lnT_len (row := rwf w.2) (bN_ok N) (wi_num W hr)
  have h2 := end_len (w := w.1)
  unfold wT
  rw [List.length_append]; omega
end

/-! ### k22: the law's own writing -/
section
variable {S : Sto} {P : D → Sto → Prop} {ns : List (List Nat)} {m : Nat} {row : Nat → Int} {d : D}
set_option maxHeartbeats 4000000 in
theorem ltext_ok (h : Nms ns m) (hf : ∀ i, i ≤ m → Sz 600 (row i)) (q : P (strD (lnT ns row m)) S) : Ok (Lw.f__law_line_text [nsD ns, .lst (rowL (m + 1) row)] S) P := by
  have hm := h.m
  have hl := h.len
  have hb : ∀ k, k ≤ m + 1 → (lnK ns row k).length ≤ 6864 := fun k hk => by
    have := lnK_len (row := row) h (fun i hi => num_len (hf i hi)) k hk
    have : k * 624 ≤ 11 * 624 := Nat.mul_le_mul_right _ (by omega)
    omega
  unfold Lw.f__law_line_text
  refine k_fn rfl ?_
  unfold Lw.d__law_line_text
  rw [lit_e, lit_m, lit_t, lit_sps, lit_sms]
  walk_at "dl"
  refine o_addL (by rw [sizeLine_eq]; simp; omega) ?_
  walk_at "dl"
  rw [nmE_list hl]
  refine i_zof (xs := (List.range (m + 1)).map fun i => strD (nmE (nmO ns i))) (by rfl) (ys := rowL (m + 1) row) (by rfl) fun it hf' hx => ?_
  rw [zip_frow] at hf' hx
  refine k_forN (xs := (List.range (m + 1)).map fun i => D.tup [strD (nmE (nmO ns i)), .int (row i)]) (fun k ρ S' => S' = S ∧ ∃ x3 x4 x5 x6, ρ = [some (nsD ns), some (.lst (rowL (m + 1) row)), some (strD (lnK ns row k)), x3, x4, x5, x6]) hf' ⟨rfl, _, _, _, _, rfl⟩ ?_ ?_ ?_
  · rintro i ρ S' ⟨rfl, _⟩
    exact hx i
  · rintro i ρ S' dd hd' ⟨rfl, x3, x4, x5, x6, rfl⟩
    have hi : i < m + 1 := by simpa using (List.getElem?_eq_some_iff.mp hd').1
    rw [List.getElem?_map, List.getElem?_range hi] at hd'
    cases hd'
    refine ⟨_, rfl, ?_⟩
    have hb1 := hb i (by omega)
    have lk : lnK ns row (i + 1) = lnA ns row (lnK ns row i) i := lnK_succ
    unfold lnA at lk
    have hlen := num_len (hf i (by omega))
    have pt := ptL_len h (show i ≤ m by omega) hlen
    have es : ∀ a b : List Nat, (if row i < 0 then SX.S a else SX.S b) = SX.S (if row i < 0 then a else b) := fun a b => by split <;> rfl
    walk_at "dl"
    by_cases hz : row i = 0
    · rw [if_pos hz] at lk
      refine k_ifF (by simp [hz]) ?_
      first
        | exact k_nx ⟨rfl, _, _, _, _, by rw [lk]; rfl⟩
        | exact ⟨rfl, _, _, _, _, by rw [lk]; rfl⟩
    · rw [if_neg hz, ln_step] at lk
      refine k_ifT (by simp [hz]) ?_
      refine k_seqQ (fun f ρ1 S2 => f = .nx ∧ S2 = S' ∧ ρ1 = [some (nsD ns), some (.lst (rowL (m + 1) row)), some (strD (lnK ns row i)), some (strD (nmE (nmO ns i))), some (.int (row i)), some (strD (TL.numL (row i).natAbs ++ 42 :: nmE (nmO ns i))), x6]) ?_ ?_
      · walk_at "dl"
        refine o_strE (b := 0) (DatE.int (sz_abs (hf i (by omega))) (by decide) (by decide)) (by intro s hs; cases hs) (by decide) ?_
        rw [show (D.int (((row i).natAbs : Nat) : Int)).shown = SX.S (TL.numL (row i).natAbs) from num_nat _]
        walk_at "dl"
        refine o_addS (by rw [SX.S_len, SX.S_len, sizeLine_eq]; simp; omega) ?_
        rw [SX.S_cat]
        walk_at "dl"
        have hn : (nmE (nmO ns i)).length ≤ 20 := by
          cases i with
          | zero => simp [nmE, nmO]
          | succ i => exact (h.get (show i < m by omega)).2.len
        refine o_addS (by rw [SX.S_len, SX.S_len, List.length_append, List.length_singleton, sizeLine_eq]; omega) ?_
        rw [SX.S_cat]
        refine ⟨rfl, rfl, ?_⟩
        simp
      rintro f ρ1 S2 ⟨rfl, rfl, rfl⟩
      dsimp only
      refine k_seqQ (fun f ρ1 S3 => f = .nx ∧ S3 = S2 ∧ ρ1 = [some (nsD ns), some (.lst (rowL (m + 1) row)), some (strD (lnK ns row i)), some (strD (nmE (nmO ns i))), some (.int (row i)), some (strD (ptL (nmO ns i) (row i).natAbs)), x6]) ?_ ?_
      · walk_at "dl"
        rw [dec_S]
        cases i with
        | zero =>
          refine k_ifT (by simp [nmE, nmO]) ?_
          walk_at "dl"
          refine o_strE (b := 0) (DatE.int (sz_abs (hf 0 (by omega))) (by decide) (by decide)) (by intro s hs; cases hs) (by decide) ?_
          rw [show (D.int (((row 0).natAbs : Nat) : Int)).shown = SX.S (TL.numL (row 0).natAbs) from num_nat _]
          exact ⟨rfl, rfl, rfl⟩
        | succ i =>
          have ok := (h.get (show i < m by omega)).2
          have e : nmE (nmO ns (i + 1)) = ns.getD i [] := rfl
          rw [e]
          refine k_ifF (by simpa using ok.ne) ?_
          walk_at "dl"
          by_cases z : (row (i + 1)).natAbs = 1
          · refine k_ifT (by simp; omega) ?_
            walk_at "dl"
            refine ⟨rfl, rfl, ?_⟩
            rw [show ptL (nmO ns (i + 1)) (row (i + 1)).natAbs = ns.getD i [] by show (if _ then _ else _) = _; rw [if_pos z]]
            rfl
          · refine k_ifF (by simp; omega) ?_
            first
              | refine k_nx ⟨rfl, rfl, ?_⟩
              | refine ⟨rfl, rfl, ?_⟩
            rw [show ptL (nmO ns (i + 1)) (row (i + 1)).natAbs = TL.numL (row (i + 1)).natAbs ++ 42 :: ns.getD i [] by show (if _ then _ else _) = _; rw [if_neg z]]
      rintro f ρ1 S3 ⟨rfl, rfl, rfl⟩
      dsimp only
      walk_at "dl"
      refine o_sgn ?_
      rw [es]
      have h3 : (if row i < 0 then [32, 45, 32] else [32, 43, 32]).length ≤ 3 := by split <;> simp
      walk_at "dl"
      rw [dec_S]
      by_cases ha : lnK ns row i = []
      · rw [if_pos ha] at lk
        refine k_ifT (by simp [ha]) ?_
        walk_at "dl"
        refine o_sgn ?_
        rw [es [45] []]
        walk_at "dl"
        have h3 : (if row i < 0 then [45] else ([] : List Nat)).length ≤ 3 := by split <;> simp
        refine o_addS (by rw [SX.S_len, SX.S_len, sizeLine_eq]; omega) ?_
        rw [SX.S_cat]
        walk_at "dl"
        refine o_addS (by rw [SX.S_len, SX.S_len, List.length_append, sizeLine_eq]; omega) ?_
        rw [SX.S_cat, ← lk]
        exact ⟨rfl, _, _, _, _, rfl⟩
      · rw [if_neg ha] at lk
        refine k_ifF (by simp [ha]) ?_
        walk_at "dl"
        refine o_addS (by rw [SX.S_len, SX.S_len, sizeLine_eq]; omega) ?_
        rw [SX.S_cat]
        walk_at "dl"
        refine o_addS (by rw [SX.S_len, SX.S_len, List.length_append, sizeLine_eq]; omega) ?_
        rw [SX.S_cat, ← lk]
        exact ⟨rfl, _, _, _, _, rfl⟩
  · rintro ρ S' ⟨rfl, x3, x4, x5, x6, rfl⟩
    rw [List.length_map, List.length_range]
    walk_at "dl"
    rw [dec_S, lit_0]
    unfold lnT at q
    by_cases e : lnK ns row (m + 1) = []
    · rw [if_pos e] at q
      rw [if_pos (by simpa using e)]
      refine o_ix rfl ?_
      rw [trim_same rfl]
      exact q
    · rw [if_neg e] at q
      rw [if_neg (by simpa using e)]
      refine o_ix rfl ?_
      rw [trim_same rfl]
      exact q
theorem lwish_ok {ns : List Str} {w : Wi} {r : Nat} (N : NasOk 3 ns) (W : WiOk r (2 * ns.length) w) (hr : r ≤ 600) (q : P (strD (wT ns w)) S) : Ok (Lw.f__law_wish_text [nsD (bN ns), wD w] S) P := by
  have hT := lnT_len (row := rwf w.2) (bN_ok N) (wi_num W hr)
  have he := end_len (w := w.1)
  unfold Lw.f__law_wish_text wD rD
  refine k_fn rfl ?_
  unfold Lw.d__law_wish_text
  rw [lit_ge, lit_eq]
  walk_at "dl"
  rw [← rowL_of W.len]
  refine ltext_ok (bN_ok N) (wi_num W hr) ?_
  walk_at "dl"
  have e2 : L2.atI [D.str (SX.S [32, 62, 61, 32, 48]), D.str (SX.S [32, 61, 32, 48])] (if decide (w.1 = Str.ofString "just") = true then 1 else 0) = some (strD (endL w.1)) := by
    rcases W.word with h | h
    · rw [h]; rfl
    · rw [h]; rfl
  refine o_ix (v := strD (endL w.1)) (by show L2.atI _ _ = _; exact e2) ?_
  refine o_addS (by rw [SX.S_len, SX.S_len, sizeLine_eq]; omega) ?_
  rw [SX.S_cat, trim_same rfl]
  exact q
theorem s_behind {n : List Nat} (hl : n.length ≤ 100) (q : P (strD (bh n)) S) : Ok (oAdd (strD n) (.str "'") S) P := by
  rw [show ("'" : Str) = SX.S [39] from S_of "'"]
  refine o_addS (by rw [SX.S_len, SX.S_len, sizeLine_eq]; simp; omega) ?_
  rw [SX.S_cat]
  exact q
/-- a list, data or a cell -/
def LsD (S : Sto) (d : D) (xs : List D) : Prop := d = .lst xs ∨ ∃ n, d = .cell n ∧ S[n]? = some (some (.lst xs))
theorem LsD.of {d : D} {xs : List D} (h : LsD S d xs) : DL.listOf S d = some xs := by
  rcases h with rfl | ⟨n, rfl, e⟩
  · rfl
  · simp only [DL.listOf, e]
theorem o_addLs {d : D} {xs ys : List D} (h : LsD S d xs) (hz : xs.length + ys.length ≤ sizeLine) (q : P (.lst (xs ++ ys)) S) : Ok (oAdd d (.lst ys) S) P := by
  rcases h with rfl | ⟨n, rfl, e⟩
  · exact o_addL hz q
  · show Ok (oCat (.cell n) (.lst ys) S) P
    unfold oCat
    have e1 : listOw S (.cell n) = some xs := by simp only [listOw, DL.listOf, e]
    rw [e1]
    show Ok (if xs.length + ys.length ≤ sizeLine then _ else _) P
    rw [if_pos hz]; exact ⟨q⟩
theorem both_ok {ns : List Str} (N : NasOk 3 ns) (hd : LsD S d ((nl ns).map strD)) (q : P (nsD (bN ns)) S) : Ok (Lw.f_both_names [d] S) P := by
  have h3 := N.hi
  have hlen := nl_len ns
  unfold Lw.f_both_names
  refine k_fn rfl ?_
  unfold Lw.d_both_names Lw.c_BEHIND
  walk_at "dl"
  refine i_lof hd.of fun it hf hx => ?_
  rw [List.length_map] at hf
  refine lc_mapN (l := nl ns) (f := strD) (g := fun n => strD (bh n)) hf hx (by rw [sizeLine_eq]; omega) ?_ ?_
  · intro n hn
    refine ⟨_, rfl, ?_⟩
    walk_at "dl"
    refine s_behind ?_ ⟨rfl, rfl⟩
    obtain ⟨s, hs, rfl⟩ := List.mem_map.mp hn
    have := na_len (N.ok s hs); omega
  refine o_addLs hd (by rw [sizeLine_eq]; simp; omega) ?_
  rw [trim_same rfl, show ((nl ns).map strD ++ (nl ns).map fun n => strD (bh n)) = (bN ns).map strD by unfold bN; rw [List.map_append, List.map_map]; rfl]
  exact q
theorem i_ls {PI : ItD → Sto → Prop} {d : D} {xs : List D} (h : LsD S d xs) (q : ∀ it : ItD, it.fu = xs.length + 1 → (∀ S' i, LsD S' d xs → it.nx i S' = some xs[i]?) → PI it S) : Ok (mItL d S) PI := by
  rcases h with rfl | ⟨n, rfl, e⟩
  · exact i_list (q _ rfl fun S' i _ => by simp [itL])
  · refine i_cell e (q _ rfl fun S' i hS => ?_)
    rcases hS with h | ⟨n', h, e'⟩
    · cases h
    · cases h; exact itC_nx e'
theorem LsD.up {S' : Sto} {d : D} {xs : List D} (h : LsD S d xs) (o : ∀ x, x < S.length → S'[x]? = S[x]?) : LsD S' d xs := by
  rcases h with h | ⟨n, h, e⟩
  · exact .inl h
  · exact .inr ⟨n, h, (o n (List.getElem?_eq_some_iff.mp e).1).trans e⟩
theorem sum_leY {k : Nat} : ∀ {ys : List (List Nat)}, (∀ y ∈ ys, y.length ≤ k) → ((ys.map SX.S).map (·.length)).sum ≤ ys.length * k
  | [], _ => by simp
  | y :: ys, h => by
    have ih := sum_leY (ys := ys) fun z hz => h z (by simp [hz])
    have := h y (by simp)
    rw [List.map_cons, List.map_cons, List.sum_cons, List.length_cons, SX.S_len, Nat.add_mul]
    omega
theorem o_joinY {c : List Nat} {ws : List (List Nat)} {k m : Nat} {d : D} (h : seqOf S d = some (ws.map strD)) (hk : ∀ w ∈ ws, w.length ≤ k) (hm : ws.length ≤ m) (hz : m * (k + c.length) ≤ 16777216) (q : P (strD (TL.joinL c ws)) S) : Ok (mJoin (.str (SX.S c)) [d] S) P := by
  refine o_join h (strs_map ws) ?_ (by rw [SX.join_S]; exact q)
  have h1 := sum_leY hk
  rw [List.length_map, SX.S_len]
  have h2 : ws.length * k + ws.length * c.length ≤ m * (k + c.length) := by rw [← Nat.mul_add]; exact Nat.mul_le_mul_right _ hm
  omega
theorem join_consY {s a : List Nat} : ∀ {l : List (List Nat)}, l ≠ [] → TL.joinL s (a :: l) = a ++ (s ++ TL.joinL s l)
  | [], h => absurd rfl h
  | _ :: _, _ => rfl
theorem lit_num : ("numbers " : Str) = SX.S (numC ++ [32]) := S_of "numbers "
theorem lit_num0 : ("numbers" : Str) = SX.S numC := S_of "numbers"
theorem lit_pla : ("places " : Str) = SX.S (plaC ++ [32]) := S_of "places "
theorem lit_pla0 : ("places" : Str) = SX.S plaC := S_of "places"
theorem lit_row : ("row " : Str) = SX.S (rowC ++ [32]) := S_of "row "
theorem lit_row0 : ("row" : Str) = SX.S rowC := S_of "row"
theorem lit_nlY : ("\n" : Str) = SX.S [10] := S_of "\n"
theorem nl_lenY {ns : List Str} (h : ∀ s ∈ ns, NaOk s) : ∀ w ∈ nl ns, w.length ≤ 6 := fun w hw => by
  obtain ⟨s, hs, rfl⟩ := List.mem_map.mp hw
  exact (na_len (h s hs)).2
theorem nl_neY {m : Nat} {ns : List Str} (N : NasOk m ns) : nl ns ≠ [] := fun e => by
  have := N.lo
  rw [← nl_len ns, e] at this; simp at this
theorem bT_take {ns pls : List Str} {rows : List Rw} {i : Nat} {w : Rw} (h : rows[i]? = some w) : bT ns pls (rows.take (i + 1)) = bT ns pls (rows.take i) ++ rT ns pls w := by
  unfold bT
  rw [List.take_add_one, h, List.flatMap_append]
  simp
theorem bT_len {ns pls : List Str} : ∀ {rows : List Rw}, (∀ w ∈ rows, w.2.2.length ≤ 12) → (bT ns pls rows).length ≤ 13 * rows.length
  | [], _ => by simp [bT]
  | w :: rows, h => by
    have ih := bT_len (ns := ns) (pls := pls) (rows := rows) fun v hv => h v (by simp [hv])
    have := h w (by simp)
    have e : bT ns pls (w :: rows) = rT ns pls w ++ bT ns pls rows := rfl
    have e2 : (rT ns pls w).length = w.2.2.length + 1 := by unfold rT; rw [List.length_cons, List.length_map]
    rw [e, List.length_append, List.length_cons, e2]
    omega
theorem hT_len {pls : List Str} {row : Rw} (M : NasOk 6 pls) (h1 : row.1 < pls.length) (h2 : row.2.1 < pls.length) : (hT pls row).length ≤ 21 := by
  obtain ⟨s, _, A, e1⟩ := pl_get M h1
  obtain ⟨t, _, B, e2⟩ := pl_get M h2
  have := (na_len A).2; have := (na_len B).2
  unfold hT
  refine Nat.le_trans (join_len (k := 6) rfl fun p hp => ?_) (by simp [hW])
  unfold hW at hp
  rw [e1, e2] at hp
  simp only [List.mem_cons, List.not_mem_nil, or_false] at hp
  rcases hp with rfl | rfl | rfl
  · decide
  · omega
  · omega
theorem bT_lenL {g : Pg} {r : Nat} (G : PgOk r g) (hr : r ≤ 600) : ∀ p ∈ bT g.1 g.2.1 g.2.2, p.length ≤ 6869 := fun p hp => by
  obtain ⟨w, hw, hp⟩ := List.mem_flatMap.mp hp
  have W := G.rows w hw
  rcases List.mem_cons.mp hp with rfl | hp
  · have := hT_len G.pls W.st W.to; omega
  · obtain ⟨v, hv, rfl⟩ := List.mem_map.mp hp
    exact wT_len G.nas (W.ws v hv) hr
theorem lsT_lenL {g : Pg} {r : Nat} (G : PgOk r g) (hr : r ≤ 600) : (∀ p ∈ lsT g, p.length ≤ 6869) ∧ (lsT g).length ≤ 132 := by
  have g10 := G.len
  have n3 := G.nas.hi; have m6 := G.pls.hi
  refine ⟨fun p hp => ?_, ?_⟩
  · unfold lsT at hp
    rcases List.mem_cons.mp hp with rfl | hp
    · unfold nT
      refine Nat.le_trans (join_len (k := 7) rfl fun p hp => ?_) (by simp [nl_len]; omega)
      rcases List.mem_cons.mp hp with rfl | hp
      · decide
      · have := nl_lenY G.nas.ok p hp; omega
    · rcases List.mem_cons.mp hp with rfl | hp
      · unfold pT
        refine Nat.le_trans (join_len (k := 7) rfl fun p hp => ?_) (by simp [nl_len]; omega)
        rcases List.mem_cons.mp hp with rfl | hp
        · decide
        · have := nl_lenY G.pls.ok p hp; omega
      · exact bT_lenL G hr p hp
  · unfold lsT
    have := bT_len (ns := g.1) (pls := g.2.1) (rows := g.2.2) fun w hw => (G.rows w hw).len
    simp only [List.length_cons]; omega
set_option maxHeartbeats 4000000 in
/-- the text of a program, by the law -/
theorem lprog_ok {g : Pg} {r : Nat} (G : PgOk r g) (hr : r ≤ 600) {t : D} (ht : LsD S t (g.2.2.map rwD)) (q : P (strD (pgT g)) S) : Ok (Lw.f__law_program_text [.tup [nmsD g.1, nmsD g.2.1, t]] S) P := by
  have N := G.nas; have M := G.pls; have g10 := G.len
  have n3 := N.hi; have m6 := M.hi
  have ln := nl_len g.1; have lm := nl_len g.2.1
  have lN := nl_lenY N.ok; have lM := nl_lenY M.ok
  unfold Lw.f__law_program_text
  refine k_fn rfl ?_
  unfold Lw.d__law_program_text
  rw [nl_D, nl_D, lit_num, lit_pla, lit_row, lit_sp, lit_nlY]
  unfold nsD
  walk_at "dl"
  refine i_list ?_
  refine lc_mapN (l := nl g.1) (f := strD) (g := fun n => strD (bh n)) (by simp [itL]) (fun i => by simp [itL]) (by rw [sizeLine_eq]; omega) ?_ ?_
  · intro n hn
    refine ⟨_, rfl, ?_⟩
    walk_at "dl"
    exact s_behind (by have := lN n hn; omega) ⟨rfl, rfl⟩
  refine o_addL (by rw [sizeLine_eq]; simp; omega) ?_
  rw [show ((nl g.1).map strD ++ (nl g.1).map fun n => strD (bh n)) = (bN g.1).map strD by unfold bN; rw [List.map_append, List.map_map]; rfl]
  refine k_seqQ (fun f ρ1 S1 => f = .nx ∧ S1 = S ++ [some (.lst ([nT g.1, pT g.2.1].map strD))] ∧ ρ1 = [some (.tup [nmsD g.1, nmsD g.2.1, t]), some (nsD (bN g.1)), some (.cell S.length), some (nsD (nl g.1)), some (nsD (nl g.2.1)), some t, none, none, none, none, none]) ?_ ?_
  · walk_at "dl"
    refine ⟨rfl, ?_⟩
    walk_at "dl"
    refine o_joinY (k := 6) (m := 6) rfl lN (by omega) (by decide) ?_
    have h1 : (TL.joinL [32] (nl g.1)).length ≤ 1000 := Nat.le_trans (join_len (k := 6) rfl lN) (by rw [ln]; omega)
    have h2 : (TL.joinL [32] (nl g.2.1)).length ≤ 1000 := Nat.le_trans (join_len (k := 6) rfl lM) (by rw [lm]; omega)
    refine o_addS (by rw [SX.S_len, SX.S_len, sizeLine_eq]; simp [numC]; omega) ?_
    rw [SX.S_cat]
    walk_at "dl"
    refine ⟨rfl, ?_⟩
    walk_at "dl"
    refine o_joinY (k := 6) (m := 6) rfl lM (by omega) (by decide) ?_
    refine o_addS (by rw [SX.S_len, SX.S_len, sizeLine_eq]; simp [plaC]; omega) ?_
    rw [SX.S_cat]
    walk_at "dl"
    refine ⟨rfl, ?_, by rw [nl_D, nl_D]; rfl⟩
    have e1 : nT g.1 = numC ++ [32] ++ TL.joinL [32] (nl g.1) := by unfold nT; rw [join_consY (nl_neY N), List.append_assoc]
    have e2 : pT g.2.1 = plaC ++ [32] ++ TL.joinL [32] (nl g.2.1) := by unfold pT; rw [join_consY (nl_neY M), List.append_assoc]
    rw [e1, e2]; rfl
  rintro f ρ1 S1 ⟨rfl, hS1, rfl⟩
  dsimp only
  have o1 : ∀ x, x < S.length → S1[x]? = S[x]? := fun x hx => by rw [hS1, List.getElem?_append_left hx]
  have l1 : S1.length = S.length + 1 := by rw [hS1]; simp
  have c1 : S1[S.length]? = some (some (.lst ((nT g.1 :: pT g.2.1 :: bT g.1 g.2.1 (g.2.2.take 0)).map strD))) := by rw [hS1]; simp [bT]
  clear hS1
  have ht1 : LsD S1 t (g.2.2.map rwD) := ht.up o1
  walk_at "dl"
  refine i_ls ht1 fun it hf hx => ?_
  refine k_forN (xs := g.2.2.map rwD) (fun i ρ S' => (∀ x, x < S.length → S'[x]? = S[x]?) ∧ S.length + 1 ≤ S'.length ∧ ∃ (c : Nat) (x6 x7 x8 : Option D), S.length ≤ c ∧ S'[c]? = some (some (.lst ((nT g.1 :: pT g.2.1 :: bT g.1 g.2.1 (g.2.2.take i)).map strD))) ∧ ρ = [some (.tup [nmsD g.1, nmsD g.2.1, t]), some (nsD (bN g.1)), some (.cell c), some (nsD (nl g.1)), some (nsD (nl g.2.1)), some t, x6, x7, x8, none, none]) hf ⟨o1, by omega, _, _, _, _, Nat.le_refl _, c1, rfl⟩ ?_ ?_ ?_
  · rintro i ρ S' ⟨o2, _⟩
    exact hx S' i (ht.up o2)
  · rintro i ρ S' dd hd' ⟨o2, l2, c, x6, x7, x8, hc, c2, rfl⟩
    obtain ⟨w, hw, rfl⟩ := getElem?_map_some hd'
    have W := G.rows w (List.mem_of_getElem? hw)
    have w12 := W.len
    have hi := (List.getElem?_eq_some_iff.mp hw).1
    obtain ⟨s1, _, A1, e1⟩ := pl_get M W.st
    obtain ⟨s2, _, A2, e2⟩ := pl_get M W.to
    have la := (na_len A1).2; have lb := (na_len A2).2
    have hbl := bT_len (ns := g.1) (pls := g.2.1) (rows := g.2.2.take i) fun v hv => (G.rows v (List.mem_of_mem_take hv)).len
    rw [List.length_take] at hbl
    unfold rwD
    refine ⟨_, rfl, ?_⟩
    refine k_seqQ (fun f ρ1 S2 => f = .nx ∧ S2 = S'.set c (some (.lst ((nT g.1 :: pT g.2.1 :: (bT g.1 g.2.1 (g.2.2.take i) ++ [hT g.2.1 w])).map strD))) ∧ ρ1 = [some (.tup [nmsD g.1, nmsD g.2.1, t]), some (nsD (bN g.1)), some (.cell c), some (nsD (nl g.1)), some (nsD (nl g.2.1)), some t, some (.int w.1), some (.int w.2.1), some (.lst (w.2.2.map wD)), none, none]) ?_ ?_
    · walk_at "dl"
      refine ⟨chk_cell' c2, ?_⟩
      unfold nsD
      walk_at "dl"
      refine o_ix (v := strD (cd s1)) (by
        show L2.atI _ _ = _
        unfold L2.atI L2.ixN
        rw [if_pos (by omega), if_pos (by rw [List.length_map, lm]; have := W.st; omega), Option.bind_some, Int.toNat_natCast, List.getElem?_map, ← e1, List.getD_eq_getElem?_getD, List.getElem?_eq_getElem (by rw [lm]; exact W.st)]; rfl) ?_
      walk_at "dl"
      refine o_addS (by rw [SX.S_len, SX.S_len, sizeLine_eq]; simp [rowC]; omega) ?_
      rw [SX.S_cat]
      walk_at "dl"
      refine o_addS (by rw [SX.S_len, SX.S_len, sizeLine_eq]; simp [rowC]; omega) ?_
      rw [SX.S_cat]
      walk_at "dl"
      refine o_ix (v := strD (cd s2)) (by
        show L2.atI _ _ = _
        unfold L2.atI L2.ixN
        rw [if_pos (by omega), if_pos (by rw [List.length_map, lm]; have := W.to; omega), Option.bind_some, Int.toNat_natCast, List.getElem?_map, ← e2, List.getD_eq_getElem?_getD, List.getElem?_eq_getElem (by rw [lm]; exact W.to)]; rfl) ?_
      walk_at "dl"
      refine o_addS (by rw [SX.S_len, SX.S_len, sizeLine_eq]; simp [rowC]; omega) ?_
      rw [SX.S_cat]
      walk_at "dl"
      refine o_app c2 (by rw [sizeLine_eq]; simp; omega) ?_
      refine ⟨rfl, ?_, rfl⟩
      have eh : hT g.2.1 w = rowC ++ [32] ++ cd s1 ++ [32] ++ cd s2 := by
        unfold hT hW
        rw [e1, e2]
        show rowC ++ ([32] ++ (cd s1 ++ ([32] ++ cd s2))) = _
        simp only [List.append_assoc]
      have em : ∀ (a b : List Nat) (l : List (List Nat)) (x : List Nat), (a :: b :: (l ++ [x])).map strD = (a :: b :: l).map strD ++ [strD x] := fun a b l x => by simp
      rw [eh, em]
    rintro f ρ1 S2 ⟨rfl, hS2, rfl⟩
    dsimp only
    have hcl := (List.getElem?_eq_some_iff.mp c2).1
    have c3 : S2[c]? = some (some (.lst ((nT g.1 :: pT g.2.1 :: (bT g.1 g.2.1 (g.2.2.take i) ++ [hT g.2.1 w])).map strD))) := by rw [hS2, List.getElem?_set_self hcl]
    have o3 : ∀ x, x < S.length → S2[x]? = S[x]? := fun x hx => by rw [hS2, List.getElem?_set_ne (by omega)]; exact o2 x hx
    have l3 : S2.length = S'.length := by rw [hS2, List.length_set]
    clear hS2
    walk_at "dl"
    refine i_list ?_
    refine lc_mapN (l := w.2.2) (f := wD) (g := fun v => strD (wT g.1 v)) (by simp [itL]) (fun i => by simp [itL]) (by rw [sizeLine_eq]; omega) ?_ ?_
    · intro v hv
      refine ⟨_, rfl, ?_⟩
      walk_at "dl"
      exact lwish_ok N (W.ws v hv) hr ⟨rfl, rfl⟩
    refine o_addCC c3 (by rw [sizeLine_eq]; simp; omega) ?_
    refine ⟨fun x hx => by rw [List.getElem?_append_left (by omega)]; exact o3 x hx, by simp; omega, S2.length, _, _, _, by omega, ?_, rfl⟩
    rw [List.getElem?_append_right (Nat.le_refl _), Nat.sub_self]
    show some (some (CO.lst _)) = _
    rw [bT_take hw]
    unfold rT
    simp [List.map_append, Function.comp_def]
  · rintro ρ S' ⟨o2, l2, c, x6, x7, x8, hc, c2, rfl⟩
    rw [List.length_map, List.take_length] at c2
    walk_at "dl"
    refine ⟨rfl, ?_⟩
    walk_at "dl"
    obtain ⟨b1, b2⟩ := lsT_lenL G hr
    refine o_joinY (ws := lsT g) (k := 6869) (m := 132) (by simp only [seqOf, DL.listOf, c2]; rfl) b1 b2 (by decide) ?_
    rw [trim_back o2 (by omega) rfl]
    exact q
end

/-! ### k22: a program is written -/
section
variable {S : Sto} {P : D → Sto → Prop}
theorem o_extY {n : Nat} {xs ys : List D} (h : S[n]? = some (some (.lst xs))) (hz : xs.length + ys.length ≤ sizeLine) (q : P .non (S.set n (some (.lst (xs ++ ys))))) : Ok (mExtend (.cell n) [.lst ys] S) P := by
  unfold mExtend
  simp only [h, listOw, hz, if_true]
  exact ⟨q⟩
set_option maxHeartbeats 4000000 in
theorem shprog_ok {g : Pg} {r : Nat} (G : PgOk r g) (h0 : 0 < r) (hr : r ≤ 600) (q : P (strD (pgT g)) S) : Ok (Lw.f_shown_program [pgD g] S) P := by
  have N := G.nas; have M := G.pls; have g10 := G.len
  have n3 := N.hi; have m6 := M.hi
  have ln := nl_len g.1; have lm := nl_len g.2.1
  have lN := nl_lenY N.ok; have lM := nl_lenY M.ok
  unfold Lw.f_shown_program
  refine k_fn rfl ?_
  unfold Lw.d_shown_program
  rw [lit_num0, lit_pla0, lit_row0, lit_sp, lit_nlY]
  refine k_seqQ (fun f ρ1 S1 => f = .nx ∧ S1 = S ∧ ρ1 = [some (pgD g), none, none, none, none, none, none, none, none]) ?_ ?_
  · walk_at "dl"
    refine look_at_ok G h0 (by omega) ?_
    exact ⟨rfl, rfl, rfl⟩
  rintro f ρ1 S1 ⟨rfl, rfl, rfl⟩
  dsimp only
  unfold pgD
  rw [nl_D, nl_D]
  unfold nsD
  refine k_seqQ (fun f ρ1 S2 => f = .nx ∧ S2 = S1 ∧ ρ1 = [some (pgD g), none, some (nsD (nl g.1)), some (nsD (nl g.2.1)), some (.lst (g.2.2.map rwD)), none, none, none, none]) ?_ ?_
  · walk_at "dl"
    exact ⟨rfl, rfl, by unfold pgD; rw [nl_D, nl_D]; rfl⟩
  rintro f ρ1 S2 ⟨rfl, rfl, rfl⟩
  dsimp only
  unfold nsD
  refine k_seqQ (fun f ρ1 S3 => f = .nx ∧ S3 = S2 ++ [some (.lst ([nT g.1, pT g.2.1].map strD))] ∧ ρ1 = [some (pgD g), some (.cell S2.length), some (nsD (nl g.1)), some (nsD (nl g.2.1)), some (.lst (g.2.2.map rwD)), none, none, none, none]) ?_ ?_
  · walk_at "dl"
    refine ⟨rfl, ?_⟩
    walk_at "dl"
    refine o_addL (by rw [sizeLine_eq]; simp; omega) ?_
    walk_at "dl"
    refine o_joinY (ws := numC :: nl g.1) (k := 7) (m := 7) rfl (fun w hw => ?_) (by simp; omega) (by decide) ?_
    · rcases List.mem_cons.mp hw with rfl | hw
      · decide
      · have := lN w hw; omega
    walk_at "dl"
    refine ⟨rfl, ?_⟩
    walk_at "dl"
    refine o_addL (by rw [sizeLine_eq]; simp; omega) ?_
    walk_at "dl"
    refine o_joinY (ws := plaC :: nl g.2.1) (k := 7) (m := 7) rfl (fun w hw => ?_) (by simp; omega) (by decide) ?_
    · rcases List.mem_cons.mp hw with rfl | hw
      · decide
      · have := lM w hw; omega
    exact ⟨rfl, rfl, rfl⟩
  rintro f ρ1 S3 ⟨rfl, hS3, rfl⟩
  dsimp only
  have o1 : ∀ x, x < S2.length → S3[x]? = S2[x]? := fun x hx => by rw [hS3, List.getElem?_append_left hx]
  have l1 : S3.length = S2.length + 1 := by rw [hS3]; simp
  have c1 : S3[S2.length]? = some (some (.lst ((nT g.1 :: pT g.2.1 :: bT g.1 g.2.1 (g.2.2.take 0)).map strD))) := by rw [hS3]; simp [bT]
  clear hS3
  walk_at "dl"
  refine i_list ?_
  refine k_forL (xs := g.2.2.map rwD) (fun i ρ S' => (∀ x, x < S2.length → S'[x]? = S2[x]?) ∧ S2.length + 1 ≤ S'.length ∧ ∃ (x5 x6 x7 x8 : Option D), S'[S2.length]? = some (some (.lst ((nT g.1 :: pT g.2.1 :: bT g.1 g.2.1 (g.2.2.take i)).map strD))) ∧ ρ = [some (pgD g), some (.cell S2.length), some (nsD (nl g.1)), some (nsD (nl g.2.1)), some (.lst (g.2.2.map rwD)), x5, x6, x7, x8]) ⟨o1, by omega, _, _, _, _, c1, rfl⟩ ?_ ?_
  · rintro i ρ S' dd hd' ⟨o2, l2, x5, x6, x7, x8, c2, rfl⟩
    obtain ⟨w, hw, rfl⟩ := getElem?_map_some hd'
    have W := G.rows w (List.mem_of_getElem? hw)
    have w12 := W.len
    have hi := (List.getElem?_eq_some_iff.mp hw).1
    obtain ⟨s1, _, A1, e1⟩ := pl_get M W.st
    obtain ⟨s2, _, A2, e2⟩ := pl_get M W.to
    have la := (na_len A1).2; have lb := (na_len A2).2
    have hbl := bT_len (ns := g.1) (pls := g.2.1) (rows := g.2.2.take i) fun v hv => (G.rows v (List.mem_of_mem_take hv)).len
    rw [List.length_take] at hbl
    unfold rwD
    refine ⟨_, rfl, ?_⟩
    refine k_seqQ (fun f ρ1 S4 => f = .nx ∧ S4 = S'.set S2.length (some (.lst ((nT g.1 :: pT g.2.1 :: (bT g.1 g.2.1 (g.2.2.take i) ++ [hT g.2.1 w])).map strD))) ∧ ρ1 = [some (pgD g), some (.cell S2.length), some (nsD (nl g.1)), some (nsD (nl g.2.1)), some (.lst (g.2.2.map rwD)), some (.int w.1), some (.int w.2.1), some (.lst (w.2.2.map wD)), x8]) ?_ ?_
    · walk_at "dl"
      refine ⟨chk_cell' c2, ?_⟩
      unfold nsD
      walk_at "dl"
      refine ⟨rfl, ?_⟩
      walk_at "dl"
      refine o_ix (v := strD (cd s1)) (by
        show L2.atI _ _ = _
        unfold L2.atI L2.ixN
        rw [if_pos (by omega), if_pos (by rw [List.length_map, lm]; have := W.st; omega), Option.bind_some, Int.toNat_natCast, List.getElem?_map, ← e1, List.getD_eq_getElem?_getD, List.getElem?_eq_getElem (by rw [lm]; exact W.st)]; rfl) ?_
      walk_at "dl"
      refine o_ix (v := strD (cd s2)) (by
        show L2.atI _ _ = _
        unfold L2.atI L2.ixN
        rw [if_pos (by omega), if_pos (by rw [List.length_map, lm]; have := W.to; omega), Option.bind_some, Int.toNat_natCast, List.getElem?_map, ← e2, List.getD_eq_getElem?_getD, List.getElem?_eq_getElem (by rw [lm]; exact W.to)]; rfl) ?_
      walk_at "dl"
      refine o_joinY (ws := [rowC, cd s1, cd s2]) (k := 6) (m := 3) rfl (fun v hv => ?_) (by simp) (by decide) ?_
      · simp only [List.mem_cons, List.not_mem_nil, or_false] at hv
        rcases hv with rfl | rfl | rfl
        · decide
        · exact la
        · exact lb
      walk_at "dl"
      refine o_app c2 (by rw [sizeLine_eq]; simp; omega) ?_
      refine ⟨rfl, ?_, rfl⟩
      have em : ∀ (a b : List Nat) (l : List (List Nat)) (x : List Nat), (a :: b :: (l ++ [x])).map strD = (a :: b :: l).map strD ++ [strD x] := fun a b l x => by simp
      rw [em]
      unfold hT hW
      rw [e1, e2]
    rintro f ρ1 S4 ⟨rfl, hS4, rfl⟩
    dsimp only
    have hcl := (List.getElem?_eq_some_iff.mp c2).1
    have c3 : S4[S2.length]? = some (some (.lst ((nT g.1 :: pT g.2.1 :: (bT g.1 g.2.1 (g.2.2.take i) ++ [hT g.2.1 w])).map strD))) := by rw [hS4, List.getElem?_set_self hcl]
    have o3 : ∀ x, x < S2.length → S4[x]? = S2[x]? := fun x hx => by rw [hS4, List.getElem?_set_ne (by omega)]; exact o2 x hx
    have l3 : S4.length = S'.length := by rw [hS4, List.length_set]
    clear hS4
    walk_at "dl"
    refine ⟨chk_cell' c3, ?_⟩
    walk_at "dl"
    refine i_list ?_
    refine lc_mapN (l := w.2.2) (f := wD) (g := fun v => strD (wT g.1 v)) (by simp [itL]) (fun i => by simp [itL]) (by rw [sizeLine_eq]; omega) ?_ ?_
    · intro v hv
      have V := W.ws v hv
      unfold wD
      refine ⟨_, rfl, ?_⟩
      walk_at "dl"
      refine both_ok N (.inl rfl) ?_
      walk_at "dl"
      exact shown_wish_ok (row := rwf v.2) (bN_ok N) (wi_num V hr) V.word (by rw [rowL_of V.len]; rfl) ⟨rfl, rfl⟩
    walk_at "dl"
    refine o_extY c3 (by rw [sizeLine_eq]; simp; omega) ?_
    have hcl4 := (List.getElem?_eq_some_iff.mp c3).1
    refine ⟨fun x hx => by rw [List.getElem?_set_ne (by omega)]; exact o3 x hx, by rw [List.length_set]; omega, _, _, _, _, ?_, rfl⟩
    rw [List.getElem?_set_self hcl4, bT_take hw]
    unfold rT
    simp [List.map_append, Function.comp_def]
  · rintro ρ S' ⟨o2, l2, x5, x6, x7, x8, c2, rfl⟩
    rw [List.length_map, List.take_length] at c2
    walk_at "dl"
    refine ⟨rfl, ?_⟩
    walk_at "dl"
    obtain ⟨b1, b2⟩ := lsT_lenL G hr
    refine o_joinY (ws := lsT g) (k := 6869) (m := 132) (by simp only [seqOf, DL.listOf, c2]; rfl) b1 b2 (by decide) ?_
    rw [trim_back o2 (by omega) rfl]
    exact q
end

/-! ### k22: names and heads are read -/
section
variable {S : Sto} {P : D → Sto → Prop}
theorem k_starC {i j : Nat} {m : EM} {ρ : DL.Env} {PS : Flw → DL.Env → Sto → Prop} (h : Ok (m ρ S) fun d S' => ∃ x xs, DL.listOf S' d = some (x :: xs) ∧ xs.length < 16000 ∧ PS .nx ((ρ.set i (some x)).set j (some (.cell S'.length))) (S' ++ [some (.lst xs)])) : OkS (DL.sStarC i j m ρ S) PS :=
  Ok.to (h.imp fun d S' ⟨x, xs, e, hl, q⟩ => by
    rw [e]
    dsimp only
    rw [if_pos hl]
    exact ⟨q⟩)
theorem fnn_cell {ns : List Str} {c : Nat} (h : NasOk 1000 ns) (hc : S[c]? = some (some (.lst (ns.map .str)))) (q : P .non S) : Ok (Lw.f_first_no_name [.cell c] S) P := by
  unfold Lw.f_first_no_name
  refine k_fn rfl ?_
  unfold Lw.d_first_no_name
  walk_at "dl"
  refine i_enumC hc ?_
  have lf : DL.listOf S (.cell c) = some (ns.map .str) := by simp only [DL.listOf, hc]
  refine k_forN (xs := enumD (ns.map D.str)) (fun i ρ S' => S' = S ∧ ∃ x1 x2, ρ = [some (.cell c), x1, x2]) rfl ⟨rfl, _, _, rfl⟩ (fun i ρ S' h => by rw [h.1]; simp only [itE, lf]) ?_ ?_
  · rintro i ρ S' d hd ⟨rfl, x1, x2, rfl⟩
    obtain ⟨x, hx, rfl⟩ := enum_get hd
    obtain ⟨s, hs, rfl⟩ := getElem?_map_some hx
    refine ⟨_, rfl, ?_⟩
    walk_at "dl"
    show Ok (Lw.f_is_name [.str s, .int 6] S') _
    refine is_name_ok (h.ok s (List.mem_of_getElem? hs)) ?_
    walk_at "dl"
    refine k_ifF (by simp) ?_
    walk_at "dl"
    refine o_sl lf ?_
    rw [cut_to, ← List.map_take]
    refine o_in in_strs ?_
    walk_at "dl"
    have hn : s ∉ ns.take i := by
      intro hm
      obtain ⟨j, hj, e⟩ := List.getElem_of_mem hm
      rw [List.length_take] at hj
      rw [List.getElem_take] at e
      have hi := (List.getElem?_eq_some_iff.mp hs)
      obtain ⟨hi1, hi2⟩ := hi
      have := (List.getElem_inj h.nd).mp (e.trans hi2.symm)
      omega
    rw [decide_eq_false hn]
    walk_at "dl"
    exact ⟨rfl, _, _, rfl⟩
  · rintro ρ S' ⟨rfl, x1, x2, rfl⟩
    walk_at "dl"
    rw [trim_same rfl]
    exact q
set_option maxHeartbeats 4000000 in
theorem rdnames_ok {ws : List (List Nat)} {ns : List Str} {i most : Nat} {wC : List Nat} (hi : ws[i]? = some (TL.joinL [32] (wC :: nl ns))) (N : NasOk 6 ns) (hm : ns.length ≤ most) (hmm : most ≤ 6) (hw : 32 ∉ wC) (hwl : wC.length ≤ 10) (hl : ws.length ≤ 1000)
    (q : P (.cell S.length) (S ++ [some (.lst (ns.map .str))])) : Ok (Lw.f_read_names [.lst (ws.map strD), .int i, strD wC, .int most] S) P := by
  have n1 := N.lo
  have hil := (List.getElem?_eq_some_iff.mp hi).1
  have hj : (TL.joinL [32] (wC :: nl ns)).length ≤ 1000 := Nat.le_trans (join_len (k := 10) rfl fun w hw => by
    rcases List.mem_cons.mp hw with rfl | hw
    · exact hwl
    · have := nl_lenY N.ok w hw; omega) (by have := N.hi; simp [nl_len]; omega)
  have hsp : TL.spl [32] 0 [] (TL.joinL [32] (wC :: nl ns)) = wC :: nl ns := SX.spl_join (by simp) fun p hp => by
    rcases List.mem_cons.mp hp with rfl | hp
    · exact hw
    · exact (nl_no N.ok p hp).1
  unfold Lw.f_read_names
  refine k_fn rfl ?_
  unfold Lw.d_read_names
  rw [lit_sp]
  refine k_seqQ (fun f ρ1 S1 => f = .nx ∧ S1 = S ∧ ρ1 = [some (.lst (ws.map strD)), some (.int i), some (strD wC), some (.int most), none, none]) ?_ ?_
  · walk_at "dl"
    rw [List.length_map]
    try refine o_eqI ?_
    walk_at "dl"
    refine k_ifF (by simp; omega) ?_
    first | exact k_nx ⟨rfl, rfl, rfl⟩ | exact ⟨rfl, rfl, rfl⟩
  rintro f ρ1 S0 ⟨rfl, rfl, rfl⟩
  dsimp only
  refine k_seqQ (fun f ρ1 S1 => f = .nx ∧ S1 = S0 ++ [some (.lst (ns.map .str))] ∧ ρ1 = [some (.lst (ws.map strD)), some (.int i), some (strD wC), some (.int most), some (strD wC), some (.cell S0.length)]) ?_ ?_
  · refine k_starC ?_
    walk_at "dl"
    refine o_ix (v := strD (TL.joinL [32] (wC :: nl ns))) (by
      show L2.atI _ _ = _
      unfold L2.atI L2.ixN
      rw [if_pos (by omega), if_pos (by rw [List.length_map]; omega), Option.bind_some, Int.toNat_natCast, List.getElem?_map, hi]; rfl) ?_
    walk_at "dl"
    refine ⟨rfl, ?_⟩
    walk_at "dl"
    refine o_split (by decide) (by rw [SX.S_len, sizeLine_eq]; omega) ?_
    rw [SX.split_S (by decide) (by decide), hsp]
    have e : ((wC :: nl ns).map SX.S).map D.str = strD wC :: ns.map .str := by
      unfold nl
      rw [List.map_cons, List.map_cons, List.map_map, List.map_map]; rfl
    exact ⟨strD wC, ns.map .str, by rw [e]; rfl, by rw [List.length_map]; have := N.hi; omega, rfl, rfl, rfl⟩
  rintro f ρ1 S1 ⟨rfl, hS1, rfl⟩
  dsimp only
  have c1 : S1[S0.length]? = some (some (.lst (ns.map .str))) := by rw [hS1]; simp
  refine k_seqQ (fun f ρ1 S2 => f = .nx ∧ S2 = S1 ∧ ρ1 = [some (.lst (ws.map strD)), some (.int i), some (strD wC), some (.int most), some (strD wC), some (.cell S0.length)]) ?_ ?_
  · walk_at "dl"
    rw [dec_S, decide_eq_true rfl]
    walk_at "dl"
    try refine k_ifF (by simp) ?_
    walk_at "dl"
    refine o_lenC c1 ?_
    rw [List.length_map]
    walk_at "dl"
    try refine k_ifT (by simp; omega) ?_
    walk_at "dl"
    try refine k_ifF (by simp; omega) ?_
    walk_at "dl"
    refine fnn_cell (N.mono (by omega)) c1 ?_
    walk_at "dl"
    refine .of rfl ?_
    walk_at "dl"
    try refine k_ifF (by simp) ?_
    first | exact k_nx ⟨rfl, rfl, rfl⟩ | exact ⟨rfl, rfl, rfl⟩
  rintro f ρ1 S2 ⟨rfl, rfl, rfl⟩
  dsimp only
  walk_at "dl"
  rw [trim_cell (Nat.le_refl _), hS1]
  exact q
end

/-! ### k22: a program is read: the plain side -/
theorem wT_spl {ns : List Str} {w : Wi} {n : Nat} (N : NasOk 3 ns) (hw : w.1 = "least" ∨ w.1 = "just") : ∃ L : List (List Nat), TL.spl [32] 0 [] (wT ns w) = L ++ [[48]] := by
  have hB := bN_ok N
  obtain ⟨LW, e, hne, hno⟩ : ∃ LW : List (List Nat), lnT (bN ns) (rwf w.2) (2 * ns.length) = TL.joinL [32] LW ∧ LW ≠ [] ∧ ∀ p ∈ LW, 32 ∉ p := by
    have h1 := lnK_wds (row := rwf w.2) hB (2 * ns.length + 1) (Nat.le_refl _)
    unfold lnT
    by_cases z : lnK (bN ns) (rwf w.2) (2 * ns.length + 1) = []
    · rw [if_pos z]
      exact ⟨[[48]], rfl, by simp, fun p hp => by rw [List.mem_singleton.mp hp]; decide⟩
    · rw [if_neg z]
      exact ⟨_, h1.1, wds_ne fun q => z (h1.2.mpr q), wds_no hB (Nat.le_refl _)⟩
  have go : ∀ p : List Nat, 32 ∉ p → TL.spl [32] 0 [] (TL.joinL [32] LW ++ (32 :: p ++ [32, 48])) = (LW ++ [p]) ++ [[48]] := fun p hp => by
    have ej : TL.joinL [32] LW ++ (32 :: p ++ [32, 48]) = TL.joinL [32] (LW ++ [p] ++ [[48]]) := by
      rw [joinL_snoc (by simp), joinL_snoc hne]
      simp [List.append_assoc]
    rw [ej]
    refine SX.spl_join (by simp) fun q hq => ?_
    simp only [List.mem_append, List.mem_singleton] at hq
    rcases hq with (hq | rfl) | rfl
    · exact hno q hq
    · exact hp
    · decide
  unfold wT
  rw [e]
  rcases hw with h | h
  · rw [h]
    exact ⟨LW ++ [[62, 61]], go [62, 61] (by decide)⟩
  · rw [h]
    exact ⟨LW ++ [[61]], go [61] (by decide)⟩
/-- how far the rows are read, and the lines that are left -/
inductive RdSt (ns pls : List Str) (rows : List Rw) : List Rw → List (List Nat) → Prop
  | none : RdSt ns pls rows [] (bT ns pls rows)
  | at {pre suf : List Rw} {w : Rw} {ws1 ws2 : List Wi} : rows = pre ++ w :: suf → w.2.2 = ws1 ++ ws2 → RdSt ns pls rows (pre ++ [(w.1, w.2.1, ws1)]) (ws2.map (wT ns) ++ bT ns pls suf)
/-- the next line -/
inductive RdNx (ns pls : List Str) (rows : List Rw) (done : List Rw) (l : List Nat) (rest : List (List Nat)) : Prop
  | head (w : Rw) : w ∈ rows → l = hT pls w → done.length < rows.length → RdSt ns pls rows (done ++ [(w.1, w.2.1, [])]) rest → RdNx ns pls rows done l rest
  | wish (pre : List Rw) (w : Rw) (ws1 : List Wi) (v : Wi) : w ∈ rows → v ∈ w.2.2 → ws1.length < w.2.2.length → l = wT ns v → done = pre ++ [(w.1, w.2.1, ws1)] → RdSt ns pls rows (pre ++ [(w.1, w.2.1, ws1 ++ [v])]) rest → RdNx ns pls rows done l rest
theorem RdSt.next {ns pls : List Str} {rows done : List Rw} {l : List Nat} {rest : List (List Nat)} (h : RdSt ns pls rows done (l :: rest)) : RdNx ns pls rows done l rest := by
  generalize hr : l :: rest = r at h
  cases h with
  | none =>
    cases rows with
    | nil => cases hr
    | cons w suf =>
      have e : bT ns pls (w :: suf) = hT pls w :: (w.2.2.map (wT ns) ++ bT ns pls suf) := rfl
      rw [e] at hr
      cases hr
      exact .head w (by simp) rfl (by simp) (.at (pre := []) rfl rfl)
  | @«at» pre suf w ws1 ws2 h1 h2 =>
    cases ws2 with
    | cons v ws2 =>
      rw [List.map_cons, List.cons_append] at hr
      cases hr
      refine .wish pre w ws1 v (by rw [h1]; simp) (by rw [h2]; simp) (by rw [h2]; simp) rfl rfl (.at h1 ?_)
      rw [h2]; simp
    | nil =>
      rw [List.map_nil, List.nil_append] at hr
      cases suf with
      | nil => cases hr
      | cons s suf =>
        have e : bT ns pls (s :: suf) = hT pls s :: (s.2.2.map (wT ns) ++ bT ns pls suf) := rfl
        rw [e] at hr
        cases hr
        have ew : (w.1, w.2.1, ws1) = w := by rw [List.append_nil] at h2; rw [← h2]
        rw [ew]
        refine .head s (by rw [h1]; simp) rfl (by rw [h1]; simp) (.at (pre := pre ++ [w]) (by rw [h1]; simp) rfl)
theorem RdSt.end_ {ns pls : List Str} {rows done : List Rw} (h : RdSt ns pls rows done []) : done = rows := by
  generalize hr : ([] : List (List Nat)) = r at h
  cases h with
  | none =>
    cases rows with
    | nil => rfl
    | cons w suf => cases hr
  | @«at» pre suf w ws1 ws2 h1 h2 =>
    cases ws2 with
    | cons v ws2 => cases hr
    | nil =>
      cases suf with
      | cons s suf => cases hr
      | nil =>
        rw [List.append_nil] at h2
        rw [h1, ← h2]
theorem RwAt.unsnoc {S : Sto} : ∀ {ws : List Rw} {w : Rw} {ks : List RK}, RwAt S (ws ++ [w]) ks → ∃ kp k, ks = kp ++ [k] ∧ RwAt S ws kp ∧ S[k.1]? = some (some (.lst (wsK w.2.2 k.2))) ∧ LnAt S w.2.2 k.2
  | [], w, ks, h => by
    cases h with
    | cons h1 h2 h3 => cases h3; exact ⟨[], _, rfl, .nil, h1, h2⟩
  | v :: ws, w, ks, h => by
    cases h with
    | cons h1 h2 h3 =>
      obtain ⟨kp, k, rfl, a, b, c⟩ := RwAt.unsnoc h3
      exact ⟨_ :: kp, k, rfl, .cons h1 h2 a, b, c⟩

/-! ### k22: a program is read -/
section
variable {S : Sto} {P : D → Sto → Prop}
theorem o_indexY {d : D} {ns : List (List Nat)} {i : Nat} (hs : DL.listOf S d = some (ns.map strD)) (nd : ns.Nodup) (hl : i < ns.length) (q : P (.int i) S) : Ok (mIndexS d [strD (ns.getD i [])] S) P := by
  have e : ns.getD i [] = ns[i] := by rw [List.getD_eq_getElem?_getD, List.getElem?_eq_getElem hl]; rfl
  have f : (ns.map SX.S).findIdx? (· == SX.S (ns.getD i [])) = some i := by
    refine List.findIdx?_eq_some_iff_getElem.mpr ⟨by simpa using hl, by rw [List.getElem_map, e]; exact beq_self_eq_true _, fun j hj => ?_⟩
    rw [List.getElem_map, e, SX.S_beq_eq]
    have : ns[j] ≠ ns[i] := fun z => by
      have := (List.getElem_inj nd).mp z
      omega
    simpa using this
  show Ok (match (DL.listOf S d).bind strsD with
    | some ys => (match ys.findIdx? (· == SX.S (ns.getD i [])) with
      | some j => .ok (.int (j : Nat)) S
      | none => .stuck)
    | none => .stuck) P
  rw [hs, Option.bind_some, strs_map]
  dsimp only
  rw [f]
  exact ⟨q⟩
theorem strD_nl (ns : List Str) : (nl ns).map strD = ns.map .str := by unfold nl; rw [List.map_map]; rfl
theorem isHead_yes {pls : List Str} {row : Rw} {d : D} (M : NasOk 6 pls) (h1 : row.1 < pls.length) (h2 : row.2.1 < pls.length) (hd : seqOf S d = some (pls.map .str)) (q : P (.bl true) S) : Ok (Lw.f_is_head [d, .lst ((hW pls row).map strD)] S) P := by
  rw [← strD_nl] at hd
  have hin : ∀ i : Nat, i < pls.length → (nl pls).getD i [] ∈ nl pls := fun i hi => by
    rw [List.getD_eq_getElem?_getD, List.getElem?_eq_getElem (by rw [nl_len]; exact hi)]
    exact List.getElem_mem _
  unfold Lw.f_is_head
  refine k_fn rfl ?_
  unfold Lw.d_is_head hW
  rw [lit_row0]
  walk_at "dl"
  try refine o_eqI ?_
  walk_at "dl"
  refine k_ifT (by rfl) ?_
  walk_at "dl"
  rw [dec_S, decide_eq_true rfl]
  try refine k_ifT (by rfl) ?_
  walk_at "dl"
  refine o_in (in_strL hd) ?_
  rw [decide_eq_true (hin _ h1)]
  walk_at "dl"
  try refine k_ifT (by rfl) ?_
  walk_at "dl"
  refine o_in (in_strL hd) ?_
  rw [decide_eq_true (hin _ h2), trim_same rfl]
  exact q
theorem isHead_no {pls : List Str} {L : List (List Nat)} {d : D} (M : NasOk 6 pls) (hd : seqOf S d = some (pls.map .str)) (q : P (.bl false) S) : Ok (Lw.f_is_head [d, .lst ((L ++ [[48]]).map strD)] S) P := by
  rw [← strD_nl] at hd
  have h48 : [48] ∉ nl pls := fun hm => by
    obtain ⟨s, hs, e⟩ := List.mem_map.mp hm
    have := na_cd (M.ok s hs) 48 (by rw [e]; simp)
    omega
  unfold Lw.f_is_head
  refine k_fn rfl ?_
  unfold Lw.d_is_head
  rw [lit_row0]
  match L with
  | [] =>
    walk_at "dl"
    try refine o_eqI ?_
    walk_at "dl"
    refine k_ifF (by decide) ?_
    rw [trim_same rfl]; exact q
  | [a] =>
    walk_at "dl"
    try refine o_eqI ?_
    walk_at "dl"
    refine k_ifF (by simp) ?_
    rw [trim_same rfl]; exact q
  | [a, b] =>
    walk_at "dl"
    try refine o_eqI ?_
    walk_at "dl"
    refine k_ifT (by rfl) ?_
    walk_at "dl"
    rw [dec_S]
    refine k_condD (fun _ => ?_) fun _ => ?_
    · walk_at "dl"
      refine o_in (in_strL hd) ?_
      walk_at "dl"
      refine k_condD (fun _ => ?_) fun _ => ?_
      · walk_at "dl"
        refine o_in (in_strL hd) ?_
        rw [decide_eq_false h48, trim_same rfl]; exact q
      · rw [trim_same rfl]; exact q
    · rw [trim_same rfl]; exact q
  | a :: b :: c :: L =>
    walk_at "dl"
    try refine o_eqI ?_
    walk_at "dl"
    refine k_ifF (by simp; omega) ?_
    rw [trim_same rfl]; exact q
theorem rdwish_ok {ns : List Str} {w : Wi} {r : Nat} {z : D} (N : NasOk 3 ns) (W : WiOk r (2 * ns.length) w) (hr : r ≤ 600) (q : ∀ c S', S.length ≤ c → Kp S S' → S'[c]? = some (some (.lst (w.2.map .int))) → P (.tup [.str w.1, .cell c]) S') : Ok (Lw.f_read_wish_at [nsD (bN ns), strD (wT ns w), z] S) P := by
  unfold Lw.f_read_wish_at
  refine k_fn rfl ?_
  unfold Lw.d_read_wish_at
  refine k_tryO ?_
  walk_at "dl"
  refine read_wish_ok (row := rwf w.2) (bN_ok N) (wi_num W hr) W.word fun c S' hc kp ec => ?_
  rw [rowL_of W.len] at ec
  rw [trim_told hc]
  exact q c S' hc kp ec
end

/-! ### k22: read_program -/
section
variable {S : Sto} {P : D → Sto → Prop}
def rdE (g : Pg) (a : Nat) (x5 x6 x7 : Option D) : DL.Env := [some (strD (pgT g)), some (.lst ((lsT g).map strD)), some (.cell a), some (.cell (a + 1)), some (.cell (a + 2)), x5, x6, x7]
theorem rsK_lastY {ws : List Rw} {w : Rw} {kp : List RK} {k : RK} (h : kp.length = ws.length) : (rsK (ws ++ [w]) (kp ++ [k]))[ws.length]? = some (.tup [.int w.1, .int w.2.1, .cell k.1]) := by
  rw [rsK_snoc h, List.getElem?_append_right (by rw [rsK_len h]; exact Nat.le_refl _), rsK_len h, Nat.sub_self]
  rfl
theorem o_eqZY {d : D} {xs : List D} (h : DL.listOf S d = some xs) (q : P (.bl xs.isEmpty) S) : Ok (oEqZ d (.lst []) S) P := by
  unfold oEqZ; dsimp only; rw [h]; exact ⟨q⟩
set_option maxHeartbeats 8000000 in
theorem rdprog_ok {g : Pg} {r : Nat} (G : PgOk r g) (hr : r ≤ 600) (q : ∀ a b c ks S', S.length ≤ S'.length → (∀ x, x < S.length → S'[x]? = S[x]?) → PgAt S' g a b c ks → NewC S.length S'.length (a :: b :: c :: cellsR ks) → P (pgC a b c) S') : Ok (Lw.f_read_program [strD (pgT g)] S) P := by
  have N := G.nas; have M := G.pls; have g10 := G.len
  have n3 := N.hi; have m6 := M.hi
  obtain ⟨b1, b2⟩ := lsT_lenL G hr
  have hT : (pgT g).length ≤ 1000000 := Nat.le_trans (join_len (k := 6869) rfl b1) (Nat.le_trans (Nat.mul_le_mul_right _ b2) (by decide))
  unfold Lw.f_read_program
  refine k_fn rfl ?_
  unfold Lw.d_read_program
  rw [lit_num0, lit_pla0, lit_sp, lit_nlY]
  refine k_seqQ (fun f ρ1 S1 => f = .nx ∧ S1 = S ∧ ρ1 = [some (strD (pgT g)), none, none, none, none, none, none, none]) ?_ ?_
  · walk_at "dl"
    refine o_isi (k := "str") rfl rfl ?_
    walk_at "dl"
    refine k_ifF (by decide) ?_
    first | exact k_nx ⟨rfl, rfl, rfl⟩ | exact ⟨rfl, rfl, rfl⟩
  rintro f ρ1 S1 ⟨rfl, rfl, rfl⟩
  dsimp only
  refine k_seqQ (fun f ρ1 S2 => f = .nx ∧ S2 = S1 ∧ ρ1 = [some (strD (pgT g)), some (.lst ((lsT g).map strD)), none, none, none, none, none, none]) ?_ ?_
  · walk_at "dl"
    refine ⟨rfl, ?_⟩
    walk_at "dl"
    refine o_split (by decide) (by rw [SX.S_len, sizeLine_eq]; omega) ?_
    rw [SX.split_S (by decide) (by decide), pgT_spl G, List.map_map]
    exact ⟨rfl, rfl, rfl⟩
  rintro f ρ1 S2 ⟨rfl, rfl, rfl⟩
  dsimp only
  refine k_seqQ (fun f ρ1 S3 => f = .nx ∧ S3 = S2 ++ [some (.lst (g.1.map .str))] ∧ ρ1 = [some (strD (pgT g)), some (.lst ((lsT g).map strD)), some (.cell S2.length), none, none, none, none, none]) ?_ ?_
  · walk_at "dl"
    refine rdnames_ok (ws := lsT g) (ns := g.1) (i := 0) (most := 3) (wC := numC) rfl (N.mono (by decide)) n3 (by decide) (by decide) (by decide) (by omega) ?_
    exact ⟨rfl, rfl, rfl⟩
  rintro f ρ1 S3 ⟨rfl, hS3, rfl⟩
  dsimp only
  have l3 : S3.length = S2.length + 1 := by rw [hS3]; simp
  refine k_seqQ (fun f ρ1 S4 => f = .nx ∧ S4 = S3 ++ [some (.lst (g.2.1.map .str))] ∧ ρ1 = [some (strD (pgT g)), some (.lst ((lsT g).map strD)), some (.cell S2.length), some (.cell (S2.length + 1)), none, none, none, none]) ?_ ?_
  · walk_at "dl"
    refine rdnames_ok (ws := lsT g) (ns := g.2.1) (i := 1) (most := 6) (wC := plaC) rfl M m6 (by decide) (by decide) (by decide) (by omega) ?_
    exact ⟨rfl, rfl, by rw [l3]; rfl⟩
  rintro f ρ1 S4 ⟨rfl, hS4, rfl⟩
  dsimp only
  have l4 : S4.length = S2.length + 2 := by rw [hS4]; simp; omega
  refine k_seqQ (fun f ρ1 S5 => f = .nx ∧ S5 = S4 ++ [some (.lst [])] ∧ ρ1 = rdE g S2.length none none none) ?_ ?_
  · walk_at "dl"
    exact ⟨rfl, rfl, by rw [l4]; rfl⟩
  rintro f ρ1 S5 ⟨rfl, hS5, rfl⟩
  dsimp only
  have l5 : S5.length = S2.length + 3 := by rw [hS5]; simp; omega
  have old5 : ∀ x, x < S2.length → S5[x]? = S2[x]? := fun x hx => by rw [hS5, hS4, hS3, List.getElem?_append_left (by simp; omega), List.getElem?_append_left (by simp; omega), List.getElem?_append_left hx]
  have a5 : S5[S2.length]? = some (some (.lst (g.1.map .str))) := by
    rw [hS5, List.getElem?_append_left (by omega), hS4, List.getElem?_append_left (by omega), hS3]; simp
  have b5 : S5[S2.length + 1]? = some (some (.lst (g.2.1.map .str))) := by
    rw [hS5, List.getElem?_append_left (by omega), hS4, ← l3]; simp
  have c5 : S5[S2.length + 2]? = some (some (.lst (rsK [] []))) := by rw [hS5, ← l4]; simp [rsK]
  clear hS5 hS4 hS3 l3 l4 S3 S4
  generalize hn : S2.length = n at l5 old5 a5 b5 c5
  unfold rdE
  walk_at "dl"
  refine i_enum ?_
  refine k_forL (fun i ρ S' => n + 3 ≤ S'.length ∧ (∀ x, x < n → S'[x]? = S5[x]?) ∧ S'[n]? = some (some (.lst (g.1.map .str))) ∧ S'[n + 1]? = some (some (.lst (g.2.1.map .str))) ∧ ∃ (done : List Rw) (ks : List RK) (x5 x6 x7 : Option D), RwAt S' done ks ∧ S'[n + 2]? = some (some (.lst (rsK done ks))) ∧ NewC (n + 3) S'.length (cellsR ks) ∧ ((i < 2 ∧ done = []) ∨ (2 ≤ i ∧ RdSt g.1 g.2.1 g.2.2 done ((lsT g).drop i))) ∧ ρ = rdE g n x5 x6 x7) ⟨by omega, fun _ _ => rfl, a5, b5, [], [], _, _, _, .nil, c5, .nil, .inl ⟨by decide, rfl⟩, rfl⟩ ?_ ?_
  · rintro i ρ S' d hd ⟨lS, oS, aS, bS, done, ks, x5, x6, x7, hR, cS, hN, hst, rfl⟩
    obtain ⟨x, hx, rfl⟩ := enum_get hd
    obtain ⟨l, hl, rfl⟩ := getElem?_map_some hx
    have hil := (List.getElem?_eq_some_iff.mp hl).1
    have hlen := b1 l (List.mem_of_getElem? hl)
    unfold rdE
    refine ⟨_, rfl, ?_⟩
    refine k_seqQ (fun f ρ1 S6 => f = .nx ∧ S6 = S' ∧ ρ1 = rdE g n (some (.int i)) (some (strD l)) (some (.lst ((TL.spl [32] 0 [] l).map strD)))) ?_ ?_
    · walk_at "dl"
      refine ⟨rfl, ?_⟩
      walk_at "dl"
      refine o_split (by decide) (by rw [SX.S_len, sizeLine_eq]; omega) ?_
      rw [SX.split_S (by decide) (by decide), List.map_map]
      exact ⟨rfl, rfl, rfl⟩
    rintro f ρ1 S6 ⟨rfl, rfl, rfl⟩
    dsimp only
    rcases hst with ⟨hi2, rfl⟩ | ⟨hi2, hst⟩
    · unfold rdE
      walk_at "dl"
      refine k_ifF (by simp; omega) ?_
      walk_at "dl"
      refine k_ifF (by simp; omega) ?_
      have hn : (i + 1 < 2 ∧ ([] : List Rw) = []) ∨ (2 ≤ i + 1 ∧ RdSt g.1 g.2.1 g.2.2 [] ((lsT g).drop (i + 1))) := by
        by_cases h : i = 0
        · exact .inl ⟨by omega, rfl⟩
        · have : i = 1 := by omega
          subst this
          exact .inr ⟨by decide, .none⟩
      first
        | exact k_nx ⟨lS, oS, aS, bS, [], ks, _, _, _, hR, cS, hN, hn, rfl⟩
        | exact ⟨lS, oS, aS, bS, [], ks, _, _, _, hR, cS, hN, hn, rfl⟩
    · have hdr : (lsT g).drop i = l :: (lsT g).drop (i + 1) := by
        rw [List.drop_eq_getElem_cons hil]
        congr 1
        exact (List.getElem?_eq_some_iff.mp hl).2
      rw [hdr] at hst
      have hkl := hR.len
      cases hst.next with
      | head w hw el hlt hst' =>
        have W := G.rows w hw
        subst el
        rw [hT_spl M W.st W.to]
        unfold rdE
        walk_at "dl"
        refine k_ifT (by simp; omega) ?_
        walk_at "dl"
        refine isHead_yes M W.st W.to (by simp only [seqOf, DL.listOf, bS]) ?_
        walk_at "dl"
        refine o_lenC cS ?_
        rw [rsK_len hkl]
        walk_at "dl"
        unfold Lw.c_MOST_ROWS
        refine o_eqI ?_
        walk_at "dl"
        refine k_ifF (by simp; omega) ?_
        walk_at "dl"
        refine ⟨chk_cell' cS, ?_⟩
        unfold hW
        walk_at "dl"
        refine ⟨chk_cell' bS, ?_⟩
        walk_at "dl"
        refine o_indexY (by simp only [DL.listOf, bS, strD_nl]) (nl_nd M.nd) (by rw [nl_len]; exact W.st) ?_
        walk_at "dl"
        refine ⟨chk_cell' bS, ?_⟩
        walk_at "dl"
        refine o_indexY (by simp only [DL.listOf, bS, strD_nl]) (nl_nd M.nd) (by rw [nl_len]; exact W.to) ?_
        walk_at "dl"
        have lt2 : n + 2 < S6.length := by omega
        refine o_app (xs := rsK done ks) (by rw [List.getElem?_append_left lt2]; exact cS) (by rw [sizeLine_eq, rsK_len hkl]; omega) ?_
        have gS : ∀ x, x < S6.length → x ≠ n + 2 → ((S6 ++ [some (CO.lst [])]).set (n + 2) (some (CO.lst (rsK done ks ++ [.tup [.int w.1, .int w.2.1, .cell S6.length]]))))[x]? = S6[x]? := fun x h1 h2 => by
          rw [List.getElem?_set_ne (Ne.symm h2), List.getElem?_append_left h1]
        refine ⟨by simp; omega, fun x hx => (gS x (by omega) (by omega)).trans (oS x hx), (gS n (by omega) (by omega)).trans aS, (gS (n + 1) (by omega) (by omega)).trans bS, done ++ [(w.1, w.2.1, [])], ks ++ [(S6.length, [])], _, _, _, ?_, ?_, ?_, .inr ⟨by omega, hst'⟩, rfl⟩
        · refine (hR.stay fun x hx => gS x (hN.hi x hx) (by have := hN.lo x hx; omega)).snoc ?_ .nil
          show (List.set _ _ _)[S6.length]? = _
          rw [List.getElem?_set_ne (by omega)]
          simp [wsK]
        · rw [List.getElem?_set_self (by simp; omega), rsK_snoc hkl]
        · rw [cellsR_snoc]
          exact hN.app (.one (Nat.le_refl _) (by simp)) (by omega) (by simp)
      | wish pre w ws1 v hw hv hlt el ed hst' =>
        have W := G.rows w hw
        subst el
        obtain ⟨L, heL⟩ := wT_spl (w := v) (n := 0) N (W.ws v hv).word
        rw [heL]
        have V := W.ws v hv
        have w12 := W.len
        subst ed
        obtain ⟨kp, k, rfl, hRp, hk1, hk2⟩ := hR.unsnoc
        have hkp : kp.length = pre.length := by simpa using hkl
        have hlast := rsK_lastY (w := (w.1, w.2.1, ws1)) (k := k) hkp
        have hrl : (rsK (pre ++ [(w.1, w.2.1, ws1)]) (kp ++ [k])).length = pre.length + 1 := by rw [rsK_len hkl]; simp
        have hne : (rsK (pre ++ [(w.1, w.2.1, ws1)]) (kp ++ [k])).isEmpty = false := by
          cases e : rsK (pre ++ [(w.1, w.2.1, ws1)]) (kp ++ [k]) with
          | nil => rw [e] at hrl; simp at hrl
          | cons => rfl
        have hm1 : ∀ {S7 : Sto}, S7[n + 2]? = some (some (.lst (rsK (pre ++ [(w.1, w.2.1, ws1)]) (kp ++ [k])))) → ((seqOf S7 (.cell (n + 2))).bind fun xs => L2.atI xs (-1)) = some (.tup [.int w.1, .int w.2.1, .cell k.1]) := fun {S7} h => by
          simp only [seqOf, DL.listOf, h, Option.bind_some]
          unfold L2.atI L2.ixN
          rw [if_neg (by omega), if_pos (by omega), Option.bind_some, hrl, show ((-1 : Int) + ((pre.length + 1 : Nat) : Int)).toNat = pre.length by omega]
          exact hlast
        have hwl : (wsK ws1 k.2).length = ws1.length := wsK_len hk2.len
        unfold rdE
        walk_at "dl"
        refine k_ifT (by simp; omega) ?_
        walk_at "dl"
        refine isHead_no M (by simp only [seqOf, DL.listOf, bS]) ?_
        walk_at "dl"
        refine k_ifT (by simp; omega) ?_
        walk_at "dl"
        refine o_eqZY (xs := rsK (pre ++ [(w.1, w.2.1, ws1)]) (kp ++ [k])) (by simp only [DL.listOf, cS]) ?_
        rw [hne]
        walk_at "dl"
        refine o_ix (v := .tup [.int w.1, .int w.2.1, .cell k.1]) (hm1 cS) ?_
        walk_at "dl"
        refine o_lenC hk1 ?_
        rw [hwl]
        walk_at "dl"
        unfold Lw.c_MOST_WISHES
        refine o_eqI ?_
        walk_at "dl"
        refine k_ifF (by simp; omega) ?_
        walk_at "dl"
        refine o_ix (v := .tup [.int w.1, .int w.2.1, .cell k.1]) (hm1 cS) ?_
        walk_at "dl"
        refine ⟨chk_cell' hk1, ?_⟩
        walk_at "dl"
        refine both_ok N (.inr ⟨n, rfl, by rw [strD_nl]; exact aS⟩) ?_
        walk_at "dl"
        refine rdwish_ok N V hr fun l S7 hl7 kp7 el7 => ?_
        walk_at "dl"
        have hkm : k.1 ∈ cellsR (kp ++ [k]) := by rw [cellsR_snoc]; simp
        have k1lt := hN.hi _ hkm
        have k1lo := hN.lo _ hkm
        refine o_app (xs := wsK ws1 k.2) (by rw [kp7.2 _ k1lt]; exact hk1) (by rw [sizeLine_eq, hwl]; omega) ?_
        have gS : ∀ x, x < S6.length → x ≠ k.1 → (S7.set k.1 (some (CO.lst (wsK ws1 k.2 ++ [.tup [.str v.1, .cell l]]))))[x]? = S6[x]? := fun x h1 h2 => by
          rw [List.getElem?_set_ne (Ne.symm h2)]; exact kp7.2 x h1
        have nd := hN.nd
        rw [cellsR_snoc, List.nodup_append] at nd
        obtain ⟨nd1, nd2, nd3⟩ := nd
        obtain ⟨nk, nl2⟩ := List.nodup_cons.mp nd2
        have l7 := kp7.1
        have llt := (List.getElem?_eq_some_iff.mp el7).1
        refine ⟨by simp; omega, fun x hx => (gS x (by omega) (by omega)).trans (oS x hx), (gS n (by omega) (by omega)).trans aS, (gS (n + 1) (by omega) (by omega)).trans bS, pre ++ [(w.1, w.2.1, ws1 ++ [v])], kp ++ [(k.1, k.2 ++ [l])], _, _, _, ?_, ?_, ?_, .inr ⟨by omega, hst'⟩, rfl⟩
        · refine (hRp.stay fun x hx => gS x (hN.hi x (by rw [cellsR_snoc]; simp [hx])) fun e => ?_).snoc ?_ ?_
          · exact nd3 x hx k.1 (by simp) e
          · show (List.set _ _ _)[k.1]? = _
            rw [List.getElem?_set_self (by omega)]
            show _ = some (some (CO.lst (wsK (ws1 ++ [v]) (k.2 ++ [l]))))
            rw [wsK_snoc hk2.len]
          · refine (hk2.stay fun x hx => gS x (hN.hi x (by rw [cellsR_snoc]; simp [hx])) fun e => nk (by rw [← e]; exact hx)).snoc ?_
            rw [List.getElem?_set_ne (by omega)]
            exact el7
        · rw [gS (n + 2) (by omega) (by omega), cS, rsK_snoc hkp, rsK_snoc hkp]
        · rw [cellsR_snoc]
          have h2 : NewC (n + 3) S7.length (cellsR (kp ++ [k]) ++ [l]) := hN.app (.one hl7 llt) (by omega) l7
          rw [cellsR_snoc] at h2
          simpa using h2
  · rintro ρ S' ⟨lS, oS, aS, bS, done, ks, x5, x6, x7, hR, cS, hN, hst, rfl⟩
    rw [enum_len, List.length_map] at hst
    have hll : 2 ≤ (lsT g).length := by simp [lsT]
    have ed : done = g.2.2 := by
      rcases hst with ⟨h, _⟩ | ⟨_, h⟩
      · omega
      · rw [List.drop_length] at h; exact h.end_
    subst ed
    walk_at "dl"
    rw [trim_keep (by simp [D.bel, D.belL]; omega)]
    have n1 : NewC S2.length (n + 3) [n, n + 1, n + 2] := ⟨fun x hx => by simp at hx; omega, fun x hx => by simp at hx; omega, by simp⟩
    have n2 : NewC S2.length S'.length (n :: (n + 1) :: (n + 2) :: cellsR ks) := n1.app hN (by omega) lS
    exact q n (n + 1) (n + 2) ks S' (by omega) (fun x hx => (oS x (by omega)).trans (old5 x (by omega))) ⟨aS, bS, cS, hR, n2.nd⟩ n2
end

/-! ### the pool of k25 -/
theorem pool_ok {ns : List Int} {z : Int} {S : Sto} {P : D → Sto → Prop} (hz : 0 ≤ z) (hi : z < 1000) (k : ∀ a b : Int, 0 ≤ a → 0 ≤ b → P (.cell S.length) (S ++ [some (.lst [.int a, .int b])])) : Ok (Lw.f__law_pool [.ro (ns.map .int), .int z] S) P := by
  unfold Lw.f__law_pool
  refine k_fn rfl ?_
  unfold Lw.d__law_pool
  walk_at "dl"
  refine k_ite (fun f ρ S' => f = .nx ∧ S' = S ∧ ∃ c : Int, ρ = [some (.ro (ns.map .int)), some (.int z), some (.int c), none]) ?_ ?_ ?_
  · intro hl
    have hl' : z < ((ns.map D.int).length : Int) := by simpa using hl
    walk_at "dl"
    obtain ⟨v, hm, e⟩ := atI_mem (xs := ns.map D.int) (i := z) (by omega) hl'
    obtain ⟨c, hc, rfl⟩ := List.mem_map.mp hm
    refine o_ix (v := .int c) (by show L2.atI (ns.map D.int) z = _; exact e) ?_
    walk_at "dl"
    exact ⟨rfl, rfl, c, rfl⟩
  · intro _
    walk_at "dl"
    exact ⟨rfl, rfl, 0, rfl⟩
  rintro f ρ S' ⟨rfl, rfl, c, rfl⟩
  walk_at "dl"
  refine o_mod (by decide) ?_
  walk_at "dl"
  have sz : Sz 10 z := by unfold Sz; omega
  have s1 : Sz 13 6151 := by unfold Sz; decide
  refine o_mul (s1.mulOk sz) ?_
  walk_at "dl"
  refine o_mul ((s1.mul sz).mulOk sz) ?_
  walk_at "dl"
  refine o_mul (.of_right (by decide)) ?_
  walk_at "dl"
  refine o_mod (by decide) ?_
  walk_at "dl"
  generalize ((c.fmod 2147483629 + 6151 * z * z + 29) * 48271) = t
  have hm0 : 0 ≤ t.fmod 2147483647 := by rw [Int.fmod_eq_emod_of_nonneg _ (by decide)]; exact Int.emod_nonneg _ (by decide)
  have hm1 : t.fmod 2147483647 < 2147483647 := by rw [Int.fmod_eq_emod_of_nonneg _ (by decide)]; exact Int.emod_lt_of_pos _ (by decide)
  generalize t.fmod 2147483647 = s at hm0 hm1 ⊢
  refine o_pow (by unfold L2.CPow; decide) ?_
  walk_at "dl"
  refine k_ite (fun f ρ S2 => f = .nx ∧ S2 = S' ∧ ∃ c : Int, 0 ≤ c ∧ ρ = [some (.ro (ns.map .int)), some (.int z), some (.int c), some (.int s)]) ?_ ?_ ?_
  · intro _
    walk_at "dl"
    exact ⟨rfl, rfl, 0, by decide, rfl⟩
  · intro hc
    walk_at "dl"
    refine ⟨rfl, rfl, c, ?_, rfl⟩
    have : ¬c < 10 ^ (18 : Int).toNat := by simpa using hc
    have : (0 : Int) ≤ 10 ^ (18 : Int).toNat := by decide
    omega
  rintro f ρ S2 ⟨rfl, rfl, c, hc, rfl⟩
  walk_at "dl"
  have ss : Sz 31 s := by unfold Sz; omega
  refine o_mul (ss.mulOk ss) ?_
  walk_at "dl"
  refine o_mod (by decide) ?_
  walk_at "dl"
  have hv : 0 ≤ (s * s).fmod 2147483587 := by rw [Int.fmod_eq_emod_of_nonneg _ (by decide)]; exact Int.emod_nonneg _ (by decide)
  generalize (s * s).fmod 2147483587 = v at hv ⊢
  have e : trim S2 (.cell S2.length) (S2 ++ [some (.lst [.int c, .int (v + 3)])]) = S2 ++ [some (.lst [.int c, .int (v + 3)])] := by
    unfold trim
    rw [if_neg]
    rintro ⟨h, _⟩
    simp [D.bel] at h
  rw [e]
  exact k _ _ hc (by omega)
theorem pool_made {S : Sto} {a b : Int} (h0 : 0 ≤ a) (h1 : 0 ≤ b) : IsPool (S ++ [some (.lst [.int a, .int b])]) S.length := ⟨a, b, h0, h1, by simp⟩

/-! ### k22: the law -/
section
variable {S : Sto} {P : D → Sto → Prop}
theorem o_neDpY {x : Str} (q : P (.bl false) S) : Ok (oNeDp (.str x) (.str x) S) P := by
  refine (show Ok (oNeDp (.str x) (.str x) S) P from ⟨?_⟩)
  show P (.bl (!decide (x = x))) S
  rw [decide_eq_true rfl]
  exact q
theorem o_eqDpY {x : Str} (q : P (.bl true) S) : Ok (oEqDp (.str x) (.str x) S) P := by
  refine (show Ok (oEqDp (.str x) (.str x) S) P from ⟨?_⟩)
  show P (.bl (decide (x = x))) S
  rw [decide_eq_true rfl]
  exact q
set_option maxHeartbeats 4000000 in
theorem lright_ok {g : Pg} {r : Nat} (G : PgOk r g) (h0 : 0 < r) (hr : r ≤ 600) (q : ∀ S', S.length ≤ S'.length → (∀ x, x < S.length → S'[x]? = S[x]?) → P (.bl true) S') : Ok (Lw.f__law_right [pgD g] S) P := by
  have hD : DatE 60 2000 (pgD g) := dat_pg (k := 54) G h0 (by omega)
  unfold Lw.f__law_right
  refine k_fn rfl ?_
  unfold Lw.d__law_right
  refine k_seqQ (fun f ρ1 S1 => f = .nx ∧ S1 = S ∧ ρ1 = [some (pgD g), some (strD (pgT g)), none, none, none, none]) ?_ ?_
  · walk_at "dl"
    unfold pgD
    refine lprog_ok G hr (.inl rfl) ?_
    exact ⟨rfl, rfl, rfl⟩
  rintro f ρ1 S1 ⟨rfl, rfl, rfl⟩
  dsimp only
  refine k_seqQ (fun f ρ1 S2 => f = .nx ∧ S2 = S1 ∧ ρ1 = [some (pgD g), some (strD (pgT g)), some (.str (pgD g).shown), none, none, none]) ?_ ?_
  · walk_at "dl"
    refine o_reprQ hD (by decide) ?_
    exact ⟨rfl, rfl, rfl⟩
  rintro f ρ1 S2 ⟨rfl, rfl, rfl⟩
  dsimp only
  obtain ⟨kp, hkp⟩ : ∃ kp, kp = (pgD g).shown := ⟨_, rfl⟩
  rw [← hkp]
  refine k_seqQ (fun f ρ1 S3 => f = .nx ∧ S3 = S2 ∧ ρ1 = [some (pgD g), some (strD (pgT g)), some (.str kp), some (strD (pgT g)), none, none]) ?_ ?_
  · walk_at "dl"
    refine shprog_ok G h0 hr ?_
    exact ⟨rfl, rfl, rfl⟩
  rintro f ρ1 S3 ⟨rfl, rfl, rfl⟩
  dsimp only
  refine k_seqQ (fun f ρ1 S4 => f = .nx ∧ S4 = S3 ∧ ρ1 = [some (pgD g), some (strD (pgT g)), some (.str kp), some (strD (pgT g)), none, none]) ?_ ?_
  · walk_at "dl"
    refine o_isi (k := "str") rfl rfl ?_
    walk_at "dl"
    try refine k_ifF (by decide) ?_
    walk_at "dl"
    refine o_neDpY ?_
    walk_at "dl"
    try refine k_ifF (by decide) ?_
    walk_at "dl"
    refine o_reprQ hD (by decide) ?_
    rw [← hkp]
    walk_at "dl"
    refine o_neDpY ?_
    walk_at "dl"
    try refine k_ifF (by decide) ?_
    first | exact k_nx ⟨rfl, rfl, rfl⟩ | exact ⟨rfl, rfl, rfl⟩
  rintro f ρ1 S4 ⟨rfl, rfl, rfl⟩
  dsimp only
  walk_at "dl"
  refine i_rng1 (by decide) (by decide) ?_
  refine k_forL (fun i ρ S' => S4.length ≤ S'.length ∧ (∀ x, x < S4.length → S'[x]? = S4[x]?) ∧ ∃ x4 x5, ρ = [some (pgD g), some (strD (pgT g)), some (.str kp), some (strD (pgT g)), x4, x5]) ⟨Nat.le_refl _, fun _ _ => rfl, _, _, rfl⟩ ?_ ?_
  · rintro i ρ S5 d hd ⟨l5, o5, x4, x5, rfl⟩
    obtain ⟨z, _, _, rfl⟩ := rng_get hd
    refine ⟨_, rfl, ?_⟩
    walk_at "dl"
    refine rdprog_ok G hr fun a b c ks S6 l6 o6 A N => ?_
    walk_at "dl"
    refine o_reprP A.deep hD (by decide) ?_
    rw [← hkp]
    walk_at "dl"
    refine o_neDpY ?_
    walk_at "dl"
    try refine k_ifF (by decide) ?_
    walk_at "dl"
    refine law_apartK_ok G A fun S7 l7 o7 => ?_
    walk_at "dl"
    try refine k_ifF (by decide) ?_
    have hf : (∀ x, x < S4.length → S7[x]? = S4[x]?) := fun x hx => by
      rw [o7 x (by omega) (fun hm => by have := N.lo x hm; omega), o6 x (by omega), o5 x hx]
    first | exact k_nx ⟨by omega, hf, _, _, rfl⟩ | exact ⟨by omega, hf, _, _, rfl⟩
  · rintro ρ S5 ⟨l5, o5, x4, x5, rfl⟩
    walk_at "dl"
    refine rdprog_ok G hr fun a b c ks S6 l6 o6 A N => ?_
    walk_at "dl"
    refine o_reprP A.deep hD (by decide) ?_
    rw [← hkp]
    walk_at "dl"
    refine o_eqDpY ?_
    walk_at "dl"
    try refine k_ifT (by decide) ?_
    walk_at "dl"
    refine shprog_ok G h0 hr ?_
    walk_at "dl"
    refine o_eqDpY ?_
    have hl : S4.length ≤ S6.length := by omega
    have ho : ∀ x, x < S4.length → S6[x]? = S4[x]? := fun x hx => (o6 x (by omega)).trans (o5 x hx)
    rw [trim_back ho hl rfl]
    exact q _ (Nat.le_refl _) fun _ _ => rfl
end

/-! ### k22: the law, on -/
section
variable {S : Sto} {P : D → Sto → Prop}
def gwN : Wi := ("least", [10 ^ 58, 1, 1, 1, 1, 1, -(10 ^ 58)])
def gN : Pg := (["x", "xx", "yx"], ["a", "aa", "ba", "ab"], [(0, 1, [("just", [1, -1, 0, 2, 1, 0, -3])]), (2, 3, [("least", [0, 0, 1, 0, 0, -1, 1])]), (3, 0, []), (3, 0, [gwN, gwN]), (3, 0, [gwN, gwN])])
theorem na_okY {s : Str} (h : s ∈ (["x", "xx", "yx", "a", "aa", "ba", "ab"] : List Str)) : NaOk s := by
  simp only [List.mem_cons, List.not_mem_nil, or_false] at h
  rcases h with rfl | rfl | rfl | rfl | rfl | rfl | rfl <;> exact ⟨by decide +kernel, by decide +kernel, by decide +kernel, by decide +kernel⟩
theorem gwN_ok : WiOk 200 (2 * 3) gwN := ⟨.inl rfl, rfl, fun i hi => by
  unfold gwN at hi
  simp only [List.mem_cons, List.not_mem_nil, or_false] at hi
  rcases hi with rfl | rfl | rfl | rfl | rfl | rfl | rfl <;> (unfold Sz; decide)⟩
theorem gN_ok : PgOk 200 gN := by
  refine ⟨⟨by decide, by decide, fun s hs => na_okY ?_, by decide +kernel⟩, ⟨by decide, by decide, fun s hs => na_okY ?_, by decide +kernel⟩, fun w hw => ?_, by decide⟩
  · simp only [gN, List.mem_cons, List.not_mem_nil, or_false] at hs ⊢
    rcases hs with h | h | h <;> simp [h]
  · simp only [gN, List.mem_cons, List.not_mem_nil, or_false] at hs ⊢
    rcases hs with h | h | h | h <;> simp [h]
  · have W1 : WiOk 200 (2 * 3) ("just", [1, -1, 0, 2, 1, 0, -3]) := ⟨.inr rfl, rfl, fun i hi => by
      simp only [List.mem_cons, List.not_mem_nil, or_false] at hi
      rcases hi with rfl | rfl | rfl | rfl | rfl | rfl | rfl <;> (unfold Sz; decide)⟩
    have W2 : WiOk 200 (2 * 3) ("least", [0, 0, 1, 0, 0, -1, 1]) := ⟨.inl rfl, rfl, fun i hi => by
      simp only [List.mem_cons, List.not_mem_nil, or_false] at hi
      rcases hi with rfl | rfl | rfl | rfl | rfl | rfl | rfl <;> (unfold Sz; decide)⟩
    simp only [gN, List.mem_cons, List.not_mem_nil, or_false] at hw
    rcases hw with rfl | rfl | rfl | rfl | rfl
    · exact ⟨by decide, by decide, fun x hx => by rw [List.mem_singleton.mp hx]; exact W1, by decide⟩
    · exact ⟨by decide, by decide, fun x hx => by rw [List.mem_singleton.mp hx]; exact W2, by decide⟩
    · exact ⟨by decide, by decide, fun x hx => by simp at hx, by decide⟩
    · exact ⟨by decide, by decide, fun x hx => by simp at hx; rw [hx]; exact gwN_ok, by decide⟩
    · exact ⟨by decide, by decide, fun x hx => by simp at hx; rw [hx]; exact gwN_ok, by decide⟩
theorem o_mul2Y {x : D} (q : P (.lst [x, x]) S) : Ok (oMul (.lst [x]) (.int 2) S) P := o_repL (.inr trivial) (by decide) (by decide) (by rw [sizeLine_eq]; simp) q
theorem near_ok (q : P (pgD gN) S) : Ok (Lw.f__law_near_names [] S) P := by
  unfold Lw.f__law_near_names
  refine k_fn rfl ?_
  unfold Lw.d__law_near_names
  walk_at "dl"
  refine o_pow (by unfold L2.CPow; decide) ?_
  walk_at "dl"
  refine o_pow (by unfold L2.CPow; decide) ?_
  walk_at "dl"
  refine o_addL (by rw [sizeLine_eq]; decide) ?_
  walk_at "dl"
  refine o_mul2Y ?_
  refine o_addL (by rw [sizeLine_eq]; decide) ?_
  walk_at "dl"
  rw [trim_same rfl]
  exact q
theorem short_ok {nas pls : List Str} (N : NasOk 3 nas) (M : NasOk 6 pls) : (pgT (nas, pls, [])).length ≤ 200 := by
  have n3 := N.hi; have m6 := M.hi
  have e : pgT (nas, pls, []) = nT nas ++ ([10] ++ pT pls) := rfl
  have h1 : (nT nas).length ≤ 50 := by
    unfold nT
    refine Nat.le_trans (join_len (k := 7) rfl fun p hp => ?_) (by simp [nl_len]; omega)
    rcases List.mem_cons.mp hp with rfl | hp
    · decide
    · have := nl_lenY N.ok p hp; omega
  have h2 : (pT pls).length ≤ 60 := by
    unfold pT
    refine Nat.le_trans (join_len (k := 7) rfl fun p hp => ?_) (by simp [nl_len]; omega)
    rcases List.mem_cons.mp hp with rfl | hp
    · decide
    · have := nl_lenY M.ok p hp; omega
  rw [e, List.length_append, List.length_append, List.length_singleton]; omega
theorem pgT_len {g : Pg} {r : Nat} (G : PgOk r g) (hr : r ≤ 600) : (pgT g).length ≤ 1000000 := by
  obtain ⟨b1, b2⟩ := lsT_lenL G hr
  exact Nat.le_trans (join_len (k := 6869) rfl b1) (Nat.le_trans (Nat.mul_le_mul_right _ b2) (by decide))
theorem g1_ok : PgOk 40 (["x"], ["a"], []) := ⟨⟨by decide, by decide, fun s hs => na_okY (by simp at hs; simp [hs]), by decide +kernel⟩, ⟨by decide, by decide, fun s hs => na_okY (by simp at hs; simp [hs]), by decide +kernel⟩, fun w hw => by simp at hw, by decide⟩
def e22 (ns : List Int) (ga : Pg) (x2 x3 x4 : Option D) : DL.Env := [some (.ro (ns.map .int)), some (pgD ga), x2, x3, x4]
set_option maxHeartbeats 4000000 in
theorem law_true {ns : List Int} {S : Sto} (hl : ns.length ≤ 63) : Ok (Lw.f_law [.ro (ns.map .int)] S) fun d _ => d = .bl true := by
  unfold Lw.f_law
  refine k_fn rfl ?_
  unfold Lw.d_law
  refine k_seqQ (fun f ρ1 S1 => f = .nx ∧ ρ1 = e22 ns (["x"], ["a"], []) none none none) ?_ ?_
  · walk_at "dl"
    exact ⟨rfl, rfl⟩
  rintro f ρ1 S1 ⟨rfl, rfl⟩
  dsimp only
  refine k_seqQ (fun f ρ1 S2 => f = .nx ∧ ρ1 = e22 ns (["x"], ["a"], []) none none none) ?_ ?_
  · walk_at "dl"
    refine near_ok ?_
    walk_at "dl"
    refine lright_ok gN_ok (by decide) (by decide) fun S' _ _ => ?_
    walk_at "dl"
    try refine k_ifF (by decide) ?_
    first | exact k_nx ⟨rfl, rfl⟩ | exact ⟨rfl, rfl⟩
  rintro f ρ1 S2 ⟨rfl, rfl⟩
  dsimp only
  unfold e22
  walk_at "dl"
  refine i_rng1 (by omega) (by omega) ?_
  refine k_forL (fun i ρ S' => ∃ ga x2 x3 x4, PgOk 40 ga ∧ ρ = e22 ns ga x2 x3 x4) ⟨_, _, _, _, g1_ok, rfl⟩ ?_ ?_
  · rintro i ρ S0 d hd ⟨ga, x2, x3, x4, Ga, rfl⟩
    obtain ⟨z, hz0, hz1, rfl⟩ := rng_get hd
    clear hd
    refine ⟨_, rfl, ?_⟩
    refine k_seqQ (fun f ρ1 S3 => f = .nx ∧ ∃ p, IsPool S3 p ∧ ρ1 = e22 ns ga (some (.int z)) (some (.cell p)) x4) ?_ ?_
    · unfold e22
      walk_at "dl"
      refine pool_ok hz0 (by omega) fun a b ha hb => ?_
      walk_at "dl"
      exact ⟨rfl, _, pool_made ha hb, rfl⟩
    rintro f ρ1 S3 ⟨rfl, p, hp, rfl⟩
    dsimp only
    refine k_seqQ (fun f ρ1 S4 => f = .nx ∧ ∃ (g : Pg) (c : Nat), PgOk 40 g ∧ S4[c]? = some (some (.lst (g.2.2.map rwD))) ∧ ρ1 = e22 ns ga (some (.int z)) (some (.cell p)) (some (.tup [nmsD g.1, nmsD g.2.1, .cell c]))) ?_ ?_
    · unfold e22
      walk_at "dl"
      refine program21_ok hp fun g S4 G hc s4 => ?_
      walk_at "dl"
      exact ⟨rfl, g, _, G, hc, rfl⟩
    rintro f ρ1 S4 ⟨rfl, g, c, G, hc, rfl⟩
    dsimp only
    refine k_seqQ (fun f ρ1 S5 => f = .nx ∧ ∃ g : Pg, PgOk 40 g ∧ ρ1 = e22 ns ga (some (.int z)) (some (.cell p)) (some (pgD g))) ?_ ?_
    · refine k_thenFrzD ?_
      refine k_whileN (fun j ρ S' => ∃ rows, PgOk 40 (g.1, g.2.1, rows) ∧ rows.length = g.2.2.length - j ∧ S'[c]? = some (some (.lst (rows.map rwD))) ∧ ρ = e22 ns ga (some (.int z)) (some (.cell p)) (some (.tup [nmsD g.1, nmsD g.2.1, .cell c]))) g.2.2.length (by have := G.len; unfold DL.FU; omega) ⟨g.2.2, G, by omega, hc, rfl⟩ ?_
      rintro j ρ S' hj ⟨rows, G1, hrl, hc1, rfl⟩
      have hpl := pgT_len G1 (by decide)
      unfold e22
      walk_at "dl"
      refine lprog_ok (g := (g.1, g.2.1, rows)) G1 (by decide) (.inr ⟨c, rfl, hc1⟩) ?_
      walk_at "dl"
      refine o_lenS (by rw [SX.S_len, sizeLine_eq]; omega) ?_
      rw [SX.S_len]
      walk_at "dl"
      refine k_condD (fun hgt => ?_) fun hgt => ?_
      · have hne : rows ≠ [] := fun e => by
          subst e
          have := short_ok (nas := g.1) (pls := g.2.1) G1.nas G1.pls
          omega
        obtain ⟨rs, w, rfl⟩ : ∃ rs w, rows = rs ++ [w] := ⟨rows.dropLast, rows.getLast hne, (List.dropLast_concat_getLast hne).symm⟩
        walk_at "dl"
        refine ⟨chk_cell' hc1, ?_⟩
        walk_at "dl"
        refine o_pop (xs := rs.map rwD) (d := rwD w) (by rw [hc1]; simp) ?_
        have hcl := (List.getElem?_eq_some_iff.mp hc1).1
        rw [List.length_append, List.length_singleton] at hrl
        refine ⟨by omega, rs, ⟨G1.nas, G1.pls, fun v hv => G1.rows v (by simp [hv]), by have := G1.len; simp at this; show rs.length ≤ 10; omega⟩, by omega, by rw [List.getElem?_set_self hcl], rfl⟩
      · refine ⟨rfl, _, _, _, rfl, frz_prog (g := (g.1, g.2.1, rows)) (c := c) (ys := rows) G1 hc1 (frz_rows (g := (g.1, g.2.1, rows)) G1 (by decide) (by decide)), ?_⟩
        exact ⟨rfl, (g.1, g.2.1, rows), G1, rfl⟩
    rintro f ρ1 S5 ⟨rfl, g', G', rfl⟩
    dsimp only
    unfold e22
    walk_at "dl"
    refine lright_ok G' (by decide) (by decide) fun S6 _ _ => ?_
    walk_at "dl"
    try refine k_ifF (by decide) ?_
    walk_at "dl"
    refine lright_ok Ga (by decide) (by decide) fun S7 _ _ => ?_
    walk_at "dl"
    try refine k_ifF (by decide) ?_
    walk_at "dl"
    refine lright_ok G' (by decide) (by decide) fun S8 _ _ => ?_
    walk_at "dl"
    try refine k_ifF (by decide) ?_
    walk_at "dl"
    exact ⟨_, _, _, _, G', rfl⟩
  · rintro ρ S1 ⟨ga, x2, x3, x4, Ga, rfl⟩
    unfold e22
    walk_at "dl"
theorem f_law_true (ns : List Int) (hl : ns.length ≤ 63) : ∃ S', Lw.f_law [.ro (ns.map D.int)] [] = .ok (.bl true) S' := by
  obtain ⟨d, S', e, rfl⟩ := (law_true (S := []) hl).get
  exact ⟨S', e⟩
end

end
end Lp

theorem PySem.Challenge.cw_downweigh_k22_programs_written_holds : PySem.Challenge.rw_downweigh_k22_programs_written.Holds :=
  Lw.headFirst fun ns h => Lp.f_law_true ns h
#print axioms PySem.Challenge.cw_downweigh_k22_programs_written_holds
