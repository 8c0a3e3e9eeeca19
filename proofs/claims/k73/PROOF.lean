import PyProof.Rows.All
import Wide.All
import OpenK.AllK
import Wide.FinOn
import HandS.Codes
import HandS.Exc
import OpenK.KCls
import HandS.Head0
import HandS.Head1
import HandS.Head2
import HandS.HeadHook1
import HandS.HeadHook2
import HandS.ForMost
import HandS.TryOnly
import HandS.TryMany
import HandS.ExcOwn
import HandS.Defaults
import HandS.Wide
import HandS.IsInst
import HandS.Flow
import HandS.Style
import HandS.FStr
import HandS.Zip
import HandS.ExcValue
import KE.KUnpackStar
import HandS.ExcInit
import HandS.ExcIs
import HandS.ExcField
import KE.KExcIs
import HandS.WordsExc
import HandS.SetFor
import HandS.More
import KE.KRevSl
import KE.KExcInit
import HandS.SortKw
import HandS.DictComp
import HandS.Conv
import HandS.TupAny
import PyProof.ListMulRight
import PyProof.Rows.ListMulR
import HandS.SortInts
import HandS.Strs
import HandS.SetBool
import HandS.MakeKw
import OpenK.KOps
import PyProof.EqKinds
import PyProof.FactsAll.dict
import HandS.SortRule
import HandS.Deep
import HandS.Text
import PySem.Challenge.RW_downweigh_k73_deeds_at_a_bench
set_option Elab.async false
set_option linter.all false
set_option maxRecDepth 100000
/-! HXB: the head of a law by one kernel run, its facts told by Bools of a part of the heap. -/
namespace HX
open PySem PySem.Spec PyProof.Rows L2
def lvl (g : Addr → Option Obj) : Nat → List Addr → List Addr
  | 0, as => as
  | n + 1, as => as ++ lvl g n (as.flatMap fun a => match g a with
    | some o => He.refsD o
    | none => [])
abbrev Bf : Type := PySem.W.Frag → Bool
abbrev AlZ : Type := He.Al × Bool
def obsZ (fb : List Bf) (fn : List He.FnD) (K : PySem.W.Frag) : AlZ := (He.obsE [] fn K, fb.all fun f => f K)
def valZ (fn : List He.FnD) : AlZ := (He.valE fn, true)
def SaysZ (fb : List Bf) (fn : List He.FnD) (K : PySem.W.Frag) : Prop := obsZ fb fn K = valZ fn
def obsZG (n : Nat) (fb : List Bf) (fn : List He.FnD) (g : Addr → Option Obj) : AlZ := obsZ fb fn (He.frG g (cStatics :: lvl g n [mainGlobals]))
def hookZ (n : Nat) (fb : List Bf) (fn : List He.FnD) : PySem.W.Hook where
  α := AlZ
  obs := fun s => obsZG n fb fn s.heap.get?
  val := fun _ => valZ fn
  says := fun _ h => ∃ K : PySem.W.Frag, K.In h ∧ SaysZ fb fn K
  of := fun _ _ e => ⟨_, He.frG_in, e⟩
  keeps := fun _ _ _ ⟨K, hK, c⟩ k => ⟨K, PySem.W.Frag.In.keeps hK k, c⟩
theorem obsZG_eq {n : Nat} {fb : List Bf} {fn : List He.FnD} {g : Addr → Option Obj} {s : Shared} (h : ∀ a, g a = s.heap.get? a) : obsZG n fb fn g = (hookZ n fb fn).obs s := by
  have e : g = s.heap.get? := funext h
  rw [e] <;> rfl
section
variable {fb : List Bf} {fn : List He.FnD} {K : PySem.W.Frag}
theorem SaysZ.b (c : SaysZ fb fn K) (i : Nat) {f : Bf} (h : fb[i]? = some f := by rfl) : f K = true :=
  List.all_eq_true.mp (show (fb.all fun f => f K) = true from congrArg (fun z : AlZ => z.2) c) f (List.mem_of_getElem? h)
theorem SaysZ.def_ (c : SaysZ fb fn K) (i : Nat) {d : He.FnD} (h : fn[i]? = some d := by rfl) :
    ∃ oc od osl kV doc pm an cdv ct, K.lookup (He.fAd K d.at_) = some ⟨oc, od, .func (PySem.W.fnOf d.name d.qual d.params d.body d.scope .none kV doc pm an cdv ct), osl⟩ ∧ PySem.W.codeIn K cdv d.qual = true :=
  He.SaysE.def_ (show He.SaysE [] fn K from congrArg (fun z : AlZ => z.1) c) i h
end
/-! ### kinds of facts -/
section
variable {K : PySem.W.Frag}
def eqB {α : Type} [DecidableEq α] (a b : α) : Bool := decide (a = b)
theorem notB_ok {b : Bool} (h : (!b) = true) : b = false := by simpa using h
theorem eqB_ok {α : Type} [DecidableEq α] {a b : α} (h : eqB a b = true) : a = b := of_decide_eq_true h
def intB (K : PySem.W.Frag) (a : Addr) (x : Str) (i : Int) : Bool := match PySem.W.nsIn K a x with
  | some (some (.int j _)) => decide (j = i)
  | _ => false
theorem intB_ok {a : Addr} {x : Str} {i : Int} (h : intB K a x i = true) : ∃ t, PySem.W.nsIn K a x = some (some (.int i t)) := by
  unfold intB at h
  split at h
  · rename_i j t e
    have := of_decide_eq_true h
    subst this
    exact ⟨t, e⟩
  · cases h
def strB (K : PySem.W.Frag) (a : Addr) (x z : Str) : Bool := match PySem.W.nsIn K a x with
  | some (some (.str y _)) => decide (y = z)
  | _ => false
theorem strB_ok {a : Addr} {x z : Str} (h : strB K a x z = true) : ∃ t, PySem.W.nsIn K a x = some (some (.str z t)) := by
  unfold strB at h
  split at h
  · rename_i j t e
    have := of_decide_eq_true h
    subst this
    exact ⟨t, e⟩
  · cases h
def valB (r : Option PySem.W.CFound) (v : Value) : Bool := match r with
  | some (.val u) => decide (u = v)
  | _ => false
theorem valB_ok {r : Option PySem.W.CFound} {v : Value} (h : valB r v = true) : r = some (.val v) := by
  unfold valB at h
  split at h
  · have := of_decide_eq_true h
    rw [this]
  · cases h
/-- the dict of a def's keyword defaults -/
def kdA (K : PySem.W.Frag) (f : Addr) : Addr := match K.lookup f with
  | some ⟨_, _, .func fd, _⟩ => (match fd.kwdefaults with
    | .ref a => a
    | _ => 0)
  | _ => 0
def kdB (K : PySem.W.Frag) (f : Addr) : Bool := match K.lookup f with
  | some ⟨_, _, .func fd, _⟩ => (match fd.kwdefaults with
    | .ref _ => true
    | _ => false)
  | _ => false
theorem kd_ok {f : Addr} {oc kV doc pm cdv ct : Value} {od an : Option Addr} {osl : Array (Option Value)} {x q : Str} {ps : Arguments} {b : List Stmt} {sc : Scope}
    (l : K.lookup f = some ⟨oc, od, .func (PySem.W.fnOf x q ps b sc .none kV doc pm an cdv ct), osl⟩) (h : kdB K f = true) : K.lookup f = some ⟨oc, od, .func (PySem.W.fnOf x q ps b sc .none (.ref (kdA K f)) doc pm an cdv ct), osl⟩ := by
  unfold kdB at h
  rw [l] at h
  cases kV with
  | ref a =>
    have e2 : kdA K f = a := by unfold kdA; rw [l]
    rw [e2]; exact l
  | _ => cases h
/-- a tuple of two numbers -/
def tupB (K : PySem.W.Frag) (a : Addr) (is : List Int) : Bool := match K.lookup a with
  | some ⟨.type t, _, .seq xs _, _⟩ => decide (t = "tuple") && (match xs.toList with
    | [.int i _, .int j _] => decide (is = [i, j])
    | _ => false)
  | _ => false
theorem tup2_ok {a : Addr} {i j : Int} (h : tupB K a [i, j] = true) : ∃ l t0 t1 n s, K.lookup a = some ⟨.type "tuple", l, .seq #[.int i t0, .int j t1] n, s⟩ := by
  unfold tupB at h
  split at h
  · rename_i t l xs n s e
    obtain ⟨h1, h2⟩ := Bool.and_eq_true_iff.mp h
    have := of_decide_eq_true h1
    subst this
    split at h2
    · rename_i i' t0 j' t1 e2
      have e3 := of_decide_eq_true h2
      obtain ⟨xs⟩ := xs
      have e2' : xs = [.int i' t0, .int j' t1] := e2
      subst e2'
      cases e3
      exact ⟨l, t0, t1, n, s, e⟩
    · cases h2
  · cases h
/-- a class of errors, its line of classes told -/
def xclB (K : PySem.W.Frag) (C : Addr) (ok : List Value → Bool) (newId : String) : Bool := match K.lookup C with
  | some ⟨.type t, _, .cls cd, sl⟩ => decide (t = "type") && (decide (cd.mro.head? = some (.ref C)) && (cd.hasDict && (!cd.hasDel && (ok cd.mro.tail && (match sl.toList with
    | [_, _, _, _, some (.builtin n), _] => decide (n = newId)
    | _ => false)))))
  | _ => false
theorem xcl_any {C : Addr} {ok : List Value → Bool} {newId : String} (h : xclB K C ok newId = true) : ∃ nm q N bs bm sn sub ab col dd k0 k1 k2 k3 k5, K.lookup C = some (excClassObj nm q C N bs bm true sn sub ab col dd k0 k1 k2 k3 k5 newId) ∧ ok bm = true := by
  unfold xclB at h
  split at h
  · rename_i t dd cd sl e
    obtain ⟨h1, h⟩ := Bool.and_eq_true_iff.mp h
    obtain ⟨h2, h⟩ := Bool.and_eq_true_iff.mp h
    obtain ⟨h3, h⟩ := Bool.and_eq_true_iff.mp h
    obtain ⟨h4, h⟩ := Bool.and_eq_true_iff.mp h
    obtain ⟨h5, h6⟩ := Bool.and_eq_true_iff.mp h
    have e1 := of_decide_eq_true h1
    subst e1
    have e2 := of_decide_eq_true h2
    split at h6
    · rename_i k0 k1 k2 k3 n k5 e6
      have e7 := of_decide_eq_true h6
      subst e7
      obtain ⟨sl⟩ := sl
      have e6' : sl = [k0, k1, k2, k3, some (.builtin n), k5] := e6
      subst e6'
      obtain ⟨nm, bs, mro, N, q, hd, sn, sub, ab, col, del⟩ := cd
      have h3' : hd = true := h3
      have h4' : del = false := by simpa using h4
      subst h3' h4'
      cases mro with
      | nil => cases e2
      | cons a bm =>
        have ea : a = .ref C := Option.some.inj e2
        subst ea
        exact ⟨nm, q, N, bs, bm, sn, sub, ab, col, dd, k0, k1, k2, k3, k5, e, h5⟩
    · cases h6
  · cases h
theorem xcl_ok {C : Addr} {bm : List Value} {newId : String} (h : xclB K C (fun l => eqB l bm) newId = true) : ∃ nm q N bs sn sub ab col dd k0 k1 k2 k3 k5, K.lookup C = some (excClassObj nm q C N bs bm true sn sub ab col dd k0 k1 k2 k3 k5 newId) := by
  obtain ⟨nm, q, N, bs, bm', sn, sub, ab, col, dd, k0, k1, k2, k3, k5, e, h2⟩ := xcl_any h
  rw [eqB_ok h2] at e
  exact ⟨nm, q, N, bs, sn, sub, ab, col, dd, k0, k1, k2, k3, k5, e⟩
end
end HX

namespace DL
end DL

set_option Elab.async false
set_option linter.all false
set_option maxRecDepth 100000
/-! printed by gen.py: each def of the text does so; the end -/
namespace Lw
open PySem L2 DL
noncomputable section
def top (i : Nat) : Stmt := PySem.Challenge.pw_downweigh_k73_deeds_at_a_bench.main.body.getD i (.Pass ⟨0, 0, 0, 0⟩)
def clsFn (s : Stmt) (k : Nat) : Stmt := (match s with | .ClassDef _ _ _ b .. => b | _ => ([] : List Stmt)).getD k (.Pass ⟨0, 0, 0, 0⟩)
abbrev s_is_name : Stmt := top 25
abbrev s_first_no_name : Stmt := top 26
abbrev s_look_at_names : Stmt := top 27
abbrev s_is_whole : Stmt := top 10
abbrev s_look_at_many : Stmt := top 15
abbrev s_is_line : Stmt := top 16
abbrev s_is_wish : Stmt := top 17
abbrev s_are_wishes : Stmt := top 28
abbrev s_is_number_of : Stmt := top 29
abbrev s_is_row : Stmt := top 30
abbrev s_look_at : Stmt := top 31
abbrev s_copied_wishes : Stmt := top 32
abbrev s_copied_row : Stmt := top 33
abbrev s_copied : Stmt := top 34
abbrev s_Bench_m___init__ : Stmt := clsFn (top 37) 0
abbrev s__law_pool : Stmt := top 39
abbrev s__law_take : Stmt := top 40
abbrev s__law_free_row : Stmt := top 41
abbrev s__law_copy : Stmt := top 42
abbrev s_Bench_m_program : Stmt := clsFn (top 37) 11
abbrev s_Bench_m_deeds : Stmt := clsFn (top 37) 12
abbrev s_Bench_m_keeps : Stmt := clsFn (top 37) 13
abbrev s_Bench_m___len__ : Stmt := clsFn (top 37) 15
abbrev s__law_shows : Stmt := top 43
abbrev s_Bench_m_done : Stmt := clsFn (top 37) 1
abbrev s_Bench_m_has_left : Stmt := clsFn (top 37) 3
abbrev s_Bench_m_put : Stmt := clsFn (top 37) 4
abbrev s__law_put : Stmt := top 44
abbrev s_Bench_m_look_at_number : Stmt := clsFn (top 37) 2
abbrev s_Bench_m_paper_without : Stmt := clsFn (top 37) 5
abbrev s_Bench_m_take : Stmt := clsFn (top 37) 6
abbrev s__law_taken : Stmt := top 45
abbrev s_Bench_m_change : Stmt := clsFn (top 37) 7
abbrev s__law_changed : Stmt := top 46
abbrev s_Bench_m_undo : Stmt := clsFn (top 37) 8
abbrev s__law_undone : Stmt := top 47
abbrev s_law : Stmt := top 48
abbrev i_NoNumber : Stmt := clsFn (top 3) 0
abbrev i_NoProgram : Stmt := clsFn (top 4) 0
abbrev i_NoRow : Stmt := clsFn (top 6) 0

end
end Lw

set_option Elab.async false
set_option linter.all false
set_option maxRecDepth 100000
namespace Lw
open PySem PySem.Spec PyProof.Rows L2
def hn0 : List PySem.Str := ["_wall", "WeighError", "NoNumber", "NoProgram", "NoWishes", "NoRow", "Full", "Bare", "is_whole", "MOST_NUMBERS_wishes", "LEAST", "JUST", "look_at_many", "is_line", "is_wish", "LETTERS", "LONGEST", "MOST_NUMBERS_programs", "MOST_PLACES", "MOST_ROWS"]
def hn1 : List PySem.Str := ["MOST_WISHES", "is_name", "first_no_name", "look_at_names", "are_wishes", "is_number_of", "is_row", "look_at", "copied_wishes", "copied_row", "copied", "without", "Bench", "_law_pool", "_law_take", "_law_free_row", "_law_copy", "_law_shows", "_law_put", "_law_taken"]
def hn2 : List PySem.Str := ["_law_changed", "_law_undone"]
def hnames : List PySem.Str := hn0 ++ hn1 ++ hn2
def hfb0 : List HX.Bf := [fun K => HX.eqB (PySem.W.nsIn K mainGlobals "Bench") (some (some (.ref (He.ga K "Bench")))), fun K => PySem.W.plainGet K (He.ga K "Bench") Str.empty, fun K => PySem.W.hasDictIn K (He.ga K "Bench"), fun K => PySem.W.plainOver K (He.ga K "Bench"), fun K => HX.eqB (PySem.W.findIn K (.ref (He.ga K "Bench")) "__setattr__") (some (some (.builtin "object.__setattr__"))), fun K => PySem.W.makesIn K (He.ga K "Bench"), fun K => PySem.W.keepIn K (.ref (He.ga K "Bench")), fun K => HX.eqB (PySem.W.findIn K (.ref (He.ga K "Bench")) "own_paper") (some none), fun K => HX.eqB (PySem.W.findIn K (.ref (He.ga K "Bench")) "own_past") (some none), fun K => HX.eqB (PySem.W.findIn K (.ref (He.ga K "Bench")) "own_program") (some none), fun K => HX.eqB (PySem.W.nsIn K mainGlobals "is_name") (some (some (.ref (He.ga K "is_name")))), fun K => HX.kdB K (He.ga K "is_name"), fun K => HX.intB K (HX.kdA K (He.ga K "is_name")) "longest" (6), fun K => PySem.W.keepIn K (.ref (He.ga K "is_name")), fun K => HX.eqB (PySem.W.nsIn K mainGlobals "first_no_name") (some (some (.ref (He.ga K "first_no_name")))), fun K => PySem.W.keepIn K (.ref (He.ga K "first_no_name")), fun K => HX.eqB (PySem.W.nsIn K mainGlobals "look_at_names") (some (some (.ref (He.ga K "look_at_names")))), fun K => PySem.W.keepIn K (.ref (He.ga K "look_at_names")), fun K => HX.eqB (PySem.W.nsIn K mainGlobals "is_whole") (some (some (.ref (He.ga K "is_whole")))), fun K => PySem.W.keepIn K (.ref (He.ga K "is_whole"))]
def hfb1 : List HX.Bf := [fun K => HX.eqB (PySem.W.nsIn K mainGlobals "look_at_many") (some (some (.ref (He.ga K "look_at_many")))), fun K => PySem.W.keepIn K (.ref (He.ga K "look_at_many")), fun K => HX.eqB (PySem.W.nsIn K mainGlobals "is_line") (some (some (.ref (He.ga K "is_line")))), fun K => PySem.W.keepIn K (.ref (He.ga K "is_line")), fun K => HX.eqB (PySem.W.nsIn K mainGlobals "is_wish") (some (some (.ref (He.ga K "is_wish")))), fun K => PySem.W.keepIn K (.ref (He.ga K "is_wish")), fun K => HX.eqB (PySem.W.nsIn K mainGlobals "are_wishes") (some (some (.ref (He.ga K "are_wishes")))), fun K => HX.kdB K (He.ga K "are_wishes"), fun K => HX.intB K (HX.kdA K (He.ga K "are_wishes")) "most" (12), fun K => PySem.W.keepIn K (.ref (He.ga K "are_wishes")), fun K => HX.eqB (PySem.W.nsIn K mainGlobals "is_number_of") (some (some (.ref (He.ga K "is_number_of")))), fun K => PySem.W.keepIn K (.ref (He.ga K "is_number_of")), fun K => HX.eqB (PySem.W.nsIn K mainGlobals "is_row") (some (some (.ref (He.ga K "is_row")))), fun K => PySem.W.keepIn K (.ref (He.ga K "is_row")), fun K => HX.eqB (PySem.W.nsIn K mainGlobals "look_at") (some (some (.ref (He.ga K "look_at")))), fun K => PySem.W.keepIn K (.ref (He.ga K "look_at")), fun K => HX.eqB (PySem.W.nsIn K mainGlobals "copied_wishes") (some (some (.ref (He.ga K "copied_wishes")))), fun K => PySem.W.keepIn K (.ref (He.ga K "copied_wishes")), fun K => HX.eqB (PySem.W.nsIn K mainGlobals "copied_row") (some (some (.ref (He.ga K "copied_row")))), fun K => PySem.W.keepIn K (.ref (He.ga K "copied_row"))]
def hfb2 : List HX.Bf := [fun K => HX.eqB (PySem.W.nsIn K mainGlobals "copied") (some (some (.ref (He.ga K "copied")))), fun K => PySem.W.keepIn K (.ref (He.ga K "copied")), fun K => HX.eqB (PySem.W.findIn K (.ref (He.ga K "Bench")) "__init__") (some (some (.ref (He.ma K (He.ga K "Bench") "__init__")))), fun K => PySem.W.isFn K (.ref (He.ma K (He.ga K "Bench") "__init__")), fun K => PySem.W.keepIn K (.ref (He.ma K (He.ga K "Bench") "__init__")), fun K => HX.eqB (PySem.W.nsIn K mainGlobals "_law_pool") (some (some (.ref (He.ga K "_law_pool")))), fun K => PySem.W.keepIn K (.ref (He.ga K "_law_pool")), fun K => HX.eqB (PySem.W.nsIn K mainGlobals "_law_take") (some (some (.ref (He.ga K "_law_take")))), fun K => PySem.W.keepIn K (.ref (He.ga K "_law_take")), fun K => HX.eqB (PySem.W.nsIn K mainGlobals "_law_free_row") (some (some (.ref (He.ga K "_law_free_row")))), fun K => PySem.W.keepIn K (.ref (He.ga K "_law_free_row")), fun K => HX.eqB (PySem.W.nsIn K mainGlobals "_law_copy") (some (some (.ref (He.ga K "_law_copy")))), fun K => PySem.W.keepIn K (.ref (He.ga K "_law_copy")), fun K => HX.eqB (PySem.W.findIn K (.ref (He.ga K "Bench")) "program") (some (some (.ref (He.ma K (He.ga K "Bench") "program")))), fun K => PySem.W.isFn K (.ref (He.ma K (He.ga K "Bench") "program")), fun K => PySem.W.keepIn K (.ref (He.ma K (He.ga K "Bench") "program")), fun K => HX.eqB (PySem.W.findIn K (.ref (He.ga K "Bench")) "deeds") (some (some (.ref (He.ma K (He.ga K "Bench") "deeds")))), fun K => PySem.W.isFn K (.ref (He.ma K (He.ga K "Bench") "deeds")), fun K => PySem.W.keepIn K (.ref (He.ma K (He.ga K "Bench") "deeds")), fun K => HX.eqB (PySem.W.findIn K (.ref (He.ga K "Bench")) "keeps") (some (some (.ref (He.ma K (He.ga K "Bench") "keeps"))))]
def hfb3 : List HX.Bf := [fun K => PySem.W.isFn K (.ref (He.ma K (He.ga K "Bench") "keeps")), fun K => PySem.W.keepIn K (.ref (He.ma K (He.ga K "Bench") "keeps")), fun K => HX.eqB (PySem.W.findIn K (.ref (He.ga K "Bench")) "__len__") (some (some (.ref (He.ma K (He.ga K "Bench") "__len__")))), fun K => PySem.W.isFn K (.ref (He.ma K (He.ga K "Bench") "__len__")), fun K => PySem.W.keepIn K (.ref (He.ma K (He.ga K "Bench") "__len__")), fun K => HX.eqB (PySem.W.nsIn K mainGlobals "_law_shows") (some (some (.ref (He.ga K "_law_shows")))), fun K => PySem.W.keepIn K (.ref (He.ga K "_law_shows")), fun K => HX.eqB (PySem.W.findIn K (.ref (He.ga K "Bench")) "done") (some (some (.ref (He.ma K (He.ga K "Bench") "done")))), fun K => PySem.W.isFn K (.ref (He.ma K (He.ga K "Bench") "done")), fun K => PySem.W.keepIn K (.ref (He.ma K (He.ga K "Bench") "done")), fun K => HX.eqB (PySem.W.findIn K (.ref (He.ga K "Bench")) "has_left") (some (some (.ref (He.ma K (He.ga K "Bench") "has_left")))), fun K => PySem.W.isFn K (.ref (He.ma K (He.ga K "Bench") "has_left")), fun K => PySem.W.keepIn K (.ref (He.ma K (He.ga K "Bench") "has_left")), fun K => HX.eqB (PySem.W.findIn K (.ref (He.ga K "Bench")) "put") (some (some (.ref (He.ma K (He.ga K "Bench") "put")))), fun K => PySem.W.isFn K (.ref (He.ma K (He.ga K "Bench") "put")), fun K => PySem.W.keepIn K (.ref (He.ma K (He.ga K "Bench") "put")), fun K => HX.eqB (PySem.W.nsIn K mainGlobals "_law_put") (some (some (.ref (He.ga K "_law_put")))), fun K => PySem.W.keepIn K (.ref (He.ga K "_law_put")), fun K => HX.eqB (PySem.W.findIn K (.ref (He.ga K "Bench")) "look_at_number") (some (some (.ref (He.ma K (He.ga K "Bench") "look_at_number")))), fun K => PySem.W.isFn K (.ref (He.ma K (He.ga K "Bench") "look_at_number"))]
def hfb4 : List HX.Bf := [fun K => PySem.W.keepIn K (.ref (He.ma K (He.ga K "Bench") "look_at_number")), fun K => HX.eqB (PySem.W.findIn K (.ref (He.ga K "Bench")) "paper_without") (some (some (.ref (He.ma K (He.ga K "Bench") "paper_without")))), fun K => PySem.W.isFn K (.ref (He.ma K (He.ga K "Bench") "paper_without")), fun K => PySem.W.keepIn K (.ref (He.ma K (He.ga K "Bench") "paper_without")), fun K => HX.eqB (PySem.W.findIn K (.ref (He.ga K "Bench")) "take") (some (some (.ref (He.ma K (He.ga K "Bench") "take")))), fun K => PySem.W.isFn K (.ref (He.ma K (He.ga K "Bench") "take")), fun K => PySem.W.keepIn K (.ref (He.ma K (He.ga K "Bench") "take")), fun K => HX.eqB (PySem.W.nsIn K mainGlobals "_law_taken") (some (some (.ref (He.ga K "_law_taken")))), fun K => PySem.W.keepIn K (.ref (He.ga K "_law_taken")), fun K => HX.eqB (PySem.W.findIn K (.ref (He.ga K "Bench")) "change") (some (some (.ref (He.ma K (He.ga K "Bench") "change")))), fun K => PySem.W.isFn K (.ref (He.ma K (He.ga K "Bench") "change")), fun K => PySem.W.keepIn K (.ref (He.ma K (He.ga K "Bench") "change")), fun K => HX.eqB (PySem.W.nsIn K mainGlobals "_law_changed") (some (some (.ref (He.ga K "_law_changed")))), fun K => PySem.W.keepIn K (.ref (He.ga K "_law_changed")), fun K => HX.eqB (PySem.W.findIn K (.ref (He.ga K "Bench")) "undo") (some (some (.ref (He.ma K (He.ga K "Bench") "undo")))), fun K => PySem.W.isFn K (.ref (He.ma K (He.ga K "Bench") "undo")), fun K => PySem.W.keepIn K (.ref (He.ma K (He.ga K "Bench") "undo")), fun K => HX.eqB (PySem.W.nsIn K mainGlobals "_law_undone") (some (some (.ref (He.ga K "_law_undone")))), fun K => PySem.W.keepIn K (.ref (He.ga K "_law_undone")), fun K => HX.eqB (PySem.W.nsIn K mainGlobals "law") (some (some (.ref (He.ga K "law"))))]
def hfb5 : List HX.Bf := [fun K => PySem.W.keepIn K (.ref (He.ga K "law")), fun K => HX.eqB (PySem.W.nsIn K mainGlobals "IndexError") (some none), fun K => HX.eqB (PySem.W.nsIn K mainGlobals "all") (some none), fun K => HX.eqB (PySem.W.nsIn K mainGlobals "bool") (some none), fun K => HX.eqB (PySem.W.nsIn K mainGlobals "enumerate") (some none), fun K => HX.eqB (PySem.W.nsIn K mainGlobals "int") (some none), fun K => HX.eqB (PySem.W.nsIn K mainGlobals "isinstance") (some none), fun K => HX.eqB (PySem.W.nsIn K mainGlobals "len") (some none), fun K => HX.eqB (PySem.W.nsIn K mainGlobals "list") (some none), fun K => HX.eqB (PySem.W.nsIn K mainGlobals "max") (some none), fun K => HX.eqB (PySem.W.nsIn K mainGlobals "min") (some none), fun K => HX.eqB (PySem.W.nsIn K mainGlobals "range") (some none), fun K => HX.eqB (PySem.W.nsIn K mainGlobals "repr") (some none), fun K => HX.eqB (PySem.W.nsIn K mainGlobals "str") (some none), fun K => HX.eqB (PySem.W.nsIn K mainGlobals "tuple") (some none), fun K => HX.strB K mainGlobals "JUST" "just", fun K => HX.strB K mainGlobals "LEAST" "least", fun K => HX.strB K mainGlobals "LETTERS" "abcdefghijklmnopqrstuvwxyz", fun K => HX.intB K mainGlobals "MOST_NUMBERS_programs" (3), fun K => HX.intB K mainGlobals "MOST_NUMBERS_wishes" (8)]
def hfb6 : List HX.Bf := [fun K => HX.intB K mainGlobals "MOST_PLACES" (6), fun K => HX.intB K mainGlobals "MOST_ROWS" (10), fun K => HX.eqB (PySem.W.nsIn K mainGlobals "Bare") (some (some (.ref (He.ga K "Bare")))), fun K => HX.eqB (PySem.W.nsIn K mainGlobals "Full") (some (some (.ref (He.ga K "Full")))), fun K => HX.eqB (PySem.W.nsIn K mainGlobals "NoNumber") (some (some (.ref (He.ga K "NoNumber")))), fun K => HX.eqB (PySem.W.nsIn K mainGlobals "NoProgram") (some (some (.ref (He.ga K "NoProgram")))), fun K => HX.eqB (PySem.W.nsIn K mainGlobals "NoRow") (some (some (.ref (He.ga K "NoRow")))), fun K => HX.eqB (PySem.W.nsIn K mainGlobals "NoWishes") (some (some (.ref (He.ga K "NoWishes")))), fun K => HX.eqB (PySem.W.nsIn K mainGlobals "WeighError") (some (some (.ref (He.ga K "WeighError")))), fun K => HX.eqB (PySem.W.specialIn K (.builtin "object.__class__") "__get__") (some (some (.builtin "getset_descriptor.__get__"))), fun K => HX.eqB (PySem.W.takesIn K (.builtin "object.__class__")) (some true), fun K => HX.eqB (PySem.W.subIn K (.ref (He.ga K "Bare")) (.type "BaseException")) (some true), fun K => PySem.W.hasDictIn K (He.ga K "Bare"), fun K => HX.eqB (PySem.W.typeIn K (.ref (He.ga K "Bare"))) (some (.type "type")), fun K => PySem.W.isClsIn K (He.ga K "Bare"), fun K => HX.eqB (PySem.W.subIn K (.ref (He.ga K "Full")) (.type "BaseException")) (some true), fun K => PySem.W.hasDictIn K (He.ga K "Full"), fun K => HX.eqB (PySem.W.typeIn K (.ref (He.ga K "Full"))) (some (.type "type")), fun K => PySem.W.isClsIn K (He.ga K "Full"), fun K => HX.eqB (PySem.W.subIn K (.ref (He.ga K "NoNumber")) (.type "BaseException")) (some true)]
def hfb7 : List HX.Bf := [fun K => PySem.W.hasDictIn K (He.ga K "NoNumber"), fun K => HX.eqB (PySem.W.typeIn K (.ref (He.ga K "NoNumber"))) (some (.type "type")), fun K => PySem.W.isClsIn K (He.ga K "NoNumber"), fun K => HX.eqB (PySem.W.subIn K (.ref (He.ga K "NoProgram")) (.type "BaseException")) (some true), fun K => PySem.W.hasDictIn K (He.ga K "NoProgram"), fun K => HX.eqB (PySem.W.typeIn K (.ref (He.ga K "NoProgram"))) (some (.type "type")), fun K => PySem.W.isClsIn K (He.ga K "NoProgram"), fun K => HX.eqB (PySem.W.subIn K (.ref (He.ga K "NoRow")) (.type "BaseException")) (some true), fun K => PySem.W.hasDictIn K (He.ga K "NoRow"), fun K => HX.eqB (PySem.W.typeIn K (.ref (He.ga K "NoRow"))) (some (.type "type")), fun K => PySem.W.isClsIn K (He.ga K "NoRow"), fun K => HX.eqB (PySem.W.subIn K (.ref (He.ga K "NoWishes")) (.type "BaseException")) (some true), fun K => PySem.W.hasDictIn K (He.ga K "NoWishes"), fun K => HX.eqB (PySem.W.typeIn K (.ref (He.ga K "NoWishes"))) (some (.type "type")), fun K => PySem.W.isClsIn K (He.ga K "NoWishes"), fun K => HX.eqB (PySem.W.findIn K (.ref (He.ga K "Bare")) "__getattribute__") (some (some (.builtin "BaseException.__getattribute__"))), fun K => HX.eqB (PySem.W.findIn K (.ref (He.ga K "Bare")) "__getattr__") (some none), fun K => HX.eqB (PySem.W.findIn K (.ref (He.ga K "Bare")) "__class__") (some (some (.builtin "object.__class__"))), fun K => HX.eqB (PySem.W.mroIn K (He.ga K "Bare") (.type "object")) (some true), fun K => PySem.W.keepIn K (.ref (He.ga K "Bare"))]
def hfb8 : List HX.Bf := [fun K => PySem.W.excIn K (He.ga K "Bare") [.type "RuntimeError", .type "Exception", .type "BaseException", .type "object"] "RuntimeError.__new__", fun K => HX.eqB (PySem.W.findIn K (.ref (He.ga K "Full")) "__getattribute__") (some (some (.builtin "BaseException.__getattribute__"))), fun K => HX.eqB (PySem.W.findIn K (.ref (He.ga K "Full")) "__getattr__") (some none), fun K => HX.eqB (PySem.W.findIn K (.ref (He.ga K "Full")) "__class__") (some (some (.builtin "object.__class__"))), fun K => HX.eqB (PySem.W.mroIn K (He.ga K "Full") (.type "object")) (some true), fun K => PySem.W.keepIn K (.ref (He.ga K "Full")), fun K => PySem.W.excIn K (He.ga K "Full") [.type "OverflowError", .type "ArithmeticError", .type "Exception", .type "BaseException", .type "object"] "OverflowError.__new__", fun K => HX.eqB (PySem.W.findIn K (.ref (He.ga K "NoNumber")) "__getattribute__") (some (some (.builtin "BaseException.__getattribute__"))), fun K => HX.eqB (PySem.W.findIn K (.ref (He.ga K "NoNumber")) "__getattr__") (some none), fun K => HX.eqB (PySem.W.findIn K (.ref (He.ga K "NoNumber")) "__class__") (some (some (.builtin "object.__class__"))), fun K => HX.eqB (PySem.W.mroIn K (He.ga K "NoNumber") (.type "object")) (some true), fun K => PySem.W.keepIn K (.ref (He.ga K "NoNumber")), fun K => HX.xclB K (He.ga K "NoNumber") PySem.HandSPX.refsVE "ValueError.__new__", fun K => HX.eqB (PySem.W.findIn K (.ref (He.ga K "NoNumber")) "__setattr__") (some (some (.builtin "object.__setattr__"))), fun K => HX.eqB (PySem.W.findIn K (.ref (He.ga K "NoNumber")) "__init__") (some (some (.ref (He.ma K (He.ga K "NoNumber") "__init__")))), fun K => HX.eqB (PySem.W.typeIn K (.ref (He.ma K (He.ga K "NoNumber") "__init__"))) (some (.type "function")), fun K => PySem.W.keepIn K (.ref (He.ma K (He.ga K "NoNumber") "__init__")), fun K => HX.eqB (PySem.W.findIn K (.ref (He.ga K "NoNumber")) "thing") (some none), fun K => HX.eqB (PySem.W.findIn K (.ref (He.ga K "NoProgram")) "__getattribute__") (some (some (.builtin "BaseException.__getattribute__"))), fun K => HX.eqB (PySem.W.findIn K (.ref (He.ga K "NoProgram")) "__getattr__") (some none)]
def hfb9 : List HX.Bf := [fun K => HX.eqB (PySem.W.findIn K (.ref (He.ga K "NoProgram")) "__class__") (some (some (.builtin "object.__class__"))), fun K => HX.eqB (PySem.W.mroIn K (He.ga K "NoProgram") (.type "object")) (some true), fun K => PySem.W.keepIn K (.ref (He.ga K "NoProgram")), fun K => HX.xclB K (He.ga K "NoProgram") PySem.HandSPX.refsVE "ValueError.__new__", fun K => HX.eqB (PySem.W.findIn K (.ref (He.ga K "NoProgram")) "__setattr__") (some (some (.builtin "object.__setattr__"))), fun K => HX.eqB (PySem.W.findIn K (.ref (He.ga K "NoProgram")) "__init__") (some (some (.ref (He.ma K (He.ga K "NoProgram") "__init__")))), fun K => HX.eqB (PySem.W.typeIn K (.ref (He.ma K (He.ga K "NoProgram") "__init__"))) (some (.type "function")), fun K => PySem.W.keepIn K (.ref (He.ma K (He.ga K "NoProgram") "__init__")), fun K => HX.eqB (PySem.W.findIn K (.ref (He.ga K "NoProgram")) "part") (some none), fun K => HX.eqB (PySem.W.findIn K (.ref (He.ga K "NoProgram")) "number") (some none), fun K => HX.eqB (PySem.W.findIn K (.ref (He.ga K "NoRow")) "__getattribute__") (some (some (.builtin "BaseException.__getattribute__"))), fun K => HX.eqB (PySem.W.findIn K (.ref (He.ga K "NoRow")) "__getattr__") (some none), fun K => HX.eqB (PySem.W.findIn K (.ref (He.ga K "NoRow")) "__class__") (some (some (.builtin "object.__class__"))), fun K => HX.eqB (PySem.W.mroIn K (He.ga K "NoRow") (.type "object")) (some true), fun K => PySem.W.keepIn K (.ref (He.ga K "NoRow")), fun K => HX.xclB K (He.ga K "NoRow") (fun l => HX.eqB l [.type "IndexError", .type "LookupError", .type "Exception", .type "BaseException", .type "object"]) "IndexError.__new__", fun K => HX.eqB (PySem.W.findIn K (.ref (He.ga K "NoRow")) "__setattr__") (some (some (.builtin "object.__setattr__"))), fun K => HX.eqB (PySem.W.findIn K (.ref (He.ga K "NoRow")) "__init__") (some (some (.ref (He.ma K (He.ga K "NoRow") "__init__")))), fun K => HX.eqB (PySem.W.typeIn K (.ref (He.ma K (He.ga K "NoRow") "__init__"))) (some (.type "function")), fun K => PySem.W.keepIn K (.ref (He.ma K (He.ga K "NoRow") "__init__"))]
def hfb10 : List HX.Bf := [fun K => HX.eqB (PySem.W.findIn K (.ref (He.ga K "NoRow")) "row") (some none), fun K => HX.eqB (PySem.W.findIn K (.ref (He.ga K "NoWishes")) "__getattribute__") (some (some (.builtin "BaseException.__getattribute__"))), fun K => HX.eqB (PySem.W.findIn K (.ref (He.ga K "NoWishes")) "__getattr__") (some none), fun K => HX.eqB (PySem.W.findIn K (.ref (He.ga K "NoWishes")) "__class__") (some (some (.builtin "object.__class__"))), fun K => HX.eqB (PySem.W.mroIn K (He.ga K "NoWishes") (.type "object")) (some true), fun K => PySem.W.keepIn K (.ref (He.ga K "NoWishes")), fun K => PySem.W.excIn K (He.ga K "NoWishes") [.type "ValueError", .type "Exception", .type "BaseException", .type "object"] "ValueError.__new__", fun K => HX.valB (PySem.W.findCls K (.type "IndexError") (.type "type") "__init__") (.builtin "IndexError.__init__"), fun K => HX.eqB (PySem.W.specialIn K (.ref (He.ga K "WeighError")) "__getattribute__") (some (some (.builtin "type.__getattribute__"))), fun K => PySem.W.readsIn K (He.ga K "WeighError") (.type "type"), fun K => HX.valB (PySem.W.findCls K (.ref (He.ga K "WeighError")) (.type "type") "__init__") (.builtin "ValueError.__init__"), fun K => HX.eqB (PySem.W.subIn K (.ref (He.ga K "Bare")) (.ref (He.ga K "Bare"))) (some true), fun K => HX.eqB (PySem.W.subIn K (.ref (He.ga K "Bare")) (.ref (He.ga K "Full"))) (some false), fun K => (!(Value.ref (He.ga K "Bare") == Value.ref (He.ga K "Full"))), fun K => HX.eqB (PySem.W.subIn K (.ref (He.ga K "Full")) (.ref (He.ga K "Bare"))) (some false), fun K => (!(Value.ref (He.ga K "Full") == Value.ref (He.ga K "Bare"))), fun K => HX.eqB (PySem.W.subIn K (.ref (He.ga K "Full")) (.ref (He.ga K "Full"))) (some true), fun K => HX.eqB (PySem.W.subIn K (.ref (He.ga K "NoNumber")) (.ref (He.ga K "Bare"))) (some false), fun K => (!(Value.ref (He.ga K "NoNumber") == Value.ref (He.ga K "Bare"))), fun K => HX.eqB (PySem.W.subIn K (.ref (He.ga K "NoNumber")) (.ref (He.ga K "Full"))) (some false)]
def hfb11 : List HX.Bf := [fun K => (!(Value.ref (He.ga K "NoNumber") == Value.ref (He.ga K "Full"))), fun K => HX.eqB (PySem.W.subIn K (.ref (He.ga K "NoProgram")) (.ref (He.ga K "Bare"))) (some false), fun K => (!(Value.ref (He.ga K "NoProgram") == Value.ref (He.ga K "Bare"))), fun K => HX.eqB (PySem.W.subIn K (.ref (He.ga K "NoProgram")) (.ref (He.ga K "Full"))) (some false), fun K => (!(Value.ref (He.ga K "NoProgram") == Value.ref (He.ga K "Full"))), fun K => HX.eqB (PySem.W.subIn K (.ref (He.ga K "NoRow")) (.ref (He.ga K "Bare"))) (some false), fun K => (!(Value.ref (He.ga K "NoRow") == Value.ref (He.ga K "Bare"))), fun K => HX.eqB (PySem.W.subIn K (.ref (He.ga K "NoRow")) (.ref (He.ga K "Full"))) (some false), fun K => (!(Value.ref (He.ga K "NoRow") == Value.ref (He.ga K "Full"))), fun K => HX.eqB (PySem.W.subIn K (.ref (He.ga K "NoWishes")) (.ref (He.ga K "Bare"))) (some false), fun K => (!(Value.ref (He.ga K "NoWishes") == Value.ref (He.ga K "Bare"))), fun K => HX.eqB (PySem.W.subIn K (.ref (He.ga K "NoWishes")) (.ref (He.ga K "Full"))) (some false), fun K => (!(Value.ref (He.ga K "NoWishes") == Value.ref (He.ga K "Full")))]
def hfb : List HX.Bf := hfb0 ++ hfb1 ++ hfb2 ++ hfb3 ++ hfb4 ++ hfb5 ++ hfb6 ++ hfb7 ++ hfb8 ++ hfb9 ++ hfb10 ++ hfb11
def hfn0 : List He.FnD := [⟨("is_name", none), "is_name", "is_name", defArgs s_is_name, defBody s_is_name, defScope s_is_name⟩, ⟨("first_no_name", none), "first_no_name", "first_no_name", defArgs s_first_no_name, defBody s_first_no_name, defScope s_first_no_name⟩, ⟨("look_at_names", none), "look_at_names", "look_at_names", defArgs s_look_at_names, defBody s_look_at_names, defScope s_look_at_names⟩, ⟨("is_whole", none), "is_whole", "is_whole", defArgs s_is_whole, defBody s_is_whole, defScope s_is_whole⟩, ⟨("look_at_many", none), "look_at_many", "look_at_many", defArgs s_look_at_many, defBody s_look_at_many, defScope s_look_at_many⟩, ⟨("is_line", none), "is_line", "is_line", defArgs s_is_line, defBody s_is_line, defScope s_is_line⟩, ⟨("is_wish", none), "is_wish", "is_wish", defArgs s_is_wish, defBody s_is_wish, defScope s_is_wish⟩, ⟨("are_wishes", none), "are_wishes", "are_wishes", defArgs s_are_wishes, defBody s_are_wishes, defScope s_are_wishes⟩, ⟨("is_number_of", none), "is_number_of", "is_number_of", defArgs s_is_number_of, defBody s_is_number_of, defScope s_is_number_of⟩, ⟨("is_row", none), "is_row", "is_row", defArgs s_is_row, defBody s_is_row, defScope s_is_row⟩, ⟨("look_at", none), "look_at", "look_at", defArgs s_look_at, defBody s_look_at, defScope s_look_at⟩, ⟨("copied_wishes", none), "copied_wishes", "copied_wishes", defArgs s_copied_wishes, defBody s_copied_wishes, defScope s_copied_wishes⟩, ⟨("copied_row", none), "copied_row", "copied_row", defArgs s_copied_row, defBody s_copied_row, defScope s_copied_row⟩, ⟨("copied", none), "copied", "copied", defArgs s_copied, defBody s_copied, defScope s_copied⟩, ⟨("Bench", some "__init__"), "__init__", "Bench.__init__", defArgs s_Bench_m___init__, defBody s_Bench_m___init__, defScope s_Bench_m___init__⟩, ⟨("_law_pool", none), "_law_pool", "_law_pool", defArgs s__law_pool, defBody s__law_pool, defScope s__law_pool⟩, ⟨("_law_take", none), "_law_take", "_law_take", defArgs s__law_take, defBody s__law_take, defScope s__law_take⟩, ⟨("_law_free_row", none), "_law_free_row", "_law_free_row", defArgs s__law_free_row, defBody s__law_free_row, defScope s__law_free_row⟩, ⟨("_law_copy", none), "_law_copy", "_law_copy", defArgs s__law_copy, defBody s__law_copy, defScope s__law_copy⟩, ⟨("Bench", some "program"), "program", "Bench.program", defArgs s_Bench_m_program, defBody s_Bench_m_program, defScope s_Bench_m_program⟩]
def hfn1 : List He.FnD := [⟨("Bench", some "deeds"), "deeds", "Bench.deeds", defArgs s_Bench_m_deeds, defBody s_Bench_m_deeds, defScope s_Bench_m_deeds⟩, ⟨("Bench", some "keeps"), "keeps", "Bench.keeps", defArgs s_Bench_m_keeps, defBody s_Bench_m_keeps, defScope s_Bench_m_keeps⟩, ⟨("Bench", some "__len__"), "__len__", "Bench.__len__", defArgs s_Bench_m___len__, defBody s_Bench_m___len__, defScope s_Bench_m___len__⟩, ⟨("_law_shows", none), "_law_shows", "_law_shows", defArgs s__law_shows, defBody s__law_shows, defScope s__law_shows⟩, ⟨("Bench", some "done"), "done", "Bench.done", defArgs s_Bench_m_done, defBody s_Bench_m_done, defScope s_Bench_m_done⟩, ⟨("Bench", some "has_left"), "has_left", "Bench.has_left", defArgs s_Bench_m_has_left, defBody s_Bench_m_has_left, defScope s_Bench_m_has_left⟩, ⟨("Bench", some "put"), "put", "Bench.put", defArgs s_Bench_m_put, defBody s_Bench_m_put, defScope s_Bench_m_put⟩, ⟨("_law_put", none), "_law_put", "_law_put", defArgs s__law_put, defBody s__law_put, defScope s__law_put⟩, ⟨("Bench", some "look_at_number"), "look_at_number", "Bench.look_at_number", defArgs s_Bench_m_look_at_number, defBody s_Bench_m_look_at_number, defScope s_Bench_m_look_at_number⟩, ⟨("Bench", some "paper_without"), "paper_without", "Bench.paper_without", defArgs s_Bench_m_paper_without, defBody s_Bench_m_paper_without, defScope s_Bench_m_paper_without⟩, ⟨("Bench", some "take"), "take", "Bench.take", defArgs s_Bench_m_take, defBody s_Bench_m_take, defScope s_Bench_m_take⟩, ⟨("_law_taken", none), "_law_taken", "_law_taken", defArgs s__law_taken, defBody s__law_taken, defScope s__law_taken⟩, ⟨("Bench", some "change"), "change", "Bench.change", defArgs s_Bench_m_change, defBody s_Bench_m_change, defScope s_Bench_m_change⟩, ⟨("_law_changed", none), "_law_changed", "_law_changed", defArgs s__law_changed, defBody s__law_changed, defScope s__law_changed⟩, ⟨("Bench", some "undo"), "undo", "Bench.undo", defArgs s_Bench_m_undo, defBody s_Bench_m_undo, defScope s_Bench_m_undo⟩, ⟨("_law_undone", none), "_law_undone", "_law_undone", defArgs s__law_undone, defBody s__law_undone, defScope s__law_undone⟩, ⟨("law", none), "law", "law", defArgs s_law, defBody s_law, defScope s_law⟩, ⟨("NoNumber", some "__init__"), "__init__", "NoNumber.__init__", defArgs i_NoNumber, defBody i_NoNumber, defScope i_NoNumber⟩, ⟨("NoProgram", some "__init__"), "__init__", "NoProgram.__init__", defArgs i_NoProgram, defBody i_NoProgram, defScope i_NoProgram⟩, ⟨("NoRow", some "__init__"), "__init__", "NoRow.__init__", defArgs i_NoRow, defBody i_NoRow, defScope i_NoRow⟩]
def hfn : List He.FnD := hfn0 ++ hfn1
abbrev hR : PySem.W.OpenRow := PySem.W.OpenLaw.row PySem.Challenge.rw_downweigh_k73_deeds_at_a_bench
abbrev hhk : PySem.W.Hook := HX.hookZ 5 hfb hfn
def hob (s : PySem.W.SharedT) : HX.AlZ := HX.obsZG 5 hfb hfn (HandSHeadRun.getT s)
theorem hob_eq (s : PySem.W.SharedT) : hob s = hhk.obs s.abs := HX.obsZG_eq (HandSHeadRun.getT_eq s)
set_option maxHeartbeats 0 in
theorem hrun (w : World) : HandSHeadRun.RunEq hR (PySem.W.view hR.prog [48]) hhk hob 8000 hnames w := by
  intro os
  kernel_rfl
end Lw

set_option Elab.async false
set_option linter.all false
set_option maxRecDepth 100000
/-! DL: data semantics over the hand layer. D: what a value is as data; a store of lists that are changed (cells); Rep: a value of the heap bears such data. -/
namespace DL
open PySem PySem.Spec PyProof.Rows L2

/-! ### data, cells, results -/
inductive D where
  | non | bl (b : Bool) | int (i : Int) | str (s : Str)
  | tup (xs : List D) | lst (xs : List D) | ro (xs : List D) | cell (n : Nat) | ty (n : String) | dE
  | err (n : Str) (ks : List Str) (vs : List D) | cls (n : Str)
  deriving Inhabited
inductive CO where
  | lst (xs : List D)
  | ins (C : Str) (fs : List (Str × D))
  | dK (kvs : List (Key × D))
abbrev Sto := List (Option CO)
/-- an error as data: its class's name, its one field if it has any -/
structure XD where
  name : Str
  ks : List Str
  vs : List D
inductive R (α : Type) where
  | ok (a : α) (s : Sto)
  | exc (x : XD) (s : Sto)
  | stuck
abbrev M (α : Type) := Sto → R α
def M.pure {α : Type} (a : α) : M α := fun s => .ok a s
def R.bind {α β : Type} (r : R α) (f : α → M β) : R β := match r with
  | .ok a s => f a s
  | .exc x s => .exc x s
  | .stuck => .stuck
def M.bind {α β : Type} (m : M α) (f : α → M β) : M β := fun s => (m s).bind f
@[simp] theorem R.bind_ok {α β : Type} (a : α) (s : Sto) (f : α → M β) : (R.ok a s).bind f = f a s := rfl
@[simp] theorem R.bind_exc {α β : Type} (x : XD) (s : Sto) (f : α → M β) : (R.exc (α := α) x s).bind f = .exc x s := rfl
@[simp] theorem R.bind_stuck {α β : Type} (f : α → M β) : (R.stuck (α := α)).bind f = .stuck := rfl
instance : Monad M where
  pure := M.pure
  bind := M.bind
abbrev Env := List (Option D)

mutual
/-- no cell from n on -/
def D.bel (n : Nat) : D → Bool
  | .non | .bl _ | .int _ | .str _ | .ty _ | .dE | .cls _ => true
  | .err _ _ xs => D.belL n xs
  | .tup xs | .lst xs | .ro xs => D.belL n xs
  | .cell m => decide (m < n)
def D.belL (n : Nat) : List D → Bool
  | [] => true
  | x :: xs => D.bel n x && D.belL n xs
end
def CO.bel (n : Nat) : CO → Bool
  | .lst xs => D.belL n xs
  | .ins _ fs => D.belL n (fs.map (·.2))
  | .dK kvs => D.belL n (kvs.map (·.2))

/-! ### what bears data -/
/-- the error object at a, raised and caught: its class, its dict -/
def ErO (cls : Value) (dd : Option Addr) (a : Addr) : HO := .ext fun h => ∃ (oe : Obj) (vs : Array Value), h.get? a = some oe ∧ Zc cls dd oe ∧ oe.data = .fields vs
/-- the text's class of that name -/
def ClsK (K : PySem.W.Frag) (n : Str) (c : Value) : Prop := PySem.W.nsIn K mainGlobals n = some (some c)
/-- an error's fields -/
def ErD (F : Hp) (dd : Option Addr) (ks : List Str) (us : List V) : Prop := (dd = none ∧ ks = [] ∧ us = []) ∨ ∃ d, dd = some d ∧ ks.length = us.length ∧ F d = some (.xd (ks.zip us))
theorem ErD.same {F F' : Hp} {dd : Option Addr} {ks : List Str} {us : List V} (h : ErD F dd ks us) (e : Same F F') : ErD F' dd ks us := h.imp id fun ⟨d, e1, e2, e3⟩ => ⟨d, e1, e2, e _ _ e3⟩
mutual
inductive Rep (K : PySem.W.Frag) (as : List Addr) (F : Hp) : V → D → Prop
  | non : Rep K as F .non .non
  | bl (b : Bool) : Rep K as F (.bl b) (.bl b)
  | int (i : Int) : Rep K as F (.int i) (.int i)
  | str (x : Str) : Rep K as F (.str x) (.str x)
  | ty (n : String) : Rep K as F (.ty n) (.ty n)
  | tup {a : Addr} {vs : List V} {ds : List D} : SqT K F a vs → RepL K as F vs ds → Rep K as F (.ref a) (.tup ds)
  | lst {a : Addr} {vs : List V} {ds : List D} : F a = some (.lst vs) → RepL K as F vs ds → Rep K as F (.ref a) (.lst ds)
  | ro {a : Addr} {vs : List V} {ds : List D} : SqL K F a vs → RepL K as F vs ds → Rep K as F (.ref a) (.ro ds)
  | cell {n : Nat} {a : Addr} : as[n]? = some a → Rep K as F (.ref a) (.cell n)
  | dE {a : Addr} : Rd F a (.dK []) → Rep K as F (.ref a) .dE
  | err {a : Addr} {cls : Value} {dd : Option Addr} {n : Str} {ks : List Str} {us : List V} {ds : List D} : F a = some (ErO cls dd a) → ClsK K n cls → ErD F dd ks us → RepL K as F us ds → Rep K as F (.ref a) (.err n ks ds)
  | cls {n : Str} {C : Addr} : ClsK K n (.ref C) → Rep K as F (.ref C) (.cls n)
inductive RepL (K : PySem.W.Frag) (as : List Addr) (F : Hp) : List V → List D → Prop
  | nil : RepL K as F [] []
  | cons {v : V} {vs : List V} {d : D} {ds : List D} : Rep K as F v d → RepL K as F vs ds → RepL K as F (v :: vs) (d :: ds)
end
theorem same_rd {F F' : Hp} {a : Addr} {u : HO} (e : Same F F') (h : Rd F a u) : Rd F' a u := by
  rcases h with h | ⟨o, h⟩
  · exact .inl (e a _ h)
  · exact .inr ⟨o, e a _ h⟩
theorem same_l {K : PySem.W.Frag} {F F' : Hp} {a : Addr} {xs : List V} (e : Same F F') (h : SqL K F a xs) : SqL K F' a xs := h.elim (fun h => .inl (same_rd e h)) .inr
theorem same_t {K : PySem.W.Frag} {F F' : Hp} {a : Addr} {xs : List V} (e : Same F F') (h : SqT K F a xs) : SqT K F' a xs := h.elim (fun h => .inl (same_rd e h)) .inr
section
variable {K : PySem.W.Frag} {as as' : List Addr} {F F' : Hp}
mutual
/-- more is known: the same data -/
theorem Rep.mono (ha : ∀ n a : Nat, as[n]? = some a → as'[n]? = some a) (e : Same F F') : ∀ {d : D} {v : V}, Rep K as F v d → Rep K as' F' v d
  | .non, _, h => by cases h; exact .non
  | .bl b, _, h => by cases h; exact .bl b
  | .int i, _, h => by cases h; exact .int i
  | .str x, _, h => by cases h; exact .str x
  | .ty x, _, h => by cases h; exact .ty x
  | .tup ds, _, h => by cases h with | tup q r => exact .tup (same_t e q) (RepL.mono ha e r)
  | .lst ds, _, h => by cases h with | lst q r => exact .lst (e _ _ q) (RepL.mono ha e r)
  | .ro ds, _, h => by cases h with | ro q r => exact .ro (same_l e q) (RepL.mono ha e r)
  | .cell n, _, h => by cases h with | cell q => exact .cell (ha _ _ q)
  | .dE, _, h => by cases h with | dE q => exact .dE (same_rd e q)
  | .err n ks ds, _, h => by cases h with | err q1 q2 q3 r => exact .err (e _ _ q1) q2 (q3.same e) (RepL.mono ha e r)
  | .cls n, _, h => by cases h with | cls q => exact .cls q
theorem RepL.mono (ha : ∀ n a : Nat, as[n]? = some a → as'[n]? = some a) (e : Same F F') : ∀ {ds : List D} {vs : List V}, RepL K as F vs ds → RepL K as' F' vs ds
  | [], _, h => by cases h; exact .nil
  | d :: ds, _, h => by cases h with | cons q r => exact .cons (Rep.mono ha e q) (RepL.mono ha e r)
end
mutual
/-- cells below n alone: the addresses beyond don't matter -/
theorem Rep.cut {n : Nat} : ∀ {d : D} {v : V}, d.bel n = true → Rep K as F v d → Rep K (as.take n) F v d
  | .non, _, _, h => by cases h; exact .non
  | .bl b, _, _, h => by cases h; exact .bl b
  | .int i, _, _, h => by cases h; exact .int i
  | .str x, _, _, h => by cases h; exact .str x
  | .ty x, _, _, h => by cases h; exact .ty x
  | .tup ds, _, b, h => by cases h with | tup q r => exact .tup q (RepL.cut (by simpa [D.bel] using b) r)
  | .lst ds, _, b, h => by cases h with | lst q r => exact .lst q (RepL.cut (by simpa [D.bel] using b) r)
  | .ro ds, _, b, h => by cases h with | ro q r => exact .ro q (RepL.cut (by simpa [D.bel] using b) r)
  | .cell m, _, b, h => by
    cases h with
    | cell q =>
      have hm : m < n := by simpa [D.bel] using b
      exact .cell (by rw [List.getElem?_take_of_lt hm]; exact q)
  | .dE, _, _, h => by cases h with | dE q => exact .dE q
  | .err n ks ds, _, b, h => by cases h with | err q1 q2 q3 r => exact .err q1 q2 q3 (RepL.cut (by simpa [D.bel] using b) r)
  | .cls n, _, _, h => by cases h with | cls q => exact .cls q
theorem RepL.cut {n : Nat} : ∀ {ds : List D} {vs : List V}, D.belL n ds = true → RepL K as F vs ds → RepL K (as.take n) F vs ds
  | [], _, _, h => by cases h; exact .nil
  | d :: ds, _, b, h => by
    have b' : d.bel n = true ∧ D.belL n ds = true := by simpa [D.belL] using b
    cases h with | cons q r => exact .cons (Rep.cut b'.1 q) (RepL.cut b'.2 r)
end
mutual
theorem Rep.bel_of : ∀ {d : D} {v : V}, Rep K as F v d → d.bel as.length = true
  | .non, _, _ => by simp [D.bel]
  | .bl b, _, _ => by simp [D.bel]
  | .int i, _, _ => by simp [D.bel]
  | .str x, _, _ => by simp [D.bel]
  | .ty x, _, _ => by simp [D.bel]
  | .tup ds, _, h => by cases h with | tup q r => simpa [D.bel] using RepL.bel_of r
  | .lst ds, _, h => by cases h with | lst q r => simpa [D.bel] using RepL.bel_of r
  | .ro ds, _, h => by cases h with | ro q r => simpa [D.bel] using RepL.bel_of r
  | .cell m, _, h => by
    cases h with
    | cell q => simpa [D.bel] using (List.getElem?_eq_some_iff.mp q).1
  | .dE, _, _ => by simp [D.bel]
  | .err n ks ds, _, h => by cases h with | err q1 q2 q3 r => simpa [D.bel] using RepL.bel_of r
  | .cls n, _, _ => by simp [D.bel]
theorem RepL.bel_of : ∀ {ds : List D} {vs : List V}, RepL K as F vs ds → D.belL as.length ds = true
  | [], _, _ => by simp [D.belL]
  | d :: ds, _, h => by cases h with | cons q r => simp [D.belL, Rep.bel_of q, RepL.bel_of r]
end
theorem RepL.length : ∀ {ds : List D} {vs : List V}, RepL K as F vs ds → vs.length = ds.length
  | [], _, h => by cases h; rfl
  | d :: ds, _, h => by cases h with | cons q r => simp [RepL.length r]
theorem RepL.get : ∀ {ds : List D} {vs : List V} {i : Nat} {d : D}, RepL K as F vs ds → ds[i]? = some d → ∃ v, vs[i]? = some v ∧ Rep K as F v d
  | [], _, i, d, _, e => by simp at e
  | x :: ds, _, 0, d, h, e => by cases h with | cons q r => simp at e; subst e; exact ⟨_, rfl, q⟩
  | x :: ds, _, i + 1, d, h, e => by cases h with | cons q r => simpa using RepL.get (i := i) r (by simpa using e)
theorem RepL.append : ∀ {ds es : List D} {vs us : List V}, RepL K as F vs ds → RepL K as F us es → RepL K as F (vs ++ us) (ds ++ es)
  | [], _, _, _, h, g => by cases h; simpa using g
  | d :: ds, _, _, _, h, g => by cases h with | cons q r => exact .cons q (RepL.append r g)
theorem RepL.take : ∀ {ds : List D} {vs : List V} (n : Nat), RepL K as F vs ds → RepL K as F (vs.take n) (ds.take n)
  | _, _, 0, _ => by simpa using RepL.nil
  | [], _, n + 1, h => by cases h; exact .nil
  | d :: ds, _, n + 1, h => by cases h with | cons q r => exact .cons q (RepL.take n r)
theorem RepL.drop : ∀ {ds : List D} {vs : List V} (n : Nat), RepL K as F vs ds → RepL K as F (vs.drop n) (ds.drop n)
  | _, _, 0, h => by simpa using h
  | [], _, n + 1, h => by cases h; exact .nil
  | d :: ds, _, n + 1, h => by cases h with | cons q r => simpa using RepL.drop n r
theorem RepL.set {v : V} {d : D} (q : Rep K as F v d) : ∀ {ds : List D} {vs : List V} (n : Nat), RepL K as F vs ds → RepL K as F (vs.set n v) (ds.set n d)
  | [], _, n, h => by cases h; exact .nil
  | x :: ds, _, 0, h => by cases h with | cons p r => exact .cons q r
  | x :: ds, _, n + 1, h => by cases h with | cons p r => exact .cons p (RepL.set q n r)
end

/-- what is changed, as an object of the heap -/
def CRep (K : PySem.W.Frag) (as : List Addr) (F : Hp) : CO → HO → Prop
  | .lst xs, .lst vs => RepL K as F vs xs
  | .ins C fs, .ins Ca _ ws => ClsK K C (.ref Ca) ∧ ws.map (·.1) = fs.map (·.1) ∧ RepL K as F (ws.map (·.2)) (fs.map (·.2))
  | .dK kvs, .dK ws => ws.map (·.1) = kvs.map (·.1) ∧ RepL K as F (ws.map (·.2)) (kvs.map (·.2))
  | _, _ => False
theorem CRep.imp {K : PySem.W.Frag} {as as' : List Addr} {F F' : Hp} {c : CO} {o : HO} (h : CRep K as F c o) (k : ∀ vs ds, RepL K as F vs ds → (∀ n, D.belL n ds = c.bel n) → RepL K as' F' vs ds) : CRep K as' F' c o := by
  cases c <;> cases o <;> first
    | exact h.elim
    | exact k _ _ h fun _ => rfl
    | exact ⟨h.1, h.2.1, k _ _ h.2.2 fun _ => rfl⟩
    | exact ⟨h.1, k _ _ h.2 fun _ => rfl⟩
theorem CRep.mono {K : PySem.W.Frag} {as as' : List Addr} {F F' : Hp} (ha : ∀ n a : Nat, as[n]? = some a → as'[n]? = some a) (e : Same F F') {c : CO} {o : HO} (h : CRep K as F c o) : CRep K as' F' c o := h.imp fun _ _ r _ => r.mono ha e
theorem CRep.cut {K : PySem.W.Frag} {as : List Addr} {F : Hp} {n : Nat} {c : CO} {o : HO} (b : c.bel n = true) (h : CRep K as F c o) : CRep K (as.take n) F c o := h.imp fun _ _ r e => r.cut (by rw [e]; exact b)
theorem CRep.bel_of {K : PySem.W.Frag} {as : List Addr} {F : Hp} {c : CO} {o : HO} (h : CRep K as F c o) : c.bel as.length = true := by
  cases c <;> cases o <;> first
    | exact h.elim
    | exact RepL.bel_of (vs := _) h
    | exact RepL.bel_of h.2.2
    | exact RepL.bel_of h.2
/-! ### the heap without what is changed -/
def live (as : List Addr) (S : Sto) : List Addr := (as.zip S).filterMap fun p => if p.2.isSome then some p.1 else none
/-- hd: what is hidden from the data (a list that a comprehension fills) -/
abbrev Hid := List (Addr × HO)
def fz (hd : Hid) (as : List Addr) (S : Sto) (H : Hp) : Hp := fun a => if a ∈ live as S ∨ a ∈ hd.map (·.1) then none else H a
theorem mem_live {as : List Addr} {S : Sto} {a : Addr} : a ∈ live as S ↔ ∃ (n : Nat) (c : CO), as[n]? = some a ∧ S[n]? = some (some c) := by
  unfold live
  rw [List.mem_filterMap]
  constructor
  · rintro ⟨⟨b, o⟩, hm, e⟩
    obtain ⟨n, hn⟩ := List.getElem?_of_mem hm
    rw [List.getElem?_zip_eq_some] at hn
    cases o with
    | none => simp at e
    | some c => simp at e; subst e; exact ⟨n, c, hn.1, hn.2⟩
  · rintro ⟨n, c, h1, h2⟩
    refine ⟨(a, some c), List.mem_of_getElem? (i := n) ?_, by simp⟩
    rw [List.getElem?_zip_eq_some]
    exact ⟨h1, h2⟩
theorem fz_same {hd : Hid} {as : List Addr} {S : Sto} {H : Hp} : Same (fz hd as S H) H := fun b o e => by
  unfold fz at e
  split at e
  · cases e
  · exact e
theorem fz_of {hd : Hid} {as : List Addr} {S : Sto} {H : Hp} {a : Addr} {o : HO} (h : H a = some o) (n : a ∉ live as S) (nh : a ∉ hd.map (·.1)) : fz hd as S H a = some o := by
  unfold fz; rw [if_neg (fun z => z.elim n nh)]; exact h
theorem fz_not {hd : Hid} {as : List Addr} {S : Sto} {H : Hp} {a : Addr} {o : HO} (h : fz hd as S H a = some o) : a ∉ live as S := fun z => by
  unfold fz at h; rw [if_pos (.inl z)] at h; cases h
theorem fz_nh {hd : Hid} {as : List Addr} {S : Sto} {H : Hp} {a : Addr} {o : HO} (h : fz hd as S H a = some o) : a ∉ hd.map (·.1) := fun z => by
  unfold fz at h; rw [if_pos (.inr z)] at h; cases h

structure Wld (K : PySem.W.Frag) (hd : Hid) (as : List Addr) (S : Sto) (H : Hp) : Prop where
  len : as.length = S.length
  inj : ∀ (i j : Nat) a c c', as[i]? = some a → as[j]? = some a → S[i]? = some (some c) → S[j]? = some (some c') → i = j
  hid : ∀ p ∈ hd, H p.1 = some p.2 ∧ p.1 ∉ live as S
  atC : ∀ (n : Nat) c, S[n]? = some (some c) → ∃ a o, as[n]? = some a ∧ H a = some o ∧ CRep K as (fz hd as S H) c o
theorem Wld.at_ {K : PySem.W.Frag} {hd : Hid} {as : List Addr} {S : Sto} {H : Hp} (w : Wld K hd as S H) (n : Nat) (xs : List D) (e : S[n]? = some (some (CO.lst xs))) : ∃ a vs, as[n]? = some a ∧ H a = some (.lst vs) ∧ RepL K as (fz hd as S H) vs xs := by
  obtain ⟨a, o, e1, e2, r⟩ := w.atC n _ e
  cases o <;> first | exact r.elim | exact ⟨a, _, e1, e2, r⟩
theorem Wld.live_some {K : PySem.W.Frag} {hd : Hid} {as : List Addr} {S : Sto} {H : Hp} (w : Wld K hd as S H) {a : Addr} (h : a ∈ live as S) : ∃ o, H a = some o := by
  obtain ⟨n, c, h1, h2⟩ := mem_live.mp h
  obtain ⟨b, o, e1, e2, _⟩ := w.atC n c h2
  rw [h1] at e1; cases e1
  exact ⟨o, e2⟩
theorem Wld.new_live {K : PySem.W.Frag} {hd : Hid} {as : List Addr} {S : Sto} {H : Hp} (w : Wld K hd as S H) {p : Addr} (h : H p = none) : p ∉ live as S := fun z => by
  obtain ⟨vs, e⟩ := w.live_some z
  rw [h] at e; cases e
structure Grow (hd : Hid) (as : List Addr) (S : Sto) (H : Hp) (as' : List Addr) (S' : Sto) (H' : Hp) : Prop where
  pre : ∀ n a : Nat, as[n]? = some a → as'[n]? = some a
  same : Same (fz hd as S H) (fz hd as' S' H')
theorem Grow.refl {hd : Hid} {as : List Addr} {S : Sto} {H : Hp} : Grow hd as S H as S H := ⟨fun _ _ h => h, Same.refl _⟩
theorem Grow.trans {hd : Hid} {as as1 as2 : List Addr} {S S1 S2 : Sto} {H H1 H2 : Hp} (a : Grow hd as S H as1 S1 H1) (b : Grow hd as1 S1 H1 as2 S2 H2) : Grow hd as S H as2 S2 H2 :=
  ⟨fun n x h => b.pre n x (a.pre n x h), a.same.trans b.same⟩
theorem Rep.grow {K : PySem.W.Frag} {hd : Hid} {as as' : List Addr} {S S' : Sto} {H H' : Hp} {v : V} {d : D} (h : Rep K as (fz hd as S H) v d) (g : Grow hd as S H as' S' H') : Rep K as' (fz hd as' S' H') v d := h.mono g.pre g.same
theorem RepL.grow {K : PySem.W.Frag} {hd : Hid} {as as' : List Addr} {S S' : Sto} {H H' : Hp} {v : List V} {d : List D} (h : RepL K as (fz hd as S H) v d) (g : Grow hd as S H as' S' H') : RepL K as' (fz hd as' S' H') v d := h.mono g.pre g.same

section
variable {K : PySem.W.Frag} {hd : Hid} {as : List Addr} {S : Sto} {H : Hp}
theorem Wld.hid_ne (w : Wld K hd as S H) {p : Addr} (h : H p = none) : p ∉ hd.map (·.1) := fun z => by
  obtain ⟨q, hq, e⟩ := List.mem_map.mp z
  have := (w.hid q hq).1
  rw [e, h] at this; cases this
/-- a new object that isn't changed -/
theorem Wld.fresh (w : Wld K hd as S H) {p : Addr} {o : HO} (h : H p = none) : Wld K hd as S (upd H p o) ∧ Grow hd as S H as S (upd H p o) ∧ fz hd as S (upd H p o) p = some o := by
  have np := w.new_live h
  have hs : Same (fz hd as S H) (fz hd as S (upd H p o)) := fun b u e => by
    have hb : b ≠ p := fun z => by
      subst z
      rw [fz_same _ _ e] at h; cases h
    exact fz_of (by rw [upd_ne hb]; exact fz_same _ _ e) (fz_not e) (fz_nh e)
  refine ⟨⟨w.len, w.inj, fun q hq => ⟨?_, (w.hid q hq).2⟩, fun n xs e => ?_⟩, ⟨fun _ _ h => h, hs⟩, fz_of upd_same np (w.hid_ne h)⟩
  · rw [upd_ne (fun z => by have := (w.hid q hq).1; rw [z, h] at this; cases this)]; exact (w.hid q hq).1
  obtain ⟨a, vs, e1, e2, r⟩ := w.atC n xs e
  have ha : a ≠ p := fun z => by subst z; rw [h] at e2; cases e2
  exact ⟨a, vs, e1, by rw [upd_ne ha]; exact e2, r.mono (fun _ _ h => h) hs⟩
/-- a new cell -/
theorem Wld.newC (w : Wld K hd as S H) {p : Addr} {o : HO} {co : CO} (h : H p = none) (r : CRep K as (fz hd as S H) co o) :
    Wld K hd (as ++ [p]) (S ++ [some co]) (upd H p o) ∧ Grow hd as S H (as ++ [p]) (S ++ [some co]) (upd H p o) ∧ (as ++ [p])[S.length]? = some p := by
  have np := w.new_live h
  have hl : (as ++ [p])[S.length]? = some p := by rw [← w.len]; simp
  have pre : ∀ n a : Nat, as[n]? = some a → (as ++ [p])[n]? = some a := fun n a e => by
    rw [List.getElem?_append_left (List.getElem?_eq_some_iff.mp e).1]; exact e
  have split : ∀ {n : Nat} {c : CO}, (S ++ [some co])[n]? = some (some c) → S[n]? = some (some c) ∨ (n = S.length ∧ c = co) := fun {n c} e => by
    by_cases hn : n < S.length
    · rw [List.getElem?_append_left hn] at e; exact .inl e
    · rw [List.getElem?_append_right (by omega)] at e
      have hz : n - S.length = 0 := by
        have := (List.getElem?_eq_some_iff.mp e).1
        simp at this; omega
      rw [hz] at e
      simp at e
      exact .inr ⟨by omega, e.symm⟩
  have old : ∀ {n : Nat} {c : CO} {a : Addr}, S[n]? = some (some c) → (as ++ [p])[n]? = some a → as[n]? = some a := fun {n c a} e1 e2 => by
    have hn : n < as.length := by rw [w.len]; exact (List.getElem?_eq_some_iff.mp e1).1
    rw [List.getElem?_append_left hn] at e2; exact e2
  have hlive : ∀ {b : Addr}, b ≠ p → b ∉ live as S → b ∉ live (as ++ [p]) (S ++ [some co]) := fun {b} hb n z => by
    obtain ⟨i, c, e1, e2⟩ := mem_live.mp z
    rcases split e2 with e2 | ⟨rfl, _⟩
    · exact n (mem_live.mpr ⟨i, c, old e2 e1, e2⟩)
    · rw [hl] at e1; exact hb (Option.some.inj e1).symm
  have hs : Same (fz hd as S H) (fz hd (as ++ [p]) (S ++ [some co]) (upd H p o)) := fun b u e => by
    have hb : b ≠ p := fun z => by
      subst z
      rw [fz_same _ _ e] at h; cases h
    exact fz_of (by rw [upd_ne hb]; exact fz_same _ _ e) (hlive hb (fz_not e)) (fz_nh e)
  refine ⟨⟨by simp [w.len], fun i j a c c' h1 h2 h3 h4 => ?_, fun q hq => ?_, fun n ys e => ?_⟩, ⟨pre, hs⟩, hl⟩
  · rcases split h3 with h3 | ⟨rfl, _⟩ <;> rcases split h4 with h4 | ⟨rfl, _⟩
    · exact w.inj i j a c c' (old h3 h1) (old h4 h2) h3 h4
    · rw [hl] at h2
      obtain rfl := Option.some.inj h2
      obtain ⟨vs', e⟩ := w.live_some (mem_live.mpr ⟨i, c, old h3 h1, h3⟩)
      rw [h] at e; cases e
    · rw [hl] at h1
      obtain rfl := Option.some.inj h1
      obtain ⟨vs', e⟩ := w.live_some (mem_live.mpr ⟨j, c', old h4 h2, h4⟩)
      rw [h] at e; cases e
    · rfl
  · have hqp : q.1 ≠ p := fun z => by have := (w.hid q hq).1; rw [z, h] at this; cases this
    exact ⟨by rw [upd_ne hqp]; exact (w.hid q hq).1, hlive hqp (w.hid q hq).2⟩
  · rcases split e with e0 | ⟨hz, e0⟩
    · obtain ⟨a, vs', e1, e2, r'⟩ := w.atC n ys e0
      have ha : a ≠ p := fun z => by subst z; rw [h] at e2; cases e2
      exact ⟨a, vs', pre _ _ e1, by rw [upd_ne ha]; exact e2, r'.mono pre hs⟩
    · cases e0
      subst hz
      exact ⟨p, o, hl, upd_same, r.mono pre hs⟩
theorem Wld.newCell (w : Wld K hd as S H) {p : Addr} {vs : List V} {xs : List D} (h : H p = none) (r : RepL K as (fz hd as S H) vs xs) :
    Wld K hd (as ++ [p]) (S ++ [some (.lst xs)]) (upd H p (.lst vs)) ∧ Grow hd as S H (as ++ [p]) (S ++ [some (.lst xs)]) (upd H p (.lst vs)) ∧ (as ++ [p])[S.length]? = some p := w.newC (co := .lst xs) (o := .lst vs) h r
theorem live_set {n : Nat} {co c2 : CO} (e : S[n]? = some (some co)) {b : Addr} : b ∈ live as (S.set n (some c2)) ↔ b ∈ live as S := by
  have hn := (List.getElem?_eq_some_iff.mp e).1
  rw [mem_live, mem_live]
  constructor
  · rintro ⟨i, c, h1, h2⟩
    by_cases hi : n = i
    · subst hi; exact ⟨n, _, h1, e⟩
    · rw [List.getElem?_set_ne hi] at h2; exact ⟨i, c, h1, h2⟩
  · rintro ⟨i, c, h1, h2⟩
    by_cases hi : n = i
    · subst hi; exact ⟨n, _, h1, by rw [List.getElem?_set_self hn]⟩
    · exact ⟨i, c, h1, by rw [List.getElem?_set_ne hi]; exact h2⟩
/-- a cell is written -/
theorem Wld.writeC (w : Wld K hd as S H) {n : Nat} {a : Addr} {co c2 : CO} {o : HO} (e : S[n]? = some (some co)) (ha : as[n]? = some a) (r : CRep K as (fz hd as S H) c2 o) :
    Wld K hd as (S.set n (some c2)) (upd H a o) ∧ Grow hd as S H as (S.set n (some c2)) (upd H a o) := by
  have hn := (List.getElem?_eq_some_iff.mp e).1
  have la : a ∈ live as S := mem_live.mpr ⟨n, _, ha, e⟩
  have hs : Same (fz hd as S H) (fz hd as (S.set n (some c2)) (upd H a o)) := fun b u q => by
    have nb := fz_not q
    have hb : b ≠ a := fun z => nb (by rw [z]; exact la)
    exact fz_of (by rw [upd_ne hb]; exact fz_same _ _ q) (by rw [live_set e]; exact nb) (fz_nh q)
  refine ⟨⟨by simp [w.len], fun i j b c c' h1 h2 h3 h4 => ?_, fun q hq => ⟨by rw [upd_ne (fun z => (w.hid q hq).2 (by rw [z]; exact la))]; exact (w.hid q hq).1, by rw [live_set e]; exact (w.hid q hq).2⟩, fun m zs q => ?_⟩, ⟨fun _ _ h => h, hs⟩⟩
  · have f : ∀ {i : Nat} {c : CO}, (S.set n (some c2))[i]? = some (some c) → ∃ c, S[i]? = some (some c) := fun {i c} h => by
      by_cases hi : n = i
      · subst hi; exact ⟨_, e⟩
      · rw [List.getElem?_set_ne hi] at h; exact ⟨c, h⟩
    obtain ⟨_, g3⟩ := f h3
    obtain ⟨_, g4⟩ := f h4
    exact w.inj i j b _ _ h1 h2 g3 g4
  · by_cases hm : n = m
    · subst hm
      rw [List.getElem?_set_self hn] at q
      cases q
      exact ⟨a, o, ha, upd_same, r.mono (fun _ _ h => h) hs⟩
    · rw [List.getElem?_set_ne hm] at q
      obtain ⟨b, vs, e1, e2, r'⟩ := w.atC m zs q
      have hb : b ≠ a := fun z => hm (w.inj n m a _ _ ha (by rw [← z]; exact e1) e q)
      exact ⟨b, vs, e1, by rw [upd_ne hb]; exact e2, r'.mono (fun _ _ h => h) hs⟩
theorem Wld.write (w : Wld K hd as S H) {n : Nat} {a : Addr} {xs ys : List D} {us : List V} (e : S[n]? = some (some (.lst xs))) (ha : as[n]? = some a) (r : RepL K as (fz hd as S H) us ys) :
    Wld K hd as (S.set n (some (.lst ys))) (upd H a (.lst us)) ∧ Grow hd as S H as (S.set n (some (.lst ys))) (upd H a (.lst us)) := w.writeC (c2 := .lst ys) (o := .lst us) e ha r
/-- a cell is changed no more -/
theorem Wld.freeze (w : Wld K hd as S H) {n : Nat} {a : Addr} {xs : List D} (e : S[n]? = some (some (.lst xs))) (ha : as[n]? = some a) :
    Wld K hd as (S.set n none) H ∧ Grow hd as S H as (S.set n none) H ∧ Rep K as (fz hd as (S.set n none) H) (.ref a) (.lst xs) := by
  have hn := (List.getElem?_eq_some_iff.mp e).1
  have f : ∀ {i : Nat} {c : CO}, (S.set n none)[i]? = some (some c) → S[i]? = some (some c) ∧ i ≠ n := fun {i c} h => by
    by_cases hi : n = i
    · subst hi; rw [List.getElem?_set_self hn] at h; cases h
    · rw [List.getElem?_set_ne hi] at h; exact ⟨h, fun z => hi z.symm⟩
  have hl : ∀ {b : Addr}, b ∈ live as (S.set n none) → b ∈ live as S := fun {b} z => by
    obtain ⟨i, c, h1, h2⟩ := mem_live.mp z
    exact mem_live.mpr ⟨i, c, h1, (f h2).1⟩
  have hs : Same (fz hd as S H) (fz hd as (S.set n none) H) := fun b u q => fz_of (fz_same _ _ q) (fun z => fz_not q (hl z)) (fz_nh q)
  obtain ⟨b, vs, e1, e2, r⟩ := w.at_ n xs e
  rw [ha] at e1; cases e1
  have nh : a ∉ hd.map (·.1) := fun z => by
    obtain ⟨q, hq, eq⟩ := List.mem_map.mp z
    exact (w.hid q hq).2 (by rw [eq]; exact mem_live.mpr ⟨n, _, ha, e⟩)
  have na : a ∉ live as (S.set n none) := fun z => by
    obtain ⟨i, c, h1, h2⟩ := mem_live.mp z
    obtain ⟨g, hi⟩ := f h2
    exact hi (w.inj i n a _ _ h1 ha g e)
  refine ⟨⟨by simp [w.len], fun i j b c c' h1 h2 h3 h4 => w.inj i j b c c' h1 h2 (f h3).1 (f h4).1, fun q hq => ⟨(w.hid q hq).1, fun z => (w.hid q hq).2 (hl z)⟩, fun m zs q => ?_⟩, ⟨fun _ _ h => h, hs⟩, .lst (fz_of e2 na nh) (r.mono (fun _ _ h => h) hs)⟩
  obtain ⟨b, us, g1, g2, r'⟩ := w.atC m zs (f q).1
  exact ⟨b, us, g1, g2, r'.mono (fun _ _ h => h) hs⟩
end
end DL

set_option Elab.async false
set_option linter.all false
set_option maxRecDepth 100000
/-! DL2: judgements: an expression, a test, arguments, statements do to data what a function in M does. -/
namespace DL
open PySem PySem.Spec PyProof.Rows L2

abbrev EM := Env → M D
abbrev BM := Env → M Bool
abbrev AM := Env → M (List D)
inductive Flw where
  | nx | ret (d : D) | brk | cnt
abbrev SM := Env → M (Flw × Env)
@[simp] theorem bind_ap {α β : Type} (m : M α) (f : α → M β) (s : Sto) : M.bind m f s = (m s).bind f := rfl

structure Slots (K : PySem.W.Frag) (as : List Addr) (F : Hp) (σ : L2.St) (ρ : Env) : Prop where
  len : σ.length = ρ.length
  at_ : ∀ (i : Nat) (d : D), ρ[i]? = some (some d) → ∃ v, σ[i]? = some (some v) ∧ Rep K as F v d
structure REL (K : PySem.W.Frag) (hd : Hid) (as : List Addr) (ρ : Env) (S : Sto) (σ : L2.St) (H : Hp) : Prop where
  w : Wld K hd as S H
  s : Slots K as (fz hd as S H) σ ρ
theorem Slots.mono {K : PySem.W.Frag} {as as' : List Addr} {F F' : Hp} {σ : L2.St} {ρ : Env} (h : Slots K as F σ ρ) (ha : ∀ n a : Nat, as[n]? = some a → as'[n]? = some a) (e : Same F F') : Slots K as' F' σ ρ :=
  ⟨h.len, fun i d q => let ⟨v, e1, r⟩ := h.at_ i d q; ⟨v, e1, r.mono ha e⟩⟩
theorem REL.grow {K : PySem.W.Frag} {hd : Hid} {as as' : List Addr} {ρ : Env} {S S' : Sto} {σ : L2.St} {H H' : Hp} (h : REL K hd as ρ S σ H) (g : Grow hd as S H as' S' H') (w : Wld K hd as' S' H') : REL K hd as' ρ S' σ H' := ⟨w, h.s.mono g.pre g.same⟩
theorem Slots.set {K : PySem.W.Frag} {as : List Addr} {F : Hp} {σ : L2.St} {ρ : Env} {v : V} {d : D} (h : Slots K as F σ ρ) (r : Rep K as F v d) (i : Nat) : Slots K as F (σ.set i (some v)) (ρ.set i (some d)) := by
  refine ⟨by simp [h.len], fun j e q => ?_⟩
  by_cases hij : i = j
  · subst hij
    by_cases hi : i < ρ.length
    · rw [List.getElem?_set_self hi] at q
      cases q
      exact ⟨v, by rw [List.getElem?_set_self (by rw [h.len]; exact hi)], r⟩
    · rw [List.getElem?_eq_none (by simpa using Nat.le_of_not_lt hi)] at q; cases q
  · rw [List.getElem?_set_ne hij] at q
    obtain ⟨u, e1, r1⟩ := h.at_ j e q
    exact ⟨u, by rw [List.getElem?_set_ne hij]; exact e1, r1⟩

/-- an error in the air -/
def XRep (K : PySem.W.Frag) (mg : Str → Option Value) (as : List Addr) (F : Hp) (x : XD) (cls : Value) (dd : Option Addr) : Prop :=
  ClsK K x.name cls ∧ mg x.name = some cls ∧ ∃ us, ErD F dd x.ks us ∧ RepL K as F us x.vs

/-- how a step ends, and what is wanted then -/
def Post {α : Type} (K : PySem.W.Frag) (mg : Str → Option Value) (W : WX) (σ : L2.St) (ρ : Env) (hd : Hid) (as : List Addr) (S : Sto) (H : Hp) (r : R α) (k : α → List Addr → Sto → Hp → Prop) : Prop :=
  match r with
  | .ok a S' => ∀ as' H', Grow hd as S H as' S' H' → REL K hd as' ρ S' σ H' → k a as' S' H'
  | .exc x S' => ∀ as' cls dd H', Grow hd as S H as' S' H' → REL K hd as' ρ S' σ H' → XRep K mg as' (fz hd as' S' H') x cls dd → W cls dd σ H'
  | .stuck => False
section
variable {α β : Type} {K : PySem.W.Frag} {mg : Str → Option Value} {W : WX} {σ : L2.St} {ρ : Env} {hd : Hid} {as as1 : List Addr} {S S1 : Sto} {H H1 : Hp}
theorem Post.later {r : R α} {k : α → List Addr → Sto → Hp → Prop} (h : Post K mg W σ ρ hd as S H r k) (g : Grow hd as S H as1 S1 H1) : Post K mg W σ ρ hd as1 S1 H1 r k := by
  cases r with
  | ok a S' => exact fun as' H' g' rel => h as' H' (g.trans g') rel
  | exc x S' => exact fun as' cls dd H' g' rel => h as' cls dd H' (g.trans g') rel
  | stuck => exact h
theorem Post.imp {r : R α} {k k' : α → List Addr → Sto → Hp → Prop} (h : Post K mg W σ ρ hd as S H r k) (f : ∀ a as' S' H', Grow hd as S H as' S' H' → REL K hd as' ρ S' σ H' → k a as' S' H' → k' a as' S' H') : Post K mg W σ ρ hd as S H r k' := by
  cases r with
  | ok a S' => exact fun as' H' g rel => f a as' S' H' g rel (h as' H' g rel)
  | exc x S' => exact h
  | stuck => exact h
theorem Post.bind {r : R α} {f : α → M β} {k : β → List Addr → Sto → Hp → Prop} (h : Post K mg W σ ρ hd as S H (r.bind f) k) : Post K mg W σ ρ hd as S H r (fun a as' S' H' => Post K mg W σ ρ hd as' S' H' (f a S') k) := by
  cases r with
  | ok a S' => exact fun as' H' g rel => Post.later (r := f a S') h g
  | exc x S' => exact h
  | stuck => exact h
end

def tE (K : PySem.W.Frag) (mg : Str → Option Value) (W : WX) (m : EM) : TE := fun σ H Q => ∃ hd as ρ S, REL K hd as ρ S σ H ∧ Post K mg W σ ρ hd as S H (m ρ S) fun d as' S' H' => ∀ v, Rep K as' (fz hd as' S' H') v d → Q v H'
def tT (K : PySem.W.Frag) (mg : Str → Option Value) (W : WX) (m : BM) : TT := fun σ H Q => ∃ hd as ρ S, REL K hd as ρ S σ H ∧ Post K mg W σ ρ hd as S H (m ρ S) fun b _ _ H' => Q b H'
def tA (K : PySem.W.Frag) (mg : Str → Option Value) (W : WX) (m : AM) : TA := fun σ H Q => ∃ hd as ρ S, REL K hd as ρ S σ H ∧ Post K mg W σ ρ hd as S H (m ρ S) fun ds as' S' H' => ∀ vs, RepL K as' (fz hd as' S' H') vs ds → Q vs H'
abbrev DE (X : Cx) (W : WX) (e : Expr) (m : EM) : Prop := PE X e (tE X.K X.mg W m)
abbrev DT (X : Cx) (W : WX) (e : Expr) (m : BM) : Prop := PT X e (tT X.K X.mg W m)
abbrev DW (X : Cx) (W : WX) (e : Expr) (m : BM) : Prop := PW X e (tT X.K X.mg W m)
abbrev DA (X : Cx) (W : WX) (es : List Expr) (m : AM) : Prop := PA X es (tA X.K X.mg W m)

theorem PE.le {X : Cx} {e : Expr} {t t' : TE} (h : PE X e t) (k : ∀ σ H Q, t' σ H Q → t σ H Q) : PE X e t' := ⟨fun pins s σ H Q I q => h.run pins s σ H Q I (k σ H Q q)⟩
theorem PT.le {X : Cx} {e : Expr} {t t' : TT} (h : PT X e t) (k : ∀ σ H Q, t' σ H Q → t σ H Q) : PT X e t' := ⟨fun pins s σ H Q I q => h.run pins s σ H Q I (k σ H Q q)⟩
theorem PW.le {X : Cx} {e : Expr} {t t' : TT} (h : PW X e t) (k : ∀ σ H Q, t' σ H Q → t σ H Q) : PW X e t' := ⟨fun wh pins s σ H Q I q => h.run wh pins s σ H Q I (k σ H Q q)⟩
theorem PA.le {X : Cx} {es : List Expr} {t t' : TA} (h : PA X es t) (k : ∀ σ H Q, t' σ H Q → t σ H Q) : PA X es t' := ⟨fun p pins s σ H Q I q => h.run p pins s σ H Q I (k σ H Q q)⟩
theorem PS.le {X : Cx} {st : Stmt} {t t' : TS} (h : PS X st t) (k : ∀ D σ H, t' D σ H → t D σ H) : PS X st t' := ⟨fun pins s σ H D I q => h.run pins s σ H D I (k D σ H q)⟩
theorem PSs.le {X : Cx} {st : List Stmt} {t t' : TS} (h : PSs X st t) (k : ∀ D σ H, t' D σ H → t D σ H) : PSs X st t' := ⟨fun pins s σ H D I q => h.run pins s σ H D I (k D σ H q)⟩

section
variable {β : Type} {K : PySem.W.Frag} {mg : Str → Option Value} {W : WX} {σ : L2.St} {ρ : Env} {hd : Hid} {as : List Addr} {S : Sto} {H : Hp} {k : β → List Addr → Sto → Hp → Prop}
theorem tE_seq {m : EM} {f : D → M β} {Q : VK} (rel : REL K hd as ρ S σ H) (po : Post K mg W σ ρ hd as S H ((m ρ S).bind f) k)
    (h : ∀ as1 S1 H1 v1 d, Grow hd as S H as1 S1 H1 → REL K hd as1 ρ S1 σ H1 → Rep K as1 (fz hd as1 S1 H1) v1 d → Post K mg W σ ρ hd as1 S1 H1 (f d S1) k → Q v1 H1) : tE K mg W m σ H Q :=
  ⟨hd, as, ρ, S, rel, po.bind.imp fun d as1 S1 H1 g rel1 q v r => h as1 S1 H1 v d g rel1 r q⟩
theorem tT_seq {m : BM} {f : Bool → M β} {Q : Bool → Hp → Prop} (rel : REL K hd as ρ S σ H) (po : Post K mg W σ ρ hd as S H ((m ρ S).bind f) k)
    (h : ∀ as1 S1 H1 b, Grow hd as S H as1 S1 H1 → REL K hd as1 ρ S1 σ H1 → Post K mg W σ ρ hd as1 S1 H1 (f b S1) k → Q b H1) : tT K mg W m σ H Q :=
  ⟨hd, as, ρ, S, rel, po.bind.imp fun b as1 S1 H1 g rel1 q => h as1 S1 H1 b g rel1 q⟩
theorem tA_seq {m : AM} {f : List D → M β} {Q : List V → Hp → Prop} (rel : REL K hd as ρ S σ H) (po : Post K mg W σ ρ hd as S H ((m ρ S).bind f) k)
    (h : ∀ as1 S1 H1 vs ds, Grow hd as S H as1 S1 H1 → REL K hd as1 ρ S1 σ H1 → RepL K as1 (fz hd as1 S1 H1) vs ds → Post K mg W σ ρ hd as1 S1 H1 (f ds S1) k → Q vs H1) : tA K mg W m σ H Q :=
  ⟨hd, as, ρ, S, rel, po.bind.imp fun ds as1 S1 H1 g rel1 q vs r => h as1 S1 H1 vs ds g rel1 r q⟩
/-- the step itself -/
theorem tE_last {m : EM} {Q : VK} (rel : REL K hd as ρ S σ H) (po : Post K mg W σ ρ hd as S H (m ρ S) fun d as' S' H' => ∀ v, Rep K as' (fz hd as' S' H') v d → Q v H') : tE K mg W m σ H Q := ⟨hd, as, ρ, S, rel, po⟩
theorem tT_last {m : BM} {Q : Bool → Hp → Prop} (rel : REL K hd as ρ S σ H) (po : Post K mg W σ ρ hd as S H (m ρ S) fun b _ _ H' => Q b H') : tT K mg W m σ H Q := ⟨hd, as, ρ, S, rel, po⟩
end

/-! ### operations by values -/
def Ret (K : PySem.W.Frag) (hd : Hid) (as : List Addr) (S : Sto) (H : Hp) (r : R D) (run : VK → Prop) : Prop :=
  match r with
  | .ok d S' => ∀ Q : VK, (∀ as' v H', Grow hd as S H as' S' H' → Wld K hd as' S' H' → Rep K as' (fz hd as' S' H') v d → Q v H') → run Q
  | .exc _ _ => False
  | .stuck => True
def Act1 (K : PySem.W.Frag) (r : V → Hp → VK → Prop) (f : D → M D) : Prop := ∀ hd as S H v d, Wld K hd as S H → Rep K as (fz hd as S H) v d → Ret K hd as S H (f d S) (r v H)
def Act2 (K : PySem.W.Frag) (r : R2) (f : D → D → M D) : Prop := ∀ hd as S H v u d e, Wld K hd as S H → Rep K as (fz hd as S H) v d → Rep K as (fz hd as S H) u e → Ret K hd as S H (f d e S) (r v u H)
def ActL (K : PySem.W.Frag) (r : List V → Hp → VK → Prop) (f : List D → M D) : Prop := ∀ hd as S H vs ds, Wld K hd as S H → RepL K as (fz hd as S H) vs ds → Ret K hd as S H (f ds S) (r vs H)
def ActM (K : PySem.W.Frag) (r : V → List V → Hp → VK → Prop) (f : D → List D → M D) : Prop := ∀ hd as S H v vs d ds, Wld K hd as S H → Rep K as (fz hd as S H) v d → RepL K as (fz hd as S H) vs ds → Ret K hd as S H (f d ds S) (r v vs H)
theorem Ret.out {K : PySem.W.Frag} {mg : Str → Option Value} {W : WX} {σ : L2.St} {ρ : Env} {hd : Hid} {as : List Addr} {S : Sto} {H : Hp} {r : R D} {run : VK → Prop} {Q : VK} (h : Ret K hd as S H r run) (rel : REL K hd as ρ S σ H)
    (po : Post K mg W σ ρ hd as S H r fun d as' S' H' => ∀ v, Rep K as' (fz hd as' S' H') v d → Q v H') : run Q := by
  cases r with
  | ok d S' => exact h Q fun as' v H' g w r => po as' H' g (rel.grow g w) v r
  | exc x S' => exact h.elim
  | stuck => exact po.elim
/-- no new cell, nothing changed: the same heap -/
theorem Ret.now {K : PySem.W.Frag} {hd : Hid} {as : List Addr} {S : Sto} {H : Hp} {d : D} {v : V} {run : VK → Prop} (w : Wld K hd as S H) (r : Rep K as (fz hd as S H) v d) (h : ∀ Q : VK, Q v H → run Q) : Ret K hd as S H (.ok d S) run := fun Q q => h Q (q as v H .refl w r)
/-- a new object -/
theorem Ret.fresh {K : PySem.W.Frag} {hd : Hid} {as : List Addr} {S : Sto} {H : Hp} {d : D} {o : HO} {run : VK → Prop} (w : Wld K hd as S H) (r : ∀ p, (fz hd as S (upd H p o)) p = some o → Grow hd as S H as S (upd H p o) → Rep K as (fz hd as S (upd H p o)) (.ref p) d)
    (h : ∀ Q : VK, (∀ p, H p = none → Q (.ref p) (upd H p o)) → run Q) : Ret K hd as S H (.ok d S) run := fun Q q => h Q fun p hp => by
  obtain ⟨w', g, e⟩ := w.fresh (o := o) hp
  exact q as _ _ g w' (r p e g)

/-! ### what stands where a list is wanted -/
def listOf (S : Sto) : D → Option (List D)
  | .lst xs => some xs
  | .ro xs => some xs
  | .cell n => match S[n]? with
    | some (some (.lst xs)) => some xs
    | _ => none
  | _ => none
theorem seqL {K : PySem.W.Frag} {hd : Hid} {as : List Addr} {S : Sto} {H : Hp} {v : V} {d : D} {xs : List D} (w : Wld K hd as S H) (r : Rep K as (fz hd as S H) v d) (h : listOf S d = some xs) : ∃ a vs, v = .ref a ∧ SqL K H a vs ∧ RepL K as (fz hd as S H) vs xs := by
  cases r with
  | lst q r => simp [listOf] at h; subst h; exact ⟨_, _, rfl, .inl (.inl (fz_same _ _ q)), r⟩
  | ro q r => simp [listOf] at h; subst h; exact ⟨_, _, rfl, same_l fz_same q, r⟩
  | cell q =>
    simp only [listOf] at h
    split at h
    · rename_i ys e
      cases h
      obtain ⟨a, vs, e1, e2, r⟩ := w.at_ _ _ e
      rw [q] at e1; cases e1
      exact ⟨_, _, rfl, .inl (.inl e2), r⟩
    · cases h
  | _ => simp [listOf] at h
/-- a list that stands by itself (no script, no constant) -/
def listOw (S : Sto) : D → Option (List D)
  | .lst xs => some xs
  | .cell n => match S[n]? with
    | some (some (.lst xs)) => some xs
    | _ => none
  | _ => none
theorem seqO {K : PySem.W.Frag} {hd : Hid} {as : List Addr} {S : Sto} {H : Hp} {v : V} {d : D} {xs : List D} (w : Wld K hd as S H) (r : Rep K as (fz hd as S H) v d) (h : listOw S d = some xs) : ∃ a vs, v = .ref a ∧ H a = some (.lst vs) ∧ RepL K as (fz hd as S H) vs xs := by
  cases r with
  | lst q r => simp [listOw] at h; subst h; exact ⟨_, _, rfl, fz_same _ _ q, r⟩
  | cell q =>
    simp only [listOw] at h
    split at h
    · rename_i ys e
      cases h
      obtain ⟨a, vs, e1, e2, r⟩ := w.at_ _ _ e
      rw [q] at e1; cases e1
      exact ⟨_, _, rfl, e2, r⟩
    · cases h
  | _ => simp [listOw] at h
theorem seqT {K : PySem.W.Frag} {hd : Hid} {as : List Addr} {S : Sto} {H : Hp} {v : V} {xs : List D} (r : Rep K as (fz hd as S H) v (.tup xs)) : ∃ a vs, v = .ref a ∧ SqT K H a vs ∧ RepL K as (fz hd as S H) vs xs := by
  cases r with
  | tup q r => exact ⟨_, _, rfl, same_t fz_same q, r⟩

/-! ### expressions -/
def eVar (i : Nat) : EM := fun ρ S => match ρ[i]? with
  | some (some d) => .ok d S
  | _ => .stuck
def eC (d : D) : EM := fun _ S => .ok d S
def e1 (f : D → M D) (a : EM) : EM := fun ρ => M.bind (a ρ) f
def e2 (f : D → D → M D) (a b : EM) : EM := fun ρ => M.bind (a ρ) fun x => M.bind (b ρ) fun y => f x y
def aNil : AM := fun _ S => .ok [] S
def aCons (a : EM) (r : AM) : AM := fun ρ => M.bind (a ρ) fun x => M.bind (r ρ) fun xs S => .ok (x :: xs) S
def eL (f : List D → M D) (a : AM) : EM := fun ρ => M.bind (a ρ) f
def eM (f : D → List D → M D) (o : EM) (a : AM) : EM := fun ρ => M.bind (o ρ) fun x => M.bind (a ρ) fun xs => f x xs
def mTup (ds : List D) : M D := fun S => if ds.length ≤ sizeLine then .ok (.tup ds) S else .stuck
def mLst (ds : List D) : M D := fun S => if ds.length ≤ sizeLine then .ok (.lst ds) S else .stuck
def mCell (ds : List D) : M D := fun S => if ds.length ≤ sizeLine then .ok (.cell S.length) (S ++ [some (.lst ds)]) else .stuck
def mBool : D → M Bool
  | .bl b => fun S => .ok b S
  | _ => fun _ => .stuck
def bVal (a : EM) : BM := fun ρ => M.bind (a ρ) mBool
def bNot (a : BM) : BM := fun ρ => M.bind (a ρ) fun b S => .ok (!b) S
def bAnd (a b : BM) : BM := fun ρ => M.bind (a ρ) fun x => if x then b ρ else fun S => .ok false S
def bOr (a b : BM) : BM := fun ρ => M.bind (a ρ) fun x => if x then fun S => .ok true S else b ρ
def eAnd (a b : EM) : EM := fun ρ => M.bind (a ρ) fun d => M.bind (mBool d) fun x => if x then b ρ else fun S => .ok (.bl false) S
def eOr (a b : EM) : EM := fun ρ => M.bind (a ρ) fun d => M.bind (mBool d) fun x => if x then fun S => .ok (.bl true) S else b ρ
def eNot (a : EM) : EM := fun ρ => M.bind (a ρ) fun d => M.bind (mBool d) fun x S => .ok (.bl (!x)) S
def eIf (c : BM) (a b : EM) : EM := fun ρ => M.bind (c ρ) fun x => if x then a ρ else b ρ
/-- what is changed no more is data -/
def mFrz : D → M D
  | .cell n => fun S => match S[n]? with
    | some (some (.lst xs)) => .ok (.lst xs) (S.set n none)
    | _ => .stuck
  | d => fun S => .ok d S

section
variable {X : Cx} {W : WX} {a b c e o : Expr} {es : List Expr} {ma mb mc me : EM} {mt mu : BM} {mr : AM} {pos : Pos}
theorem de_var (i : Nat) {x : Str} (hN : X.N[i]? = some x := by rfl) (hv : Vis X.env.scope x := by first | exact Or.inl rfl | exact Or.inr (Or.inl rfl) | exact Or.inr (Or.inr rfl)) (hd : (x == ("__debug__" : Str)) = false := by decide)
    (hcd : (x == ("__classdict__" : Str)) = false := by decide) : DE X W (.Name x pos) (eVar i) := PE.le (pe_var hN hv hd hcd) fun σ H Q ⟨hd, as, ρ, S, rel, po⟩ => by
  unfold eVar at po
  split at po
  · rename_i d e
    obtain ⟨v, e1, r⟩ := rel.s.at_ i d e
    exact ⟨v, e1, po as H .refl rel v r⟩
  · exact po.elim
theorem PE.const {v : V} {d : D} (h : PE X e (tC v)) (r : ∀ as F, Rep X.K as F v d) : DE X W e (eC d) := PE.le h fun σ H Q ⟨hd, as, ρ, S, rel, po⟩ => po as H .refl rel v (r _ _)
theorem de_int {i : Int} {j} : DE X W (.Constant (.int i) j pos) (eC (.int i)) := PE.const pe_int fun _ _ => .int i
theorem de_bl {i : Bool} {j} : DE X W (.Constant (.bool i) j pos) (eC (.bl i)) := PE.const pe_bl fun _ _ => .bl i
theorem de_str {i : Str} {j} : DE X W (.Constant (.str i) j pos) (eC (.str i)) := PE.const pe_str fun _ _ => .str i
theorem de_non {j} : DE X W (.Constant .none j pos) (eC .non) := PE.const pe_non fun _ _ => .non
/-- a constant of the module -/
theorem de_glob {x : Str} {v : V} {u : Value} {d : D} (hg : Gl X x) (hm : X.mg x = some u) (r : RelV v u) (rd : ∀ as F, Rep X.K as F v d) (hd : (x == ("__debug__" : Str)) = false := by decide) : DE X W (.Name x pos) (eC d) := PE.const (pe_glob hg hm r hd) rd
theorem de_bin {op : Operator} {r : R2} {f : D → D → M D} (ho : OpR X (binaryOp op) r) (act : Act2 X.K r f) (ha : DE X W a ma) (hb : DE X W b mb) : DE X W (.BinOp a op b pos) (e2 f ma mb) :=
  PE.le (pe_op ho ha hb) fun σ H Q ⟨hd, as, ρ, S, rel, po⟩ => tE_seq rel po fun as1 S1 H1 v1 d1 g1 rel1 r1 po1 => tE_seq rel1 po1 fun as2 S2 H2 v2 d2 g2 rel2 r2 po2 =>
    (act hd as2 S2 H2 v1 v2 d1 d2 rel2.w (r1.grow g2) r2).out rel2 po2
theorem de_cmp {op : CmpOp} {r : R2} {f : D → D → M D} (ho : OpR X (compareOp op) r) (act : Act2 X.K r f) (ha : DE X W a ma) (hb : DE X W b mb) (hm : behindInMarks op b = false) : DE X W (.Compare a [op] [b] pos) (e2 f ma mb) :=
  PE.le (pe_cmpR ho ha hb hm) fun σ H Q ⟨hd, as, ρ, S, rel, po⟩ => tE_seq rel po fun as1 S1 H1 v1 d1 g1 rel1 r1 po1 => tE_seq rel1 po1 fun as2 S2 H2 v2 d2 g2 rel2 r2 po2 =>
    (act hd as2 S2 H2 v1 v2 d1 d2 rel2.w (r1.grow g2) r2).out rel2 po2
theorem de_un {op : UnaryOp} {r : V → Hp → VK → Prop} {f : D → M D} (ho : UnR X (unaryOp op) r) (act : Act1 X.K r f) (ha : DE X W a ma) : DE X W (.UnaryOp op a pos) (e1 f ma) :=
  PE.le (pe_un ho ha) fun σ H Q ⟨hd, as, ρ, S, rel, po⟩ => tE_seq rel po fun as1 S1 H1 v1 d1 g1 rel1 r1 po1 => (act hd as1 S1 H1 v1 d1 rel1.w r1).out rel1 po1
theorem da_nil : DA X W [] aNil := PA.le pa_nil fun σ H Q ⟨hd, as, ρ, S, rel, po⟩ => po as H .refl rel [] .nil
theorem da_cons (ha : DE X W a ma) (hr : DA X W es mr) (hs : starEach (a :: es) X.env = (false, eval a X.env) :: starEach es X.env := by rfl) : DA X W (a :: es) (aCons ma mr) :=
  PA.le (pa_cons ha hr hs) fun σ H Q ⟨hd, as, ρ, S, rel, po⟩ => tE_seq rel po fun as1 S1 H1 v1 d1 g1 rel1 r1 po1 => tA_seq rel1 po1 fun as2 S2 H2 vs ds g2 rel2 r2 po2 =>
    po2 as2 H2 .refl rel2 (v1 :: vs) (.cons (r1.grow g2) r2)
theorem ret_tup {K : PySem.W.Frag} {hd : Hid} {as : List Addr} {S : Sto} {H : Hp} {vs : List V} {ds : List D} (w : Wld K hd as S H) (r : RepL K as (fz hd as S H) vs ds) : Ret K hd as S H (mTup ds S) fun Q => vs.length ≤ sizeLine ∧ ∀ p, H p = none → Q (.ref p) (upd H p (.tup vs)) := by
  unfold mTup
  split
  · rename_i hz
    exact Ret.fresh w (fun p e g => .tup (.inl (.inl e)) (r.grow g)) fun Q q => ⟨by rw [r.length]; exact hz, q⟩
  · exact trivial
theorem ret_lst {K : PySem.W.Frag} {hd : Hid} {as : List Addr} {S : Sto} {H : Hp} {vs : List V} {ds : List D} (w : Wld K hd as S H) (r : RepL K as (fz hd as S H) vs ds) : Ret K hd as S H (mLst ds S) fun Q => vs.length ≤ sizeLine ∧ ∀ p, H p = none → Q (.ref p) (upd H p (.lst vs)) := by
  unfold mLst
  split
  · rename_i hz
    exact Ret.fresh w (fun p e g => .lst e (r.grow g)) fun Q q => ⟨by rw [r.length]; exact hz, q⟩
  · exact trivial
theorem ret_cell {K : PySem.W.Frag} {hd : Hid} {as : List Addr} {S : Sto} {H : Hp} {vs : List V} {ds : List D} (w : Wld K hd as S H) (r : RepL K as (fz hd as S H) vs ds) : Ret K hd as S H (mCell ds S) fun Q => vs.length ≤ sizeLine ∧ ∀ p, H p = none → Q (.ref p) (upd H p (.lst vs)) := by
  unfold mCell
  split
  · rename_i hz
    exact fun Q q => ⟨by rw [r.length]; exact hz, fun p hp => by
      obtain ⟨w', g, e⟩ := w.newCell hp r
      exact q _ _ _ g w' (.cell e)⟩
  · exact trivial
theorem de_tup {x1} (h : DA X W es mr) : DE X W (.Tuple es x1 pos) (eL mTup mr) := PE.le (pe_tup h) fun σ H Q ⟨hd, as, ρ, S, rel, po⟩ => tA_seq rel po fun as1 S1 H1 vs ds g1 rel1 r1 po1 => (ret_tup rel1.w r1).out rel1 po1
theorem de_lst (h : DA X W es mr) : DE X W (.List es pos) (eL mLst mr) := PE.le (pe_lst h) fun σ H Q ⟨hd, as, ρ, S, rel, po⟩ => tA_seq rel po fun as1 S1 H1 vs ds g1 rel1 r1 po1 => (ret_lst rel1.w r1).out rel1 po1
theorem de_lstC (h : DA X W es mr) : DE X W (.List es pos) (eL mCell mr) := PE.le (pe_lst h) fun σ H Q ⟨hd, as, ρ, S, rel, po⟩ => tA_seq rel po fun as1 S1 H1 vs ds g1 rel1 r1 po1 => (ret_cell rel1.w r1).out rel1 po1
theorem de_callB {x : Str} {p : Pos} {id : String} {r : List V → Hp → VK → Prop} {f : List D → M D} (hc : CallR X (.builtin id) r) (act : ActL X.K r f) (hg : Gl X x) (hm : X.mg x = none) (hv : bootBuiltins x = some (.builtin id)) (ha : DA X W (e :: es) mr)
    (hn : x ≠ "__name__" := by decide) (hdb : (x == ("__debug__" : Str)) = false := by decide)
    (he : starEach (e :: es) X.env = (false, eval e X.env) :: starEach es X.env := by rfl) (hpl : (backTo pos (starEach es X.env)).any (·.1) = false := by rfl) : DE X W (.Call (.Name x p) (e :: es) [] pos) (eL f mr) :=
  PE.le (pe_callB hc hg hm hv ha hn hdb he hpl) fun σ H Q ⟨hd, as, ρ, S, rel, po⟩ => tA_seq rel po fun as1 S1 H1 vs ds g1 rel1 r1 po1 => (act hd as1 S1 H1 vs ds rel1.w r1).out rel1 po1
theorem de_callTy {x : Str} {p : Pos} {T : String} {r : List V → Hp → VK → Prop} {f : List D → M D} (hc : CallR X (.type T) r) (act : ActL X.K r f) (hg : Gl X x) (hm : X.mg x = none) (hv : bootBuiltins x = some (.type T)) (ha : DA X W (e :: es) mr)
    (hn : x ≠ "__name__" := by decide) (hdb : (x == ("__debug__" : Str)) = false := by decide)
    (he : starEach (e :: es) X.env = (false, eval e X.env) :: starEach es X.env := by rfl) (hpl : (backTo pos (starEach es X.env)).any (·.1) = false := by rfl) : DE X W (.Call (.Name x p) (e :: es) [] pos) (eL f mr) :=
  PE.le (pe_callTy hc hg hm hv ha hn hdb he hpl) fun σ H Q ⟨hd, as, ρ, S, rel, po⟩ => tA_seq rel po fun as1 S1 H1 vs ds g1 rel1 r1 po1 => (act hd as1 S1 H1 vs ds rel1.w r1).out rel1 po1
theorem de_ix {r : R2} {f : D → D → M D} (hr : IxR X r) (act : Act2 X.K r f) (ha : DE X W a ma) (hb : DE X W b mb) (hs : PlainIx b := by intro _ _; rfl) : DE X W (.Subscript a b pos) (e2 f ma mb) :=
  PE.le (pe_ix hr ha hb hs) fun σ H Q ⟨hd, as, ρ, S, rel, po⟩ => tE_seq rel po fun as1 S1 H1 v1 d1 g1 rel1 r1 po1 => tE_seq rel1 po1 fun as2 S2 H2 v2 d2 g2 rel2 r2 po2 =>
    (act hd as2 S2 H2 v1 v2 d1 d2 rel2.w (r1.grow g2) r2).out rel2 po2
theorem de_frz (h : DE X W e me) : DE X W e (e1 mFrz me) := PE.le h fun σ H Q ⟨hd, as, ρ, S, rel, po⟩ => tE_seq rel po fun as1 S1 H1 v1 d1 g1 rel1 r1 po1 => by
  cases r1 with
  | cell q =>
    rename_i n b
    cases e : S1[n]? with
    | none => simp only [mFrz, e] at po1; exact po1.elim
    | some z =>
      cases z with
      | none => simp only [mFrz, e] at po1; exact po1.elim
      | some c =>
        cases c with
        | ins _ _ => simp only [mFrz, e] at po1; exact po1.elim
        | dK _ => simp only [mFrz, e] at po1; exact po1.elim
        | lst xs =>
          simp only [mFrz, e] at po1
          obtain ⟨w', g, r⟩ := rel1.w.freeze e q
          exact po1 _ _ g (rel1.grow g w') _ r
  | non => exact po1 _ _ .refl rel1 _ .non
  | bl i => exact po1 _ _ .refl rel1 _ (.bl i)
  | int i => exact po1 _ _ .refl rel1 _ (.int i)
  | str i => exact po1 _ _ .refl rel1 _ (.str i)
  | dE q => exact po1 _ _ .refl rel1 _ (.dE q)
  | ty i => exact po1 _ _ .refl rel1 _ (.ty i)
  | tup q r => exact po1 _ _ .refl rel1 _ (.tup q r)
  | lst q r => exact po1 _ _ .refl rel1 _ (.lst q r)
  | ro q r => exact po1 _ _ .refl rel1 _ (.ro q r)
  | err q1 q2 q3 r => exact po1 _ _ .refl rel1 _ (.err q1 q2 q3 r)
  | cls q => exact po1 _ _ .refl rel1 _ (.cls q)

/-! ### tests -/
theorem mBool_bl {K : PySem.W.Frag} {as : List Addr} {F : Hp} {v : V} {d : D} (r : Rep K as F v d) {S : Sto} : mBool d S = .stuck ∨ ∃ b, v = .bl b ∧ d = .bl b := by
  cases r with
  | bl i => exact .inr ⟨i, rfl, rfl⟩
  | _ => exact .inl rfl
theorem dt_val (h : DE X W e me) (he : ∀ whole, isTrue e X.env whole = (do let v ← whole; standAt e.pos; holding [v] (truthy v)) := by intro _; rfl) : DT X W e (bVal me) :=
  PT.le (pt_val h he) fun σ H Q ⟨hd, as, ρ, S, rel, po⟩ => tE_seq rel po fun as1 S1 H1 v1 d1 g1 rel1 r1 po1 => by
    rcases mBool_bl r1 (S := S1) with z | ⟨b, rfl, rfl⟩
    · rw [z] at po1; exact po1.elim
    · exact ⟨b, rfl, po1 as1 H1 .refl rel1⟩
theorem dt_not (h : DT X W a mt) : DT X W (.UnaryOp .Not a pos) (bNot mt) := PT.le (pt_not h) fun σ H Q ⟨hd, as, ρ, S, rel, po⟩ => tT_seq rel po fun as1 S1 H1 b g1 rel1 po1 => po1 as1 H1 .refl rel1
theorem dw_and1 (h : DT X W a mt) : DW X W (.BoolOp .And [a] pos) mt := pw_and1 h
theorem dw_or1 (h : DT X W a mt) : DW X W (.BoolOp .Or [a] pos) mt := pw_or1 h
theorem dw_and (ha : DT X W a mt) (hb : DW X W (.BoolOp .And (b :: es) pos) mu) : DW X W (.BoolOp .And (a :: b :: es) pos) (bAnd mt mu) :=
  PW.le (pw_and ha hb) fun σ H Q ⟨hd, as, ρ, S, rel, po⟩ => tT_seq rel po fun as1 S1 H1 b g1 rel1 po1 => by
    cases b with
    | true => exact iteT (tT_last rel1 po1)
    | false => exact iteF (po1 as1 H1 .refl rel1)
theorem dw_or (ha : DT X W a mt) (hb : DW X W (.BoolOp .Or (b :: es) pos) mu) : DW X W (.BoolOp .Or (a :: b :: es) pos) (bOr mt mu) :=
  PW.le (pw_or ha hb) fun σ H Q ⟨hd, as, ρ, S, rel, po⟩ => tT_seq rel po fun as1 S1 H1 b g1 rel1 po1 => by
    cases b with
    | true => exact iteT (po1 as1 H1 .refl rel1)
    | false => exact iteF (tT_last rel1 po1)
theorem de_one {op} (h : DE X W a ma) : DE X W (.BoolOp op [a] pos) ma := pe_one h
theorem de_and (ha : DE X W a ma) (hb : DE X W (.BoolOp .And (b :: es) pos) mb) : DE X W (.BoolOp .And (a :: b :: es) pos) (eAnd ma mb) :=
  PE.le (pe_and ha hb) fun σ H Q ⟨hd, as, ρ, S, rel, po⟩ => tE_seq rel po fun as1 S1 H1 v1 d1 g1 rel1 r1 po1 => by
    rcases mBool_bl r1 (S := S1) with z | ⟨b, rfl, rfl⟩
    · rw [bind_ap, z] at po1; exact po1.elim
    · refine ⟨b, rfl, ?_⟩
      cases b with
      | true => exact iteT (tE_last rel1 po1)
      | false => exact iteF (po1 as1 H1 .refl rel1 _ (.bl false))
theorem de_not (ha : DE X W a ma) : DE X W (.UnaryOp .Not a pos) (eNot ma) :=
  PE.le (pe_not ha) fun σ H Q ⟨hd, as, ρ, S, rel, po⟩ => tE_seq rel po fun as1 S1 H1 v1 d1 g1 rel1 r1 po1 => by
    rcases mBool_bl r1 (S := S1) with z | ⟨b, rfl, rfl⟩
    · rw [bind_ap, z] at po1; exact po1.elim
    · exact ⟨b, rfl, po1 as1 H1 .refl rel1 _ (.bl _)⟩
theorem de_if (hc : DT X W c mt) (ha : DE X W a ma) (hb : DE X W b mb) : DE X W (.IfExp c a b pos) (eIf mt ma mb) :=
  PE.le (pe_ifExp hc ha hb) fun σ H Q ⟨hd, as, ρ, S, rel, po⟩ => tT_seq rel po fun as1 S1 H1 b g1 rel1 po1 => by
    cases b with
    | true => exact iteT (tE_last rel1 po1)
    | false => exact iteF (tE_last rel1 po1)
/-- a < b < c -/
def eChain (f g : D → D → M D) (a b c : EM) : EM := fun ρ => M.bind (a ρ) fun x => M.bind (b ρ) fun y => M.bind (f x y) fun z => M.bind (mBool z) fun k => if k then M.bind (c ρ) fun w => g y w else fun S => .ok (.bl false) S
theorem tR_seq {β : Type} {K : PySem.W.Frag} {mg : Str → Option Value} {σ : L2.St} {ρ : Env} {hd : Hid} {as : List Addr} {S : Sto} {H : Hp} {k : β → List Addr → Sto → Hp → Prop} {m : M D} {f : D → M β} {run : VK → Prop} {Q : VK} (h : Ret K hd as S H (m S) run) (rel : REL K hd as ρ S σ H)
    (po : Post K mg W σ ρ hd as S H ((m S).bind f) k) (q : ∀ as1 S1 H1 v d, Grow hd as S H as1 S1 H1 → REL K hd as1 ρ S1 σ H1 → Rep K as1 (fz hd as1 S1 H1) v d → Post K mg W σ ρ hd as1 S1 H1 (f d S1) k → Q v H1) : run Q :=
  h.out rel (po.bind.imp fun d as1 S1 H1 g rel1 p v r => q as1 S1 H1 v d g rel1 r p)
theorem de_chain {op op' : CmpOp} {r r' : R2} {f g : D → D → M D} (ho : OpR X (compareOp op) r) (ho' : OpR X (compareOp op') r') (act : Act2 X.K r f) (act' : Act2 X.K r' g) (ha : DE X W a ma) (hb : DE X W b mb) (hc : DE X W c mc) (hl : lastMarks [op, op'] [b, c] = false := by with_unfolding_all rfl) :
    DE X W (.Compare a [op, op'] [b, c] pos) (eChain f g ma mb mc) :=
  PE.le (pe_chain ho ho' ha hb hc hl) fun σ H Q ⟨hd, as, ρ, S, rel, po⟩ => tE_seq rel po fun as1 S1 H1 v1 d1 g1 rel1 r1 po1 => tE_seq rel1 po1 fun as2 S2 H2 v2 d2 g2 rel2 r2 po2 =>
    tR_seq (act hd as2 S2 H2 v1 v2 d1 d2 rel2.w (r1.grow g2) r2) rel2 po2 fun as3 S3 H3 v3 d3 g3 rel3 r3 po3 => by
      rcases mBool_bl r3 (S := S3) with z | ⟨b, rfl, rfl⟩
      · rw [bind_ap, z] at po3; exact po3.elim
      · refine ⟨b, rfl, ?_⟩
        cases b with
        | true => exact iteT (tE_seq rel3 po3 fun as4 S4 H4 v4 d4 g4 rel4 r4 po4 => (act' hd as4 S4 H4 v2 v4 d2 d4 rel4.w ((r2.grow g3).grow g4) r4).out rel4 po4)
        | false => exact iteF (po3 as3 H3 .refl rel3 _ (.bl false))
/-- slices -/
abbrev OM := Env → M (Option Int)
def oNone : OM := fun _ S => .ok none S
def oSome (m : EM) : OM := fun ρ => M.bind (m ρ) fun d => match d with
  | .int i => fun S => .ok (some i) S
  | _ => fun _ => .stuck
def tO (K : PySem.W.Frag) (mg : Str → Option Value) (W : WX) (m : OM) : TO := fun σ H Q => ∃ hd as ρ S, REL K hd as ρ S σ H ∧ Post K mg W σ ρ hd as S H (m ρ S) fun o _ _ H' => Q o H'
abbrev DO (X : Cx) (W : WX) (e : Option Expr) (m : OM) : Prop := PO X e (tO X.K X.mg W m)
theorem PO.le {X : Cx} {e : Option Expr} {t t' : TO} (h : PO X e t) (k : ∀ σ H Q, t' σ H Q → t σ H Q) : PO X e t' := ⟨fun pins s σ H Q I q => h.run pins s σ H Q I (k σ H Q q)⟩
theorem do_none : DO X W none oNone := PO.le po_none fun σ H Q ⟨hd, as, ρ, S, rel, po⟩ => po as H .refl rel
theorem do_some (h : DE X W e me) : DO X W (some e) (oSome me) := PO.le (po_some h) fun σ H Q ⟨hd, as, ρ, S, rel, po⟩ => tE_seq rel po fun as1 S1 H1 v1 d1 g1 rel1 r1 po1 => by
  cases r1 with
  | int i => exact ⟨i, rfl, po1 as1 H1 .refl rel1⟩
  | _ => exact po1.elim
theorem tO_seq {β : Type} {K : PySem.W.Frag} {mg : Str → Option Value} {σ : L2.St} {ρ : Env} {hd : Hid} {as : List Addr} {S : Sto} {H : Hp} {k : β → List Addr → Sto → Hp → Prop} {m : OM} {f : Option Int → M β} {Q : Option Int → Hp → Prop} (rel : REL K hd as ρ S σ H)
    (po : Post K mg W σ ρ hd as S H ((m ρ S).bind f) k) (h : ∀ as1 S1 H1 o, Grow hd as S H as1 S1 H1 → REL K hd as1 ρ S1 σ H1 → Post K mg W σ ρ hd as1 S1 H1 (f o S1) k → Q o H1) : tO K mg W m σ H Q :=
  ⟨hd, as, ρ, S, rel, po.bind.imp fun o as1 S1 H1 g rel1 q => h as1 S1 H1 o g rel1 q⟩
def ActS (K : PySem.W.Frag) (r : V → Option Int → Option Int → Hp → VK → Prop) (f : D → Option Int → Option Int → M D) : Prop := ∀ hd as S H v d lo hi, Wld K hd as S H → Rep K as (fz hd as S H) v d → Ret K hd as S H (f d lo hi S) (r v lo hi H)
def eSl (f : D → Option Int → Option Int → M D) (a : EM) (l u : OM) : EM := fun ρ => M.bind (a ρ) fun x => M.bind (l ρ) fun i => M.bind (u ρ) fun j => f x i j
theorem de_slice {lo hi : Option Expr} {p2 : Pos} {r : V → Option Int → Option Int → Hp → VK → Prop} {f : D → Option Int → Option Int → M D} {ml mh : OM} (hr : SlR X r) (act : ActS X.K r f) (he : DE X W e me) (hl : DO X W lo ml) (hu : DO X W hi mh) :
    DE X W (.Subscript e (.Slice lo hi none p2) pos) (eSl f me ml mh) :=
  PE.le (pe_slice hr he hl hu) fun σ H Q ⟨hd, as, ρ, S, rel, po⟩ => tE_seq rel po fun as1 S1 H1 v1 d1 g1 rel1 r1 po1 => tO_seq rel1 po1 fun as2 S2 H2 i g2 rel2 po2 => tO_seq rel2 po2 fun as3 S3 H3 j g3 rel3 po3 =>
    (act hd as3 S3 H3 v1 d1 i j rel3.w ((r1.grow g2).grow g3)).out rel3 po3
/-- a built-in's methods -/
def eMt (chk : D → Sto → Bool) (f : D → List D → M D) (o : EM) (a : AM) : EM := fun ρ => M.bind (o ρ) fun x => fun S => if chk x S then ((a ρ S).bind fun xs => f x xs) else .stuck
def TyOk (K : PySem.W.Frag) (T : String) (chk : D → Sto → Bool) : Prop := ∀ hd as S H v d, Wld K hd as S H → Rep K as (fz hd as S H) v d → chk d S = true → tyV K T v H
theorem de_bm {T id : String} {name : Str} {apos : Pos} {r : V → List V → Hp → VK → Prop} {f : D → List D → M D} {chk : D → Sto → Bool} (pa : PlainAttrs T) (slot : Slot T name id) (hty : typeOf (.builtin id) = pure (.type "method_descriptor")) (hm : MtR X id r)
    (act : ActM X.K r f) (ty : TyOk X.K T chk) (ho : DE X W o mb) (ha : DA X W (e :: es) mr) (hbase : attributeBase o name X.env (eval o X.env) = eval o X.env := by rfl) (hline : (apos.endLine == pos.line) = true := by rfl)
    (hst : starEach (e :: es) X.env = (false, eval e X.env) :: starEach es X.env := by rfl) (hpl : (backTo pos (starEach es X.env)).any (·.1) = false := by rfl)
    (hfw : ((backTo pos (starEach (e :: es) X.env)).all (fun x => !x.1) && (backToKw pos (keywordEach [] X.env)).all (fun x => x.1.isSome) && decide ((e :: es).length + ([] : List Keyword).length + (if ([] : List Keyword).isEmpty then 0 else 1) < 30)) = true := by rfl) :
    DE X W (.Call (.Attribute o name apos) (e :: es) [] pos) (eMt chk f mb mr) :=
  PE.le (pe_bm pa slot hty hm ho ha hbase hfw hline hst hpl) fun σ H Q ⟨hd, as, ρ, S, rel, po⟩ => tE_seq rel po fun as1 S1 H1 v1 d1 g1 rel1 r1 po1 => by
    by_cases hk : chk d1 S1 = true
    · rw [if_pos hk] at po1
      exact ⟨ty hd as1 S1 H1 v1 d1 rel1.w r1 hk, tA_seq rel1 po1 fun as2 S2 H2 vs ds g2 rel2 r2 po2 => (act hd as2 S2 H2 v1 vs d1 ds rel2.w (r1.grow g2) r2).out rel2 po2⟩
    · rw [if_neg hk] at po1; exact po1.elim
theorem de_bm0 {T id : String} {name : Str} {apos : Pos} {r : V → List V → Hp → VK → Prop} {f : D → List D → M D} {chk : D → Sto → Bool} (pa : PlainAttrs T) (slot : Slot T name id) (hty : typeOf (.builtin id) = pure (.type "method_descriptor")) (hm : MtR X id r)
    (act : ActM X.K r f) (ty : TyOk X.K T chk) (ho : DE X W o mb) (hbase : attributeBase o name X.env (eval o X.env) = eval o X.env := by rfl) (hline : (apos.endLine == pos.line) = true := by rfl) : DE X W (.Call (.Attribute o name apos) [] [] pos) (eMt chk f mb aNil) :=
  PE.le (pe_bm0 pa slot hty hm ho hbase hline) fun σ H Q ⟨hd, as, ρ, S, rel, po⟩ => tE_seq rel po fun as1 S1 H1 v1 d1 g1 rel1 r1 po1 => by
    by_cases hk : chk d1 S1 = true
    · rw [if_pos hk] at po1
      exact ⟨ty hd as1 S1 H1 v1 d1 rel1.w r1 hk, (act hd as1 S1 H1 v1 [] d1 [] rel1.w r1 .nil).out rel1 po1⟩
    · rw [if_neg hk] at po1; exact po1.elim
end
end DL

set_option Elab.async false
set_option linter.all false
set_option maxRecDepth 100000
/-! DL3: statements, targets, what is walked, loops, comprehensions. -/
namespace DL
open PySem PySem.Spec PyProof.Rows L2

/-! ### statements -/
inductive RS where
  | ok (f : Flw) (ρ : Env) (S : Sto)
  | exc (x : XD) (ρ : Env) (S : Sto)
  | stuck
abbrev SD := Env → Sto → RS
def R.to {α : Type} (r : R α) (ρ : Env) (k : α → Sto → RS) : RS := match r with
  | .ok a S => k a S
  | .exc x S => .exc x ρ S
  | .stuck => .stuck
@[simp] theorem R.to_ok {α : Type} (a : α) (S : Sto) (ρ : Env) (k : α → Sto → RS) : (R.ok a S).to ρ k = k a S := rfl
@[simp] theorem R.to_exc {α : Type} (x : XD) (S : Sto) (ρ : Env) (k : α → Sto → RS) : (R.exc (α := α) x S).to ρ k = .exc x ρ S := rfl
@[simp] theorem R.to_stuck {α : Type} (ρ : Env) (k : α → Sto → RS) : (R.stuck (α := α)).to ρ k = .stuck := rfl
def PostS (K : PySem.W.Frag) (mg : Str → Option Value) (W : WX) (hd : Hid) (as : List Addr) (S : Sto) (H : Hp) (Dn : Ends) (r : RS) : Prop :=
  match r with
  | .ok .nx ρ' S' => ∀ as' σ' H', Grow hd as S H as' S' H' → REL K hd as' ρ' S' σ' H' → Dn.nx σ' H'
  | .ok (.ret d) ρ' S' => ∀ as' v H', Grow hd as S H as' S' H' → Wld K hd as' S' H' → Rep K as' (fz hd as' S' H') v d → Dn.rt v H'
  | .ok .brk ρ' S' => ∀ as' σ' H', Grow hd as S H as' S' H' → REL K hd as' ρ' S' σ' H' → Dn.bk σ' H'
  | .ok .cnt ρ' S' => ∀ as' σ' H', Grow hd as S H as' S' H' → REL K hd as' ρ' S' σ' H' → Dn.ct σ' H'
  | .exc x ρ' S' => ∀ as' cls dd σ' H', Grow hd as S H as' S' H' → REL K hd as' ρ' S' σ' H' → XRep K mg as' (fz hd as' S' H') x cls dd → W cls dd σ' H'
  | .stuck => False
def tS (K : PySem.W.Frag) (mg : Str → Option Value) (W : WX) (m : SD) : TS := fun Dn σ H => ∃ hd as ρ S, REL K hd as ρ S σ H ∧ PostS K mg W hd as S H Dn (m ρ S)
abbrev DS (X : Cx) (W : WX) (st : Stmt) (m : SD) : Prop := PS X st (tS X.K X.mg W m)
abbrev DSs (X : Cx) (W : WX) (st : List Stmt) (m : SD) : Prop := PSs X st (tS X.K X.mg W m)
section
variable {K : PySem.W.Frag} {mg : Str → Option Value} {W : WX} {hd : Hid} {as as1 : List Addr} {S S1 : Sto} {σ : L2.St} {ρ : Env} {H H1 : Hp} {Dn : Ends}
theorem PostS.later {r : RS} (h : PostS K mg W hd as S H Dn r) (g : Grow hd as S H as1 S1 H1) : PostS K mg W hd as1 S1 H1 Dn r := by
  match r, h with
  | .ok .nx ρ' S', h => exact fun as' σ' H' g' rel => h as' σ' H' (g.trans g') rel
  | .ok (.ret d) ρ' S', h => exact fun as' v H' g' w r => h as' v H' (g.trans g') w r
  | .ok .brk ρ' S', h => exact fun as' σ' H' g' rel => h as' σ' H' (g.trans g') rel
  | .ok .cnt ρ' S', h => exact fun as' σ' H' g' rel => h as' σ' H' (g.trans g') rel
  | .exc x ρ' S', h => exact fun as' cls dd σ' H' g' rel => h as' cls dd σ' H' (g.trans g') rel
  | .stuck, h => exact h
theorem PostS.toE {α : Type} {r : R α} {k : α → Sto → RS} (rel : REL K hd as ρ S σ H) (h : PostS K mg W hd as S H Dn (r.to ρ k)) : Post K mg W σ ρ hd as S H r fun a as' S' H' => PostS K mg W hd as' S' H' Dn (k a S') := by
  cases r with
  | ok a S' => exact fun as' H' g rel' => PostS.later (r := k a S') h g
  | exc x S' => exact fun as' cls dd H' g rel' xr => h as' cls dd σ H' g rel' xr
  | stuck => exact h
theorem tE_to {m : EM} {k : D → Sto → RS} {Q : VK} (rel : REL K hd as ρ S σ H) (po : PostS K mg W hd as S H Dn ((m ρ S).to ρ k))
    (h : ∀ as1 S1 H1 v1 d, Grow hd as S H as1 S1 H1 → REL K hd as1 ρ S1 σ H1 → Rep K as1 (fz hd as1 S1 H1) v1 d → PostS K mg W hd as1 S1 H1 Dn (k d S1) → Q v1 H1) : tE K mg W m σ H Q :=
  ⟨hd, as, ρ, S, rel, (po.toE rel).imp fun d as1 S1 H1 g rel1 q v r => h as1 S1 H1 v d g rel1 r q⟩
theorem tT_to {m : BM} {k : Bool → Sto → RS} {Q : Bool → Hp → Prop} (rel : REL K hd as ρ S σ H) (po : PostS K mg W hd as S H Dn ((m ρ S).to ρ k))
    (h : ∀ as1 S1 H1 b, Grow hd as S H as1 S1 H1 → REL K hd as1 ρ S1 σ H1 → PostS K mg W hd as1 S1 H1 Dn (k b S1) → Q b H1) : tT K mg W m σ H Q :=
  ⟨hd, as, ρ, S, rel, (po.toE rel).imp fun b as1 S1 H1 g rel1 q => h as1 S1 H1 b g rel1 q⟩
theorem tA_to {m : AM} {k : List D → Sto → RS} {Q : List V → Hp → Prop} (rel : REL K hd as ρ S σ H) (po : PostS K mg W hd as S H Dn ((m ρ S).to ρ k))
    (h : ∀ as1 S1 H1 vs ds, Grow hd as S H as1 S1 H1 → REL K hd as1 ρ S1 σ H1 → RepL K as1 (fz hd as1 S1 H1) vs ds → PostS K mg W hd as1 S1 H1 Dn (k ds S1) → Q vs H1) : tA K mg W m σ H Q :=
  ⟨hd, as, ρ, S, rel, (po.toE rel).imp fun ds as1 S1 H1 g rel1 q vs r => h as1 S1 H1 vs ds g rel1 r q⟩
end

/-- behind a: b -/
def sSeq (a b : SD) : SD := fun ρ S => match a ρ S with
  | .ok .nx ρ' S' => b ρ' S'
  | r => r
def sNx : SD := fun ρ S => .ok .nx ρ S
def sBrk : SD := fun ρ S => .ok .brk ρ S
def sCnt : SD := fun ρ S => .ok .cnt ρ S
def sRet (m : EM) : SD := fun ρ S => (m ρ S).to ρ fun d S' => .ok (.ret d) ρ S'
def sRetN : SD := fun ρ S => .ok (.ret .non) ρ S
def sSet (i : Nat) (m : EM) : SD := fun ρ S => (m ρ S).to ρ fun d S' => .ok .nx (ρ.set i (some d)) S'
def sExpr (m : EM) : SD := fun ρ S => (m ρ S).to ρ fun _ S' => .ok .nx ρ S'
def sIf (c : BM) (a b : SD) : SD := fun ρ S => (c ρ S).to ρ fun k S' => if k then a ρ S' else b ρ S'
def sNever : SD := fun _ _ => .stuck

/-! ### targets -/
inductive Tg where
  | nm (i : Nat) | tup (ts : List Tg)
mutual
def Tg.slots : Tg → List Nat
  | .nm i => [i]
  | .tup ts => Tg.slotsL ts
def Tg.slotsL : List Tg → List Nat
  | [] => []
  | t :: ts => t.slots ++ Tg.slotsL ts
end
mutual
def asg : Tg → D → Env → Option Env
  | .nm i, d, ρ => some (ρ.set i (some d))
  | .tup ts, .tup ds, ρ => if ds.length = ts.length then asgL ts ds ρ else none
  | .tup _, _, _ => none
def asgL : List Tg → List D → Env → Option Env
  | [], [], ρ => some ρ
  | t :: ts, d :: ds, ρ => (asg t d ρ).bind fun ρ' => asgL ts ds ρ'
  | _, _, _ => none
end
mutual
def gOf (K : PySem.W.Frag) : Tg → TG
  | .nm i => gName i
  | .tup ts => gTup K ts.length (gOfL K ts)
def gOfL (K : PySem.W.Frag) : List Tg → TGs
  | [] => gNil
  | t :: ts => gCons (gOf K t) (gOfL K ts)
end
theorem wipe_set {σ : L2.St} {i : Nat} {x : Option V} : ∀ {vs : List Nat}, i ∈ vs → wipe (σ.set i x) vs = wipe σ vs
  | [], h => by simp at h
  | v :: vs, h => by
    unfold wipe
    by_cases hi : i ∈ vs
    · rw [wipe_set hi]
    · have e : i = v := by simpa [hi] using h
      subst e
      have k : ∀ (ws : List Nat), i ∉ ws → wipe (σ.set i x) ws = (wipe σ ws).set i x := by
        intro ws
        induction ws with
        | nil => intro _; rfl
        | cons w ws ih =>
          intro hw
          have h1 : i ≠ w := fun z => hw (by simp [z])
          have h2 : i ∉ ws := fun z => hw (by simp [z])
          unfold wipe
          rw [ih h2, List.set_comm _ _ h1]
      rw [k vs hi, List.set_set]
theorem wipe_wipe {σ : L2.St} (vs : List Nat) : wipe (wipe σ vs) vs = wipe σ vs := by
  have k : ∀ (us : List Nat), (∀ u ∈ us, u ∈ vs) → wipe (wipe σ us) vs = wipe σ vs := by
    intro us
    induction us with
    | nil => intro _; rfl
    | cons u us ih =>
      intro h
      show wipe ((wipe σ us).set u none) vs = _
      rw [wipe_set (h u (by simp)), ih fun x hx => h x (by simp [hx])]
  exact k vs fun _ h => h
section
variable {K : PySem.W.Frag} {as : List Addr} {F : Hp}
mutual
theorem gOf_ok : ∀ {T : Tg} {σ : L2.St} {ρ ρ' : Env} {v : V} {d : D} {H : Hp} {Q : L2.St → Hp → Prop}, Slots K as F σ ρ → Rep K as F v d → Same F H → asg T d ρ = some ρ' →
    (∀ σ', Slots K as F σ' ρ' → (∀ vs, (∀ i ∈ T.slots, i ∈ vs) → wipe σ' vs = wipe σ vs) → Q σ' H) → gOf K T v σ H Q
  | .nm i, σ, ρ, ρ', v, d, H, Q, s, r, _, e, q => by
    simp only [asg, Option.some.injEq] at e
    subst e
    exact q _ (s.set r i) fun vs hv => wipe_set (hv i (by simp [Tg.slots]))
  | .tup ts, σ, ρ, ρ', v, d, H, Q, s, r, hF, e, q => by
    cases d with
    | tup ds =>
      simp only [asg] at e
      split at e
      · rename_i hl
        cases r with
        | tup hq hr =>
          refine ⟨_, _, rfl, same_t hF hq, by rw [hr.length]; exact hl, gOfL_ok s hr hF e fun σ' s' w => q σ' s' fun vs hv => w vs fun i hi => hv i (by simpa [Tg.slots] using hi)⟩
      · cases e
    | _ => simp [asg] at e
theorem gOfL_ok : ∀ {ts : List Tg} {σ : L2.St} {ρ ρ' : Env} {vs : List V} {ds : List D} {H : Hp} {Q : L2.St → Hp → Prop}, Slots K as F σ ρ → RepL K as F vs ds → Same F H → asgL ts ds ρ = some ρ' →
    (∀ σ', Slots K as F σ' ρ' → (∀ ws, (∀ i ∈ Tg.slotsL ts, i ∈ ws) → wipe σ' ws = wipe σ ws) → Q σ' H) → gOfL K ts vs σ H Q
  | [], σ, ρ, ρ', vs, ds, H, Q, s, r, _, e, q => by
    cases ds with
    | nil =>
      cases r
      simp only [asgL, Option.some.injEq] at e
      subst e
      exact ⟨rfl, q σ s fun _ _ => rfl⟩
    | cons d ds => simp [asgL] at e
  | t :: ts, σ, ρ, ρ', vs, ds, H, Q, s, r, hF, e, q => by
    cases ds with
    | nil => simp [asgL] at e
    | cons d ds =>
      cases r with
      | cons r1 r2 =>
        simp only [asgL] at e
        cases e1 : asg t d ρ with
        | none => rw [e1] at e; cases e
        | some ρ1 =>
          rw [e1] at e
          exact ⟨_, _, rfl, gOf_ok s r1 hF e1 fun σ1 s1 w1 => gOfL_ok s1 r2 hF e fun σ2 s2 w2 => q σ2 s2 fun ws hw => by
            rw [w2 ws fun i hi => hw i (by simp [Tg.slotsL, hi]), w1 ws fun i hi => hw i (by simp [Tg.slotsL, hi])]⟩
end
end
abbrev DG (X : Cx) (tg : Expr) (T : Tg) : Prop := PG X tg (gOf X.K T)
abbrev DGs (X : Cx) (es : List Expr) (ts : List Tg) : Prop := PGs X es (gOfL X.K ts)
def sAsg (T : Tg) (m : EM) : SD := fun ρ S => (m ρ S).to ρ fun d S' => match asg T d ρ with
  | some ρ' => .ok .nx ρ' S'
  | none => .stuck

/-! ### what is walked -/
structure ItD where
  nx : Nat → Sto → Option (Option D)
  fu : Nat
abbrev IM := Env → M ItD
def itL (xs : List D) : ItD := ⟨fun i _ => some xs[i]?, xs.length + 1⟩
def itC (n : Nat) (k : Nat) : ItD := ⟨fun i S => match S[n]? with
  | some (some (.lst xs)) => some xs[i]?
  | _ => none, k + 1⟩
def JOk (K : PySem.W.Frag) (as0 : List Addr) (F0 : Hp) (J : It) (it : ItD) : Prop := ∀ (i : Nat) (hd : Hid) (as : List Addr) (S : Sto) (H : Hp), (∀ n a : Nat, as0[n]? = some a → as[n]? = some a) → Same F0 (fz hd as S H) → Wld K hd as S H →
  match it.nx i S with
  | none => True
  | some none => J.stop i H
  | some (some d) => J.go i H ∧ ∀ x H', J.yld i H x H' → Wld K hd as S H' ∧ Grow hd as S H as S H' ∧ Rep K as (fz hd as S H') x d
def tI (K : PySem.W.Frag) (mg : Str → Option Value) (W : WX) (m : IM) : TI := fun σ H Rk => ∃ hd as ρ S, REL K hd as ρ S σ H ∧ Post K mg W σ ρ hd as S H (m ρ S) fun it as' S' H' => ∀ J, JOk K as' (fz hd as' S' H') J it → Rk J H'
abbrev DI (X : Cx) (W : WX) (tg iter : Expr) (m : IM) : Prop := PI X tg iter (tI X.K X.mg W m)
theorem PI.le {X : Cx} {tg iter : Expr} {t t' : TI} (h : PI X tg iter t) (k : ∀ σ H R, t' σ H R → t σ H R) : PI X tg iter t' := ⟨fun pins s σ H R I q => h.run pins s σ H R I (k σ H R q)⟩

/-! ### loops -/
def forLoop (nx : Nat → Sto → Option (Option D)) (T : Tg) (b : SD) : Nat → Nat → SD
  | 0, _, _, _ => .stuck
  | n + 1, i, ρ, S => match nx i S with
    | none => .stuck
    | some none => .ok .nx ρ S
    | some (some d) => match asg T d ρ with
      | none => .stuck
      | some ρ' => match b ρ' S with
        | .ok .nx ρ2 S2 => forLoop nx T b n (i + 1) ρ2 S2
        | .ok .cnt ρ2 S2 => forLoop nx T b n (i + 1) ρ2 S2
        | .ok .brk ρ2 S2 => .ok .nx ρ2 S2
        | r => r
def sFor (im : IM) (T : Tg) (b : SD) : SD := fun ρ S => (im ρ S).to ρ fun it S' => forLoop it.nx T b it.fu 0 ρ S'
def whLoop (c : BM) (b : SD) : Nat → SD
  | 0, _, _ => .stuck
  | n + 1, ρ, S => (c ρ S).to ρ fun k S1 => if k then (match b ρ S1 with
        | .ok .nx ρ2 S2 => whLoop c b n ρ2 S2
        | .ok .cnt ρ2 S2 => whLoop c b n ρ2 S2
        | .ok .brk ρ2 S2 => .ok .nx ρ2 S2
        | r => r) else .ok .nx ρ S1
/-- how often a while goes at most: a number that is never reckoned -/
@[irreducible] def FU : Nat := 2 ^ 100000
def sWhile (c : BM) (b : SD) : SD := fun ρ S => whLoop c b FU ρ S
/-- a comprehension -/
def wipeD (ρ : Env) : List Nat → Env
  | [] => ρ
  | v :: vs => (wipeD ρ vs).set v none
def bYes : BM := fun _ S => .ok true S
def lcLoop (nx : Nat → Sto → Option (Option D)) (T : Tg) (c : BM) (e : EM) (ρ : Env) : Nat → Nat → List D → M (List D)
  | 0, _, _, _ => .stuck
  | n + 1, i, acc, S => match nx i S with
    | none => .stuck
    | some none => .ok acc S
    | some (some d) => match asg T d ρ with
      | none => .stuck
      | some ρ' => (c ρ' S).bind fun k S1 => if k then (e ρ' S1).bind fun y S2 => (if acc.length < sizeLine then lcLoop nx T c e ρ n (i + 1) (acc ++ [y]) S2 else .stuck) else lcLoop nx T c e ρ n (i + 1) acc S1
/-- no error leaves a comprehension -/
def noX {α : Type} : R α → R α
  | .exc _ _ => .stuck
  | r => r
def eLc (im : IM) (T : Tg) (c : BM) (e : EM) (vs : List Nat) : EM := fun ρ => M.bind (im ρ) fun it S => (noX (lcLoop it.nx T c e (wipeD ρ vs) it.fu 0 [] S)).bind fun xs S' => .ok (.lst xs) S'
def eLcC (im : IM) (T : Tg) (c : BM) (e : EM) (vs : List Nat) : EM := fun ρ => M.bind (im ρ) fun it S => (noX (lcLoop it.nx T c e (wipeD ρ vs) it.fu 0 [] S)).bind fun xs S' => .ok (.cell S'.length) (S' ++ [some (.lst xs)])
abbrev WNo : WX := fun _ _ _ _ => False
theorem Slots.wipe {K : PySem.W.Frag} {as : List Addr} {F : Hp} {σ : L2.St} {ρ : Env} (h : Slots K as F σ ρ) : ∀ vs : List Nat, Slots K as F (L2.wipe σ vs) (wipeD ρ vs)
  | [] => h
  | v :: vs => by
    have ih := Slots.wipe h vs
    refine ⟨by show ((L2.wipe σ vs).set v none).length = ((wipeD ρ vs).set v none).length; simp [ih.len], fun i d e => ?_⟩
    have e : ((wipeD ρ vs).set v none)[i]? = some (some d) := e
    show ∃ u, ((L2.wipe σ vs).set v none)[i]? = some (some u) ∧ _
    by_cases hi : v = i
    · subst hi
      by_cases hl : v < (wipeD ρ vs).length
      · rw [List.getElem?_set_self hl] at e; cases e
      · rw [List.getElem?_eq_none (by simpa using Nat.le_of_not_lt hl)] at e; cases e
    · rw [List.getElem?_set_ne hi] at e ⊢
      exact ih.at_ i d e

section
variable {X : Cx} {W : WX} {c e tg iter : Expr} {body rest orelse : List Stmt} {st : Stmt} {me : EM} {mb : BM} {ms mt : SD} {pos : Pos}
theorem dss_nil : DSs X W [] sNx := PSs.le pss_nil fun Dn σ H ⟨hd, as, ρ, S, rel, po⟩ => po as σ H .refl rel
theorem seq_post {K : PySem.W.Frag} {mg : Str → Option Value} {hd : Hid} {as : List Addr} {S : Sto} {H : Hp} {Dn : Ends} {a : RS} {b : SD} (h : PostS K mg W hd as S H Dn (match a with
  | .ok .nx ρ' S' => b ρ' S'
  | r => r)) : PostS K mg W hd as S H { Dn with nx := tS K mg W b Dn } a := by
  match a, h with
  | .ok .nx ρ' S', h => exact fun as' σ' H' g rel => ⟨hd, as', ρ', S', rel, PostS.later (r := b ρ' S') h g⟩
  | .ok (.ret d) ρ' S', h => exact h
  | .ok .brk ρ' S', h => exact h
  | .ok .cnt ρ' S', h => exact h
  | .exc x ρ' S', h => exact h
  | .stuck, h => exact h
theorem dss_cons (h1 : DS X W st ms) (h2 : DSs X W rest mt) : DSs X W (st :: rest) (sSeq ms mt) := PSs.le (pss_cons h1 h2) fun Dn σ H ⟨hd, as, ρ, S, rel, po⟩ => ⟨hd, as, ρ, S, rel, seq_post po⟩
theorem dss_one (h1 : DS X W st ms) : DSs X W [st] ms := pss_one h1
theorem dss_never : DSs X W body sNever := PSs.le pss_never fun Dn σ H ⟨hd, as, ρ, S, rel, po⟩ => po
theorem ds_ret (h : DE X W e me) : DS X W (.Return (some e) pos) (sRet me) := PS.le (ps_ret h) fun Dn σ H ⟨hd, as, ρ, S, rel, po⟩ => tE_to rel po fun as1 S1 H1 v d g rel1 r q => q as1 v H1 .refl rel1.w r
theorem ds_expr (h : DE X W e me) (hs : swapsWith e none pos.line X.env = pure false := by rfl) : DS X W (.Expr e pos) (sExpr me) := PS.le (ps_expr h hs) fun Dn σ H ⟨hd, as, ρ, S, rel, po⟩ => tE_to rel po fun as1 S1 H1 v d g rel1 r q => q as1 σ H1 .refl rel1
theorem ds_if (hc : DT X W c mb) (ha : DSs X W body ms) (hb : DSs X W orelse mt) : DS X W (.If c body orelse pos) (sIf mb ms mt) :=
  PS.le (ps_if hc ha hb) fun Dn σ H ⟨hd, as, ρ, S, rel, po⟩ => tT_to rel po fun as1 S1 H1 b g rel1 q => by
    cases b with
    | true => exact iteT ⟨hd, as1, ρ, S1, rel1, q⟩
    | false => exact iteF ⟨hd, as1, ρ, S1, rel1, q⟩
theorem ds_set (i : Nat) {x : Str} {pos' : Pos} (hN : X.N.Nodup) (h : DE X W e me) (hi : X.N[i]? = some x := by rfl) (hx : Loc X.env.scope x := by first | exact Or.inl rfl | exact Or.inr rfl) (hs : swapsWith e (some (.Name x pos')) pos.line X.env = pure false := by rfl)
    (hf : X.fn x = true ∨ X.env.scope.names.lookup x = some .local := by first | exact .inl rfl | exact .inr rfl | assumption) : DS X W (.Assign [.Name x pos'] e pos) (sSet i me) :=
  PS.le (ps_set hN hi hx h hs hf) fun Dn σ H ⟨hd, as, ρ, S, rel, po⟩ => tE_to rel po fun as1 S1 H1 v d g rel1 r q => q as1 _ H1 .refl ⟨rel1.w, rel1.s.set r i⟩
/-- x = e where CPython stores within a comprehension's frame: given as tAsg -/
theorem ds_setOf {i : Nat} {t : TE} (hp : PS X st (tAsg t (gName i))) (h : ∀ σ H Q, tE X.K X.mg W me σ H Q → t σ H Q) : DS X W st (sSet i me) :=
  PS.le hp fun Dn σ H ⟨hd, as, ρ, S, rel, po⟩ => h σ H _ (tE_to rel po fun as1 S1 H1 v d g rel1 r q => q as1 _ H1 .refl ⟨rel1.w, rel1.s.set r i⟩)
theorem dg_name (i : Nat) {x : Str} (hN : X.N.Nodup) (hi : X.N[i]? = some x := by rfl) (hx : Loc X.env.scope x := by first | exact Or.inl rfl | exact Or.inr rfl) (hf : X.fn x = true ∨ X.env.scope.names.lookup x = some .local := by first | exact .inl rfl | exact .inr rfl | assumption) : DG X (.Name x pos) (.nm i) := pg_name hN hi hx hf
theorem dgs_nil : DGs X [] [] := pgs_nil
theorem dgs_cons {es : List Expr} {t : Tg} {ts : List Tg} (h1 : DG X e t) (h2 : DGs X es ts) (hs : (assignEach (e :: es) X.env).map (·.2) = assign e X.env :: (assignEach es X.env).map (·.2) := by rfl) : DGs X (e :: es) (t :: ts) := pgs_cons h1 h2 hs
end
end DL

set_option Elab.async false
set_option linter.all false
set_option maxRecDepth 100000
/-! DL4: loops, comprehensions, what is walked: the rules. -/
namespace DL
open PySem PySem.Spec PyProof.Rows L2

section
variable {X : Cx} {W : WX} {a b c e tg iter : Expr} {body rest orelse : List Stmt} {st : Stmt} {me ma mb : EM} {mt : BM} {ms : SD} {mr : AM} {im : IM} {T : Tg} {pos : Pos}
theorem ds_asg {es : List Expr} {k : Nat} {tpos : Pos} {ts : List Tg} (h : DE X W e me) (hg : DG X (.Tuple es k tpos) (.tup ts)) (hs : swapsWithSole [.Tuple es k tpos] e pos.line X.env = pure false := by rfl) (hw : swappedStores [.Tuple es k tpos] e X.env = pure none := by rfl)
    (h1 : (assignEach [.Tuple es k tpos] X.env).map (·.2) = [assign (.Tuple es k tpos) X.env] := by rfl) : DS X W (.Assign [.Tuple es k tpos] e pos) (sAsg (.tup ts) me) :=
  PS.le (ps_asg h hg hs hw h1) fun Dn σ H ⟨hd, as, ρ, S, rel, po⟩ => tE_to rel po fun as1 S1 H1 v d g rel1 r q => by
    cases e1 : asg (.tup ts) d ρ with
    | none => rw [e1] at q; exact q.elim
    | some ρ' => rw [e1] at q; exact gOf_ok rel1.s r fz_same e1 fun σ' s' _ => q as1 σ' H1 .refl ⟨rel1.w, s'⟩
theorem dg_tup {es : List Expr} {k : Nat} {ts : List Tg} (hc : X.calm = true) (h : DGs X es ts) (hn : (assignEach es X.env).length = ts.length := by rfl) (hst : (assignEach es X.env).findIdx? (·.1) = none := by rfl) : DG X (.Tuple es k pos) (.tup ts) := pg_tup hc h hn hst
/-- a, b = e, f of two locals -/
def sPar (i j : Nat) (m : AM) : SD := fun ρ S => (m ρ S).to ρ fun ds S1 => match ds with
  | [x, y] => .ok .nx ((ρ.set i (some x)).set j (some y)) S1
  | _ => .stuck
/-- xs[i] = e -/
def sSub (f : D → D → D → Sto → Option Sto) (o i m : EM) : SD := fun ρ S => (m ρ S).to ρ fun v S1 => (o ρ S1).to ρ fun x S2 => (i ρ S2).to ρ fun k S3 => match f x k v S3 with
  | some S4 => .ok .nx ρ S4
  | none => .stuck
def ActSet (K : PySem.W.Frag) (t : TSet) (f : D → D → D → Sto → Option Sto) : Prop := ∀ hd as S H o i v x k d S', Wld K hd as S H → Rep K as (fz hd as S H) o x → Rep K as (fz hd as S H) i k → Rep K as (fz hd as S H) v d → f x k d S = some S' →
  ∀ Q : Hp → Prop, (∀ H', Grow hd as S H as S' H' → Wld K hd as S' H' → Q H') → t o i v H Q
theorem ds_sub {o i : Expr} {mo mi : EM} {t : TSet} {f : D → D → D → Sto → Option Sto} {p2 : Pos} (hset : PSet X t) (act : ActSet X.K t f) (h : DE X W e me) (ho : DE X W o mo) (hi : DE X W i mi)
    (hg : PG X (.Subscript o i p2) (gSub (tE X.K X.mg W mo) (tE X.K X.mg W mi) t)) (hs : swapsWithSole [.Subscript o i p2] e pos.line X.env = pure false := by rfl) (hw : swappedStores [.Subscript o i p2] e X.env = pure none := by rfl)
    (h1 : (assignEach [.Subscript o i p2] X.env).map (·.2) = [assign (.Subscript o i p2) X.env] := by rfl) : DS X W (.Assign [.Subscript o i p2] e pos) (sSub f mo mi me) :=
  PS.le (ps_asg h hg hs hw h1) fun Dn σ H ⟨hd, as, ρ, S, rel, po⟩ => tE_to rel po fun as1 S1 H1 v d g1 rel1 r1 q1 => tE_to rel1 q1 fun as2 S2 H2 u x g2 rel2 r2 q2 => tE_to rel2 q2 fun as3 S3 H3 y k g3 rel3 r3 q3 => by
    cases e1 : f x k d S3 with
    | none => rw [e1] at q3; exact q3.elim
    | some S4 => rw [e1] at q3; exact act hd as3 S3 H3 u y v x k d S4 rel3.w (r2.grow g3) r3 ((r1.grow g2).grow g3) e1 _ fun H' g w => q3 as3 σ H' g (rel3.grow g w)
def setD : D → D → D → Sto → Option Sto
  | .cell n, .int i, d, S => match S[n]? with
    | some (some (.lst xs)) => match ixN xs.length i with
      | some j => some (S.set n (some (.lst (xs.set j d))))
      | none => none
    | _ => none
  | _, _, _, _ => none
theorem act_setD {K : PySem.W.Frag} : ActSet K rSetL setD := by
  intro hd as S H o i v x k d S' w ro ri rv h Q q
  cases ro with
  | cell ho =>
    rename_i n p
    cases ri with
    | int z =>
      simp only [setD] at h
      split at h
      · rename_i xs e
        split at h
        · rename_i j ej
          cases h
          obtain ⟨p', vs, e1, e2, r⟩ := w.at_ n xs e
          rw [ho] at e1; cases e1
          obtain ⟨w', g⟩ := w.write e ho (r.set rv j)
          exact ⟨p, vs, z, j, rfl, rfl, e2, by rw [r.length]; exact ej, q _ g w'⟩
        · cases h
      · cases h
    | _ => simp [setD] at h
  | _ => simp [setD] at h
/-- x op= e of a local -/
def sAug (i : Nat) (f : D → D → M D) (m : EM) : SD := fun ρ S => (eVar i ρ S).to ρ fun x _ => (m ρ S).to ρ fun y S1 => (f x y S1).to ρ fun z S2 => .ok .nx (ρ.set i (some z)) S2
/-! ### for -/
theorem for_body {K : PySem.W.Frag} {mg : Str → Option Value} {hd : Hid} {as : List Addr} {S : Sto} {H : Hp} {Dn : Ends} {r : RS} {k : SD} {N : L2.St → Hp → Prop} (h : PostS K mg W hd as S H Dn (match r with
        | .ok .nx ρ2 S2 => k ρ2 S2
        | .ok .cnt ρ2 S2 => k ρ2 S2
        | .ok .brk ρ2 S2 => .ok .nx ρ2 S2
        | r => r)) (hN : ∀ as' σ' ρ' S' H', Grow hd as S H as' S' H' → REL K hd as' ρ' S' σ' H' → PostS K mg W hd as' S' H' Dn (k ρ' S') → N σ' H') : PostS K mg W hd as S H { Dn with nx := N, ct := N, bk := Dn.nx } r := by
  match r, h with
  | .ok .nx ρ' S', h => exact fun as' σ' H' g rel => hN as' σ' ρ' S' H' g rel (PostS.later (r := k ρ' S') h g)
  | .ok .cnt ρ' S', h => exact fun as' σ' H' g rel => hN as' σ' ρ' S' H' g rel (PostS.later (r := k ρ' S') h g)
  | .ok .brk ρ' S', h => exact h
  | .ok (.ret d) ρ' S', h => exact h
  | .exc x ρ' S', h => exact h
  | .stuck, h => exact h
theorem ds_for (hp : PassesOwn (model X.prog X.w) X.A X.env X.xe) (hc : X.calm = true) (hi : DI X W tg iter im) (hg : DG X tg T) (hb : DSs X W body ms) (hs : ∀ x, foldedSetIterable iter X.env x = pure x := by intro _; rfl) : DS X W (.For tg iter body [] pos) (sFor im T ms) :=
  PS.le (ps_for hp hc hi hg hb hs) fun Dn σ H ⟨hd, as, ρ, S, rel, po⟩ => by
    refine ⟨hd, as, ρ, S, rel, (po.toE rel).imp fun it as1 S1 H1 g1 rel1 po1 J hJ => ?_⟩
    refine ⟨fun i m σ H => ∃ as ρ S, REL X.K hd as ρ S σ H ∧ Grow hd as1 S1 H1 as S H ∧ PostS X.K X.mg W hd as S H Dn (forLoop it.nx T ms m i ρ S), ⟨it.fu, as1, ρ, S1, rel1, .refl, po1⟩, ?_⟩
    rintro i m σ2 H2 ⟨as2, ρ2, S2, rel2, g2, po2⟩
    cases m with
    | zero => exact po2.elim
    | succ n =>
      have hj := hJ i hd as2 S2 H2 g2.pre g2.same rel2.w
      unfold forLoop at po2
      cases en : it.nx i S2 with
      | none => rw [en] at po2; exact po2.elim
      | some o =>
        rw [en] at po2 hj
        cases o with
        | none => exact .inl ⟨hj, po2 as2 σ2 H2 .refl rel2⟩
        | some d =>
          refine .inr ⟨hj.1, fun σ' H' => ∃ as ρ S, REL X.K hd as ρ S σ' H' ∧ Grow hd as1 S1 H1 as S H' ∧ PostS X.K X.mg W hd as S H' Dn (forLoop it.nx T ms n (i + 1) ρ S), fun σ' H' h => ⟨n, Nat.lt_succ_self n, h⟩, fun x H' hy => ?_⟩
          obtain ⟨w', g', r'⟩ := hj.2 x H' hy
          dsimp only at po2
          cases ea : asg T d ρ2 with
          | none => rw [ea] at po2; exact po2.elim
          | some ρ' =>
            rw [ea] at po2
            dsimp only at po2
            refine gOf_ok ((rel2.grow g' w').s) r' fz_same ea fun σ' s' _ => ?_
            refine ⟨hd, as2, ρ', S2, ⟨w', s'⟩, for_body (k := fun ρ2 S2 => forLoop it.nx T ms n (i + 1) ρ2 S2) (PostS.later po2 g') fun as3 σ3 ρ3 S3 H3 g3 rel3 po3 => ?_⟩
            exact ⟨as3, ρ3, S3, rel3, (g2.trans g').trans g3, po3⟩
theorem ds_while (hp : PassesOwn (model X.prog X.w) X.A X.env X.xe) (hc : DT X W c mt) (hb : DSs X W body ms) : DS X W (.While c body [] pos) (sWhile mt ms) :=
  PS.le (ps_while hp hc hb) fun Dn σ H ⟨hd, as, ρ, S, rel, po⟩ => by
    unfold sWhile at po
    generalize FU = fu at po
    refine ⟨fun m σ H => ∃ as ρ S, REL X.K hd as ρ S σ H ∧ PostS X.K X.mg W hd as S H Dn (whLoop mt ms m ρ S), ⟨fu, as, ρ, S, rel, po⟩, ?_⟩
    rintro m σ2 H2 ⟨as2, ρ2, S2, rel2, po2⟩
    cases m with
    | zero => exact po2.elim
    | succ n =>
      refine tT_to (Dn := Dn) rel2 (k := fun k S1 => if k then (match ms ρ2 S1 with
        | .ok .nx ρ2 S2 => whLoop mt ms n ρ2 S2
        | .ok .cnt ρ2 S2 => whLoop mt ms n ρ2 S2
        | .ok .brk ρ2 S2 => .ok .nx ρ2 S2
        | r => r) else .ok .nx ρ2 S1) (by unfold whLoop at po2; exact po2) fun as3 S3 H3 b g3 rel3 po3 => ?_
      cases b with
      | false => exact iteF (po3 as3 σ2 H3 .refl rel3)
      | true =>
        refine iteT ⟨fun σ' H' => ∃ as ρ S, REL X.K hd as ρ S σ' H' ∧ PostS X.K X.mg W hd as S H' Dn (whLoop mt ms n ρ S), fun σ' H' h => ⟨n, Nat.lt_succ_self n, h⟩, ?_⟩
        exact ⟨hd, as3, ρ2, S3, rel3, for_body (k := fun ρ S => whLoop mt ms n ρ S) po3 fun as4 σ4 ρ4 S4 H4 g4 rel4 po4 => ⟨as4, ρ4, S4, rel4, po4⟩⟩
end
end DL

set_option Elab.async false
set_option linter.all false
set_option maxRecDepth 100000
/-! DL5: comprehensions; what is walked. -/
namespace DL
open PySem PySem.Spec PyProof.Rows L2

/-! ### hidden lists -/
section
variable {K : PySem.W.Frag} {hd : Hid} {as : List Addr} {S : Sto} {H : Hp} {Dl : Addr} {o o' : HO}
theorem fz_hide (hn : H Dl = none) : fz ((Dl, o) :: hd) as S (upd H Dl o) = fz hd as S H := by
  funext b
  unfold fz
  by_cases hb : b = Dl
  · subst hb
    rw [if_pos (.inr (by simp))]
    split
    · rfl
    · exact hn.symm
  · by_cases h : b ∈ live as S ∨ b ∈ hd.map (·.1)
    · rw [if_pos h, if_pos (h.elim .inl fun z => .inr (List.mem_cons_of_mem _ z))]
    · rw [if_neg h, if_neg (fun z => h (z.elim .inl fun z => .inr ((List.mem_cons.mp z).elim (fun e => absurd e hb) id))), upd_ne hb]
theorem Wld.hide (w : Wld K hd as S H) (hn : H Dl = none) : Wld K ((Dl, o) :: hd) as S (upd H Dl o) := by
  refine ⟨w.len, w.inj, fun q hq => ?_, fun n xs e => ?_⟩
  · rcases List.mem_cons.mp hq with rfl | hq
    · exact ⟨upd_same, w.new_live hn⟩
    · exact ⟨by rw [upd_ne (fun z => by have := (w.hid q hq).1; rw [z, hn] at this; cases this)]; exact (w.hid q hq).1, (w.hid q hq).2⟩
  · obtain ⟨a, vs, e1, e2, r⟩ := w.atC n xs e
    exact ⟨a, vs, e1, by rw [upd_ne (fun z => by rw [z, hn] at e2; cases e2)]; exact e2, by rw [fz_hide hn]; exact r⟩
theorem fz_rewrite : fz ((Dl, o') :: hd) as S (upd H Dl o') = fz ((Dl, o) :: hd) as S H := by
  funext b
  unfold fz
  by_cases hb : b = Dl
  · subst hb
    rw [if_pos (.inr (by simp)), if_pos (.inr (by simp))]
  · by_cases h : b ∈ live as S ∨ b ∈ ((Dl, o) :: hd).map (·.1)
    · rw [if_pos h, if_pos (h.elim .inl fun z => .inr (by simpa using z))]
    · rw [if_neg h, if_neg (fun z => h (z.elim .inl fun z => .inr (by simpa using z))), upd_ne hb]
theorem Wld.rewrite (w : Wld K ((Dl, o) :: hd) as S H) (nd : Dl ∉ hd.map (·.1)) : Wld K ((Dl, o') :: hd) as S (upd H Dl o') := by
  have h0 := w.hid (Dl, o) (by simp)
  refine ⟨w.len, w.inj, fun q hq => ?_, fun n xs e => ?_⟩
  · rcases List.mem_cons.mp hq with rfl | hq
    · exact ⟨upd_same, h0.2⟩
    · have k := w.hid q (List.mem_cons_of_mem _ hq)
      exact ⟨by rw [upd_ne (fun z => nd (List.mem_map.mpr ⟨q, hq, z⟩))]; exact k.1, k.2⟩
  · obtain ⟨a, vs, e1, e2, r⟩ := w.atC n xs e
    have la : a ∈ live as S := mem_live.mpr ⟨n, _, e1, e⟩
    exact ⟨a, vs, e1, by rw [upd_ne (fun z => h0.2 (by rw [← z]; exact la))]; exact e2, by rw [fz_rewrite (o := o)]; exact r⟩
theorem fz_show (nh : Dl ∉ hd.map (·.1)) : Same (fz ((Dl, o) :: hd) as S H) (fz hd as S H) := fun b u e =>
  fz_of (fz_same _ _ e) (fz_not e) fun z => fz_nh e (List.mem_cons_of_mem _ z)
theorem Wld.show_ (w : Wld K ((Dl, o) :: hd) as S H) (nh : Dl ∉ hd.map (·.1)) : Wld K hd as S H ∧ fz hd as S H Dl = some o := by
  refine ⟨⟨w.len, w.inj, fun q hq => w.hid q (List.mem_cons_of_mem _ hq), fun n xs e => ?_⟩, fz_of (w.hid (Dl, o) (by simp)).1 (w.hid (Dl, o) (by simp)).2 nh⟩
  obtain ⟨a, vs, e1, e2, r⟩ := w.atC n xs e
  exact ⟨a, vs, e1, e2, r.mono (fun _ _ h => h) (fz_show nh)⟩
theorem live_app {c : CO} (hl : as.length = S.length) {b : Addr} : b ∈ live (as ++ [Dl]) (S ++ [some c]) ↔ b ∈ live as S ∨ b = Dl := by
  rw [mem_live, mem_live]
  constructor
  · rintro ⟨n, d, h1, h2⟩
    by_cases hn : n < S.length
    · rw [List.getElem?_append_left hn] at h2
      rw [List.getElem?_append_left (by omega)] at h1
      exact .inl ⟨n, d, h1, h2⟩
    · rw [List.getElem?_append_right (by omega)] at h1
      have : n - as.length = 0 := by
        have := (List.getElem?_eq_some_iff.mp h1).1
        simp at this; omega
      rw [this] at h1
      simp at h1
      exact .inr h1.symm
  · rintro (⟨n, d, h1, h2⟩ | rfl)
    · exact ⟨n, d, by rw [List.getElem?_append_left (List.getElem?_eq_some_iff.mp h1).1]; exact h1, by rw [List.getElem?_append_left (List.getElem?_eq_some_iff.mp h2).1]; exact h2⟩
    · exact ⟨S.length, c, by rw [← hl]; simp, by simp⟩
/-- what was hidden becomes a cell -/
theorem Wld.celled {vF : List V} {acc : List D} (w : Wld K ((Dl, .lst vF) :: hd) as S H) (nh : Dl ∉ hd.map (·.1)) (r : RepL K as (fz ((Dl, .lst vF) :: hd) as S H) vF acc) :
    Wld K hd (as ++ [Dl]) (S ++ [some (.lst acc)]) H ∧ fz hd (as ++ [Dl]) (S ++ [some (.lst acc)]) H = fz ((Dl, .lst vF) :: hd) as S H ∧ (as ++ [Dl])[S.length]? = some Dl := by
  have h0 := w.hid (Dl, .lst vF) (by simp)
  have hf : fz hd (as ++ [Dl]) (S ++ [some (.lst acc)]) H = fz ((Dl, .lst vF) :: hd) as S H := by
    funext b
    unfold fz
    by_cases h : b ∈ live as S ∨ b ∈ ((Dl, .lst vF) :: hd).map (·.1)
    · rw [if_pos h, if_pos]
      rw [live_app w.len]
      rcases h with h | h
      · exact .inl (.inl h)
      · rcases List.mem_cons.mp h with e | h
        · exact .inl (.inr e)
        · exact .inr h
    · rw [if_neg h, if_neg]
      rw [live_app w.len]
      rintro ((z | z) | z)
      · exact h (.inl z)
      · exact h (.inr (by simp [z]))
      · exact h (.inr (List.mem_cons_of_mem _ z))
  have hlast : (as ++ [Dl])[S.length]? = some Dl := by rw [← w.len]; simp
  have split : ∀ {n : Nat} {c : CO} {a : Addr}, (S ++ [some (CO.lst acc)])[n]? = some (some c) → (as ++ [Dl])[n]? = some a → (S[n]? = some (some c) ∧ as[n]? = some a) ∨ (n = S.length ∧ c = .lst acc ∧ a = Dl) := fun {n c a} e1 e2 => by
    by_cases hn : n < S.length
    · rw [List.getElem?_append_left hn] at e1
      rw [List.getElem?_append_left (by rw [w.len]; exact hn)] at e2
      exact .inl ⟨e1, e2⟩
    · have hz : n = S.length := by
        have := (List.getElem?_eq_some_iff.mp e1).1
        simp at this; omega
      subst hz
      rw [hlast] at e2
      simp at e1 e2
      exact .inr ⟨rfl, e1.symm, e2.symm⟩
  refine ⟨⟨by simp [w.len], fun i j a c c' h1 h2 h3 h4 => ?_, fun q hq => ⟨(w.hid q (List.mem_cons_of_mem _ hq)).1, fun z => ?_⟩, fun n xs e => ?_⟩, hf, hlast⟩
  · rcases split h3 h1 with ⟨g3, g1⟩ | ⟨rfl, _, rfl⟩ <;> rcases split h4 h2 with ⟨g4, g2⟩ | ⟨rfl, _, e2⟩
    · exact w.inj i j a c c' g1 g2 g3 g4
    · subst e2
      exact absurd (mem_live.mpr ⟨i, c, g1, g3⟩) h0.2
    · exact absurd (mem_live.mpr ⟨j, c', g2, g4⟩) h0.2
    · rfl
  · rcases (live_app w.len).mp z with z | z
    · exact (w.hid q (List.mem_cons_of_mem _ hq)).2 z
    · exact nh (List.mem_map.mpr ⟨q, hq, z⟩)
  · have ha : ∃ a, (as ++ [Dl])[n]? = some a := by
      have : n < (as ++ [Dl]).length := by
        have := (List.getElem?_eq_some_iff.mp e).1
        simp at this; simp [w.len]; omega
      exact ⟨_, List.getElem?_eq_getElem this⟩
    obtain ⟨a, ea⟩ := ha
    have pre : ∀ n a : Nat, as[n]? = some a → (as ++ [Dl])[n]? = some a := fun n a h => by rw [List.getElem?_append_left (List.getElem?_eq_some_iff.mp h).1]; exact h
    rcases split e ea with ⟨g1, g2⟩ | ⟨rfl, e1, rfl⟩
    · obtain ⟨b, vs, e1, e2, r'⟩ := w.atC n xs g1
      exact ⟨b, vs, pre _ _ e1, e2, by rw [hf]; exact r'.mono pre (Same.refl _)⟩
    · cases e1
      exact ⟨a, _, hlast, h0.1, by rw [hf]; exact CRep.mono (c := .lst acc) (o := .lst vF) pre (Same.refl _) r⟩
end
abbrev DTs (X : Cx) (ifs : List Expr) (m : BM) : Prop := PTs X ifs (tT X.K X.mg WNo m)
theorem PTs.le {X : Cx} {ifs : List Expr} {t t' : TT} (h : PTs X ifs t) (k : ∀ σ H Q, t' σ H Q → t σ H Q) : PTs X ifs t' := ⟨fun pins s σ H Q I q => h.run pins s σ H Q I (k σ H Q q)⟩
theorem dts_nil {X : Cx} : DTs X [] bYes := PTs.le pts_nil fun σ H Q ⟨hd, as, ρ, S, rel, po⟩ => po as H .refl rel
/-- the loop of a comprehension: from its start to its end -/
theorem lc_turns {K : PySem.W.Frag} {mg : Str → Option Value} {hd : Hid} {as1 : List Addr} {ρ : Env} {S1 : Sto} {σ : L2.St} {H1 : Hp} {J : It} {it : ItD} {T : Tg} {mt : BM} {me : EM} {vs : List Nat} {Dl : Addr} {Q : VK} {accF : List D} {SF : Sto}
    (rel1 : REL K hd as1 ρ S1 σ H1) (hJ : JOk K as1 (fz hd as1 S1 H1) J it) (hv : ∀ i ∈ T.slots, i ∈ vs) (hD : H1 Dl = none) (hl : lcLoop it.nx T mt me (wipeD ρ vs) it.fu 0 [] S1 = .ok accF SF)
    (hQ : ∀ as' H' vF, (∀ n a : Nat, as1[n]? = some a → as'[n]? = some a) → Same (fz hd as1 S1 H1) (fz ((Dl, .lst vF) :: hd) as' SF H') → Wld K ((Dl, .lst vF) :: hd) as' SF H' → RepL K as' (fz ((Dl, .lst vF) :: hd) as' SF H') vF accF → Q (.ref Dl) H') :
    ∃ W : Nat → Nat → Hp → Prop, (∃ m, W 0 m (upd H1 Dl (.lst []))) ∧ ∀ i m H, W i m H →
      (J.stop i H ∧ Q (.ref Dl) H) ∨ (J.go i H ∧ ∃ Nx : Hp → Prop, (∀ H', Nx H' → ∃ m', m' < m ∧ W (i + 1) m' H') ∧ ∀ x H', J.yld i H x H' → gOf K T x (wipe σ vs) H' fun σ2 H2 => wipe σ2 vs = wipe σ vs ∧ tT K mg WNo mt σ2 H2 fun b H3 =>
        if b = true then tE K mg WNo me σ2 H3 fun y H4 => ∃ acc, H4 Dl = some (.lst acc) ∧ acc.length < sizeLine ∧ Nx (upd H4 Dl (.lst (acc ++ [y]))) else Nx H3) := by
  have nh : Dl ∉ hd.map (·.1) := rel1.w.hid_ne hD
  -- the state at a turn
  refine ⟨fun i m H => ∃ as S acc vacc, REL K ((Dl, .lst vacc) :: hd) as (wipeD ρ vs) S (wipe σ vs) H ∧ (∀ n a : Nat, as1[n]? = some a → as[n]? = some a) ∧ Same (fz hd as1 S1 H1) (fz ((Dl, .lst vacc) :: hd) as S H) ∧
    RepL K as (fz ((Dl, .lst vacc) :: hd) as S H) vacc acc ∧ lcLoop it.nx T mt me (wipeD ρ vs) m i acc S = .ok accF SF, ⟨it.fu, as1, S1, [], [], ⟨rel1.w.hide hD, by rw [fz_hide hD]; exact rel1.s.wipe vs⟩, fun _ _ h => h, by rw [fz_hide hD]; exact Same.refl _, .nil, hl⟩, ?_⟩
  rintro i m H ⟨as, S, acc, vacc, rel, pre, sm, racc, el⟩
  cases m with
  | zero => cases el
  | succ n =>
    have hj := hJ i _ as S H pre sm rel.w
    unfold lcLoop at el
    cases en : it.nx i S with
    | none => rw [en] at el; cases el
    | some od =>
      rw [en] at el hj
      cases od with
      | none =>
        cases el
        exact .inl ⟨hj, hQ as H vacc pre sm rel.w racc⟩
      | some d =>
        refine .inr ⟨hj.1, fun H' => ∃ as S acc vacc, REL K ((Dl, .lst vacc) :: hd) as (wipeD ρ vs) S (wipe σ vs) H' ∧ (∀ n a : Nat, as1[n]? = some a → as[n]? = some a) ∧ Same (fz hd as1 S1 H1) (fz ((Dl, .lst vacc) :: hd) as S H') ∧
          RepL K as (fz ((Dl, .lst vacc) :: hd) as S H') vacc acc ∧ lcLoop it.nx T mt me (wipeD ρ vs) n (i + 1) acc S = .ok accF SF, fun H' h => ⟨n, Nat.lt_succ_self n, h⟩, fun x H' hy => ?_⟩
        obtain ⟨w', g', r'⟩ := hj.2 x H' hy
        dsimp only at el
        cases ea : asg T d (wipeD ρ vs) with
        | none => rw [ea] at el; cases el
        | some ρ' =>
          rw [ea] at el
          dsimp only at el
          have relY := rel.grow g' w'
          refine gOf_ok relY.s r' fz_same ea fun σ2 s2 hw => ⟨by rw [hw vs hv, wipe_wipe], ?_⟩
          refine ⟨_, as, ρ', S, ⟨w', s2⟩, ?_⟩
          cases ec : mt ρ' S with
          | exc z S2 => rw [ec] at el; cases el
          | stuck => rw [ec] at el; cases el
          | ok b S2 =>
            rw [ec] at el
            intro as3 H3 g3 rel3
            have gg := g'.trans g3
            cases b with
            | false =>
              refine iteF ⟨as3, S2, acc, vacc, rel.grow gg rel3.w, fun n a h => gg.pre n a (pre n a h), sm.trans gg.same, racc.grow gg, ?_⟩
              simpa using el
            | true =>
              refine iteT ⟨_, as3, ρ', S2, rel3, ?_⟩
              have el : (me ρ' S2).bind (fun y S2 => (if acc.length < sizeLine then lcLoop it.nx T mt me (wipeD ρ vs) n (i + 1) (acc ++ [y]) S2 else .stuck)) = .ok accF SF := by simpa using el
              cases ee : me ρ' S2 with
              | exc z S4 => rw [ee] at el; cases el
              | stuck => rw [ee] at el; cases el
              | ok y S4 =>
                rw [ee] at el
                intro as4 H4 g4 rel4 v rv
                have el : (if acc.length < sizeLine then lcLoop it.nx T mt me (wipeD ρ vs) n (i + 1) (acc ++ [y]) S4 else .stuck) = .ok accF SF := el
                split at el
                · rename_i hz
                  have g5 := gg.trans g4
                  have hh := rel4.w.hid (Dl, .lst vacc) (by simp)
                  refine ⟨vacc, hh.1, by rw [racc.length]; exact hz, as4, S4, acc ++ [y], vacc ++ [v], ⟨rel4.w.rewrite nh, ?_⟩, fun n a h => g5.pre n a (pre n a h), ?_, ?_, el⟩
                  · rw [fz_rewrite (o := .lst vacc)]
                    exact (rel.grow g5 rel4.w).s
                  · rw [fz_rewrite (o := .lst vacc)]
                    exact sm.trans g5.same
                  · rw [fz_rewrite (o := .lst vacc)]
                    exact (racc.grow g5).append (.cons rv .nil)
                · cases el

section
variable {X : Cx} {W : WX} {elt tg iter : Expr} {ifs : List Expr} {scope : Scope} {own : List (Str × Nat)} {pos spos : Pos} {im : IM} {T : Tg} {mt : BM} {me : EM}
/-- the contexts in which a comprehension's block is run -/
abbrev InBlk (X : Cx) (scope : Scope) (P : Cx → Prop) : Prop := ∀ (s : Shared) (H : Hp) (C : Addr) (cl : List (Str × Addr)) (fp : List Addr), P (X.blk s H scope (compEnvC scope cl C X.env) fp)
theorem lc_le {K : PySem.W.Frag} {mg : Str → Option Value} (hv : ∀ i ∈ T.slots, i ∈ own.map (·.2)) {σ : L2.St} {H : Hp} {Q : VK} (h : tE K mg W (eLc im T mt me (own.map (·.2))) σ H Q) : tLc (tI K mg W im) (gOf K T) (tT K mg WNo mt) (tE K mg WNo me) (own.map (·.2)) σ H Q := by
  obtain ⟨hd, as, ρ, S, rel, po⟩ := h
  refine ⟨hd, as, ρ, S, rel, po.bind.imp fun it as1 S1 H1 g1 rel1 po1 J hJ Dl hD => ?_⟩
  cases el : lcLoop it.nx T mt me (wipeD ρ (own.map (·.2))) it.fu 0 [] S1 with
  | exc z S2 => simp only [el, noX, R.bind_stuck] at po1; exact po1.elim
  | stuck => simp only [el, noX, R.bind_stuck] at po1; exact po1.elim
  | ok accF SF =>
    simp only [el, noX, R.bind_ok] at po1
    have nh := rel1.w.hid_ne hD
    refine lc_turns rel1 hJ hv hD el fun as' H' vF pre sm w r => ?_
    obtain ⟨w', e'⟩ := w.show_ nh
    have g : Grow hd as1 S1 H1 as' SF H' := ⟨pre, sm.trans (fz_show nh)⟩
    exact po1 as' H' g (rel1.grow g w') _ (.lst e' (r.mono (fun _ _ h => h) (fz_show nh)))
theorem lcC_le {K : PySem.W.Frag} {mg : Str → Option Value} (hv : ∀ i ∈ T.slots, i ∈ own.map (·.2)) {σ : L2.St} {H : Hp} {Q : VK} (h : tE K mg W (eLcC im T mt me (own.map (·.2))) σ H Q) : tLc (tI K mg W im) (gOf K T) (tT K mg WNo mt) (tE K mg WNo me) (own.map (·.2)) σ H Q := by
  obtain ⟨hd, as, ρ, S, rel, po⟩ := h
  refine ⟨hd, as, ρ, S, rel, po.bind.imp fun it as1 S1 H1 g1 rel1 po1 J hJ Dl hD => ?_⟩
  cases el : lcLoop it.nx T mt me (wipeD ρ (own.map (·.2))) it.fu 0 [] S1 with
  | exc z S2 => simp only [el, noX, R.bind_stuck] at po1; exact po1.elim
  | stuck => simp only [el, noX, R.bind_stuck] at po1; exact po1.elim
  | ok accF SF =>
    simp only [el, noX, R.bind_ok] at po1
    have nh := rel1.w.hid_ne hD
    refine lc_turns rel1 hJ hv hD el fun as' H' vF pre sm w r => ?_
    obtain ⟨w', e', el'⟩ := w.celled nh r
    have g : Grow hd as1 S1 H1 (as' ++ [Dl]) (SF ++ [some (.lst accF)]) H' := ⟨fun n a h => by rw [List.getElem?_append_left (List.getElem?_eq_some_iff.mp (pre n a h)).1]; exact pre n a h, by rw [e']; exact sm⟩
    exact po1 _ H' g (rel1.grow g w') _ (.cell el')
theorem de_lc (own : List (Str × Nat)) (hc : X.calm = true) (hN : X.N.Nodup) (hi : DI X W tg iter im) (ok : BlkOk X.N X.env.scope scope own) (hg : InBlk X scope fun Y => DG Y tg T) (ht : InBlk X scope fun Y => DTs Y ifs mt) (he : InBlk X scope fun Y => DE Y WNo elt me)
    (hv : ∀ i ∈ T.slots, i ∈ own.map (·.2) := by decide) (hs : ∀ x, foldedSetIterable iter X.env x = pure x := by intro _; rfl) : DE X W (.ListComp elt [⟨tg, iter, ifs, 0⟩] scope pos) (eLc im T mt me (own.map (·.2))) :=
  PE.le (pe_lc hc hN hi ok hg ht he hs) fun σ H Q h => lc_le hv h
theorem de_lcC (own : List (Str × Nat)) (hc : X.calm = true) (hN : X.N.Nodup) (hi : DI X W tg iter im) (ok : BlkOk X.N X.env.scope scope own) (hg : InBlk X scope fun Y => DG Y tg T) (ht : InBlk X scope fun Y => DTs Y ifs mt) (he : InBlk X scope fun Y => DE Y WNo elt me)
    (hv : ∀ i ∈ T.slots, i ∈ own.map (·.2) := by decide) (hs : ∀ x, foldedSetIterable iter X.env x = pure x := by intro _; rfl) : DE X W (.ListComp elt [⟨tg, iter, ifs, 0⟩] scope pos) (eLcC im T mt me (own.map (·.2))) :=
  PE.le (pe_lc hc hN hi ok hg ht he hs) fun σ H Q h => lcC_le hv h
/-- y = [..] alone on a row, y a local -/
theorem ds_setLc (i : Nat) {y : Str} {py : Pos} (own : List (Str × Nat)) (hc : X.calm = true) (hN : X.N.Nodup) (hi : DI X W tg iter im) (ok : BlkOk X.N X.env.scope scope own) (hg : InBlk X scope fun Y => DG Y tg T) (ht : InBlk X scope fun Y => DTs Y ifs mt) (he : InBlk X scope fun Y => DE Y WNo elt me)
    (hy : X.N[i]? = some y := by rfl) (hyl : X.env.scope.names.lookup y = some .local := by rfl) (hsw : swapsWith (.ListComp elt [⟨tg, iter, ifs, 0⟩] scope pos) (some (.Name y py)) spos.line X.env = pure true := by exact sw_true rfl rfl rfl (by decide +kernel))
    (hv : ∀ i ∈ T.slots, i ∈ own.map (·.2) := by decide) (hs : ∀ x, foldedSetIterable iter X.env x = pure x := by intro _; rfl) :
    DS X W (.Assign [.Name y py] (.ListComp elt [⟨tg, iter, ifs, 0⟩] scope pos) spos) (sSet i (eLc im T mt me (own.map (·.2)))) := ds_setOf (ps_setLc hc hN hy hyl hsw hi ok hg ht he hs) fun σ H Q h => lc_le hv h
theorem ds_setLcC (i : Nat) {y : Str} {py : Pos} (own : List (Str × Nat)) (hc : X.calm = true) (hN : X.N.Nodup) (hi : DI X W tg iter im) (ok : BlkOk X.N X.env.scope scope own) (hg : InBlk X scope fun Y => DG Y tg T) (ht : InBlk X scope fun Y => DTs Y ifs mt) (he : InBlk X scope fun Y => DE Y WNo elt me)
    (hy : X.N[i]? = some y := by rfl) (hyl : X.env.scope.names.lookup y = some .local := by rfl) (hsw : swapsWith (.ListComp elt [⟨tg, iter, ifs, 0⟩] scope pos) (some (.Name y py)) spos.line X.env = pure true := by exact sw_true rfl rfl rfl (by decide +kernel))
    (hv : ∀ i ∈ T.slots, i ∈ own.map (·.2) := by decide) (hs : ∀ x, foldedSetIterable iter X.env x = pure x := by intro _; rfl) :
    DS X W (.Assign [.Name y py] (.ListComp elt [⟨tg, iter, ifs, 0⟩] scope pos) spos) (sSet i (eLcC im T mt me (own.map (·.2)))) := ds_setOf (ps_setLc hc hN hy hyl hsw hi ok hg ht he hs) fun σ H Q h => lcC_le hv h
end

/-! ### what is walked -/
def frozenL : D → Option (List D)
  | .lst xs => some xs
  | .ro xs => some xs
  | _ => none
def mItL (d : D) : M ItD := match d with
  | .lst xs => fun S => .ok (itL xs) S
  | .ro xs => fun S => .ok (itL xs) S
  | .cell n => fun S => match S[n]? with
    | some (some (.lst xs)) => .ok (itC n xs.length) S
    | _ => .stuck
  | _ => fun _ => .stuck
def mItT (d : D) : M ItD := match d with
  | .tup xs => fun S => .ok (itL xs) S
  | _ => fun _ => .stuck
def mItR1 : List D → M ItD
  | [.int j] => fun S => if -(2 ^ 62) ≤ j ∧ j < 2 ^ 62 then .ok (itL ((List.range j.toNat).map fun i : Nat => D.int i)) S else .stuck
  | _ => fun _ => .stuck
def mItR2 : List D → M ItD
  | [.int i, .int j] => fun S => if -(2 ^ 62) ≤ i ∧ i < 2 ^ 62 ∧ -(2 ^ 62) ≤ j ∧ j < 2 ^ 62 then .ok (itL ((List.range (j - i).toNat).map fun k : Nat => D.int (i + k))) S else .stuck
  | _ => fun _ => .stuck
def zipD : List D → List D → List D
  | x :: xs, y :: ys => .tup [x, y] :: zipD xs ys
  | _, _ => []
def enumD (xs : List D) : List D := (xs.zipIdx).map fun p => .tup [.int p.2, p.1]
def itZ (d e : D) (k : Nat) : ItD := ⟨fun i S => match listOf S d, listOf S e with
  | some xs, some ys => some ((zipD xs ys)[i]?)
  | _, _ => none, k + 1⟩
def itE (d : D) (k : Nat) : ItD := ⟨fun i S => match listOf S d with
  | some xs => some ((enumD xs)[i]?)
  | _ => none, k + 1⟩
def mItZ : List D → M ItD
  | [d, e] => fun S => match frozenL d, frozenL e with
    | some xs, some ys => .ok (itL (zipD xs ys)) S
    | _, _ => match listOf S d, listOf S e with
      | some xs, some ys => .ok (itZ d e (zipD xs ys).length) S
      | _, _ => .stuck
  | _ => fun _ => .stuck
def mItE : List D → M ItD
  | [d] => fun S => match frozenL d with
    | some xs => .ok (itL (enumD xs)) S
    | _ => match listOf S d with
      | some xs => .ok (itE d (enumD xs).length) S
      | _ => .stuck
  | _ => fun _ => .stuck
def imOf (f : D → M ItD) (m : EM) : IM := fun ρ => M.bind (m ρ) f
def imOfA (f : List D → M ItD) (m : AM) : IM := fun ρ => M.bind (m ρ) f
theorem enumD_get (xs : List D) (i : Nat) : (enumD xs)[i]? = xs[i]?.map fun x => .tup [.int i, x] := by
  unfold enumD
  rw [List.getElem?_map, List.getElem?_zipIdx]
  cases xs[i]? <;> simp
section
variable {K : PySem.W.Frag} {hd : Hid} {as : List Addr} {S : Sto} {H : Hp} {a b : Addr} {d e : D}
theorem jok_list (ra : Rep K as (fz hd as S H) (.ref a) d) (f : ItD) (hf : ∀ i S' hd' as' H', Wld K hd' as' S' H' → (∀ n x : Nat, as[n]? = some x → as'[n]? = some x) → ∀ o, f.nx i S' = some o → ∃ xs, listOf S' d = some xs ∧ o = xs[i]?) : JOk K as (fz hd as S H) (Itl K a) f := by
  intro i hd' as' S' H' pre sm w
  cases en : f.nx i S' with
  | none => trivial
  | some o =>
    obtain ⟨xs, e1, e2⟩ := hf i S' hd' as' H' w pre o en
    obtain ⟨a', vs, e3, hq, r⟩ := seqL w (ra.mono pre sm) e1
    cases e3
    cases o with
    | none =>
      refine ⟨vs, hq, ?_⟩
      rw [r.length]
      exact List.getElem?_eq_none_iff.mp e2.symm
    | some x =>
      obtain ⟨v, ev, rv⟩ := r.get e2.symm
      refine ⟨⟨vs, v, hq, ev⟩, fun y H2 hy => ?_⟩
      obtain ⟨rfl, hy⟩ := hy
      have := hy vs hq
      rw [ev] at this; cases this
      exact ⟨w, .refl, rv⟩
theorem jok_rng {lo : Int} {n : Nat} : JOk K as (fz hd as S H) (Itr lo n) (itL ((List.range n).map fun i : Nat => D.int (lo + i))) := by
  intro i hd' as' S' H' pre sm w
  show match some ((List.range n).map fun i : Nat => D.int (lo + i))[i]? with
    | none => True
    | some none => _
    | some (some d) => _
  rw [List.getElem?_map]
  by_cases hi : i < n
  · rw [List.getElem?_range hi]
    refine ⟨hi, fun y H2 hy => ?_⟩
    obtain ⟨rfl, rfl⟩ := hy
    exact ⟨w, .refl, .int _⟩
  · rw [List.getElem?_eq_none (by simpa using hi)]
    exact Nat.le_of_not_lt hi
theorem jok_enum (ra : Rep K as (fz hd as S H) (.ref a) d) (f : ItD) (hf : ∀ i S' hd' as' H', Wld K hd' as' S' H' → (∀ n x : Nat, as[n]? = some x → as'[n]? = some x) → ∀ o, f.nx i S' = some o → ∃ xs, listOf S' d = some xs ∧ o = (enumD xs)[i]?) : JOk K as (fz hd as S H) (Ite K a) f := by
  intro i hd' as' S' H' pre sm w
  cases en : f.nx i S' with
  | none => trivial
  | some o =>
    obtain ⟨xs, e1, e2⟩ := hf i S' hd' as' H' w pre o en
    obtain ⟨a', vs, e3, hq, r⟩ := seqL w (ra.mono pre sm) e1
    cases e3
    rw [enumD_get] at e2
    cases ex : xs[i]? with
    | none =>
      rw [ex] at e2; subst e2
      exact ⟨vs, hq, by rw [r.length]; exact List.getElem?_eq_none_iff.mp ex⟩
    | some x =>
      rw [ex] at e2; subst e2
      obtain ⟨v, ev, rv⟩ := r.get ex
      refine ⟨⟨vs, v, hq, ev⟩, fun z H2 hy => ?_⟩
      obtain ⟨Tt, x1, rfl, hT, rfl, k1⟩ := hy
      have q1 := k1 vs hq
      rw [ev] at q1; cases q1
      obtain ⟨w', g, e⟩ := w.fresh (o := .tup [.int (i : Nat), v]) hT
      exact ⟨w', g, .tup (.inl (.inl e)) (.cons (.int _) (.cons (rv.grow g) .nil))⟩
end
section
variable {X : Cx} {W : WX} {tg e e2 : Expr} {me : EM} {mr : AM} {pos tpos p : Pos} {elts : List Expr} {kk : Nat}
theorem di_list (h : DE X W e me) : DI X W tg e (imOf mItL me) := PI.le (pi_list h) fun σ H Rk ⟨hd, as, ρ, S, rel, po⟩ => tE_seq rel po fun as1 S1 H1 v d g1 rel1 r po1 => by
  cases r with
  | lst q r => exact ⟨_, rfl, ⟨_, .inl (.inl (fz_same _ _ q))⟩, po1 as1 H1 .refl rel1 _ (jok_list (.lst q r) _ fun i S' _ _ _ _ _ o h => ⟨_, rfl, (Option.some.inj h).symm⟩)⟩
  | ro q r => exact ⟨_, rfl, ⟨_, same_l fz_same q⟩, po1 as1 H1 .refl rel1 _ (jok_list (.ro q r) _ fun i S' _ _ _ _ _ o h => ⟨_, rfl, (Option.some.inj h).symm⟩)⟩
  | cell q =>
    rename_i n a
    cases e : S1[n]? with
    | none => simp only [mItL, e] at po1; exact po1.elim
    | some z =>
      cases z with
      | none => simp only [mItL, e] at po1; exact po1.elim
      | some c =>
        cases c with
        | ins _ _ => simp only [mItL, e] at po1; exact po1.elim
        | dK _ => simp only [mItL, e] at po1; exact po1.elim
        | lst xs =>
          simp only [mItL, e] at po1
          obtain ⟨a', vs, e1, hq, r⟩ := seqL rel1.w (.cell q) (show listOf S1 (.cell n) = some xs by simp [listOf, e])
          cases e1
          refine ⟨_, rfl, ⟨_, hq⟩, po1 as1 H1 .refl rel1 _ (jok_list (.cell q) _ fun i S' _ _ _ _ _ o h => ?_)⟩
          simp only [itC] at h
          split at h
          · rename_i ys e'
            exact ⟨ys, by simp [listOf, e'], (Option.some.inj h).symm⟩
          · cases h
  | _ => exact po1.elim
end
end DL

set_option Elab.async false
set_option linter.all false
set_option maxRecDepth 100000
/-! DL6: operations on data and their rules. -/
namespace DL
open PySem PySem.Spec PyProof.Rows L2
noncomputable section

/-! ### data as the library has it -/
mutual
def D.py : D → PyData
  | .non => .none
  | .bl b => .bool b
  | .int i => .int i
  | .str s => .str s
  | .tup xs => .tuple (D.pyL xs)
  | .lst xs => .list (D.pyL xs)
  | .ro xs => .list (D.pyL xs)
  | .cell _ => .none
  | .ty _ => .none
  | .err _ _ _ => .none
  | .cls _ => .none
  | .dE => .dict []
def D.pyL : List D → List PyData
  | [] => []
  | x :: xs => D.py x :: D.pyL xs
end
mutual
/-- data without cells, at most k deep -/
def D.pl : Nat → D → Bool
  | _, .non => true
  | _, .bl _ => true
  | _, .int _ => true
  | _, .str s => PyData.strOk s
  | k, .tup xs => decide (0 < k) && D.plL (k - 1) xs
  | k, .lst xs => decide (0 < k) && D.plL (k - 1) xs
  | k, .ro xs => decide (0 < k) && D.plL (k - 1) xs
  | _, .cell _ => false
  | _, .ty _ => false
  | _, .err _ _ _ => false
  | _, .cls _ => false
  | _, .dE => false
def D.plL : Nat → List D → Bool
  | _, [] => true
  | k, x :: xs => D.pl k x && D.plL k xs
end
section
variable {K : PySem.W.Frag} {as : List Addr} {F : Hp}
mutual
theorem Rep.dp : ∀ {d : D} {v : V} {k : Nat}, d.pl k = true → Rep K as F v d → Dp K F v d.py
  | .non, _, _, _, h => by cases h; simp only [D.py]; exact .non
  | .bl b, _, _, _, h => by cases h; simp only [D.py]; exact .bl b
  | .int i, _, _, _, h => by cases h; simp only [D.py]; exact .int i
  | .str s, _, _, _, h => by cases h; simp only [D.py]; exact .str s
  | .tup xs, _, k, p, h => by
    cases h with
    | tup q r => simp only [D.py]; exact .tup q (RepL.dp (k := k - 1) (by simp only [D.pl, Bool.and_eq_true] at p; exact p.2) r)
  | .lst xs, _, k, p, h => by
    cases h with
    | lst q r => simp only [D.py]; exact .lst (.inl (.inl q)) (RepL.dp (k := k - 1) (by simp only [D.pl, Bool.and_eq_true] at p; exact p.2) r)
  | .ro xs, _, k, p, h => by
    cases h with
    | ro q r => simp only [D.py]; exact .lst q (RepL.dp (k := k - 1) (by simp only [D.pl, Bool.and_eq_true] at p; exact p.2) r)
  | .cell n, _, _, p, _ => by simp [D.pl] at p
  | .ty n, _, _, p, _ => by simp [D.pl] at p
  | .err _ _ _, _, _, p, _ => by simp [D.pl] at p
  | .cls _, _, _, p, _ => by simp [D.pl] at p
  | .dE, _, _, p, _ => by simp [D.pl] at p
theorem RepL.dp : ∀ {ds : List D} {vs : List V} {k : Nat}, D.plL k ds = true → RepL K as F vs ds → DpAll K F vs (D.pyL ds)
  | [], _, _, _, h => by cases h; simp only [D.pyL]; exact .nil
  | d :: ds, _, k, p, h => by
    simp only [D.plL, Bool.and_eq_true] at p
    cases h with | cons q r => simp only [D.pyL]; exact .cons (Rep.dp p.1 q) (RepL.dp p.2 r)
end
end
mutual
theorem D.pl_shape : ∀ {d : D} {k : Nat}, d.pl k = true → d.py.canLay0 = true ∧ d.py.depth ≤ k ∧ d.py.hasDict = false
  | .non, _, _ => by simp [D.py, PyData.canLay0, PyData.depth, PyData.hasDict]
  | .bl b, _, _ => by simp [D.py, PyData.canLay0, PyData.depth, PyData.hasDict]
  | .int i, _, _ => by simp [D.py, PyData.canLay0, PyData.depth, PyData.hasDict]
  | .str s, _, h => by simpa [D.py, PyData.canLay0, PyData.depth, PyData.hasDict, D.pl] using h
  | .tup xs, k, h => by
    simp only [D.pl, Bool.and_eq_true, decide_eq_true_eq] at h
    have := D.plL_shape h.2
    simp only [D.py, PyData.canLay0, PyData.depth, PyData.hasDict]
    exact ⟨this.1, by omega, this.2.2⟩
  | .lst xs, k, h => by
    simp only [D.pl, Bool.and_eq_true, decide_eq_true_eq] at h
    have := D.plL_shape h.2
    simp only [D.py, PyData.canLay0, PyData.depth, PyData.hasDict]
    exact ⟨this.1, by omega, this.2.2⟩
  | .ro xs, k, h => by
    simp only [D.pl, Bool.and_eq_true, decide_eq_true_eq] at h
    have := D.plL_shape h.2
    simp only [D.py, PyData.canLay0, PyData.depth, PyData.hasDict]
    exact ⟨this.1, by omega, this.2.2⟩
  | .cell n, _, h => by simp [D.pl] at h
  | .ty n, _, h => by simp [D.pl] at h
  | .err _ _ _, _, h => by simp [D.pl] at h
  | .cls _, _, h => by simp [D.pl] at h
  | .dE, _, h => by simp [D.pl] at h
theorem D.plL_shape : ∀ {ds : List D} {k : Nat}, D.plL k ds = true → PyData.canLayAll0 (D.pyL ds) = true ∧ PyData.depthAll (D.pyL ds) ≤ k ∧ PyData.hasDictAll (D.pyL ds) = false
  | [], _, _ => by simp [D.pyL, PyData.canLayAll0, PyData.depthAll, PyData.hasDictAll]
  | d :: ds, k, h => by
    simp only [D.plL, Bool.and_eq_true] at h
    have h1 := D.pl_shape h.1
    have h2 := D.plL_shape h.2
    simp only [D.pyL, PyData.canLayAll0, PyData.depthAll, PyData.hasDictAll, Bool.and_eq_true, Bool.or_eq_false_iff]
    exact ⟨⟨h1.1, h2.1⟩, by omega, h1.2.2, h2.2.2⟩
end
theorem D.pl_shaped {d : D} (h : d.pl 60 = true) : SeqAt.shaped d.py = true := by
  obtain ⟨h1, h2, _⟩ := D.pl_shape h
  unfold SeqAt.shaped
  rw [h1]
  simp only [Bool.true_and, decide_eq_true_eq]
  omega
theorem dp_mono {K : PySem.W.Frag} {F F' : Hp} (e : Same F F') : (∀ {d : PyData} {v : V}, Dp K F v d → Dp K F' v d) := by
  intro d v h
  exact Dp.rec (motive_1 := fun v d _ => Dp K F' v d) (motive_2 := fun vs ds _ => DpAll K F' vs ds) .non .bl .int .str (fun q _ r => .lst (same_l e q) r) (fun q _ r => .tup (same_t e q) r) .nil (fun _ _ a b => .cons a b) h

/-- what a value is now: a cell is read -/
def topD (S : Sto) : D → D
  | .cell n => match S[n]? with
    | some (some (.lst xs)) => .lst xs
    | _ => .cell n
  | d => d
theorem Rep.dpNow {K : PySem.W.Frag} {hd : Hid} {as : List Addr} {S : Sto} {H : Hp} {v : V} {d : D} (w : Wld K hd as S H) (r : Rep K as (fz hd as S H) v d) (p : (topD S d).pl 60 = true) : Dp K H v (topD S d).py := by
  have r0 := r
  cases r with
  | cell q =>
    rename_i n a
    cases e : S[n]? with
    | none => simp [topD, e, D.pl] at p
    | some z =>
      cases z with
      | none => simp [topD, e, D.pl] at p
      | some c =>
        cases c with
        | ins _ _ => simp [topD, e, D.pl] at p
        | dK _ => simp [topD, e, D.pl] at p
        | lst xs =>
          simp only [topD, e, D.pl, Bool.and_eq_true] at p ⊢
          obtain ⟨b, vs, e1, e2, r⟩ := w.at_ n xs e
          rw [q] at e1; cases e1
          simp only [D.py]
          have := RepL.dp p.2 r
          exact dp_mono (F := H) (Same.refl _) (.lst (.inl (.inl e2)) (by
            have k : ∀ {ds : List PyData} {us : List V}, DpAll K (fz hd as S H) us ds → DpAll K H us ds := by
              intro ds
              induction ds with
              | nil => intro us h; cases h; exact .nil
              | cons d ds ih => intro us h; cases h with | cons a b => exact .cons (dp_mono fz_same a) (ih b)
            exact k this))
  | non => exact dp_mono fz_same (Rep.dp p r0)
  | bl b => exact dp_mono fz_same (Rep.dp p r0)
  | int i => exact dp_mono fz_same (Rep.dp p r0)
  | str x => exact dp_mono fz_same (Rep.dp p r0)
  | ty x => simp [topD, D.pl] at p
  | err => simp [topD, D.pl] at p
  | cls => simp [topD, D.pl] at p
  | dE _ => simp [topD, D.pl] at p
  | tup q r => exact dp_mono fz_same (Rep.dp p r0)
  | lst q r => exact dp_mono fz_same (Rep.dp p r0)
  | ro q r => exact dp_mono fz_same (Rep.dp p r0)

/-! ### ints -/
open Classical in
def opI (C : Int → Int → Prop) (g : Int → Int → D) : D → D → M D
  | .int i, .int j => fun S => if C i j then .ok (g i j) S else .stuck
  | _, _ => fun _ => .stuck
theorem act_I {K : PySem.W.Frag} {C : Int → Int → Prop} {g : Int → Int → V} {g' : Int → Int → D} (h : ∀ i j as F, Rep K as F (g i j) (g' i j)) : Act2 K (rI C g) (opI C g') := by
  intro hd as S H v u d e w r1 r2
  cases r1 with
  | int i =>
    cases r2 with
    | int j =>
      simp only [opI]
      split
      · rename_i hc
        exact .now w (h i j _ _) fun Q q => ⟨i, j, rfl, rfl, hc, q⟩
      · trivial
    | _ => trivial
  | _ => trivial
def opI0 (g : Int → Int → D) : D → D → M D
  | .int i, .int j => fun S => .ok (g i j) S
  | _, _ => fun _ => .stuck
theorem act_I0 {K : PySem.W.Frag} {g : Int → Int → V} {g' : Int → Int → D} (h : ∀ i j as F, Rep K as F (g i j) (g' i j)) : Act2 K (rI0 g) (opI0 g') := by
  intro hd as S H v u d e w r1 r2
  cases r1 with
  | int i =>
    cases r2 with
    | int j => exact .now w (h i j _ _) fun Q q => ⟨i, j, rfl, rfl, q⟩
    | _ => trivial
  | _ => trivial
def CDivA (i j : Int) : Prop := j ≠ 0 ∧ j.natAbs.log2 < 9000
abbrev oSub := opI0 fun i j => .int (i - j)
abbrev oFdiv := opI CDivA fun i j => .int (i.fdiv j)
abbrev oMod := opI (fun _ j => j ≠ 0) fun i j => .int (i.fmod j)
abbrev oPow := opI CPow fun i j => .int (i ^ j.toNat)
abbrev oLt := opI0 fun i j => .bl (decide (i < j))
abbrev oLe := opI0 fun i j => .bl (decide (i ≤ j))
abbrev oGt := opI0 fun i j => .bl (decide (j < i))
abbrev oGe := opI0 fun i j => .bl (decide (j ≤ i))
def oNeg : D → M D
  | .int i => fun S => .ok (.int (-i)) S
  | _ => fun _ => .stuck
section
variable {X : Cx}
theorem opr_fdiv : OpR X (binaryOp .FloorDiv) (rI CDivA fun i j => .int (i.fdiv j)) := L2.opI fun _ _ _ _ _ _ _ hc q => floordiv_int hc.1 q (.inl (PyProof.noPylong_of_log2 hc.2))
theorem act_sub {K : PySem.W.Frag} : Act2 K (rI0 fun i j => .int (i - j)) oSub := act_I0 fun _ _ _ _ => .int _
theorem act_fdiv {K : PySem.W.Frag} : Act2 K (rI CDivA fun i j => .int (i.fdiv j)) oFdiv := act_I fun _ _ _ _ => .int _
theorem act_mod {K : PySem.W.Frag} : Act2 K (rI (fun _ j => j ≠ 0) fun i j => .int (i.fmod j)) oMod := act_I fun _ _ _ _ => .int _
theorem act_pow {K : PySem.W.Frag} : Act2 K (rI CPow fun i j => .int (i ^ j.toNat)) oPow := act_I fun _ _ _ _ => .int _
theorem act_lt {K : PySem.W.Frag} : Act2 K (rI0 fun i j => .bl (decide (i < j))) oLt := act_I0 fun _ _ _ _ => .bl _
theorem act_le {K : PySem.W.Frag} : Act2 K (rI0 fun i j => .bl (decide (i ≤ j))) oLe := act_I0 fun _ _ _ _ => .bl _
theorem act_gt {K : PySem.W.Frag} : Act2 K (rI0 fun i j => .bl (decide (j < i))) oGt := act_I0 fun _ _ _ _ => .bl _
theorem act_ge {K : PySem.W.Frag} : Act2 K (rI0 fun i j => .bl (decide (j ≤ i))) oGe := act_I0 fun _ _ _ _ => .bl _
theorem act_neg {K : PySem.W.Frag} : Act1 K (rU fun i => .int (-i)) oNeg := by
  intro hd as S H v d w r
  cases r with
  | int i => exact .now w (.int _) fun Q q => ⟨i, rfl, q⟩
  | _ => trivial
end

/-! ### +, * -/
def oAddInt : D → D → M D
  | .int i, .int j => fun S => .ok (.int (i + j)) S
  | _, _ => fun _ => .stuck
def oAddStr : D → D → M D
  | .str a, .str b => fun S => if a.length + b.length ≤ sizeLine then .ok (.str (a ++ b)) S else .stuck
  | _, _ => fun _ => .stuck
def oAddTup : D → D → M D
  | .tup xs, .tup ys => fun S => if xs.isEmpty = false ∧ ys.isEmpty = false ∧ xs.length + ys.length ≤ sizeLine then .ok (.tup (xs ++ ys)) S else .stuck
  | _, _ => fun _ => .stuck
def oCat (d e : D) : M D := fun S => match listOw S d, listOw S e with
  | some xs, some ys => if xs.length + ys.length ≤ sizeLine then .ok (.lst (xs ++ ys)) S else .stuck
  | _, _ => .stuck
def oAdd : D → D → M D
  | .int i, .int j => fun S => .ok (.int (i + j)) S
  | .str a, .str b => oAddStr (.str a) (.str b)
  | .tup xs, .tup ys => oAddTup (.tup xs) (.tup ys)
  | d, e => oCat d e
def rAddA (K : PySem.W.Frag) : R2 := fun x y H Q => rI0 (fun i j => .int (i + j)) x y H Q ∨ ((∃ i j, x = .str i ∧ y = .str j ∧ i.length + j.length ≤ sizeLine ∧ Q (.str (i ++ j)) H) ∨ (rCat x y H Q ∨ rCatT K x y H Q))
theorem opr_add {X : Cx} : OpR X (binaryOp .Add) (rAddA X.K) := op_add.or (op_add_str.or (op_cat.or op_catT))
theorem act_cat {K : PySem.W.Frag} : Act2 K rCat oCat := by
  intro hd as S H v u d e w r1 r2
  unfold oCat
  cases e1 : listOw S d with
  | none => trivial
  | some xs =>
    cases e2 : listOw S e with
    | none => trivial
    | some ys =>
      dsimp only
      split
      · rename_i hz
        obtain ⟨a, vs, rfl, ha, ra⟩ := seqO w r1 e1
        obtain ⟨b, us, rfl, hb, rb⟩ := seqO w r2 e2
        exact .fresh w (fun p ep g => .lst ep ((ra.append rb).grow g)) fun Q q => ⟨a, b, vs, us, rfl, rfl, ha, hb, by rw [ra.length, rb.length]; exact hz, q⟩
      · trivial
theorem Ret.map {K : PySem.W.Frag} {hd : Hid} {as : List Addr} {S : Sto} {H : Hp} {r : R D} {run run' : VK → Prop} (h : Ret K hd as S H r run) (f : ∀ Q, run Q → run' Q) : Ret K hd as S H r run' := by
  cases r with
  | ok d S' => exact fun Q q => f Q (h Q q)
  | exc x S' => exact h
  | stuck => trivial
theorem act_add {K : PySem.W.Frag} : Act2 K (rAddA K) oAdd := by
  intro hd as S H v u d e w r1 r2
  have cat : Ret K hd as S H (oCat d e S) (rAddA K v u H) := (act_cat hd as S H v u d e w r1 r2).map fun Q q => .inr (.inr (.inl q))
  cases r1 with
  | int i =>
    cases r2 with
    | int j => exact .now w (.int _) fun Q q => .inl ⟨i, j, rfl, rfl, q⟩
    | _ => exact cat
  | str i =>
    cases r2 with
    | str j =>
      simp only [oAdd, oAddStr]
      split
      · rename_i hz
        exact .now w (.str _) fun Q q => .inr (.inl ⟨i, j, rfl, rfl, hz, q⟩)
      · trivial
    | _ => exact cat
  | tup q r =>
    cases r2 with
    | tup q' r' =>
      simp only [oAdd, oAddTup]
      split
      · rename_i hz
        obtain ⟨h1, h2, h3⟩ := hz
        refine .fresh w (fun p ep g => .tup (.inl (.inl ep)) ((r.append r').grow g)) fun Q q2 => .inr (.inr (.inr ⟨_, _, _, _, rfl, rfl, same_t fz_same q, same_t fz_same q', ?_, by rw [r.length, r'.length]; exact h3, fun z => ?_, fun _ => q2⟩))
        · intro z; subst z
          have := r.length
          cases r
          simp at h1
        · subst z
          cases r'
          simp at h2
      · trivial
    | _ => exact cat
  | _ => cases r2 <;> exact cat
open Classical in
def oMul : D → D → M D
  | .int i, .int j => fun S => if IntMulOk i j then .ok (.int (i * j)) S else .stuck
  | d, .int k => fun S => match listOw S d with
    | some xs => if -(2 ^ 63) ≤ k ∧ k < 2 ^ 63 ∧ xs.length * k.toNat ≤ sizeLine then .ok (.lst (List.replicate k.toNat xs).flatten) S else .stuck
    | none => .stuck
  | _, _ => fun _ => .stuck
def rMulA : R2 := fun x y H Q => rI IntMulOk (fun i j => .int (i * j)) x y H Q ∨ rRep x y H Q
theorem opr_mul {X : Cx} : OpR X (binaryOp .Mult) rMulA := OpR.or (L2.opI fun _ _ _ _ _ _ _ hc q => mul_int q hc) op_rep
theorem RepL.rep {K : PySem.W.Frag} {as : List Addr} {F : Hp} {vs : List V} {ds : List D} (h : RepL K as F vs ds) : ∀ n : Nat, RepL K as F (List.replicate n vs).flatten (List.replicate n ds).flatten
  | 0 => .nil
  | n + 1 => by simpa [List.replicate_succ] using h.append (RepL.rep h n)
theorem act_mul {K : PySem.W.Frag} : Act2 K rMulA oMul := by
  intro hd as S H v u d e w r1 r2
  have rep : ∀ k : Int, u = .int k → (∀ i, d ≠ .int i) → Ret K hd as S H (match listOw S d with
    | some xs => if -(2 ^ 63) ≤ k ∧ k < 2 ^ 63 ∧ xs.length * k.toNat ≤ sizeLine then .ok (.lst (List.replicate k.toNat xs).flatten) S else .stuck
    | none => .stuck) (rMulA v u H) := fun k eu _ => by
    subst eu
    cases e1 : listOw S d with
    | none => trivial
    | some xs =>
      dsimp only
      split
      · rename_i hz
        obtain ⟨h1, h2, h3⟩ := hz
        obtain ⟨a, vs, rfl, ha, ra⟩ := seqO w r1 e1
        exact .fresh w (fun p ep g => .lst ep ((ra.rep _).grow g)) fun Q q => .inr ⟨a, k, vs, rfl, rfl, ha, h1, h2, by rw [ra.length]; exact h3, q⟩
      · trivial
  cases r2 with
  | int j =>
    cases r1 with
    | int i =>
      simp only [oMul]
      split
      · rename_i hc
        exact .now w (.int _) fun Q q => .inl ⟨i, j, rfl, rfl, hc, q⟩
      · trivial
    | non => exact rep j rfl fun _ z => nomatch z
    | bl b => exact rep j rfl fun _ z => nomatch z
    | str x => exact rep j rfl fun _ z => nomatch z
    | ty x => exact rep j rfl fun _ z => nomatch z
    | err => exact rep j rfl fun _ z => nomatch z
    | cls => exact rep j rfl fun _ z => nomatch z
    | dE q => exact rep j rfl fun _ z => nomatch z
    | tup q r => exact rep j rfl fun _ z => nomatch z
    | lst q r => exact rep j rfl fun _ z => nomatch z
    | ro q r => exact rep j rfl fun _ z => nomatch z
    | cell q => exact rep j rfl fun _ z => nomatch z
  | _ => cases r1 <;> trivial

/-! ### == and != -/
def eqD : D → D → D → D → Option Bool
  | .str a, .str b, _, _ => some (decide (a = b))
  | _, _, d, e => if d.pl 60 && e.pl 60 then some (PyData.eqv d.py e.py) else none
def oEq (d e : D) : M D := fun S => match eqD d e (topD S d) (topD S e) with
  | some b => .ok (.bl b) S
  | none => .stuck
def oNe (d e : D) : M D := fun S => match eqD d e (topD S d) (topD S e) with
  | some b => .ok (.bl (!b)) S
  | none => .stuck
def rEqA (K : PySem.W.Frag) : R2 := fun x y H Q => rEq x y H Q ∨ rEqD K x y H Q
def rNeA (K : PySem.W.Frag) : R2 := fun x y H Q => rNe x y H Q ∨ rNeD K x y H Q
theorem opr_eq {X : Cx} (hu : X.A.units + 64 < cLine) : OpR X (compareOp .Eq) (rEqA X.K) := op_eq.or (op_eqD hu)
theorem opr_ne {X : Cx} (hu : X.A.units + 64 < cLine) : OpR X (compareOp .NotEq) (rNeA X.K) := op_ne.or (op_neD hu)
theorem eqD_cases {d e d' e' : D} {b : Bool} (h : eqD d e d' e' = some b) : (∃ x y, d = .str x ∧ e = .str y ∧ b = decide (x = y)) ∨ (d'.pl 60 = true ∧ e'.pl 60 = true ∧ b = PyData.eqv d'.py e'.py) := by
  unfold eqD at h
  split at h
  · exact .inl ⟨_, _, rfl, rfl, (Option.some.inj h).symm⟩
  · split at h
    · rename_i hp
      simp only [Bool.and_eq_true] at hp
      exact .inr ⟨hp.1, hp.2, (Option.some.inj h).symm⟩
    · cases h
theorem act_eq {K : PySem.W.Frag} : Act2 K (rEqA K) oEq := by
  intro hd as S H v u d e w r1 r2
  unfold oEq
  cases eb : eqD d e (topD S d) (topD S e) with
  | none => trivial
  | some b =>
    dsimp only
    rcases eqD_cases eb with ⟨x, y, rfl, rfl, rfl⟩ | ⟨h1, h2, rfl⟩
    · cases r1; cases r2
      refine .now w (.bl _) fun Q q => .inl ⟨rfl, ?_⟩
      have : decide (V.str x = V.str y) = decide (x = y) := by simp
      rw [this]; exact q
    · exact .now w (.bl _) fun Q q => .inr ⟨_, _, r1.dpNow w h1, r2.dpNow w h2, D.pl_shaped h1, D.pl_shaped h2, q⟩
theorem act_ne {K : PySem.W.Frag} : Act2 K (rNeA K) oNe := by
  intro hd as S H v u d e w r1 r2
  unfold oNe
  cases eb : eqD d e (topD S d) (topD S e) with
  | none => trivial
  | some b =>
    dsimp only
    rcases eqD_cases eb with ⟨x, y, rfl, rfl, rfl⟩ | ⟨h1, h2, rfl⟩
    · cases r1; cases r2
      refine .now w (.bl _) fun Q q => .inl ⟨rfl, ?_⟩
      have : decide (V.str x = V.str y) = decide (x = y) := by simp
      rw [this]; exact q
    · exact .now w (.bl _) fun Q q => .inr ⟨_, _, r1.dpNow w h1, r2.dpNow w h2, D.pl_shaped h1, D.pl_shaped h2, q⟩
end
end DL

set_option Elab.async false
set_option linter.all false
set_option maxRecDepth 100000
/-! DL7: built-in functions, subscripts, slices, list methods. -/
namespace DL
open PySem PySem.Spec PyProof.Rows L2
noncomputable section

/-! ### in -/
def flatD : D → Bool
  | .non | .bl _ | .int _ | .str _ => true
  | _ => false
def eqF : D → D → Bool
  | .non, .non => true
  | .bl a, .bl b => a == b
  | .bl a, .int b => (if a then 1 else 0) == b
  | .int a, .bl b => a == (if b then 1 else 0)
  | .int a, .int b => a == b
  | .str a, .str b => a == b
  | _, _ => false
def seqOf (S : Sto) : D → Option (List D)
  | .tup xs => some xs
  | d => listOf S d
def inD (S : Sto) (d e : D) : Option Bool := match seqOf S e with
  | some xs => if flatD d && xs.all flatD then some (xs.any fun y => eqF y d) else none
  | none => match d, e with
    | .str a, .str b => some (!(Builtin.Str.occurrences b a 0 b.length 1).isEmpty)
    | _, _ => none
def oIn (d e : D) : M D := fun S => match inD S d e with
  | some b => .ok (.bl b) S
  | none => .stuck
def oNotIn (d e : D) : M D := fun S => match inD S d e with
  | some b => .ok (.bl (!b)) S
  | none => .stuck
section
variable {K : PySem.W.Frag} {hd : Hid} {as : List Addr} {S : Sto} {H : Hp}
theorem Rep.flat {F : Hp} {v : V} {d : D} (r : Rep K as F v d) (h : flatD d = true) : flatV v = true := by
  cases r <;> first | rfl | (simp [flatD] at h)
theorem RepL.flat {F : Hp} : ∀ {ds : List D} {vs : List V}, RepL K as F vs ds → ds.all flatD = true → vs.all flatV = true
  | [], _, r, _ => by cases r; rfl
  | d :: ds, _, r, h => by
    simp only [List.all_cons, Bool.and_eq_true] at h
    cases r with | cons a b => simp only [List.all_cons, a.flat h.1, RepL.flat b h.2, Bool.and_self]
theorem eqF_eq {F : Hp} {v u : V} {d e : D} (r : Rep K as F v d) (q : Rep K as F u e) (h : flatD d = true) (g : flatD e = true) : eqF d e = eqV v u := by
  cases r <;> first | (simp [flatD] at h; done) | (cases q <;> first | rfl | (simp [flatD] at g; done))
theorem any_eqF {F : Hp} {u : V} {e : D} (q : Rep K as F u e) (g : flatD e = true) : ∀ {ds : List D} {vs : List V}, RepL K as F vs ds → ds.all flatD = true → (ds.any fun y => eqF y e) = inV u vs
  | [], _, r, _ => by cases r; rfl
  | d :: ds, _, r, h => by
    simp only [List.all_cons, Bool.and_eq_true] at h
    cases r with
    | cons a b =>
      unfold inV
      simp only [List.any_cons]
      rw [eqF_eq a q h.1 g, any_eqF q g b h.2]
      rfl
theorem seqS {v : V} {d : D} {xs : List D} (w : Wld K hd as S H) (r : Rep K as (fz hd as S H) v d) (h : seqOf S d = some xs) : ∃ a vs, v = .ref a ∧ (SqL K H a vs ∨ SqT K H a vs) ∧ RepL K as (fz hd as S H) vs xs := by
  have r0 := r
  cases r with
  | tup q r =>
    cases h
    exact ⟨_, _, rfl, .inr (same_t fz_same q), r⟩
  | lst q r => obtain ⟨a, vs, e, q, r⟩ := seqL w r0 h; exact ⟨a, vs, e, .inl q, r⟩
  | ro q r => obtain ⟨a, vs, e, q, r⟩ := seqL w r0 h; exact ⟨a, vs, e, .inl q, r⟩
  | cell q => obtain ⟨a, vs, e, q, r⟩ := seqL w r0 h; exact ⟨a, vs, e, .inl q, r⟩
  | _ => cases h
end
def rInA (K : PySem.W.Frag) (neg : Bool) : R2 := fun x y H Q => rIn K neg x y H Q ∨ (∃ i j, x = .str i ∧ y = .str j ∧ Q (.bl (if neg then !(!(Builtin.Str.occurrences j i 0 j.length 1).isEmpty) else !(Builtin.Str.occurrences j i 0 j.length 1).isEmpty)) H)
theorem opr_in {X : Cx} : OpR X (compareOp .In) (rInA X.K false) := op_in_seq.or op_in_str
theorem opr_notIn {X : Cx} : OpR X (compareOp .NotIn) (rInA X.K true) := op_notIn_seq.or op_notIn_str
theorem in_run {K : PySem.W.Frag} {hd : Hid} {as : List Addr} {S : Sto} {H : Hp} {v u : V} {d e : D} {b neg : Bool} (w : Wld K hd as S H) (r1 : Rep K as (fz hd as S H) v d) (r2 : Rep K as (fz hd as S H) u e) (h : inD S d e = some b) {Q : VK} (q : Q (.bl (if neg then !b else b)) H) : rInA K neg v u H Q := by
  unfold inD at h
  split at h
  · rename_i xs es
    split at h
    · rename_i hf
      simp only [Bool.and_eq_true] at hf
      cases h
      obtain ⟨a, vs, rfl, sq, r⟩ := seqS w r2 es
      refine .inl ⟨a, vs, rfl, sq, r1.flat hf.1, r.flat hf.2, ?_⟩
      rw [any_eqF r1 hf.1 r hf.2] at q
      exact q
    · cases h
  · split at h
    · cases h
      cases r1; cases r2
      exact .inr ⟨_, _, rfl, rfl, q⟩
    · cases h
theorem act_in {K : PySem.W.Frag} : Act2 K (rInA K false) oIn := by
  intro hd as S H v u d e w r1 r2
  unfold oIn
  cases eb : inD S d e with
  | none => trivial
  | some b => exact .now w (.bl _) fun Q q => in_run w r1 r2 eb q
theorem act_notIn {K : PySem.W.Frag} : Act2 K (rInA K true) oNotIn := by
  intro hd as S H v u d e w r1 r2
  unfold oNotIn
  cases eb : inD S d e with
  | none => trivial
  | some b => exact .now w (.bl _) fun Q q => in_run w r1 r2 eb q
/-! ### is -/
def oIsN : D → D → M D
  | d, .non => fun S => match d with
    | .non => .ok (.bl true) S
    | _ => .ok (.bl false) S
  | _, _ => fun _ => .stuck
def oNotN : D → D → M D
  | d, .non => fun S => match d with
    | .non => .ok (.bl false) S
    | _ => .ok (.bl true) S
  | _, _ => fun _ => .stuck
theorem act_isN {K : PySem.W.Frag} : Act2 K (fun x y H Q => y = .non ∧ Q (.bl (decide (x = .non))) H) oIsN := by
  intro hd as S H v u d e w r1 r2
  cases r2 with
  | non => cases r1 <;> exact .now w (.bl _) fun Q q => ⟨rfl, q⟩
  | _ => cases r1 <;> trivial
theorem act_notN {K : PySem.W.Frag} : Act2 K (fun x y H Q => y = .non ∧ Q (.bl (!decide (x = .non))) H) oNotN := by
  intro hd as S H v u d e w r1 r2
  cases r2 with
  | non => cases r1 <;> exact .now w (.bl _) fun Q q => ⟨rfl, q⟩
  | _ => cases r1 <;> trivial
def oIsB : D → D → M D
  | .bl a, .bl b => fun S => .ok (.bl (decide (a = b))) S
  | _, _ => fun _ => .stuck
def oNotB : D → D → M D
  | .bl a, .bl b => fun S => .ok (.bl (!decide (a = b))) S
  | _, _ => fun _ => .stuck
/-! ### built-in functions -/
def fLen : List D → M D
  | [.str z] => fun S => if z.length ≤ sizeLine then .ok (.int z.length) S else .stuck
  | [d] => fun S => match seqOf S d with
    | some xs => .ok (.int xs.length) S
    | none => .stuck
  | _ => fun _ => .stuck
theorem act_len {K : PySem.W.Frag} : ActL K (fun xs H Q => ∃ x n, xs = [x] ∧ LenV K x H n ∧ Q (.int n) H) fLen := by
  intro hd as S H vs ds w r
  match ds, r with
  | [], _ => trivial
  | [d], .cons r .nil =>
    rename_i v
    have seq : ∀ xs, seqOf S d = some xs → ∀ Q : VK, Q (.int xs.length) H → ∃ x n, [v] = [x] ∧ LenV K x H n ∧ Q (.int n) H := fun xs e Q q => by
      obtain ⟨a, vs, ev, sq, rr⟩ := seqS w r e
      subst ev
      rw [← rr.length] at q
      exact ⟨.ref a, vs.length, rfl, sq.elim (fun z => .inl ⟨vs, z, rfl⟩) (fun z => .inr ⟨vs, z, rfl⟩), q⟩
    cases d with
    | str z =>
      simp only [fLen]
      split
      · rename_i hz
        cases r
        exact .now w (.int _) fun Q q => ⟨_, z.length, rfl, ⟨hz, rfl⟩, q⟩
      · trivial
    | non => trivial
    | bl b => trivial
    | int i => trivial
    | ty n => trivial
    | err => trivial
    | cls => trivial
    | dE => trivial
    | tup xs => exact .now w (.int _) (seq _ rfl)
    | lst xs => exact .now w (.int _) (seq _ rfl)
    | ro xs => exact .now w (.int _) (seq _ rfl)
    | cell n =>
      simp only [fLen]
      cases e : seqOf S (.cell n) with
      | none => trivial
      | some xs => exact .now w (.int _) (seq _ e)
  | a :: b :: c, _ => cases a <;> trivial
def fAbs : List D → M D
  | [.int i] => fun S => .ok (.int (if i < 0 then -i else i)) S
  | _ => fun _ => .stuck
def fMax2 : List D → M D
  | [.int i, .int j] => fun S => .ok (.int (if j > i then j else i)) S
  | _ => fun _ => .stuck
def fMin2 : List D → M D
  | [.int i, .int j] => fun S => .ok (.int (if j < i then j else i)) S
  | _ => fun _ => .stuck
def fInt : List D → M D
  | [.int i] => fun S => .ok (.int i) S
  | [.bl k] => fun S => .ok (.int (if k then 1 else 0)) S
  | _ => fun _ => .stuck
def fStr : List D → M D
  | [.int i] => fun S => if i.natAbs.log2 < 1920 then .ok (.str (toString i)) S else .stuck
  | _ => fun _ => .stuck
theorem rep1 {K : PySem.W.Frag} {as : List Addr} {F : Hp} {vs : List V} {d : D} (r : RepL K as F vs [d]) : ∃ v, vs = [v] ∧ Rep K as F v d := by
  cases r with | cons a b => cases b; exact ⟨_, rfl, a⟩
theorem rep2 {K : PySem.W.Frag} {as : List Addr} {F : Hp} {vs : List V} {d e : D} (r : RepL K as F vs [d, e]) : ∃ v u, vs = [v, u] ∧ Rep K as F v d ∧ Rep K as F u e := by
  cases r with | cons a b => cases b with | cons b c => cases c; exact ⟨_, _, rfl, a, b⟩
theorem act_max2 {K : PySem.W.Frag} : ActL K (fun xs H Q => ∃ i j, xs = [.int i, .int j] ∧ Q (.int (if j > i then j else i)) H) fMax2 := by
  intro hd as S H vs ds w r
  unfold fMax2
  split
  · obtain ⟨v, u, rfl, a, b⟩ := rep2 r
    cases a; cases b
    exact .now w (.int _) fun Q q => ⟨_, _, rfl, q⟩
  · trivial
theorem act_min2 {K : PySem.W.Frag} : ActL K (fun xs H Q => ∃ i j, xs = [.int i, .int j] ∧ Q (.int (if j < i then j else i)) H) fMin2 := by
  intro hd as S H vs ds w r
  unfold fMin2
  split
  · obtain ⟨v, u, rfl, a, b⟩ := rep2 r
    cases a; cases b
    exact .now w (.int _) fun Q q => ⟨_, _, rfl, q⟩
  · trivial
theorem act_int {K : PySem.W.Frag} : ActL K (fun xs H Q => (∃ i, xs = [.int i] ∧ Q (.int i) H) ∨ ∃ k, xs = [.bl k] ∧ Q (.int (if k then 1 else 0)) H) fInt := by
  intro hd as S H vs ds w r
  unfold fInt
  split
  · obtain ⟨v, rfl, a⟩ := rep1 r
    cases a
    exact .now w (.int _) fun Q q => .inl ⟨_, rfl, q⟩
  · obtain ⟨v, rfl, a⟩ := rep1 r
    cases a
    exact .now w (.int _) fun Q q => .inr ⟨_, rfl, q⟩
  · trivial
/-! repr -/
/-- no repr runs around; the modules' table is a table -/
structure Qt (A : Around) (base : Heap) : Prop where
  g : A.guards = some []
  s : ∃ mm, base.Ns sysModules mm
mutual
/-- as data, an empty table among them -/
inductive Dr (K : PySem.W.Frag) (H : Hp) : V → PyData → Prop
  | non : Dr K H .non .none
  | bl (b : Bool) : Dr K H (.bl b) (.bool b)
  | int (i : Int) : Dr K H (.int i) (.int i)
  | str (x : Str) : Dr K H (.str x) (.str x)
  | lst {a : Addr} {xs : List V} {ds : List PyData} : SqL K H a xs → DrL K H xs ds → Dr K H (.ref a) (.list ds)
  | tup {a : Addr} {xs : List V} {ds : List PyData} : SqT K H a xs → DrL K H xs ds → Dr K H (.ref a) (.tuple ds)
  | dE {a : Addr} : Rd H a (.dK []) → Dr K H (.ref a) (.dict [])
inductive DrL (K : PySem.W.Frag) (H : Hp) : List V → List PyData → Prop
  | nil : DrL K H [] []
  | cons {v : V} {vs : List V} {d : PyData} {ds : List PyData} : Dr K H v d → DrL K H vs ds → DrL K H (v :: vs) (d :: ds)
end
section
variable {X : Cx} {pins : List (Addr × Obj)} {σ : L2.St} {H : Hp} {s : Shared}
mutual
theorem Dr.reads (I : Inv X pins σ H s) (hs : ∃ mm, X.base.Ns sysModules mm) : ∀ (d : PyData) (v : V) (u : Value), Dr X.K H v d → RelV v u → ∃ as, Reads s.heap u d as ∧ sysModules ∉ as
  | .none, _, _, h, r => by
    cases h; cases r
    exact ⟨_, Reads.none, by simp⟩
  | .bool b, _, _, h, r => by
    cases h; cases r
    exact ⟨_, Reads.bool b, by simp⟩
  | .int i, _, _, h, r => by
    cases h
    obtain ⟨t, rfl⟩ := r
    exact ⟨_, Reads.int i t, by simp⟩
  | .str x, _, _, h, r => by
    cases h
    obtain ⟨t, rfl⟩ := r
    exact ⟨_, Reads.str x t, by simp⟩
  | .list ds, _, _, h, r => by
    cases h with
    | lst hq ha =>
      cases r
      obtain ⟨its, rv, ⟨o, n, ho, hc, _, hd⟩, _⟩ := I.list hq
      obtain ⟨as, hr, hn⟩ := DrL.reads I hs ds _ its ha rv
      refine ⟨_, Reads.list ho hc hd hr, ?_⟩
      intro hm
      rcases List.mem_cons.mp hm with e | e
      · obtain ⟨mm, o', es, ep, e1, e2, _⟩ := hs
        have e3 := I.bk _ _ e1
        rw [e] at e3
        rw [ho] at e3
        cases e3
        rw [hd] at e2; cases e2
      · exact hn e
  | .tuple ds, _, _, h, r => by
    cases h with
    | tup hq ha =>
      cases r
      obtain ⟨its, rv, ⟨o, ho, hc, n, hd⟩, _⟩ := I.tuple hq
      obtain ⟨as, hr, hn⟩ := DrL.reads I hs ds _ its ha rv
      exact ⟨_, Reads.tuple ho hc hd hr, hn⟩
  | .dict _, _, _, h, r => by
    cases h with
    | dE hq =>
      cases r
      obtain ⟨_, hne, vs, kv, o, es, ep, e1, e2, e3, _, e4, _⟩ := dk_rd I.hok hq
      cases kv
      have hz : es.toList = [] := by
        generalize es.toList = l at e4
        cases e4; rfl
      refine ⟨_, Reads.dict (kvs := []) e1 e2.1 e3 (by rw [hz]; exact ReadsAll.nil) (by rw [hz]; exact ReadsAll.nil), ?_⟩
      intro hm
      simp at hm
      rw [hm] at hne
      simp at hne
theorem DrL.reads (I : Inv X pins σ H s) (hs : ∃ mm, X.base.Ns sysModules mm) : ∀ (ds : List PyData) (vs : List V) (us : List Value), DrL X.K H vs ds → Vals vs us → ∃ as, ReadsAll s.heap us ds as ∧ sysModules ∉ as
  | [], _, _, h, r => by
    cases h; cases r
    exact ⟨_, ReadsAll.nil, by simp⟩
  | d :: ds, _, _, h, r => by
    cases h with
    | cons h1 h2 =>
      cases r with
      | cons r1 r2 =>
        obtain ⟨as, q1, n1⟩ := Dr.reads I hs d _ _ h1 r1
        obtain ⟨bs, q2, n2⟩ := DrL.reads I hs ds _ _ h2 r2
        exact ⟨_, ReadsAll.cons q1 q2, fun z => (List.mem_append.mp z).elim n1 n2⟩
end
end
mutual
/-- data without cells, at most k deep, an empty table among them -/
def D.pr : Nat → D → Bool
  | _, .non => true
  | _, .bl _ => true
  | _, .int _ => true
  | _, .str s => PyData.strOk s
  | k, .tup xs => decide (0 < k) && D.prL (k - 1) xs
  | k, .lst xs => decide (0 < k) && D.prL (k - 1) xs
  | k, .ro xs => decide (0 < k) && D.prL (k - 1) xs
  | _, .cell _ => false
  | _, .ty _ => false
  | _, .err _ _ _ => false
  | _, .cls _ => false
  | k, .dE => decide (0 < k)
def D.prL : Nat → List D → Bool
  | _, [] => true
  | k, x :: xs => D.pr k x && D.prL k xs
end
mutual
theorem D.pr_of : ∀ {d : D} {k : Nat}, d.pl k = true → d.pr k = true
  | .non, _, _ => rfl
  | .bl b, _, _ => rfl
  | .int i, _, _ => rfl
  | .str s, _, h => by simpa [D.pr, D.pl] using h
  | .tup xs, k, h => by
    simp only [D.pl, Bool.and_eq_true] at h
    simp only [D.pr, Bool.and_eq_true]
    exact ⟨h.1, D.prL_of h.2⟩
  | .lst xs, k, h => by
    simp only [D.pl, Bool.and_eq_true] at h
    simp only [D.pr, Bool.and_eq_true]
    exact ⟨h.1, D.prL_of h.2⟩
  | .ro xs, k, h => by
    simp only [D.pl, Bool.and_eq_true] at h
    simp only [D.pr, Bool.and_eq_true]
    exact ⟨h.1, D.prL_of h.2⟩
  | .cell n, _, h => by simp [D.pl] at h
  | .ty n, _, h => by simp [D.pl] at h
  | .err _ _ _, _, h => by simp [D.pl] at h
  | .cls _, _, h => by simp [D.pl] at h
  | .dE, _, h => by simp [D.pl] at h
theorem D.prL_of : ∀ {ds : List D} {k : Nat}, D.plL k ds = true → D.prL k ds = true
  | [], _, _ => rfl
  | d :: ds, k, h => by
    simp only [D.plL, Bool.and_eq_true] at h
    simp only [D.prL, D.pr_of h.1, D.prL_of h.2, Bool.and_self]
end
mutual
theorem D.pr_depth : ∀ {d : D} {k : Nat}, d.pr k = true → d.py.depth ≤ k
  | .non, _, _ => by simp [D.py, PyData.depth]
  | .bl b, _, _ => by simp [D.py, PyData.depth]
  | .int i, _, _ => by simp [D.py, PyData.depth]
  | .str s, _, h => by simp [D.py, PyData.depth]
  | .tup xs, k, h => by
    simp only [D.pr, Bool.and_eq_true, decide_eq_true_eq] at h
    have := D.prL_depth h.2
    simp only [D.py, PyData.depth]
    omega
  | .lst xs, k, h => by
    simp only [D.pr, Bool.and_eq_true, decide_eq_true_eq] at h
    have := D.prL_depth h.2
    simp only [D.py, PyData.depth]
    omega
  | .ro xs, k, h => by
    simp only [D.pr, Bool.and_eq_true, decide_eq_true_eq] at h
    have := D.prL_depth h.2
    simp only [D.py, PyData.depth]
    omega
  | .cell n, _, h => by simp [D.pr] at h
  | .ty n, _, h => by simp [D.pr] at h
  | .err _ _ _, _, h => by simp [D.pr] at h
  | .cls _, _, h => by simp [D.pr] at h
  | .dE, k, h => by
    simp only [D.pr, decide_eq_true_eq] at h
    simp only [D.py, PyData.depth, PyData.depthKv]
    omega
theorem D.prL_depth : ∀ {ds : List D} {k : Nat}, D.prL k ds = true → PyData.depthAll (D.pyL ds) ≤ k
  | [], _, _ => by simp [D.pyL, PyData.depthAll]
  | d :: ds, k, h => by
    simp only [D.prL, Bool.and_eq_true] at h
    have h1 := D.pr_depth h.1
    have h2 := D.prL_depth h.2
    simp only [D.pyL, PyData.depthAll]
    omega
end
section
variable {K : PySem.W.Frag} {as : List Addr} {F H : Hp}
mutual
theorem Rep.dr (e : Same F H) : ∀ {d : D} {v : V} {k : Nat}, d.pr k = true → Rep K as F v d → Dr K H v d.py
  | .non, _, _, _, h => by cases h; simp only [D.py]; exact .non
  | .bl b, _, _, _, h => by cases h; simp only [D.py]; exact .bl b
  | .int i, _, _, _, h => by cases h; simp only [D.py]; exact .int i
  | .str s, _, _, _, h => by cases h; simp only [D.py]; exact .str s
  | .tup xs, _, k, p, h => by
    cases h with
    | tup q r => simp only [D.py]; exact .tup (same_t e q) (RepL.dr e (k := k - 1) (by simp only [D.pr, Bool.and_eq_true] at p; exact p.2) r)
  | .lst xs, _, k, p, h => by
    cases h with
    | lst q r => simp only [D.py]; exact .lst (.inl (.inl (e _ _ q))) (RepL.dr e (k := k - 1) (by simp only [D.pr, Bool.and_eq_true] at p; exact p.2) r)
  | .ro xs, _, k, p, h => by
    cases h with
    | ro q r => simp only [D.py]; exact .lst (same_l e q) (RepL.dr e (k := k - 1) (by simp only [D.pr, Bool.and_eq_true] at p; exact p.2) r)
  | .cell n, _, _, p, _ => by simp [D.pr] at p
  | .ty n, _, _, p, _ => by simp [D.pr] at p
  | .err _ _ _, _, _, p, _ => by simp [D.pr] at p
  | .cls _, _, _, p, _ => by simp [D.pr] at p
  | .dE, _, _, p, h => by
    cases h with
    | dE q => simp only [D.py]; exact .dE (same_rd e q)
theorem RepL.dr (e : Same F H) : ∀ {ds : List D} {vs : List V} {k : Nat}, D.prL k ds = true → RepL K as F vs ds → DrL K H vs (D.pyL ds)
  | [], _, _, _, h => by cases h; simp only [D.pyL]; exact .nil
  | d :: ds, _, k, p, h => by
    simp only [D.prL, Bool.and_eq_true] at p
    cases h with | cons q r => simp only [D.pyL]; exact .cons (Rep.dr e p.1 q) (RepL.dr e p.2 r)
end
end
def rRepr (K : PySem.W.Frag) : List V → Hp → VK → Prop := fun xs H Q => ∃ v d, xs = [v] ∧ Dr K H v d ∧ d.showable = true ∧ d.depth ≤ 64 ∧ d.shown.length ≤ sizeLine ∧ Q (.str d.shown) H
theorem call_reprA {X : Cx} (hg : Qt X.A X.base) (hu : X.A.units + 66 < cLine) : CallR X (.builtin "repr") (rRepr X.K) := by
  intro pins s σ H xs us Q I r h
  obtain ⟨v, d, rfl, hd, h1, h3, h4, q⟩ := h
  obtain ⟨u, rfl, ru⟩ := vals1 r
  obtain ⟨as, rd, ns⟩ := Dr.reads I hg.s d v u hd ru
  cases hd with
  | non => cases ru; exact PySem.P.repr_of_none ⟨.str _, H, I.tok _, ⟨_, rfl⟩, q⟩
  | bl b =>
    cases ru
    refine PySem.P.repr_of_bool ⟨.str _, H, I.tok _, ⟨_, rfl⟩, ?_⟩
    cases b <;> exact q
  | int i =>
    obtain ⟨t, rfl⟩ := ru
    exact PySem.P.repr_of_int (by simpa [PyData.showable] using h1) ⟨.str _, H, I.tok _, ⟨_, rfl⟩, q⟩
  | str x =>
    obtain ⟨t, rfl⟩ := ru
    exact PySem.P.repr_of_str ⟨.str _, H, I.tok _, ⟨_, rfl⟩, q⟩ h4
  | lst a b =>
    cases ru
    exact repr_of_reads' rd h1 (fun _ => ns) hg.g (by omega) (fun _ _ e => e) (fun h' t tk hk => ⟨.str _, H, I.kept hk, ⟨_, rfl⟩, q⟩) h4
  | tup a b =>
    cases ru
    exact repr_of_reads' rd h1 (fun _ => ns) hg.g (by omega) (fun _ _ e => e) (fun h' t tk hk => ⟨.str _, H, I.kept hk, ⟨_, rfl⟩, q⟩) h4
  | dE a =>
    cases ru
    exact repr_of_reads' rd h1 (fun _ => ns) hg.g (by omega) (fun _ _ e => e) (fun h' t tk hk => ⟨.str _, H, I.kept hk, ⟨_, rfl⟩, q⟩) h4
/-- what repr tells of data -/
def D.shown (d : D) : Str := d.py.shown
def D.shows (d : D) : Bool := d.py.showable && decide (d.py.shown.length ≤ sizeLine)
def fRepr : List D → M D
  | [d] => fun S => if (topD S d).pr 60 && (topD S d).shows then .ok (.str (topD S d).shown) S else .stuck
  | _ => fun _ => .stuck
/-! isinstance with a built-in class -/
def kindD (S : Sto) : D → Option String
  | .non => some "NoneType"
  | .bl _ => some "bool"
  | .int _ => some "int"
  | .str _ => some "str"
  | .tup _ => some "tuple"
  | .lst _ => some "list"
  | .ro _ => some "list"
  | .cell n => match S[n]? with
    | some (some (.lst _)) => some "list"
    | _ => none
  | .ty _ => none
  | .err _ _ _ => none
  | .cls _ => none
  | .dE => some "dict"
theorem Rep.kind {K : PySem.W.Frag} {hd : Hid} {as : List Addr} {S : Sto} {H : Hp} {v : V} {d : D} {k : String} (w : Wld K hd as S H) (r : Rep K as (fz hd as S H) v d) (h : kindD S d = some k) : TyX K H v (.type k) := by
  have ofL : ∀ {a : Addr} {vs : List V}, SqL K H a vs → TyX K H (.ref a) (.type "list") := fun {a vs} q => by
    rcases q with (q | ⟨o, q⟩) | ⟨o, its, n, q1, q2, _⟩
    · exact .base (.lst q)
    · exact .base (.frz q)
    · exact .kList q1 q2
  have ofT : ∀ {a : Addr} {vs : List V}, SqT K H a vs → TyX K H (.ref a) (.type "tuple") := fun {a vs} q => by
    rcases q with (q | ⟨o, q⟩) | ⟨o, its, n, q1, q2, _⟩
    · exact .base (.tup q)
    · exact .fTuple q
    · exact .kTuple q1 q2
  have r0 := r
  cases r with
  | non => cases h; exact .base .non
  | bl b => cases h; exact .base (.bl b)
  | int i => cases h; exact .base (.int i)
  | str x => cases h; exact .base (.str x)
  | ty x => cases h
  | err => cases h
  | cls => cases h
  | dE q =>
    cases h
    rcases same_rd fz_same q with q | ⟨o, q⟩
    · exact .base (.dK q)
    · exact .fDict q
  | tup q r => cases h; exact ofT (same_t fz_same q)
  | lst q r => cases h; exact ofL (.inl (.inl (fz_same _ _ q)))
  | ro q r => cases h; exact ofL (same_l fz_same q)
  | cell q =>
    simp only [kindD] at h
    split at h
    · rename_i xs e
      cases h
      obtain ⟨a, vs, e1, hq, r⟩ := seqL w r0 (show listOf S _ = some xs by simp [listOf, e])
      cases e1
      exact ofL hq
    · cases h
def fIsi : List D → M D
  | [d, .ty c] => fun S => match kindD S d with
    | some k => match kitB k c with
      | some b => .ok (.bl b) S
      | none => .stuck
    | none => .stuck
  | _ => fun _ => .stuck
theorem act_isi {K : PySem.W.Frag} : ActL K (rIsi K) fIsi := by
  intro hd as S H vs ds w r
  unfold fIsi
  split
  · rename_i d c
    cases ek : kindD S d with
    | none => trivial
    | some k =>
      dsimp only
      cases eb : kitB k c with
      | none => trivial
      | some b =>
        obtain ⟨v, u, rfl, a, b'⟩ := rep2 r
        cases b'
        exact .now w (.bl _) fun Q q => ⟨_, _, _, _, b, rfl, .ty c, a.kind w ek, kit_ty eb, q⟩
  · trivial
/-! sum, all, any -/
def intsOf : List D → Option (List Int)
  | [] => some []
  | .int i :: r => (intsOf r).map (i :: ·)
  | _ :: _ => none
def blsOf : List D → Option (List Bool)
  | [] => some []
  | .bl i :: r => (blsOf r).map (i :: ·)
  | _ :: _ => none
theorem RepL.bls {K : PySem.W.Frag} {as : List Addr} {F : Hp} : ∀ {ds : List D} {vs : List V} {ns : List Bool}, RepL K as F vs ds → blsOf ds = some ns → vs = ns.map V.bl
  | [], _, _, r, h => by cases r; cases h; rfl
  | .bl i :: ds, _, ns, r, h => by
    cases r with
    | cons a b =>
      cases a
      simp only [blsOf, Option.map_eq_some_iff] at h
      obtain ⟨ms, e, rfl⟩ := h
      rw [RepL.bls b e] <;> rfl
  | .non :: _, _, _, _, h | .int _ :: _, _, _, _, h | .str _ :: _, _, _, _, h | .tup _ :: _, _, _, _, h | .lst _ :: _, _, _, _, h | .ro _ :: _, _, _, _, h | .cell _ :: _, _, _, _, h | .ty _ :: _, _, _, _, h => by simp [blsOf] at h
def fSum : List D → M D
  | [d] => fun S => match (listOf S d).bind intsOf with
    | some ns => .ok (.int ns.sum) S
    | none => .stuck
  | _ => fun _ => .stuck
def fAll : List D → M D
  | [d] => fun S => match (listOf S d).bind blsOf with
    | some ns => .ok (.bl (ns.all id)) S
    | none => .stuck
  | _ => fun _ => .stuck
def fAny : List D → M D
  | [d] => fun S => match (listOf S d).bind blsOf with
    | some ns => .ok (.bl (ns.any id)) S
    | none => .stuck
  | _ => fun _ => .stuck
theorem act_all {K : PySem.W.Frag} : ActL K (rAll K) fAll := by
  intro hd as S H vs ds w r
  match ds, r with
  | [], _ => trivial
  | [d], r =>
    obtain ⟨v, rfl, a⟩ := rep1 r
    simp only [fAll]
    cases e : (listOf S d).bind blsOf with
    | none => trivial
    | some ns =>
      obtain ⟨xs, e1, e2⟩ := Option.bind_eq_some_iff.mp e
      obtain ⟨p, vs, rfl, hq, r⟩ := seqL w a e1
      rw [r.bls e2] at hq
      exact .now w (.bl _) fun Q q => ⟨p, ns, rfl, hq, q⟩
  | _ :: _ :: _, _ => trivial
/-! list(..), tuple(..) -/
def fList : List D → M D
  | [d] => fun S => match seqOf S d with
    | some xs => .ok (.lst xs) S
    | none => .stuck
  | _ => fun _ => .stuck
def fListC : List D → M D
  | [d] => fun S => match seqOf S d with
    | some xs => .ok (.cell S.length) (S ++ [some (.lst xs)])
    | none => .stuck
  | _ => fun _ => .stuck
def fTuple : List D → M D
  | [.tup xs] => fun S => .ok (.tup xs) S
  | [d] => fun S => match listOf S d with
    | some xs => .ok (.tup xs) S
    | none => .stuck
  | _ => fun _ => .stuck
theorem act_list {K : PySem.W.Frag} : ActL K (fun xs H Q => ∃ p ys, xs = [.ref p] ∧ (SqL K H p ys ∨ SqT K H p ys) ∧ ∀ l, H l = none → Q (.ref l) (upd H l (.lst ys))) fList := by
  intro hd as S H vs ds w r
  match ds, r with
  | [], _ => trivial
  | [d], r =>
    obtain ⟨v, rfl, a⟩ := rep1 r
    simp only [fList]
    cases e : seqOf S d with
    | none => trivial
    | some xs =>
      obtain ⟨p, vs, rfl, hq, r⟩ := seqS w a e
      exact .fresh w (fun l el g => .lst el (r.grow g)) fun Q q => ⟨p, vs, rfl, hq, q⟩
  | _ :: _ :: _, _ => trivial
theorem act_listC {K : PySem.W.Frag} : ActL K (fun xs H Q => ∃ p ys, xs = [.ref p] ∧ (SqL K H p ys ∨ SqT K H p ys) ∧ ∀ l, H l = none → Q (.ref l) (upd H l (.lst ys))) fListC := by
  intro hd as S H vs ds w r
  match ds, r with
  | [], _ => trivial
  | [d], r =>
    obtain ⟨v, rfl, a⟩ := rep1 r
    simp only [fListC]
    cases e : seqOf S d with
    | none => trivial
    | some xs =>
      obtain ⟨p, vs, rfl, hq, r⟩ := seqS w a e
      exact fun Q q => ⟨p, vs, rfl, hq, fun l hl => by
        obtain ⟨w', g, e⟩ := w.newCell hl r
        exact q _ _ _ g w' (.cell e)⟩
  | _ :: _ :: _, _ => trivial
theorem act_tuple {K : PySem.W.Frag} : ActL K (fun xs H Q => ∃ p ys, xs = [.ref p] ∧ ((SqL K H p ys ∧ ∀ l, H l = none → Q (.ref l) (upd H l (.tup ys))) ∨ (SqT K H p ys ∧ Q (.ref p) H))) fTuple := by
  intro hd as S H vs ds w r
  unfold fTuple
  split
  · obtain ⟨v, rfl, a⟩ := rep1 r
    have a0 := a
    obtain ⟨p, vs, rfl, hq, r⟩ := seqT a
    exact .now w a0 fun Q q => ⟨p, vs, rfl, .inr ⟨hq, q⟩⟩
  · rename_i d _
    obtain ⟨v, rfl, a⟩ := rep1 r
    dsimp only
    cases e : listOf S d with
    | none => trivial
    | some xs =>
      obtain ⟨p, vs, rfl, hq, r⟩ := seqL w a e
      exact .fresh w (fun l el g => .tup (.inl (.inl el)) (r.grow g)) fun Q q => ⟨p, vs, rfl, .inl ⟨hq, q⟩⟩
  · trivial

/-! ### subscripts, slices -/
def oIx : D → D → M D
  | .str z, .int i => fun S => if z.length ≤ sizeLine then match atI z.cps.toList i with
      | some c => .ok (.str ⟨#[c]⟩) S
      | none => .stuck
    else .stuck
  | d, .int i => fun S => match (seqOf S d).bind fun xs => atI xs i with
    | some x => .ok x S
    | none => .stuck
  | _, _ => fun _ => .stuck
theorem atI_rep {K : PySem.W.Frag} {as : List Addr} {F : Hp} {ds : List D} {vs : List V} {i : Int} {d : D} (r : RepL K as F vs ds) (h : atI ds i = some d) : ∃ v, atI vs i = some v ∧ Rep K as F v d := by
  unfold atI at h ⊢
  rw [r.length]
  obtain ⟨j, e1, e2⟩ := Option.bind_eq_some_iff.mp h
  obtain ⟨v, ev, rv⟩ := r.get e2
  exact ⟨v, by rw [e1]; exact ev, rv⟩
theorem act_ix {K : PySem.W.Frag} : Act2 K (rIx K) oIx := by
  intro hd as S H v u d e w r1 r2
  have seq : ∀ i, u = .int i → Ret K hd as S H (match (seqOf S d).bind fun xs => atI xs i with
    | some x => .ok x S
    | none => .stuck) (rIx K v u H) := fun i eu => by
    subst eu
    cases e : (seqOf S d).bind fun xs => atI xs i with
    | none => trivial
    | some x =>
      obtain ⟨xs, e1, e2⟩ := Option.bind_eq_some_iff.mp e
      obtain ⟨a, vs, rfl, hq, r⟩ := seqS w r1 e1
      obtain ⟨y, ey, ry⟩ := atI_rep r e2
      exact .now w ry fun Q q => hq.elim (fun z => .inl ⟨a, vs, i, y, rfl, rfl, z, ey, q⟩) fun z => .inr (.inl ⟨a, vs, i, y, rfl, rfl, z, ey, q⟩)
  cases r2 with
  | int i =>
    cases r1 with
    | str z =>
      simp only [oIx]
      split
      · rename_i hz
        cases ec : atI z.cps.toList i with
        | none => trivial
        | some c => exact .now w (.str _) fun Q q => .inr (.inr ⟨z, i, c, rfl, rfl, hz, ec, q⟩)
      · trivial
    | non => trivial
    | bl b => trivial
    | int i => trivial
    | ty n => trivial
    | err => trivial
    | cls => trivial
    | dE q => trivial
    | tup q r => exact seq i rfl
    | lst q r => exact seq i rfl
    | ro q r => exact seq i rfl
    | cell q => exact seq i rfl
  | _ => cases r1 <;> trivial
def cutD (xs : List D) (lo hi : Option Int) : List D := (xs.drop (HT.sIx xs.length 0 lo)).take (HT.sIx xs.length xs.length hi - HT.sIx xs.length 0 lo)
def oSlL (d : D) (lo hi : Option Int) : M D := fun S => match listOf S d with
  | some xs => .ok (.lst (cutD xs lo hi)) S
  | none => .stuck
def oSlT (d : D) (lo hi : Option Int) : M D := fun S => match d with
  | .tup xs => if ¬ (HT.sIx xs.length 0 lo = 0 ∧ HT.sIx xs.length xs.length hi = xs.length) then .ok (.tup (cutD xs lo hi)) S else .stuck
  | _ => .stuck
def oSlS (d : D) (lo hi : Option Int) : M D := fun S => match d with
  | .str z => if z.length ≤ sizeLine then .ok (.str (cutS z lo hi)) S else .stuck
  | _ => .stuck
theorem RepL.cut_ {K : PySem.W.Frag} {as : List Addr} {F : Hp} {ds : List D} {vs : List V} (r : RepL K as F vs ds) (lo hi : Option Int) : RepL K as F (cutV vs lo hi) (cutD ds lo hi) := by
  unfold cutV cutD
  rw [r.length]
  exact (r.drop _).take _
theorem act_slL {K : PySem.W.Frag} : ActS K (rSlL K) oSlL := by
  intro hd as S H v d lo hi w r
  unfold oSlL
  cases e : listOf S d with
  | none => trivial
  | some xs =>
    obtain ⟨a, vs, rfl, hq, r⟩ := seqL w r e
    exact .fresh w (fun p ep g => .lst ep ((r.cut_ lo hi).grow g)) fun Q q => ⟨a, vs, rfl, hq, q⟩
theorem act_slT {K : PySem.W.Frag} : ActS K (rSlT K) oSlT := by
  intro hd as S H v d lo hi w r
  unfold oSlT
  split
  · split
    · rename_i hn
      obtain ⟨a, vs, rfl, hq, r⟩ := seqT r
      exact .fresh w (fun p ep g => .tup (.inl (.inl ep)) ((r.cut_ lo hi).grow g)) fun Q q => ⟨a, vs, rfl, hq, by rw [r.length]; exact hn, q⟩
    · trivial
  · trivial
theorem act_slS {K : PySem.W.Frag} : ActS K rSlS oSlS := by
  intro hd as S H v d lo hi w r
  unfold oSlS
  split
  · split
    · rename_i hz
      cases r
      exact .now w (.str _) fun Q q => ⟨_, rfl, hz, q⟩
    · trivial
  · trivial
/-! ### list methods -/
def chkL (d : D) (S : Sto) : Bool := (listOf S d).isSome
theorem ty_list {K : PySem.W.Frag} : TyOk K "list" chkL := by
  intro hd as S H v d w r h
  obtain ⟨xs, e⟩ := Option.isSome_iff_exists.mp h
  obtain ⟨a, vs, rfl, hq, _⟩ := seqL w r e
  exact .inl ⟨rfl, vs, hq⟩
def mAppend : D → List D → M D
  | .cell n, [x] => fun S => match S[n]? with
    | some (some (.lst xs)) => if xs.length < sizeLine then .ok .non (S.set n (some (.lst (xs ++ [x])))) else .stuck
    | _ => .stuck
  | _, _ => fun _ => .stuck
theorem act_append {K : PySem.W.Frag} : ActM K rAppend mAppend := by
  intro hd as S H v vs d ds w r rs
  unfold mAppend
  split
  · rename_i n x
    split
    · rename_i xs e
      split
      · rename_i hz
        obtain ⟨u, rfl, ru⟩ := rep1 rs
        cases r with
        | cell q =>
          obtain ⟨a, ws, e1, e2, r⟩ := w.at_ n xs e
          rw [q] at e1; cases e1
          obtain ⟨w', g⟩ := w.write e q (r.append (.cons ru .nil))
          exact fun Q k => ⟨_, ws, u, rfl, rfl, e2, by rw [r.length]; exact hz, k _ _ _ g w' .non⟩
      · trivial
    · trivial
  · trivial
def mExtend : D → List D → M D
  | .cell n, [d] => fun S => match S[n]?, listOw S d with
    | some (some (.lst xs)), some ys => if xs.length + ys.length ≤ sizeLine then .ok .non (S.set n (some (.lst (xs ++ ys)))) else .stuck
    | _, _ => .stuck
  | _, _ => fun _ => .stuck
/-! ### more that is walked -/
section
variable {X : Cx} {W : WX} {tg e e2 : Expr} {me : EM} {mr : AM} {pos tpos p : Pos} {elts : List Expr} {kk : Nat}
theorem di_rng1 (hg : Gl X "range") (hm : X.mg "range" = none) (h : DA X W [e] mr) (hq : starEach [e] X.env = [(false, eval e X.env)] := by rfl) : DI X W tg (.Call (.Name "range" p) [e] [] pos) (imOfA mItR1 mr) := PI.le (pi_range1 hg hm h hq) fun σ H Rk ⟨hd, as, ρ, S, rel, po⟩ => tA_seq rel po fun as1 S1 H1 vs ds g1 rel1 r po1 => by
  unfold mItR1 at po1
  split at po1
  · rename_i j
    split at po1
    · rename_i hz
      obtain ⟨v, rfl, a⟩ := rep1 r
      cases a
      refine ⟨_, rfl, hz.1, hz.2, po1 as1 H1 .refl rel1 _ ?_⟩
      have := jok_rng (K := X.K) (hd := hd) (as := as1) (S := S1) (H := H1) (lo := 0) (n := j.toNat)
      simpa using this
    · exact po1.elim
  · exact po1.elim
theorem di_rng2 (hg : Gl X "range") (hm : X.mg "range" = none) (h : DA X W [e, e2] mr) (hq : starEach [e, e2] X.env = [(false, eval e X.env), (false, eval e2 X.env)] := by rfl) (hq2 : starEach [e2] X.env = [(false, eval e2 X.env)] := by rfl) : DI X W tg (.Call (.Name "range" p) [e, e2] [] pos) (imOfA mItR2 mr) :=
  PI.le (pi_range2 hg hm h hq hq2) fun σ H Rk ⟨hd, as, ρ, S, rel, po⟩ => tA_seq rel po fun as1 S1 H1 vs ds g1 rel1 r po1 => by
  unfold mItR2 at po1
  split at po1
  · rename_i i j
    split at po1
    · rename_i hz
      obtain ⟨v, u, rfl, a, b⟩ := rep2 r
      cases a; cases b
      exact ⟨_, _, rfl, hz, po1 as1 H1 .refl rel1 _ jok_rng⟩
    · exact po1.elim
  · exact po1.elim
theorem frozen_list {S : Sto} {d : D} {xs : List D} (h : frozenL d = some xs) : listOf S d = some xs := by
  cases d <;> first | exact h | cases h
theorem di_enum (hg : Gl X "enumerate") (hm : X.mg "enumerate" = none) (h : DA X W [e] mr) (hq : starEach [e] X.env = [(false, eval e X.env)] := by rfl) : DI X W (.Tuple elts kk tpos) (.Call (.Name "enumerate" p) [e] [] pos) (imOfA mItE mr) :=
  PI.le (pi_enum hg hm h hq) fun σ H Rk ⟨hd, as, ρ, S, rel, po⟩ => tA_seq rel po fun as1 S1 H1 vs ds g1 rel1 r po1 => by
  unfold mItE at po1
  split at po1
  · rename_i d
    obtain ⟨v, rfl, ra⟩ := rep1 r
    split at po1
    · rename_i xs e1
      obtain ⟨a, vs, rfl, ha, _⟩ := seqL rel1.w ra (frozen_list e1)
      exact ⟨a, vs, rfl, ha, po1 as1 H1 .refl rel1 _ (jok_enum ra _ fun i S' _ _ _ _ _ o h => ⟨xs, frozen_list e1, (Option.some.inj h).symm⟩)⟩
    · split at po1
      · rename_i xs e1
        obtain ⟨a, vs, rfl, ha, _⟩ := seqL rel1.w ra e1
        refine ⟨a, vs, rfl, ha, po1 as1 H1 .refl rel1 _ (jok_enum ra _ fun i S' _ _ _ _ _ o h => ?_)⟩
        simp only [itE] at h
        split at h
        · rename_i xs' e1'
          exact ⟨xs', e1', (Option.some.inj h).symm⟩
        · cases h
      · exact po1.elim
  · exact po1.elim
end
end
end DL

set_option Elab.async false
set_option linter.all false
set_option maxRecDepth 100000
/-! DL8: defs by their bodies, calls of defs. -/
namespace DL
open PySem PySem.Spec PyProof.Rows L2
noncomputable section

/-! ### what is left of the cells behind a call -/
def Cut (S : Sto) (d : D) (S' : Sto) : Prop := d.bel S.length = true ∧ ∀ (i : Nat) c, i < S.length → S'[i]? = some (some c) → S[i]? = some (some c) ∨ c.bel S.length = true
open Classical in
def trim (S : Sto) (d : D) (S' : Sto) : Sto := if Cut S d S' then S'.take S.length else S'
theorem trim_same {S : Sto} {d : D} {S' : Sto} (h : S'.length = S.length) : trim S d S' = S' := by
  unfold trim
  split
  · rw [← h, List.take_length]
  · rfl
theorem trim_cut {S : Sto} {d : D} {S' : Sto} (h : Cut S d S') : trim S d S' = S'.take S.length := if_pos h
section
variable {K : PySem.W.Frag} {hd : Hid} {as as' : List Addr} {S S' : Sto} {H H' : Hp} {v : V} {d : D}
theorem live_take {n : Nat} {b : Addr} (h : b ∈ live (as'.take n) (S'.take n)) : b ∈ live as' S' := by
  obtain ⟨i, c, h1, h2⟩ := mem_live.mp h
  have hi : i < n := by
    have := (List.getElem?_eq_some_iff.mp h1).1
    simp at this; omega
  rw [List.getElem?_take_of_lt hi] at h1 h2
  exact mem_live.mpr ⟨i, c, h1, h2⟩
theorem fz_take {n : Nat} : Same (fz hd as' S' H') (fz hd (as'.take n) (S'.take n) H') := fun b u e => fz_of (fz_same _ _ e) (fun z => fz_not e (live_take z)) (fz_nh e)
theorem Wld.trim (w0 : Wld K hd as S H) (g : Grow hd as S H as' S' H') (w : Wld K hd as' S' H') (r : Rep K as' (fz hd as' S' H') v d) :
    ∃ as2, Wld K hd as2 (DL.trim S d S') H' ∧ Grow hd as S H as2 (DL.trim S d S') H' ∧ Rep K as2 (fz hd as2 (DL.trim S d S') H') v d := by
  unfold DL.trim
  split
  · rename_i hc
    have hn : S.length ≤ S'.length := by
      rw [← w0.len, ← w.len]
      by_cases h0 : as.length = 0
      · omega
      · obtain ⟨a, ha⟩ : ∃ a, as[as.length - 1]? = some a := ⟨_, List.getElem?_eq_getElem (by omega)⟩
        have := (List.getElem?_eq_some_iff.mp (g.pre _ _ ha)).1
        omega
    refine ⟨as'.take S.length, ⟨by simp [w.len], fun i j a c c' h1 h2 h3 h4 => ?_, fun q hq => ⟨(w.hid q hq).1, fun z => (w.hid q hq).2 (live_take z)⟩, fun n xs e => ?_⟩, ⟨fun n a h => ?_, g.same.trans fz_take⟩, ?_⟩
    · have lt : ∀ {i : Nat} {a : Addr}, (as'.take S.length)[i]? = some a → i < S.length := fun {i a} h => by
        have := (List.getElem?_eq_some_iff.mp h).1
        simp at this; omega
      have l1 := lt h1
      have l2 := lt h2
      rw [List.getElem?_take_of_lt l1] at h1 h3
      rw [List.getElem?_take_of_lt l2] at h2 h4
      exact w.inj i j a c c' h1 h2 h3 h4
    · have hl : n < S.length := by
        have := (List.getElem?_eq_some_iff.mp e).1
        simp at this; omega
      rw [List.getElem?_take_of_lt hl] at e
      obtain ⟨a, vs, e1, e2, r⟩ := w.atC n xs e
      refine ⟨a, vs, by rw [List.getElem?_take_of_lt hl]; exact e1, e2, ?_⟩
      have hb : xs.bel S.length = true := by
        rcases hc.2 n _ hl e with h | h
        · obtain ⟨b, us, _, _, r0⟩ := w0.atC n xs h
          have := r0.bel_of
          rw [w0.len] at this; exact this
        · exact h
      exact (r.cut hb).mono (fun _ _ h => h) fz_take
    · have hl : n < S.length := by
        rw [← w0.len]; exact (List.getElem?_eq_some_iff.mp h).1
      rw [List.getElem?_take_of_lt hl]
      exact g.pre n a h
    · exact (r.cut hc.1).mono (fun _ _ h => h) fz_take
  · exact ⟨as', w, g, r⟩
end

/-! ### defs -/
abbrev FM := List D → M D
def endFn (S : Sto) : RS → R D
  | .ok .nx _ S' => .ok .non (trim S .non S')
  | .ok (.ret d) _ S' => .ok d (trim S d S')
  | .exc x _ S' => .exc x S'
  | _ => .stuck
/-- n slots, of these np parameters -/
def runFn (n np : Nat) (m : SD) : FM := fun ds S => if ds.length = np then endFn S (m (ds.map some ++ List.replicate (n - ds.length) none) S) else .stuck
def spM (K : PySem.W.Frag) (mg : Str → Option Value) (m : FM) : Sp := fun vs H Q E => ∃ hd as S ds, Wld K hd as S H ∧ RepL K as (fz hd as S H) vs ds ∧ (match m ds S with
  | .ok d S' => ∀ as' v H', Grow hd as S H as' S' H' → Wld K hd as' S' H' → Rep K as' (fz hd as' S' H') v d → Q v H'
  | .exc x S' => ∀ as' cls dd H', Grow hd as S H as' S' H' → Wld K hd as' S' H' → XRep K mg as' (fz hd as' S' H') x cls dd → E cls dd H'
  | .stuck => False)
/-- the def at f does to data what m does; no repr runs around it -/
structure FnG (P : Program) (w : World) (K : PySem.W.Frag) (mg : Str → Option Value) (base : Heap) (k : Nat) (f : Addr) (fd : FuncData) (ps : List Str) (m : FM) : Prop where
  ar : ∀ ds S, m ds S = .stuck ∨ ds.length = ps.length
  run : ∀ (A : Around) (outer : List PySem.Env) (s : Shared) (H : Hp) (args : Args) (us : List Value) (vs : List V) (Q : VK) (E : XK), Room k A → Qt A base → Env0 P w K mg base A outer s H → BindsTo s fd args (ps.zip us) → Vals vs us →
    spM K mg m vs H Q E → codeAny (model P w) A (.call (.ref f) args) (CR (L2.CX P w) outer P w H s Q E) s
theorem FnG.mono {P : Program} {w : World} {K : PySem.W.Frag} {mg : Str → Option Value} {base : Heap} {j k : Nat} {f : Addr} {fd : FuncData} {ps : List Str} {m : FM} (F : FnG P w K mg base j f fd ps m) (h : j ≤ k) : FnG P w K mg base k f fd ps m :=
  ⟨F.ar, fun A outer s H args us vs Q E hr => F.run A outer s H args us vs Q E (hr.mono h)⟩
abbrev WOf (E : XK) : WX := fun cls d _ H => E cls d H
theorem start_slots {K : PySem.W.Frag} {as : List Addr} {F : Hp} {N : List Str} {vs : List V} {ds : List D} (r : RepL K as F vs ds) : Slots K as F (L2.start N vs) (ds.map some ++ List.replicate (N.length - ds.length) none) := by
  unfold L2.start
  refine ⟨by simp [r.length], fun i d e => ?_⟩
  by_cases hi : i < ds.length
  · rw [List.getElem?_append_left (by simpa using hi), List.getElem?_map] at e
    obtain ⟨d', e1, e2⟩ := Option.map_eq_some_iff.mp e
    cases e2
    obtain ⟨v, ev, rv⟩ := r.get e1
    exact ⟨v, by rw [List.getElem?_append_left (by simp [r.length]; exact hi), List.getElem?_map, ev]; rfl, rv⟩
  · rw [List.getElem?_append_right (by simpa using Nat.le_of_not_lt hi), List.getElem?_replicate] at e
    split at e <;> cases e
section
variable {P : Program} {w : World} {K : PySem.W.Frag} {mg : Str → Option Value} {base : Heap}
/-- a def's body, walked -/
theorem Fun.okG {x qual : Str} {st : Stmt} {f : Addr} {fd : FuncData} {N ps : List Str} {k : Nat} {m : SD} (F : Fun K x qual st f fd) (Sc : FnScope N ps (defScope st))
    (hbody : ∀ (cdv : Value) (A : Around) (outer : List PySem.Env) (s : Shared) (H : Hp) (E : XK), Room k (A.deeper (envOfC qual (defScope st) s.heap.objs.size f cdv)) → Qt (A.deeper (envOfC qual (defScope st) s.heap.objs.size f cdv)) base →
      DSs (cxOf (L2.CX P w) P w K mg base N qual (defScope st) f cdv A outer s H E) (WOf E) (defBody st) m) : FnG P w K mg base (k + 1) f fd ps (runFn N.length ps.length m) := by
  obtain ⟨oc, od, kV, doc, pm, an, cdv, ct, osl, rfl, lk, hcd⟩ := F.ex
  refine ⟨fun ds S => ?_, fun A outer s H args us vs Q E hr hg e0 hb r hsp => ?_⟩
  · unfold runFn
    split
    · exact .inr (by assumption)
    · exact .inl rfl
  have hin : K.In s.heap := e0.mod.kin.keeps fun b o e => (e0.bs b o e).1
  have hnl : s.heap.NoLimit := e0.mod.nolimit.keeps fun b o e => (e0.bs b o e).1
  have kinds : ∀ y ∈ ps.zip us, (defScope st).names.lookup y.1 = some .local ∨ ((defScope st).names.lookup y.1 = some .cell ∧ ((cellsFrom (s.heap.objs.size + 1) (defScope st).names []).lookup y.1).isSome = true) := fun y hy =>
    (Sc.par y.1 (List.of_mem_zip hy).1).imp id fun q => ⟨q, PySem.W.cellsFrom_some _ _ _ (.inl q)⟩
  refine codeAny_call_function hr.depth (hin _ _ lk) rfl Sc.co Sc.gen rfl (PySem.W.codeRec_of hin hcd) (hb _ _ _ _ (wpAny_newFunctionEnv_cells Sc.kind kinds fun env he s1 ic => ?_))
  subst he
  refine ⟨hnl.keeps ic.toInCall.keep, codeAny_func ?_⟩
  have dl := hbody cdv A outer s H E (hr.deeper _) ⟨by simpa [Around.deeper] using hg.g, hg.s⟩
  obtain ⟨hd, as, S, ds, wl, rd, ms⟩ := hsp
  have hn : ds.length = ps.length := by
    by_cases hn : ds.length = ps.length
    · exact hn
    · unfold runFn at ms
      rw [if_neg hn] at ms; exact ms.elim
  have hl : vs.length = ps.length := by rw [rd.length]; exact hn
  have I : Inv (cxOf (L2.CX P w) P w K mg base N qual (defScope st) f cdv A outer s H E) [] (L2.start N vs) H s1 := inv_start Sc hr.hd e0 hl r ic
  have rel : REL K hd as (ds.map some ++ List.replicate (N.length - ds.length) none) S (L2.start N vs) H := ⟨wl, start_slots rd⟩
  have fin : ∀ {d : D} {S' : Sto}, (∀ as' v H', Grow hd as S H as' (trim S d S') H' → Wld K hd as' (trim S d S') H' → Rep K as' (fz hd as' (trim S d S') H') v d → Q v H') →
      ∀ as' v H', Grow hd as S H as' S' H' → Wld K hd as' S' H' → Rep K as' (fz hd as' S' H') v d → Q v H' := fun {d S'} h as' v H' g w' r' => by
    obtain ⟨as2, w2, g2, r2⟩ := wl.trim g w' r'
    exact h as2 v H' g2 w2 r2
  have run := dl.run [] s1 (L2.start N vs) H { nx := fun _ H' => Q .non H', rt := Q } I ⟨hd, as, _, S, rel, ?_⟩
  · refine wpAny_mono run (fun fl s' hs => ?_) fun e s' hs => hs
    cases fl with
    | ret u =>
      obtain ⟨v, σ', H', J, rv, q⟩ := hs
      exact ⟨v, H', J.os, J.bare, J.base, J.hok, rv, q⟩
    | next =>
      obtain ⟨σ', H', J, q⟩ := hs
      exact ⟨V.non, H', J.os, J.bare, J.base, J.hok, rfl, q⟩
    | brk => obtain ⟨_, _, _, q⟩ := hs; exact q.elim
    | cont => obtain ⟨_, _, _, q⟩ := hs; exact q.elim
  · unfold runFn at ms
    rw [if_pos hn] at ms
    cases em : m (ds.map some ++ List.replicate (N.length - ds.length) none) S with
    | ok fl ρ' S' =>
      rw [em] at ms
      cases fl with
      | nx => exact fun as' σ' H' g rel' => fin ms as' .non H' g rel'.w .non
      | ret d => exact fun as' v H' g w' r' => fin ms as' v H' g w' r'
      | brk => exact ms.elim
      | cnt => exact ms.elim
    | exc x ρ' S' =>
      rw [em] at ms
      exact fun as' cls dd σ' H' g rel' xr => ms as' cls dd H' g rel'.w xr
    | stuck => rw [em] at ms; exact ms.elim
end

/-! ### calls -/
section
variable {X : Cx} {W : WX} {k : Nat} {f : Addr} {fd : FuncData} {ps ks : List Str} {m : FM} {x : Str} {p pos : Pos} {e : Expr} {es : List Expr} {kws : List Keyword} {mr mk : AM}
/-- what a callee lets out is taken here -/
theorem takes_xe {pins : List (Addr × Obj)} {σ : L2.St} {H : Hp} {s s' : Shared} {E : XK} {u : Value} (tk : Takes X W) (I : Inv X pins σ H s) (hW : ∀ cls d H', E cls d H' → W cls d σ H') (c : L2.CX X.prog X.w X.stack H s E u s') : X.xe u s' := tk u s' (XE.of_call I hW c)
theorem run_fnG {pins : List (Addr × Obj)} {σ : L2.St} {H : Hp} {s : Shared} {Q : VK} {args : Args} {us : List Value} {vs : List V} {E : XK} (F : FnG X.prog X.w X.K X.mg X.base k f fd ps m) (hr : Room k X.A) (hg : Qt X.A X.base) (tk : Takes X W) (hb : BindsTo s fd args (ps.zip us))
    (I : Inv X pins σ H s) (r : Vals vs us) (hW : ∀ cls d H', E cls d H' → W cls d σ H') (h : spM X.K X.mg m vs H Q E) : wpAny (model X.prog X.w) X.A (call (.ref f) args.pos args.kw) (EP X pins σ Q) X.xe s := by
  refine wpAny_call (codeAny_mono (F.run X.A X.stack s H args us vs Q E hr hg I.env0 hb r h) fun rr s' hq => ?_)
  match rr, hq with
  | .error e, hq => exact takes_xe tk I hW hq
  | .ok (.ret u), hq => exact I.after hq
/-- from the reading of the arguments -/
theorem sp_of {hd : Hid} {as : List Addr} {S : Sto} {H : Hp} {ρ : Env} {σ : L2.St} {Q : VK} {vs : List V} {ds : List D} (rel : REL X.K hd as ρ S σ H) (r : RepL X.K as (fz hd as S H) vs ds) (po : Post X.K X.mg W σ ρ hd as S H (m ds S) fun d as' S' H' => ∀ v, Rep X.K as' (fz hd as' S' H') v d → Q v H') :
    spM X.K X.mg m vs H Q fun cls d H' => W cls d σ H' := by
  refine ⟨hd, as, S, ds, rel.w, r, ?_⟩
  cases em : m ds S with
  | ok d S' => rw [em] at po; exact fun as' v H' g w' r' => po as' H' g (rel.grow g w') v r'
  | exc z S' => rw [em] at po; exact fun as' cls dd H' g w' xr => po as' cls dd H' g (rel.grow g w') xr
  | stuck => rw [em] at po; exact po.elim
theorem sp_len (F : FnG X.prog X.w X.K X.mg X.base k f fd ps m) {vs : List V} {H : Hp} {Q : VK} {E : XK} (h : spM X.K X.mg m vs H Q E) : vs.length = ps.length := by
  obtain ⟨hd, as, S, ds, wl, rd, ms⟩ := h
  rcases F.ar ds S with e | e
  · rw [e] at ms; exact ms.elim
  · rw [rd.length]; exact e
/-- f(e, ..) -/
theorem de_call (F : FnG X.prog X.w X.K X.mg X.base k f fd ps m) (hr : Room k X.A) (hgd : Qt X.A X.base) (tk : Takes X W) (hg : Gl X x) (hm : X.mg x = some (.ref f)) (hk : PySem.W.keepIn X.K (.ref f) = true) (hb : Binds X.K fd ps []) (ha : DA X W (e :: es) mr)
    (hdb : (x == ("__debug__" : Str)) = false := by decide) (he : starEach (e :: es) X.env = (false, eval e X.env) :: starEach es X.env := by rfl) (hpl : (backTo pos (starEach es X.env)).any (·.1) = false := by rfl) : DE X W (.Call (.Name x p) (e :: es) [] pos) (eL m mr) :=
  ⟨fun pins s σ H Q I ⟨hd, as, ρ, S, rel, po⟩ => wpAny_Call_Name_kw (ld_glob I hg hm (PySem.W.callWith_K (h₀ := X.base) I.ok.mod.kin hk (thn (ha.run pos pins s σ H (fun vs H1 => spM X.K X.mg m vs H1 Q fun cls d H' => W cls d σ H') I
    (tA_seq rel po fun as1 S1 H1 vs ds g1 rel1 r1 po1 => sp_of rel1 r1 po1)) fun us s1 ⟨vs, H1, I1, r, q⟩ => ⟨I1.kIn, by
      have hl : (us ++ []).length = ps.length := by rw [List.append_nil, ← r.length]; exact sp_len F q
      exact run_fnG F hr hgd tk (args := ⟨us, []⟩) (us := us) (by simpa using hb s1 us I1.kIn hl) I1 r (fun _ _ _ z => z) q⟩) he hpl) hdb)⟩
/-! keywords -/
abbrev DK (X : Cx) (W : WX) (kws : List Keyword) (m : AM) : Prop := PK X kws (tA X.K X.mg W m)
theorem PK.le {t t' : TA} (h : PK X kws t) (k : ∀ σ H Q, t' σ H Q → t σ H Q) : PK X kws t' := ⟨fun p pins s σ H Q I q => h.run p pins s σ H Q I (k σ H Q q)⟩
theorem dk_nil : DK X W [] aNil := PK.le pk_nil fun σ H Q ⟨hd, as, ρ, S, rel, po⟩ => po as H .refl rel [] .nil
theorem dk_cons {nm : Option Str} {kpos : Pos} {me : EM} (ha : DE X W e me) (hr : DK X W kws mr) : DK X W (⟨nm, e, kpos⟩ :: kws) (aCons me mr) :=
  PK.le (pk_cons ha hr) fun σ H Q ⟨hd, as, ρ, S, rel, po⟩ => tE_seq rel po fun as1 S1 H1 v1 d1 g1 rel1 r1 po1 => tA_seq rel1 po1 fun as2 S2 H2 vs ds g2 rel2 r2 po2 => po2 as2 H2 .refl rel2 (v1 :: vs) (.cons (r1.grow g2) r2)
/-- positional values and keywords' values in the parameters' order -/
def eK (m : FM) (g : List D → List D → List D) (a b : AM) : EM := fun ρ => M.bind (a ρ) fun ds => M.bind (b ρ) fun es => m (g ds es)
/-- the order, for values of any kind: as the places tell -/
def byIx {α : Type} (ix : List Nat) (us ws : List α) : List α := ix.filterMap fun i => (us ++ ws)[i]?
theorem byIx_rep {K : PySem.W.Frag} {as : List Addr} {F : Hp} {vs zs : List V} {ds es : List D} (r : RepL K as F vs ds) (q : RepL K as F zs es) : ∀ ix : List Nat, RepL K as F (byIx ix vs zs) (byIx ix ds es)
  | [] => .nil
  | i :: ix => by
    have ih := byIx_rep r q ix
    have ra := r.append q
    unfold byIx at ih ⊢
    cases e : (ds ++ es)[i]? with
    | none =>
      have e' : (vs ++ zs)[i]? = none := by rw [List.getElem?_eq_none_iff] at e ⊢; rw [ra.length]; exact e
      rw [List.filterMap_cons_none e, List.filterMap_cons_none e']
      exact ih
    | some d =>
      obtain ⟨v, ev, rv⟩ := ra.get e
      rw [List.filterMap_cons_some e, List.filterMap_cons_some ev]
      exact .cons rv ih
theorem byIx_vals {vs zs : List V} {us ws : List Value} (r : Vals vs us) (q : Vals zs ws) : ∀ ix : List Nat, Vals (byIx ix vs zs) (byIx ix us ws)
  | [] => .nil
  | i :: ix => by
    have ih := byIx_vals r q ix
    have ra := r.append q
    unfold byIx at ih ⊢
    cases e : (vs ++ zs)[i]? with
    | none => rw [List.filterMap_cons_none e, List.filterMap_cons_none (ra.none_of e)]; exact ih
    | some v =>
      obtain ⟨u, eu, ru⟩ := ra.get e
      rw [List.filterMap_cons_some e, List.filterMap_cons_some eu]
      exact .cons ru ih
/-- how a call with keywords binds -/
def KB (K : PySem.W.Frag) (fd : FuncData) (ps : List Str) (n : Nat) (ks : List Str) (ix : List Nat) : Prop := ∀ (s : Shared) (us ws : List Value), K.In s.heap → us.length = n → ws.length = ks.length → BindsTo s fd ⟨us, ks.zip ws⟩ (ps.zip (byIx ix us ws))
theorem len_nil : ∀ (ρ : Env) (S : Sto) ds S', aNil ρ S = .ok ds S' → ds.length = 0 := by
  intro ρ S ds S' h
  cases h; rfl
theorem len_cons {a : EM} {r : AM} {n : Nat} (h : ∀ (ρ : Env) (S : Sto) ds S', r ρ S = .ok ds S' → ds.length = n) : ∀ (ρ : Env) (S : Sto) ds S', aCons a r ρ S = .ok ds S' → ds.length = n + 1 := by
  intro ρ S ds S' e
  unfold aCons at e
  rw [bind_ap] at e
  cases ea : a ρ S with
  | exc z S1 => rw [ea] at e; cases e
  | stuck => rw [ea] at e; cases e
  | ok d S1 =>
    rw [ea] at e
    simp only [R.bind_ok, bind_ap] at e
    cases er : r ρ S1 with
    | exc z S2 => rw [er] at e; cases e
    | stuck => rw [er] at e; cases e
    | ok xs S2 =>
      rw [er] at e
      cases e
      simp [h ρ S1 xs _ er]
end
end
end DL

set_option Elab.async false
set_option linter.all false
set_option maxRecDepth 100000
/-! DL9: the law's own call: from what m tells of the script to the row's claim. -/
namespace DL
open PySem PySem.Spec PyProof.Rows L2
noncomputable section

theorem rep_ints {K : PySem.W.Frag} {as : List Addr} {F : Hp} : ∀ ns : List Int, RepL K as F (ns.map V.int) (ns.map D.int)
  | [] => .nil
  | n :: ns => .cons (.int n) (rep_ints ns)
section
variable {P : Program} {w : World} {K : PySem.W.Frag} {mg mb : Str → Option Value} {k : Nat} {fa a : Addr} {fd : FuncData} {x : Str} {m : FM} {s₁ : Shared} {vs : List Value} {ns : List Int}
/-- the heap behind the top, less what is tracked -/
theorem law_core (KX : K.In s₁.heap) (hns : s₁.heap.Ns mainGlobals mg) (hb : s₁.heap.Ns builtinsNs mb) (hbb : ∀ x : Str, x ≠ "__name__" → mb x = bootBuiltins x) (hlim : s₁.heap.NoLimit) (hsm : ∃ mm, s₁.heap.Ns sysModules mm) (hg : s₁.gens = #[])
    (ha : s₁.heap.get? a = some { cls := .type "list", data := .seq vs.toArray }) (hr : Room k callerA) (F : ∀ base : Heap, K.In base → base.Ns mainGlobals mg → FnG P w K mg base k fa fd [x] m) (hbind : ∀ (s : Shared) (u : Value), BindsTo s fd ⟨[u], []⟩ [(x, u)])
    {S' : Sto} (hm : m [.ro (ns.map D.int)] [] = .ok (.bl true) S') {H : Hp} (hS : SqL K H a (ns.map V.int)) (hok : HOk P w H s₁.heap) (hO : ∀ b u, H b = some u → b = a ∧ K.lookup a = none ∧ ∃ o xs, u = .frz o (.lst xs)) :
    codeAny (model P w) callerA (.call (.ref fa) ⟨[.ref a], []⟩) (fun r s' => r = .ok (.ret (.bool true)) ∧ OldK s₁.heap s'.heap ∧ s'.os = s₁.os ∧ AllBare s'.gens) s₁ := by
  have out : ∀ {b : Addr}, b ≠ a ∨ K.lookup a ≠ none → H b = none := fun {b} h => by
    cases q : H b with
    | none => rfl
    | some u => exact absurd (hO b u q) fun z => h.elim (fun n => n z.1) fun n => n z.2.1
  have seen : ∀ {b : Addr} {o : Obj}, s₁.heap.get? b = some o → b ≠ a ∨ K.lookup a ≠ none → (hidT s₁.heap H).get? b = some o := fun e h => hidT_get e (out h)
  have dict_ne : ∀ {b : Addr} {o : Obj} {es : Array DictEntry} {ep : Nat}, s₁.heap.get? b = some o → o.data = .dict es ep → b ≠ a := fun {b o es ep} e d z => by
    subst z
    rw [ha] at e
    cases e
    exact nomatch (show Data.seq vs.toArray _ = Data.dict es ep from d)
  have ns_seen : ∀ {b : Addr} {g : Str → Option Value}, s₁.heap.Ns b g → (hidT s₁.heap H).Ns b g := fun {b g} ⟨o, es, ep, e, d, r⟩ => ⟨o, es, ep, seen e (.inl (dict_ne e d)), d, r⟩
  have k_seen : K.In (hidT s₁.heap H) := fun b o e => seen (KX b o e) (by
    by_cases hb : b = a
    · subst hb; exact .inr (by rw [e]; simp)
    · exact .inl hb)
  have md : Mod K mg (hidT s₁.heap H) := ⟨k_seen, ns_seen hns, ⟨mb, ns_seen hb, hbb⟩, hlim.elim fun mc h => ⟨mc, ns_seen h.1, h.2⟩⟩
  have no : ∀ b : Addr, b ∉ frs ([] : List PySem.Env) := fun b hb => by simp [frs] at hb
  have e0 : Env0 P w K mg (hidT s₁.heap H) callerA [] s₁ H := ⟨rfl, md, fun b o e => of_hidT e, by rw [hidT_size]; exact Nat.le_refl _, trivial, fun b hb => (no b hb).elim, hok, .of_eq hg⟩
  have fz0 : fz [] [] [] H = H := by
    funext b
    unfold fz
    rw [if_neg (by simp [live])]
  have sp : spM K mg m [.ref a] H (fun v _ => v = .bl true) fun _ _ _ => False := by
    refine ⟨[], [], [], [.ro (ns.map D.int)], ⟨rfl, fun i j a c c' h => by simp at h, fun p hp => by simp at hp, fun n xs h => by simp at h⟩, .cons (.ro (by rw [fz0]; exact hS) (rep_ints ns)) .nil, ?_⟩
    rw [hm]
    intro as' v H' g w' r
    cases r; rfl
  refine codeAny_mono ((F _ k_seen (ns_seen hns)).run callerA [] s₁ H ⟨[.ref a], []⟩ [.ref a] [.ref a] _ _ hr ⟨rfl, hsm.elim fun mm h => ⟨mm, ns_seen h⟩⟩ e0 (hbind s₁ (.ref a)) (.cons rfl .nil) sp) fun r s' h => ?_
  match r, h with
  | .error e, h => obtain ⟨_, _, _, _, _, _, _, _, _, _, _, _, h⟩ := h; exact h.elim
  | .ok (.ret u), h =>
    obtain ⟨v, H', os, bare, un, hok', r', q⟩ := h
    cases (show v = .bl true from q)
    cases (show u = Value.bool true from r')
    refine ⟨rfl, OldK.of_keep fun b o e => ?_, os, bare⟩
    cases q : H b with
    | none => exact un.keep b o e q (no b) (by simp)
    | some u =>
      obtain ⟨_, _, o', xs, rfl⟩ := hO b u q
      obtain ⟨e1, _⟩ := hok b _ q
      obtain ⟨e2, _⟩ := hok' b _ (un.frzs b o' _ q)
      rw [e] at e1
      cases e1
      exact e2
theorem law_callG (KX : K.In s₁.heap) (hns : s₁.heap.Ns mainGlobals mg) (hb : s₁.heap.Ns builtinsNs mb) (hbb : ∀ x : Str, x ≠ "__name__" → mb x = bootBuiltins x) (hlim : s₁.heap.NoLimit) (hsm : ∃ mm, s₁.heap.Ns sysModules mm) (hg : s₁.gens = #[])
    (ha : s₁.heap.get? a = some { cls := .type "list", data := .seq vs.toArray }) (hi : IntsAre vs ns) (hl : ns.length ≤ sizeLine) (hr : Room k callerA) (F : ∀ base : Heap, K.In base → base.Ns mainGlobals mg → FnG P w K mg base k fa fd [x] m)
    (hbind : ∀ (s : Shared) (u : Value), BindsTo s fd ⟨[u], []⟩ [(x, u)]) {S' : Sto} (hm : m [.ro (ns.map D.int)] [] = .ok (.bl true) S') :
    codeAny (model P w) callerA (.call (.ref fa) ⟨[.ref a], []⟩) (fun r s' => r = .ok (.ret (.bool true)) ∧ OldK s₁.heap s'.heap ∧ s'.os = s₁.os ∧ AllBare s'.gens) s₁ := by
  have rv := vals_ints hi
  have lv := hi.length
  cases hk : K.lookup a with
  | some o =>
    have e := KX a o hk
    rw [ha] at e
    cases e
    exact law_core KX hns hb hbb hlim hsm hg ha hr F hbind hm (H := fun _ => none) (.inr ⟨_, vs.toArray, _, hk, rfl, rfl, rfl, by rw [List.size_toArray, lv]; exact hl, by simpa using rv⟩) (fun b u z => nomatch (show (none : Option HO) = some u from z)) fun b u z => nomatch (show (none : Option HO) = some u from z)
  | none =>
    refine law_core KX hns hb hbb hlim hsm hg ha hr F hbind hm (H := fun b => if b = a then some (.frz { cls := .type "list", data := .seq vs.toArray } (.lst (ns.map V.int))) else none) (.inl (.inr ⟨{ cls := .type "list", data := .seq vs.toArray }, if_pos rfl⟩)) (fun b u z => ?_) fun b u z => ?_
    all_goals
      by_cases hb : b = a
      · subst hb
        cases (if_pos rfl).symm.trans z
        first
          | exact ⟨ha, by rw [List.length_map]; exact hl, vs, _, rv, ha⟩
          | exact ⟨rfl, hk, _, _, rfl⟩
      · exact nomatch (if_neg hb).symm.trans z
end
/-- the goal that k_head leaves, from what m tells of every script -/
theorem walk_ofG {l : PySem.W.OpenLaw} {n k : Nat} {q : Program} {loose : List Str} {XP : (Str → Option Value) → Heap → Prop} {YP : World → Heap → Prop} {d : DefRec} {K : Params → PySem.W.Frag} {m : FM} {x : Str}
    (hi : importsNone q = true) (hn : l.most = some n) (hn2 : n ≤ sizeLine) (hdf : d.params.defaults = []) (hr : Room k callerA) (hY : ∀ (w : World) (h : Heap), YP w h → (K w.params).In h)
    (F : ∀ (w : World) (mg : Str → Option Value) (fa : Addr) (h : Heap), (K w.params).In h → h.Ns mainGlobals mg → mg d.name = some (.ref fa) →
      ∃ fd : FuncData, (∀ (s : Shared) (u : Value), BindsTo s fd ⟨[u], []⟩ [(x, u)]) ∧ ∀ base : Heap, (K w.params).In base → base.Ns mainGlobals mg → FnG l.prog w (K w.params) mg base k fa fd [x] m)
    (hm : ∀ ns : List Int, ns.length ≤ n → ∃ S', m [.ro (ns.map D.int)] [] = .ok (.bl true) S') : PySem.W.WalkO q loose XP YP l.row.toRowW d [] (fun f vs => PySem.call f vs) :=
  Att.attach_call hn hdf fun w s₀ s₁ mg mb fa o pm cd doc a vs ns G Y ho hd hcd hmg hobj hints hlen hg => by
    obtain ⟨fd, hb, hF⟩ := F w mg fa _ (hY w _ Y) G.T.g hmg
    obtain ⟨S', e⟩ := hm ns hlen
    exact law_callG (hY w _ Y) G.T.g G.T.b G.T.builtins G.T.nolimit ((G.T.seer hi).mods.elim fun mm h => ⟨mm, h.1⟩) hg hobj hints (Nat.le_trans hlen hn2) hr hF hb e
end
end DL

set_option Elab.async false
set_option linter.all false
set_option maxRecDepth 100000
/-! DLH: a def of the text with what m it does; calls of such; more slices. -/
namespace DL
open PySem PySem.Spec PyProof.Rows L2
noncomputable section
/-- the def stands at the top of the module -/
structure DefAt (K : PySem.W.Frag) (mg : Str → Option Value) (x : Str) (st : Stmt) (ps : List Str) : Prop where
  ex : ∃ f fd, Fun K x x st f fd ∧ mg x = some (.ref f) ∧ Binds K fd ps []
structure Has (P : Program) (w : World) (K : PySem.W.Frag) (mg : Str → Option Value) (base : Heap) (k : Nat) (x : Str) (st : Stmt) (ps : List Str) (m : FM) : Prop where
  ex : ∃ f fd, FnG P w K mg base k f fd ps m ∧ mg x = some (.ref f) ∧ Fun K x x st f fd ∧ Binds K fd ps []
theorem has_of {P : Program} {w : World} {K : PySem.W.Frag} {mg : Str → Option Value} {base : Heap} {k : Nat} {x : Str} {st : Stmt} {N ps : List Str} {m : SD} (h : DefAt K mg x st ps) (Sc : FnScope N ps (defScope st))
    (hbody : ∀ (f : Addr) (cdv : Value) (A : Around) (outer : List PySem.Env) (s : Shared) (H : Hp) (E : XK), Room k (A.deeper (envOfC x (defScope st) s.heap.objs.size f cdv)) → Qt (A.deeper (envOfC x (defScope st) s.heap.objs.size f cdv)) base →
      DSs (cxOf (L2.CX P w) P w K mg base N x (defScope st) f cdv A outer s H E) (WOf E) (defBody st) m) : Has P w K mg base (k + 1) x st ps (runFn N.length ps.length m) := by
  obtain ⟨f, fd, F, hm, hb⟩ := h.ex
  exact ⟨f, fd, Fun.okG F Sc (hbody f), hm, F, hb⟩
section
variable {X : Cx} {W : WX} {j k n : Nat} {ps ks : List Str} {m : FM} {x : Str} {st : Stmt} {p pos : Pos} {e : Expr} {es : List Expr} {kws : List Keyword} {mr mk : AM} {ix : List Nat}
theorem de_fn (h : Has X.prog X.w X.K X.mg X.base k x st ps m) (hr : Room j X.A) (hj : k ≤ j) (hgd : Qt X.A X.base) (tk : Takes X W) (hg : Gl X x) (ha : DA X W (e :: es) mr)
    (hdb : (x == ("__debug__" : Str)) = false := by decide) (he : starEach (e :: es) X.env = (false, eval e X.env) :: starEach es X.env := by rfl) (hpl : (backTo pos (starEach es X.env)).any (·.1) = false := by rfl) : DE X W (.Call (.Name x p) (e :: es) [] pos) (eL m mr) := by
  obtain ⟨f, fd, F, hm, Fu, hb⟩ := h.ex
  exact de_call F (hr.mono hj) hgd tk hg hm Fu.kp hb ha hdb he hpl
/-- what the text's own binding of such a call is -/
abbrev KwOk (x : Str) (st : Stmt) (ps : List Str) (n : Nat) (ks : List Str) (ix : List Nat) : Prop := ∀ (kV doc pm : Value) (an : Option Addr) (cdv ct : Value) (us ws : List Value), us.length = n → ws.length = ks.length →
  bindArgs (PySem.W.fnOf x x (defArgs st) (defBody st) (defScope st) .none kV doc pm an cdv ct) ⟨us, ks.zip ws⟩ = pure (ps.zip (byIx ix us ws))
/-- a built-in class as a value -/
theorem de_ty {T : String} (hg : Gl X x) (hm : X.mg x = none) (hv : bootBuiltins x = some (.type T)) (hn : x ≠ "__name__" := by decide) (hd : (x == ("__debug__" : Str)) = false := by decide) : DE X W (.Name x pos) (eC (.ty T)) := PE.const (pe_bltn hg hm hv (show RelV (.ty T) _ from rfl) hn hd) fun _ _ => .ty T
end
theorem takes_no {X : Cx} : Takes X WNo := takes_none5
/-! slices of any kind -/
def oSl (d : D) (lo hi : Option Int) : M D := match d with
  | .tup xs => oSlT (.tup xs) lo hi
  | .str z => oSlS (.str z) lo hi
  | d => oSlL d lo hi
def rSlA (K : PySem.W.Frag) : V → Option Int → Option Int → Hp → VK → Prop := fun x lo hi H Q => rSlL K x lo hi H Q ∨ (rSlT K x lo hi H Q ∨ rSlS x lo hi H Q)
theorem slr_all {X : Cx} : SlR X (rSlA X.K) := sl_list.or (sl_tup.or sl_str)
theorem act_sl {K : PySem.W.Frag} : ActS K (rSlA K) oSl := by
  intro hd as S H v d lo hi w r
  have l : Ret K hd as S H (oSlL d lo hi S) (rSlA K v lo hi H) := (act_slL hd as S H v d lo hi w r).map fun Q q => .inl q
  cases d with
  | tup xs => exact (act_slT hd as S H v _ lo hi w r).map fun Q q => .inr (.inl q)
  | str z => exact (act_slS hd as S H v _ lo hi w r).map fun Q q => .inr (.inr q)
  | _ => exact l
/-- a test by truth -/
def truD (S : Sto) : D → Option Bool
  | .non => some false
  | .bl b => some b
  | .int i => some (i != 0)
  | .str z => if z.length ≤ sizeLine then some ((z.length : Int) != 0) else none
  | d => (seqOf S d).map fun xs => !xs.isEmpty
def bTru (a : EM) : BM := fun ρ => M.bind (a ρ) fun d S => match truD S d with
  | some b => .ok b S
  | none => .stuck
theorem repl_empty {K : PySem.W.Frag} {as : List Addr} {F : Hp} {vs : List V} {ds : List D} (r : RepL K as F vs ds) : ds.isEmpty = vs.isEmpty := by cases r <;> rfl
theorem dt_tru {X : Cx} {W : WX} {e : Expr} {me : EM} (h : DE X W e me) (he : ∀ whole, isTrue e X.env whole = (do let v ← whole; standAt e.pos; holding [v] (truthy v)) := by intro _; rfl) : DT X W e (bTru me) :=
  PT.le (pt_truth h he) fun σ H Q ⟨hd, as, ρ, S, rel, po⟩ => tE_seq rel po fun as1 S1 H1 v1 d1 g1 rel1 r1 po1 => by
    cases et : truD S1 d1 with
    | none => simp only [et] at po1; exact po1.elim
    | some b =>
      simp only [et] at po1
      have q : Q b H1 := po1 as1 H1 .refl rel1
      refine ⟨b, ?_, q⟩
      have seq : ∀ xs, seqOf S1 d1 = some xs → b = !xs.isEmpty → TruV X.K v1 H1 b := fun xs e eb => by
        obtain ⟨a, vs, rfl, sq, r⟩ := seqS rel1.w r1 e
        rw [repl_empty r] at eb
        exact sq.elim (fun z => .inl ⟨vs, z, eb⟩) fun z => .inr (.inl ⟨vs, z, eb⟩)
      have r0 := r1
      cases r1 with
      | non => cases et; rfl
      | bl b => cases et; rfl
      | int i => cases et; rfl
      | str z =>
        simp only [truD] at et
        split at et
        · rename_i hz
          cases et
          exact ⟨hz, rfl⟩
        · cases et
      | ty n => cases et
      | err => cases et
      | cls => cases et
      | dE q => cases et
      | tup q r => cases et; exact seq _ rfl rfl
      | lst q r => cases et; exact seq _ rfl rfl
      | ro q r => cases et; exact seq _ rfl rfl
      | cell q =>
        obtain ⟨xs, e1, e2⟩ := Option.map_eq_some_iff.mp (show (seqOf S1 _).map _ = some b from et)
        exact seq xs e1 e2.symm
/-! comparisons as tests -/
section
variable {X : Cx} {W : WX} {a b c : Expr} {ma mb mc : EM} {pos : Pos}
theorem test_of {K : PySem.W.Frag} {mg : Str → Option Value} {W : WX} {me : EM} {hd : Hid} {as : List Addr} {ρ : DL.Env} {S : Sto} {σ : L2.St} {H : Hp} {Q : Bool → Hp → Prop} (rel : REL K hd as ρ S σ H) (po : Post K mg W σ ρ hd as S H (bVal me ρ S) fun b _ _ H' => Q b H') :
    Post K mg W σ ρ hd as S H (me ρ S) fun d as' S' H' => ∀ v, Rep K as' (fz hd as' S' H') v d → ∃ k, v = .bl k ∧ Q k H' := by
  unfold bVal at po
  refine (Post.bind po).imp fun d as1 S1 H1 g rel1 po1 v r => ?_
  rcases mBool_bl r (S := S1) with z | ⟨b, rfl, rfl⟩
  · rw [z] at po1; exact po1.elim
  · exact ⟨b, rfl, po1 as1 H1 .refl rel1⟩
theorem dt_cmp {op : CmpOp} {r : R2} {f : D → D → M D} (ho : OpR X (compareOp op) r) (act : Act2 X.K r f) (ha : DE X W a ma) (hb : DE X W b mb) (hm : behindInMarks op b = false) : DT X W (.Compare a [op] [b] pos) (bVal (e2 f ma mb)) :=
  PT.le (pt_cmpR ho ha hb hm) fun σ H Q ⟨hd, as, ρ, S, rel, po⟩ => tE_seq rel (test_of rel po) fun as1 S1 H1 v1 d1 g1 rel1 r1 po1 => tE_seq rel1 po1 fun as2 S2 H2 v2 d2 g2 rel2 r2 po2 =>
    (act hd as2 S2 H2 v1 v2 d1 d2 rel2.w (r1.grow g2) r2).out (Q := fun z H' => ∃ k, z = V.bl k ∧ Q k H') rel2 po2
theorem dt_chain {op op' : CmpOp} {r r' : R2} {f g : D → D → M D} (ho : OpR X (compareOp op) r) (ho' : OpR X (compareOp op') r') (act : Act2 X.K r f) (act' : Act2 X.K r' g) (ha : DE X W a ma) (hb : DE X W b mb) (hc : DE X W c mc) (hl : lastMarks [op, op'] [b, c] = false := by with_unfolding_all rfl) :
    DT X W (.Compare a [op, op'] [b, c] pos) (bVal (eChain f g ma mb mc)) :=
  PT.le (pt_chain ho ho' ha hb hc hl) fun σ H Q ⟨hd, as, ρ, S, rel, po⟩ => tE_seq rel (test_of rel po) fun as1 S1 H1 v1 d1 g1 rel1 r1 po1 => tE_seq rel1 po1 fun as2 S2 H2 v2 d2 g2 rel2 r2 po2 =>
    tR_seq (act hd as2 S2 H2 v1 v2 d1 d2 rel2.w (r1.grow g2) r2) rel2 po2 fun as3 S3 H3 v3 d3 g3 rel3 r3 po3 => by
      rcases mBool_bl r3 (S := S3) with z | ⟨b, rfl, rfl⟩
      · rw [bind_ap, z] at po3; exact po3.elim
      · refine ⟨b, rfl, ?_⟩
        cases b with
        | true => exact iteT (tE_seq rel3 po3 fun as4 S4 H4 v4 d4 g4 rel4 r4 po4 => (act' hd as4 S4 H4 v2 v4 d2 d4 rel4.w ((r2.grow g3).grow g4) r4).out (Q := fun z H' => ∃ k, z = V.bl k ∧ Q k H') rel4 po4)
        | false => exact iteF (po3 as3 H3 .refl rel3 _ (.bl false))
end
/-! ### sums and products of lists that are changed later -/
def oAddC : D → D → M D := fun d e S => match listOw S d, listOw S e with
  | some xs, some ys => if xs.length + ys.length ≤ sizeLine then .ok (.cell S.length) (S ++ [some (.lst (xs ++ ys))]) else .stuck
  | _, _ => .stuck
def oMulC : D → D → M D := fun d e S => match listOw S d, e with
  | some xs, .int k => if -(2 ^ 63) ≤ k ∧ k < 2 ^ 63 ∧ xs.length * k.toNat ≤ sizeLine then .ok (.cell S.length) (S ++ [some (.lst (List.replicate k.toNat xs).flatten)]) else .stuck
  | _, _ => .stuck
/-! ### a comprehension in a comprehension -/
end
end DL

set_option Elab.async false
set_option linter.all false
set_option maxRecDepth 100000
/-! DLS: first, *others = a list. -/
namespace DL
open PySem PySem.Spec PyProof.Rows L2
noncomputable section
section
variable {prog : Program} {w : World} {A : Around} {E : Value → Shared → Prop} {s : Shared}
end
/-- x, *y = a list -/
def gStar (K : PySem.W.Frag) (i j : Nat) : TG := fun v σ H Q => ∃ a x xs, v = .ref a ∧ SqL K H a (x :: xs) ∧ xs.length < 16000 ∧ ∀ p, H p = none → Q ((σ.set i (some x)).set j (some (.ref p))) (upd H p (.lst xs))
section
variable {X : Cx} {pos : Pos}
end
/-- the data -/
def sStar (i j : Nat) (m : EM) : SD := fun ρ S => (m ρ S).to ρ fun d S' => match listOf S' d with
  | some (x :: xs) => if xs.length < 16000 then .ok .nx ((ρ.set i (some x)).set j (some (.lst xs))) S' else .stuck
  | _ => .stuck
section
variable {X : Cx} {W : WX} {e : Expr} {me : EM} {pos tpos p1 p2 sp : Pos} {x y : Str} {i j k : Nat}
end
/-! ### a slot's list is changed no more -/
def frzSlot (i : Nat) : RS → RS
  | .ok .nx ρ S => match ρ[i]? with
    | some (some (.cell n)) => match S[n]? with
      | some (some (.lst xs)) => .ok .nx (ρ.set i (some (.lst xs))) (S.set n none)
      | _ => .stuck
    | _ => .stuck
  | r => r
def sThenFrz (i : Nat) (m : SD) : SD := fun ρ S => frzSlot i (m ρ S)
end
end DL

set_option Elab.async false
set_option linter.all false
set_option maxRecDepth 100000
set_option maxHeartbeats 2000000
/-! DX: errors as data: raised, caught, kept, asked. -/
namespace DL
open PySem PySem.Spec PyProof.Rows L2
/-! ### a caught error is kept -/
theorem erO_ok {P : Program} {w : World} {H : Hp} {h : Heap} {a : Addr} {cls : Value} {d : Option Addr} {oe : Obj} {vs : Array Value} (e : h.get? a = some oe) (z : Zc cls d oe) (hd : oe.data = .fields vs) : ObjOk P w H h a (ErO cls d a) :=
  ⟨⟨oe, vs, e, z, hd⟩, ⟨oe, e⟩, fun _ _ ⟨o, v, q, r⟩ k => ⟨o, v, k o q, r⟩⟩
theorem erO_at {P : Program} {w : World} {H : Hp} {h : Heap} {a : Addr} {cls : Value} {d : Option Addr} (hok : HOk P w H h) (he : H a = some (ErO cls d a)) : ∃ (oe : Obj) (vs : Array Value), h.get? a = some oe ∧ Zc cls d oe ∧ oe.data = .fields vs := by
  have x : ObjOk P w H h a (.ext fun h => ∃ (oe : Obj) (vs : Array Value), h.get? a = some oe ∧ Zc cls d oe ∧ oe.data = .fields vs) := hok a _ he
  exact x.1
section
variable {X : Cx} {pins : List (Addr × Obj)} {σ : L2.St} {H : Hp} {s : Shared}
theorem Inv.track {a : Addr} {cls : Value} {d : Option Addr} {oe : Obj} {vs : Array Value} (I : Inv X pins σ H s) (na : H a = none) (h0 : X.s_0.heap.get? a = none) (hp : ∀ p ∈ X.pn ++ pins, p.1 ≠ a)
    (e : s.heap.get? a = some oe) (z : Zc cls d oe) (hd : oe.data = .fields vs) (nL : a ≠ X.env.locals) : Inv X pins σ (upd H a (ErO cls d a)) s := by
  have ne : ∀ {b : Addr} {u : HO}, H b = some u → b ≠ a := fun {b u} q z => by rw [z, na] at q; cases q
  have n0 : ∀ {b : Addr} {o : Obj}, X.s_0.heap.get? b = some o → b ≠ a := fun {b o} q z => by rw [z, h0] at q; cases q
  refine ⟨I.ok, I.os, I.bare, ⟨I.base.keep, I.base.slot, fun b o q n hx => ?_, I.base.there, fun b xs q => ?_, fun b o u q => ?_, fun b ps q => ?_⟩, I.loc, I.cell, ?_, fun x c q => ?_, fun p hm => ?_, fun b u q => ?_, I.len⟩
  · rw [upd_ne (n0 q)]; exact I.base.free b o q n hx
  · have := I.base.tups b xs q; rw [upd_ne (ne this)]; exact this
  · have := I.base.frzs b o u q; rw [upd_ne (ne this)]; exact this
  · obtain ⟨m, this⟩ := I.base.tbls b ps q; exact ⟨m, by rw [upd_ne (ne this)]; exact this⟩
  · rw [upd_ne (Ne.symm nL)]; exact I.free
  · have hc : c ≠ a := fun z => by
      obtain ⟨v, o, ho, hdc⟩ := I.cell x c q
      rw [z, e] at ho; cases ho
      rw [hd] at hdc; cases hdc
    rw [upd_ne hc]; exact I.freeC x c q
  · obtain ⟨e1, n1, r⟩ := I.pin p hm
    exact ⟨e1, by rw [upd_ne (hp p hm)]; exact n1, r⟩
  · by_cases hb : b = a
    · subst hb
      rw [upd_same] at q; cases q
      exact erO_ok e z hd
    · rw [upd_ne hb] at q
      exact (I.hok b u q).stay (fun c v _ q => q) (fun c q => by rw [upd_ne (ne q)]; exact q) fun c xs q => by rw [upd_ne (ne q)]; exact q
theorem Inv.suite0 (I : Inv X pins σ H s) (a : Addr) : Inv (X.suite a (X.pn ++ pins)) [] σ H s :=
  ⟨I.ok.suite _ _, I.os, I.bare, I.base, I.loc, I.cell, I.free, I.freeC, fun p hp => I.pin p (by rw [List.append_nil] at hp; exact hp), I.hok, I.len⟩
theorem Inv.unsuite0 {a : Addr} (I : Inv (X.suite a (X.pn ++ pins)) [] σ H s) (ok : X.Ok) : Inv X pins σ H s :=
  ⟨ok, I.os, I.bare, I.base, I.loc, I.cell, I.free, I.freeC, fun p hp => I.pin p (List.mem_append_left _ hp), I.hok, I.len⟩
end
/-- what the clause 'except x as n' wishes of an error of the body: slot i is n's; the error is kept -/
def wKeep (K : PySem.W.Frag) (c : Value) (i : Nat) (ts : TS) (Wout : WX) (D : Ends) : WX := fun cls d σ H =>
  ∃ b, PySem.W.exmOne K cls c = some b ∧ (b = true → ∀ a, H a = none → ts { nx := fun σ' H' => D.nx (σ'.set i none) H', rt := D.rt, bk := fun σ' H' => D.bk (σ'.set i none) H', ct := fun σ' H' => D.ct (σ'.set i none) H' } (σ.set i (some (.ref a))) (upd H a (ErO cls d a))) ∧
    (b = false → Wout cls d σ H)
section
variable {X : Cx} {x n : Str} {c : Value} {i : Nat} {body suite : List Stmt} {b₀ : Stmt} {np pos pos' : Pos} {tb : WX → TS} {ts : TS} {Wout : WX}
end
end DL

set_option Elab.async false
set_option linter.all false
set_option maxRecDepth 100000
set_option maxHeartbeats 2000000
/-! DX2: errors, as the text's statements do to data. -/
namespace DL
open PySem PySem.Spec PyProof.Rows L2
/-! ### try .. except X as n -/
def goneS (i : Nat) : RS → RS
  | .ok f ρ S => .ok f (ρ.set i none) S
  | _ => .stuck
def sTryAs (tbl : Str → Option Bool) (i : Nat) (b h : SD) : SD := fun ρ S => match b ρ S with
  | .exc x ρ1 S1 => match tbl x.name with
    | some true => goneS i (h (ρ1.set i (some (.err x.name x.ks x.vs))) S1)
    | some false => .exc x ρ1 S1
    | none => .stuck
  | r => r
def TblX (K : PySem.W.Frag) (c : Value) (tbl : Str → Option Bool) : Prop := ∀ n b, tbl n = some b → ∀ cls, ClsK K n cls → PySem.W.exmOne K cls c = some b
theorem Slots.wipe1 {K : PySem.W.Frag} {as : List Addr} {F : Hp} {σ : L2.St} {ρ : Env} (h : Slots K as F σ ρ) (i : Nat) : Slots K as F (σ.set i none) (ρ.set i none) := by
  refine ⟨by simp [h.len], fun j d e => ?_⟩
  by_cases hij : i = j
  · subst hij
    by_cases hi : i < ρ.length
    · rw [List.getElem?_set_self hi] at e; cases e
    · rw [List.getElem?_eq_none (by simpa using Nat.le_of_not_lt hi)] at e; cases e
  · rw [List.getElem?_set_ne hij] at e
    obtain ⟨v, e1, r⟩ := h.at_ j d e
    exact ⟨v, by rw [List.getElem?_set_ne hij]; exact e1, r⟩
theorem REL.wipe1 {K : PySem.W.Frag} {hd : Hid} {as : List Addr} {ρ : Env} {S : Sto} {σ : L2.St} {H : Hp} (h : REL K hd as ρ S σ H) (i : Nat) : REL K hd as (ρ.set i none) S (σ.set i none) H := ⟨h.w, h.s.wipe1 i⟩
theorem Slots.put {K : PySem.W.Frag} {as : List Addr} {F : Hp} {σ : L2.St} {ρ : Env} {v : V} {d : D} (h : Slots K as F σ ρ) (i : Nat) (r : Rep K as F v d) : Slots K as F (σ.set i (some v)) (ρ.set i (some d)) := h.set r i
section
variable {X : Cx} {W : WX} {x n : Str} {c : Value} {i : Nat} {body suite : List Stmt} {b₀ : Stmt} {np pos pos' : Pos} {mb mh : SD} {tbl : Str → Option Bool}
theorem try_step {K : PySem.W.Frag} {mg : Str → Option Value} {Wout : WX} (ht : TblX K c tbl) {D : Ends} {σ : L2.St} {H : Hp} (h : tS K mg Wout (sTryAs tbl i mb mh) D σ H) : tS K mg (wKeep K c i (tS K mg WNo mh) Wout D) mb D σ H := by
  obtain ⟨hd, as, ρ, S, rel, po⟩ := h
  refine ⟨hd, as, ρ, S, rel, ?_⟩
  unfold sTryAs at po
  cases e : mb ρ S with
  | stuck => rw [e] at po; exact po.elim
  | ok f ρ1 S1 =>
    rw [e] at po
    cases f <;> exact po
  | exc xd ρ1 S1 =>
    rw [e] at po
    intro as' cls dd σ' H' g rel' xr
    dsimp only at po
    cases et : tbl xd.name with
    | none => rw [et] at po; exact po.elim
    | some b =>
      rw [et] at po
      have hb := ht _ _ et cls xr.1
      cases b with
      | false => exact ⟨false, hb, (fun z => by cases z), fun _ => po as' cls dd σ' H' g rel' xr⟩
      | true =>
        refine ⟨true, hb, fun _ a ha => ?_, fun z => by cases z⟩
        obtain ⟨w1, g1, e1⟩ := rel'.w.fresh (o := ErO cls dd a) ha
        obtain ⟨hk, _, us, hD, hR⟩ := xr
        have rep : Rep K as' (fz hd as' S1 (upd H' a (ErO cls dd a))) (.ref a) (.err xd.name xd.ks xd.vs) := .err e1 hk (hD.same g1.same) (hR.grow g1)
        refine ⟨hd, as', _, S1, ⟨w1, (rel'.grow g1 w1).s.set rep i⟩, ?_⟩
        dsimp only at po
        cases eh : mh (ρ1.set i (some (.err xd.name xd.ks xd.vs))) S1 with
        | stuck => rw [eh] at po; exact po.elim
        | exc y ρ2 S2 => rw [eh] at po; exact po.elim
        | ok f ρ2 S2 =>
          rw [eh] at po
          cases f with
          | nx => exact fun as2 σ2 H2 g2 r2 => po as2 _ H2 ((g.trans g1).trans g2) (r2.wipe1 i)
          | brk => exact fun as2 σ2 H2 g2 r2 => po as2 _ H2 ((g.trans g1).trans g2) (r2.wipe1 i)
          | cnt => exact fun as2 σ2 H2 g2 r2 => po as2 _ H2 ((g.trans g1).trans g2) (r2.wipe1 i)
          | ret d => exact fun as2 v H2 g2 w2 r2 => po as2 v H2 ((g.trans g1).trans g2) w2 r2
end
/-! ### the text's classes -/
/-! ### isinstance of an error -/
def ErIs (H : Hp) (a C : Addr) (d : Option Addr) : Prop := H a = some (ErO (.ref C) d a) ∧ (d = none ∨ ∃ dd fs, d = some dd ∧ H dd = some (.xd fs))
theorem erIs_inst {X : Cx} {pins : List (Addr × Obj)} {σ : L2.St} {H : Hp} {s : Shared} {a C : Addr} {d : Option Addr} (I : Inv X pins σ H s) (h : ErIs H a C d) : ∃ oe od, PySem.W.InstAt s.heap a oe C od := by
  obtain ⟨ha, hd⟩ := h
  obtain ⟨oe, vs, e, z, hf⟩ := erO_at I.hok ha
  rcases hd with rfl | ⟨dd, fs, rfl, hx⟩
  · refine ⟨oe, none, ⟨e, z.1, by unfold PySem.W.notCls; rw [hf] <;> rfl, by rw [z.2]; trivial⟩⟩
  · have ox : ObjOk X.prog X.w H s.heap dd (.xd fs) := I.hok dd _ hx
    obtain ⟨mA, hns, hr⟩ := ox
    obtain ⟨od, ho, hl⟩ := lookIn_ns hns
    exact ⟨oe, some od, ⟨e, z.1, by unfold PySem.W.notCls; rw [hf] <;> rfl, by rw [z.2]; exact ho⟩⟩
def rIsX (K : PySem.W.Frag) : List V → Hp → VK → Prop := fun xs H Q => ∃ (a C : Addr) (d : Option Addr) (c : V) (cv : Value) (b : Bool), xs = [.ref a, c] ∧ ErIs H a C d ∧ ExcC K C ∧ (PySem.W.clsIn K C).isSome = true ∧ (∀ u, RelV c u → u = cv) ∧ PySem.W.kitOne K (.ref C) cv = some b ∧ Q (.bl b) H
theorem call_isX {X : Cx} : CallR X (.builtin "isinstance") (rIsX X.K) := by
  intro pins s σ H xs us Q I r h
  obtain ⟨a, C, d, c, cv, b, rfl, hE, hC, hcl, hcv, e, q⟩ := h
  cases r with
  | cons rx rr =>
    cases rr with
    | cons rt rr =>
      cases rr
      cases rx
      have ec := hcv _ rt
      subst ec
      obtain ⟨oe, od, J⟩ := erIs_inst I hE
      exact PySem.W.kia_one (PySem.W.kitx_exc hcl hC.hg hC.hk hC.hs hC.ha hC.hn hC.ht hC.hm) I.kIn J e (fun z => nomatch z) fun tk => ⟨.bl b, H, I.kept (t' := tk) fun _ _ z => z, rfl, q⟩
/-- tc: of the text's classes; tt: of built-in ones -/
def fIsiX (tc : Str → Str → Option Bool) (tt : Str → String → Option Bool) : List D → M D := fun ds => match ds with
  | [.err n _ _, .cls c] => fun S => match tc n c with
    | some b => .ok (.bl b) S
    | none => .stuck
  | [.err n _ _, .ty c] => fun S => match tt n c with
    | some b => .ok (.bl b) S
    | none => .stuck
  | _ => fIsi ds
structure TblI (K : PySem.W.Frag) (tc : Str → Str → Option Bool) (tt : Str → String → Option Bool) : Prop where
  c : ∀ n c b, tc n c = some b → ∀ cls, ClsK K n cls → ∃ C, cls = .ref C ∧ ExcC K C ∧ (PySem.W.clsIn K C).isSome = true ∧ ∀ D, ClsK K c (.ref D) → PySem.W.kitOne K (.ref C) (.ref D) = some b
  t : ∀ n t b, tt n t = some b → ∀ cls, ClsK K n cls → ∃ C, cls = .ref C ∧ ExcC K C ∧ (PySem.W.clsIn K C).isSome = true ∧ PySem.W.kitOne K (.ref C) (.type t) = some b
/-! ### an error's field -/
def oFld (ok : Str → Str → Bool) (f : Str) : D → M D
  | .err n ks vs => fun S => if ok n f then (match (ks.zip vs).lookup f with
    | some d => .ok d S
    | none => .stuck) else .stuck
  | _ => fun _ => .stuck
def TblF (K : PySem.W.Frag) (ok : Str → Str → Bool) : Prop := ∀ n f, ok n f = true → ∀ cls, ClsK K n cls → ∃ C, cls = .ref C ∧ XfC K C ∧ PySem.W.findIn K (.ref C) f = some none
def tXfA (K : PySem.W.Frag) (f : Str) (te : TE) : TE := fun σ H Q => te σ H fun x H1 => ∃ (a C dd : Addr) (fs : List (Str × V)) (v : V), x = .ref a ∧ H1 a = some (ErO (.ref C) (some dd) a) ∧ XfC K C ∧ PySem.W.findIn K (.ref C) f = some none ∧ H1 dd = some (.xd fs) ∧ fs.lookup f = some v ∧ Q v H1
end DL

set_option Elab.async false
set_option linter.all false
set_option maxRecDepth 100000
set_option maxHeartbeats 2000000
/-! DX3: errors are made and raised. -/
namespace DL
open PySem PySem.Spec PyProof.Rows L2
/-! ### a class without an own __init__ -/
def sRaise0 (n : Str) : SD := fun ρ S => .exc ⟨n, [], []⟩ ρ S
theorem ds_raise0 {X : Cx} {W : WX} {x m : Str} {C : Addr} {bmB : List Value} {B newId initId : String} {j : Nat} {p p2 pos pos2 : Pos} (hc : X.calm = true) (tk : Takes X W) (F : ExcBaseFacts B newId initId bmB) (q : PySem.W.excIn X.K C bmB newId = true)
    (gC : X.mg x = some (.ref C)) (kC : PySem.W.keepIn X.K (.ref C) = true) (r : Raises X (.ref C)) (hk : ClsK X.K x (.ref C)) (hg : Gl X x) (hdb : (x == ("__debug__" : Str)) = false := by decide) :
    DS X W (.Raise (some (.Call (.Name x p) [.Constant (.str m) j p2] [] pos)) none pos2) (sRaise0 x) :=
  PS.le (ps_raise hc tk (pmk_own F q gC kC r hg hdb)) fun D σ H ⟨hd, as, ρ, S, rel, po⟩ => po as (.ref C) none σ H .refl rel ⟨hk, gC, [], .inl ⟨rfl, rfl, rfl⟩, .nil⟩
/-! ### a class with an own __init__ -/
/-- Base.__init__(self, ..), Base an own class over ValueError -/
theorem pe_baseInit {X : Cx} {e : Expr} {es : List Expr} {ta : TA} {B : Str} {CB : Addr} {p1 p2 pos : Pos} {pl : Sem Bool} (hg : Gl X B) (hm : X.mg B = some (.ref CB)) (sp : PySem.W.specialIn X.K (.ref CB) "__getattribute__" = some (some (.builtin "type.__getattribute__")))
    (rd : PySem.W.readsIn X.K CB (.type "type") = true) (fc : PySem.W.findCls X.K (.ref CB) (.type "type") "__init__" = some (.val (.builtin "ValueError.__init__"))) (ha : PA X (e :: es) ta)
    (hc : eval (.Call (.Attribute (.Name B p1) "__init__" p2) (e :: es) [] pos) X.env = (do
      let ov ← eval (.Name B p1) X.env
      standAt p2.atName
      let (f, first) ← holding [ov] (getMethod ov "__init__" pl)
      callWith pos f first (backTo pos (starEach (e :: es) X.env)) (backToKw pos (keywordEach [] X.env))) := by rfl)
    (hdb : (B == ("__debug__" : Str)) = false := by decide)
    (he : starEach (e :: es) X.env = (false, eval e X.env) :: starEach es X.env := by rfl) (hpl : (backTo pos (starEach es X.env)).any (·.1) = false := by rfl) :
    PE X (.Call (.Attribute (.Name B p1) "__init__" p2) (e :: es) [] pos) (tVeI X.K ta) := by
  refine ⟨fun pins s σ H Q I h => ?_⟩
  refine PySem.W.methodCall_KW (ld_glob I hg hm ?_ hdb) hc
  refine PySem.W.method_cls I.kIn sp ?_
  refine PySem.W.cls_value I.kIn rd fc (by decide +kernel) ?_
  show wpAny _ _ (callWith pos (Value.builtin "ValueError.__init__") [] (backTo pos (starEach (e :: es) X.env)) []) _ _ _
  refine PyProof.Rows.callWith_method1 (thn (ha.run pos pins _ σ H _ (I.tok _) h) fun us s1 ⟨vs, H1, I1, r1, a, C, ws, ev, hl, T, ea, q⟩ => ?_) he hpl
  subst ev
  cases r1 with
  | @cons _ u0 _ ur ra rw' =>
    obtain rfl : u0 = Value.ref a := ra
    have hlen : ur.length ≤ sizeLine := by
      rw [← Paired.length rw', sizeLine_eq]
      omega
    exact oinit_ok T I1 ea hlen fun s' J => ⟨.non, H1, J, rfl, q⟩
/-- what the text says of the base class -/
structure BaseK (K : PySem.W.Frag) (mg : Str → Option Value) (B : Str) (CB : Addr) : Prop where
  gB : mg B = some (.ref CB)
  sp : PySem.W.specialIn K (.ref CB) "__getattribute__" = some (some (.builtin "type.__getattribute__"))
  rd : PySem.W.readsIn K CB (.type "type") = true
  fc : PySem.W.findCls K (.ref CB) (.type "type") "__init__" = some (.val (.builtin "ValueError.__init__"))
/-- __init__(self, f): .. self.f = f -/
def spI1 (C : Addr) (f : Str) : Sp := fun vs H Q _ => ∃ (a : Addr) (y : V), vs = [.ref a, y] ∧ H a = some (exo a C none) ∧ ∀ dx, H dx = none → dx ≠ a → Q .non (upd (upd H dx (exd dx [(f, y)])) a (exo a C (some dx)))
def spI2 (C : Addr) (f g : Str) : Sp := fun vs H Q _ => ∃ (a : Addr) (y z : V), vs = [.ref a, y, z] ∧ H a = some (exo a C none) ∧ ∀ dx, H dx = none → dx ≠ a → Q .non (upd (upd (upd H dx (exd dx [(f, y)])) a (exo a C (some dx))) dx (exd dx [(g, z), (f, y)]))
section
variable {P : Program} {w : World} {K : PySem.W.Frag} {mg : Str → Option Value} {base : Heap}
theorem init1_ok {st : Stmt} {qual f B : Str} {C CB fI : Addr} {fd : FuncData} {t : TE} (F : Fun K "__init__" qual st fI fd) (Sc : FnScope ["self", f] ["self", f] (defScope st)) (O : OexC K C) (hno : PySem.W.findIn K (.ref C) f = some none)
    (hb : ∀ (cdv : Value) (A : Around) (outer : List PySem.Env) (s : Shared) (H : Hp) (E : XK), ∃ m : Str, PSs (cxOf (L2.CX P w) P w K mg base ["self", f] qual (defScope st) fI cdv A outer s H E) (defBody st) (tSeq (tDrop (tVeI K (tCons (tVar 0) (tCons (tC (.str m)) tNil)))) (tOst K f (tVar 0) (tVar 1)))) :
    FnOk P w K mg base (L2.CX P w) 1 fI fd ["self", f] (spI1 C f) := by
  refine F.okX Sc (fun vs H Q E h => ?_) (fun cdv A outer s H vs Q E hr h => ?_)
  · obtain ⟨a, y, rfl, _⟩ := h; rfl
  · obtain ⟨m, pb⟩ := hb cdv A outer s H E
    refine ⟨_, pb, ?_⟩
    obtain ⟨a, y, rfl, ea, k⟩ := h
    refine ⟨_, rfl, a, C, [.str m], rfl, by simp, O, ea, ?_⟩
    refine ⟨_, rfl, _, rfl, a, C, rfl, O, hno, .inl ⟨ea, fun dx n ne => ?_⟩⟩
    exact k dx n ne
theorem init2_ok {st : Stmt} {qual f g B : Str} {C CB fI : Addr} {fd : FuncData} {t : TE} (F : Fun K "__init__" qual st fI fd) (Sc : FnScope ["self", f, g] ["self", f, g] (defScope st)) (O : OexC K C) (hno : PySem.W.findIn K (.ref C) f = some none) (hno2 : PySem.W.findIn K (.ref C) g = some none)
    (hb : ∀ (cdv : Value) (A : Around) (outer : List PySem.Env) (s : Shared) (H : Hp) (E : XK), ∃ m : Str, PSs (cxOf (L2.CX P w) P w K mg base ["self", f, g] qual (defScope st) fI cdv A outer s H E) (defBody st) (tSeq (tDrop (tVeI K (tCons (tVar 0) (tCons (tC (.str m)) tNil)))) (tSeq (tOst K f (tVar 0) (tVar 1)) (tOst K g (tVar 0) (tVar 2))))) :
    FnOk P w K mg base (L2.CX P w) 1 fI fd ["self", f, g] (spI2 C f g) := by
  refine F.okX Sc (fun vs H Q E h => ?_) (fun cdv A outer s H vs Q E hr h => ?_)
  · obtain ⟨a, y, z, rfl, _⟩ := h; rfl
  · obtain ⟨m, pb⟩ := hb cdv A outer s H E
    refine ⟨_, pb, ?_⟩
    obtain ⟨a, y, z, rfl, ea, k⟩ := h
    refine ⟨_, rfl, a, C, [.str m], rfl, by simp, O, ea, ?_⟩
    refine ⟨_, rfl, _, rfl, a, C, rfl, O, hno, .inl ⟨ea, fun dx n ne => ?_⟩⟩
    refine ⟨_, rfl, _, rfl, a, C, rfl, O, hno2, .inr ⟨dx, [(f, y)], upd_same, ?_, (by simp), ?_⟩⟩
    · rw [upd_ne ne]; exact upd_same
    · exact k dx n ne
end
/-- what the text says of a class of errors with an own __init__ of these fields -/
structure ErK (P : Program) (w : World) (K : PySem.W.Frag) (mg : Str → Option Value) (base : Heap) (n : Str) (ps : List Str) (sp : Addr → Sp) : Prop where
  ex : ∃ (C fI : Addr) (fd : FuncData), mg n = some (.ref C) ∧ ClsK K n (.ref C) ∧ OexC K C ∧ PySem.W.findIn K (.ref C) "__init__" = some (some (.ref fI)) ∧ PySem.W.typeIn K (.ref fI) = some (.type "function") ∧
    FnOk P w K mg base (L2.CX P w) 1 fI fd ps (sp C) ∧ Binds K fd ps []
def sRaise1 (n f : Str) (a : AM) : SD := fun ρ S => (a ρ S).to ρ fun ds S1 => match ds with
  | [d] => .exc ⟨n, [f], [d]⟩ ρ S1
  | _ => .stuck
def sRaise2 (n f g : Str) (a : AM) : SD := fun ρ S => (a ρ S).to ρ fun ds S1 => match ds with
  | [d, e] => .exc ⟨n, [g, f], [e, d]⟩ ρ S1
  | _ => .stuck
theorem passesF {X : Cx} : Passes (L2.CX X.prog X.w) X (fun _ _ _ => False) := fun _ _ _ _ _ _ _ ⟨_, _, _, _, _, _, _, _, _, _, _, _, z⟩ => z.elim
section
variable {X : Cx} {W : WX} {n f g : Str} {e : Expr} {es : List Expr} {ma : AM} {p pos pos2 : Pos} {j : Nat}
theorem ds_raise1 (hc : X.calm = true) (tk : Takes X W) (T : ErK X.prog X.w X.K X.mg X.base n ["self", f] (fun C => spI1 C f)) (hr : Room j X.A) (hj : 2 ≤ j) (hg : Gl X n) (ha : DA X W (e :: es) ma) (hdb : (n == ("__debug__" : Str)) = false := by decide)
    (he : starEach (e :: es) X.env = (false, eval e X.env) :: starEach es X.env := by rfl) (hpl : (backTo pos (starEach es X.env)).any (·.1) = false := by rfl) :
    DS X W (.Raise (some (.Call (.Name n p) (e :: es) [] pos)) none pos2) (sRaise1 n f ma) := by
  obtain ⟨C, fI, fd, gC, hk, O, iC, tI, F, hb⟩ := T.ex
  refine PS.le (ps_raise hc tk (pmk_oex O iC tI F (hr.mono hj) hb .nil passesF hg gC ha hdb he hpl)) fun D σ H ⟨hd, as, ρ, S, rel, po⟩ => ?_
  refine tA_to rel po fun as1 S1 H1 vs ds g1 rel1 r1 po1 => ?_
  split at po1
  · rename_i d
    cases r1 with
    | cons r1 rr =>
      cases rr
      rename_i v
      refine ⟨by simp, fun a na => ⟨a, v, rfl, upd_same, fun dx nd ne => ⟨rfl, dx, [(f, v)], upd_same, ?_, ?_, ?_⟩⟩⟩
      · rw [upd_ne ne]; exact upd_same
      · rw [← nd]
        exact (upd_ne ne).symm
      · have hdx : H1 dx = none := by rw [← nd]; exact (upd_ne ne).symm
        have eH : upd (L2.del (upd (upd (upd H1 a (exo a C none)) dx (exd dx [(f, v)])) a (exo a C (some dx))) a) dx (.xd [(f, v)]) = upd H1 dx (.xd [(f, v)]) := by
          funext b
          by_cases hb : b = dx
          · rw [hb, upd_same, upd_same]
          · rw [upd_ne hb, upd_ne hb]
            by_cases hba : b = a
            · rw [hba, L2.del_same, na]
            · rw [L2.del_ne hba, upd_ne hba, upd_ne hb, upd_ne hba]
        rw [eH]
        obtain ⟨w1, g2, e2⟩ := rel1.w.fresh (o := .xd [(f, v)]) hdx
        exact po1 as1 (.ref C) (some dx) σ _ g2 (rel1.grow g2 w1) ⟨hk, gC, [v], .inr ⟨dx, rfl, rfl, e2⟩, .cons (r1.grow g2) .nil⟩
  · exact po1.elim
theorem ds_raise2 (hc : X.calm = true) (tk : Takes X W) (T : ErK X.prog X.w X.K X.mg X.base n ["self", f, g] (fun C => spI2 C f g)) (hr : Room j X.A) (hj : 2 ≤ j) (hg : Gl X n) (ha : DA X W (e :: es) ma) (hdb : (n == ("__debug__" : Str)) = false := by decide)
    (he : starEach (e :: es) X.env = (false, eval e X.env) :: starEach es X.env := by rfl) (hpl : (backTo pos (starEach es X.env)).any (·.1) = false := by rfl) :
    DS X W (.Raise (some (.Call (.Name n p) (e :: es) [] pos)) none pos2) (sRaise2 n f g ma) := by
  obtain ⟨C, fI, fd, gC, hk, O, iC, tI, F, hb⟩ := T.ex
  refine PS.le (ps_raise hc tk (pmk_oex O iC tI F (hr.mono hj) hb .nil passesF hg gC ha hdb he hpl)) fun D σ H ⟨hd, as, ρ, S, rel, po⟩ => ?_
  refine tA_to rel po fun as1 S1 H1 vs ds g1 rel1 r1 po1 => ?_
  split at po1
  · rename_i d d'
    cases r1 with
    | cons r1 rr =>
      cases rr with
      | cons r2 rr =>
        cases rr
        rename_i v v'
        refine ⟨by simp, fun a na => ⟨a, v, v', rfl, upd_same, fun dx nd ne => ⟨rfl, dx, [(g, v'), (f, v)], ?_, upd_same, ?_, ?_⟩⟩⟩
        · rw [upd_ne (Ne.symm ne)]; exact upd_same
        · rw [← nd]
          exact (upd_ne ne).symm
        · have hdx : H1 dx = none := by rw [← nd]; exact (upd_ne ne).symm
          have eH : upd (L2.del (upd (upd (upd (upd H1 a (exo a C none)) dx (exd dx [(f, v)])) a (exo a C (some dx))) dx (exd dx [(g, v'), (f, v)])) a) dx (.xd [(g, v'), (f, v)]) = upd H1 dx (.xd [(g, v'), (f, v)]) := by
            funext b
            by_cases hb : b = dx
            · rw [hb, upd_same, upd_same]
            · rw [upd_ne hb, upd_ne hb]
              by_cases hba : b = a
              · rw [hba, L2.del_same, na]
              · rw [L2.del_ne hba, upd_ne hb, upd_ne hba, upd_ne hb, upd_ne hba]
          rw [eH]
          obtain ⟨w1, g2, e2⟩ := rel1.w.fresh (o := .xd [(g, v'), (f, v)]) hdx
          exact po1 as1 (.ref C) (some dx) σ _ g2 (rel1.grow g2 w1) ⟨hk, gC, [v', v], .inr ⟨dx, rfl, rfl, e2⟩, .cons (r2.grow g2) (.cons (r1.grow g2) .nil)⟩
  · exact po1.elim
end
end DL
namespace DL
open PySem PySem.Spec PyProof.Rows L2
/-! ### tables, from facts -/
theorem clsK_eq {K : PySem.W.Frag} {n : Str} {cls : Value} {C : Addr} (h : ClsK K n cls) (a : PySem.W.nsIn K mainGlobals n = some (some (.ref C))) : cls = .ref C := by
  have := h.symm.trans a
  simpa using this
theorem look_mem {α β : Type} [BEq α] [LawfulBEq α] {a : α} {b : β} : ∀ {l : List (α × β)}, l.lookup a = some b → (a, b) ∈ l
  | [], h => by simp at h
  | (x, y) :: l, h => by
    simp only [List.lookup] at h
    split at h
    · rename_i e
      have := eq_of_beq e
      subst this; cases h; simp
    · exact List.mem_cons_of_mem _ (look_mem h)
theorem tblX_mk {K : PySem.W.Frag} {c : Value} {l : List (Str × Bool)} (h : ∀ p ∈ l, ∀ cls, ClsK K p.1 cls → PySem.W.exmOne K cls c = some p.2) : TblX K c (fun n => List.lookup n l) := fun n b e cls hc => h (n, b) (look_mem e) cls hc
theorem tblC_mk {K : PySem.W.Frag} {l : List ((Str × Str) × Bool)} (h : ∀ p ∈ l, ∀ cls, ClsK K p.1.1 cls → ∃ C, cls = .ref C ∧ ExcC K C ∧ (PySem.W.clsIn K C).isSome = true ∧ ∀ D, ClsK K p.1.2 (.ref D) → PySem.W.kitOne K (.ref C) (.ref D) = some p.2) :
    ∀ n c b, (fun n c => List.lookup (n, c) l) n c = some b → ∀ cls, ClsK K n cls → ∃ C, cls = .ref C ∧ ExcC K C ∧ (PySem.W.clsIn K C).isSome = true ∧ ∀ D, ClsK K c (.ref D) → PySem.W.kitOne K (.ref C) (.ref D) = some b := fun n c b e cls hc => h ((n, c), b) (look_mem e) cls hc
theorem tblT_mk {K : PySem.W.Frag} {l : List ((Str × String) × Bool)} (h : ∀ p ∈ l, ∀ cls, ClsK K p.1.1 cls → ∃ C, cls = .ref C ∧ ExcC K C ∧ (PySem.W.clsIn K C).isSome = true ∧ PySem.W.kitOne K (.ref C) (.type p.1.2) = some p.2) :
    ∀ n t b, (fun n t => List.lookup (n, t) l) n t = some b → ∀ cls, ClsK K n cls → ∃ C, cls = .ref C ∧ ExcC K C ∧ (PySem.W.clsIn K C).isSome = true ∧ PySem.W.kitOne K (.ref C) (.type t) = some b := fun n c b e cls hc => h ((n, c), b) (look_mem e) cls hc
theorem tblF_mk {K : PySem.W.Frag} {l : List (Str × Str)} (h : ∀ p ∈ l, ∀ cls, ClsK K p.1 cls → ∃ C, cls = .ref C ∧ XfC K C ∧ PySem.W.findIn K (.ref C) p.2 = some none) : TblF K (fun n f => decide ((n, f) ∈ l)) := fun n f e cls hc => h (n, f) (of_decide_eq_true e) cls hc
theorem kit_ty {K : PySem.W.Frag} {C : Addr} {T : String} {b : Bool} (km : PySem.W.kitMeta T = true) (s : PySem.W.subIn K (.ref C) (.type T) = some b) : PySem.W.kitOne K (.ref C) (.type T) = some b := by
  unfold PySem.W.kitOne
  rw [if_neg (by simp)]
  show (if PySem.W.kitMeta T = true then PySem.W.subIn K (.ref C) (.type T) else none) = some b
  rw [if_pos km]; exact s
/-- a class statement's body -/
def clsBody : Stmt → List Stmt
  | .ClassDef _ _ _ b .. => b
  | _ => []
end DL

set_option Elab.async false
set_option linter.all false
set_option maxRecDepth 100000
set_option maxHeartbeats 2000000
/-! DY: str of what can be shown; == with an empty list. -/
namespace DL
open PySem PySem.Spec PyProof.Rows L2
def rStrR (K : PySem.W.Frag) : List V → Hp → VK → Prop := fun xs H Q => (∃ a, xs = [.str a] ∧ Q (.str a) H) ∨ ∃ v d, xs = [v] ∧ (∀ a, v ≠ .str a) ∧ Dr K H v d ∧ d.showable = true ∧ d.depth ≤ 62 ∧ d.shown.length ≤ sizeLine ∧ Q (.str d.shown) H
def isStrD : D → Bool
  | .str _ => true
  | _ => false
def fStrR : List D → M D
  | [d] => fun S => match d with
    | .str x => .ok (.str x) S
    | _ => if (topD S d).pr 60 && (topD S d).shows then .ok (.str (topD S d).shown) S else .stuck
  | _ => fun _ => .stuck
/-! == with an empty list -/
def rEqZ (K : PySem.W.Frag) : R2 := fun x y H Q => ∃ a b xs, x = .ref a ∧ y = .ref b ∧ SqL K H a xs ∧ SqL K H b [] ∧ Q (.bl xs.isEmpty) H
theorem opr_eqZ {X : Cx} (hu : X.A.units + 64 < cLine) : OpR X (compareOp .Eq) (rEqZ X.K) := by
  intro pins s σ H x y v u Q I rx ry h
  obtain ⟨a, b, xs, rfl, rfl, ha, hb, q⟩ := h
  cases rx; cases ry
  obtain ⟨its, rv, hl, _⟩ := I.list ha
  obtain ⟨its2, rv2, hl2, _⟩ := I.list hb
  have e1 := rv.length
  have e2 := rv2.length
  have hl' : s.heap.IsList a its.toArray := let ⟨o, n, ho, hc, _, hd⟩ := hl; ⟨o, ho, hc, n, hd⟩
  have hl2' : s.heap.IsList b its2.toArray := let ⟨o, n, ho, hc, _, hd⟩ := hl2; ⟨o, ho, hc, n, hd⟩
  cases xs with
  | nil =>
    simp only [List.length_nil] at e1 e2
    have z1 := List.eq_nil_of_length_eq_zero (by omega : its.length = 0)
    have z2 := List.eq_nil_of_length_eq_zero (by omega : its2.length = 0)
    subst z1 z2
    exact SeqAt.eq_listAt (e := fun _ => true) hl' hl2' rfl (by omega) (fun j h1 h2 => absurd h1 (by simp)) ⟨.bl _, H, I, rfl, q⟩
  | cons z zs =>
    simp only [List.length_nil, List.length_cons] at e1 e2
    exact SeqAt.eq_list_lengthsAt hl' hl2' (by simp; omega) (by omega) ⟨.bl _, H, I, rfl, q⟩
def oEqZ : D → D → M D
  | d, .lst [] => fun S => match listOf S d with
    | some xs => .ok (.bl xs.isEmpty) S
    | none => .stuck
  | _, _ => fun _ => .stuck
theorem act_eqZ {K : PySem.W.Frag} : Act2 K (rEqZ K) oEqZ := by
  intro hd as S H v u d e w r1 r2
  unfold oEqZ
  split
  · cases e1 : listOf S d with
    | none => trivial
    | some xs =>
      obtain ⟨a, vs, rfl, q, rr⟩ := seqL w r1 e1
      have rz := r2
      obtain ⟨b, us, rfl, q2, rr2⟩ := seqL w r2 (show listOf S (.lst []) = some [] from rfl)
      cases rr2
      have e3 : xs.isEmpty = vs.isEmpty := by cases rr <;> rfl
      dsimp only
      exact .now w (.bl _) fun Q q3 => ⟨a, b, vs, rfl, rfl, q, q2, by rw [← e3]; exact q3⟩
  · trivial
end DL

set_option Elab.async false
set_option linter.all false
set_option maxRecDepth 100000
set_option maxHeartbeats 2000000
/-! DD: defs with defaults, and their calls. -/
namespace DL
open PySem PySem.Spec PyProof.Rows L2
noncomputable section
section
variable {P : Program} {w : World} {K : PySem.W.Frag} {mg : Str → Option Value} {base : Heap}
/-- a def's body, walked -/
theorem FunD.okG {x qual : Str} {st : Stmt} {f : Addr} {fd : FuncData} {N ps : List Str} {k : Nat} {m : SD} {dvs : List V} {kws : List (Str × V)} (F : L2.FunD K x qual (defArgs st) (defBody st) (defScope st) dvs kws f fd) (Sc : FnScope N ps (defScope st))
    (hbody : ∀ (cdv : Value) (A : Around) (outer : List PySem.Env) (s : Shared) (H : Hp) (E : XK), Room k (A.deeper (envOfC qual (defScope st) s.heap.objs.size f cdv)) → Qt (A.deeper (envOfC qual (defScope st) s.heap.objs.size f cdv)) base →
      DSs (cxOf (L2.CX P w) P w K mg base N qual (defScope st) f cdv A outer s H E) (WOf E) (defBody st) m) : FnG P w K mg base (k + 1) f fd ps (runFn N.length ps.length m) := by
  obtain ⟨oc, od, dV, kV, doc, pm, an, cdv, ct, osl, rfl, lk, hcd, _, _⟩ := F.ex
  refine ⟨fun ds S => ?_, fun A outer s H args us vs Q E hr hg e0 hb r hsp => ?_⟩
  · unfold runFn
    split
    · exact .inr (by assumption)
    · exact .inl rfl
  have hin : K.In s.heap := e0.mod.kin.keeps fun b o e => (e0.bs b o e).1
  have hnl : s.heap.NoLimit := e0.mod.nolimit.keeps fun b o e => (e0.bs b o e).1
  have kinds : ∀ y ∈ ps.zip us, (defScope st).names.lookup y.1 = some .local ∨ ((defScope st).names.lookup y.1 = some .cell ∧ ((cellsFrom (s.heap.objs.size + 1) (defScope st).names []).lookup y.1).isSome = true) := fun y hy =>
    (Sc.par y.1 (List.of_mem_zip hy).1).imp id fun q => ⟨q, PySem.W.cellsFrom_some _ _ _ (.inl q)⟩
  refine codeAny_call_function hr.depth (hin _ _ lk) rfl Sc.co Sc.gen rfl (PySem.W.codeRec_of hin hcd) (hb _ _ _ _ (wpAny_newFunctionEnv_cells Sc.kind kinds fun env he s1 ic => ?_))
  subst he
  refine ⟨hnl.keeps ic.toInCall.keep, codeAny_func ?_⟩
  have dl := hbody cdv A outer s H E (hr.deeper _) ⟨by simpa [Around.deeper] using hg.g, hg.s⟩
  obtain ⟨hd, as, S, ds, wl, rd, ms⟩ := hsp
  have hn : ds.length = ps.length := by
    by_cases hn : ds.length = ps.length
    · exact hn
    · unfold runFn at ms
      rw [if_neg hn] at ms; exact ms.elim
  have hl : vs.length = ps.length := by rw [rd.length]; exact hn
  have I : Inv (cxOf (L2.CX P w) P w K mg base N qual (defScope st) f cdv A outer s H E) [] (L2.start N vs) H s1 := inv_start Sc hr.hd e0 hl r ic
  have rel : REL K hd as (ds.map some ++ List.replicate (N.length - ds.length) none) S (L2.start N vs) H := ⟨wl, start_slots rd⟩
  have fin : ∀ {d : D} {S' : Sto}, (∀ as' v H', Grow hd as S H as' (trim S d S') H' → Wld K hd as' (trim S d S') H' → Rep K as' (fz hd as' (trim S d S') H') v d → Q v H') →
      ∀ as' v H', Grow hd as S H as' S' H' → Wld K hd as' S' H' → Rep K as' (fz hd as' S' H') v d → Q v H' := fun {d S'} h as' v H' g w' r' => by
    obtain ⟨as2, w2, g2, r2⟩ := wl.trim g w' r'
    exact h as2 v H' g2 w2 r2
  have run := dl.run [] s1 (L2.start N vs) H { nx := fun _ H' => Q .non H', rt := Q } I ⟨hd, as, _, S, rel, ?_⟩
  · refine wpAny_mono run (fun fl s' hs => ?_) fun e s' hs => hs
    cases fl with
    | ret u =>
      obtain ⟨v, σ', H', J, rv, q⟩ := hs
      exact ⟨v, H', J.os, J.bare, J.base, J.hok, rv, q⟩
    | next =>
      obtain ⟨σ', H', J, q⟩ := hs
      exact ⟨V.non, H', J.os, J.bare, J.base, J.hok, rfl, q⟩
    | brk => obtain ⟨_, _, _, q⟩ := hs; exact q.elim
    | cont => obtain ⟨_, _, _, q⟩ := hs; exact q.elim
  · unfold runFn at ms
    rw [if_pos hn] at ms
    cases em : m (ds.map some ++ List.replicate (N.length - ds.length) none) S with
    | ok fl ρ' S' =>
      rw [em] at ms
      cases fl with
      | nx => exact fun as' σ' H' g rel' => fin ms as' .non H' g rel'.w .non
      | ret d => exact fun as' v H' g w' r' => fin ms as' v H' g w' r'
      | brk => exact ms.elim
      | cnt => exact ms.elim
    | exc x ρ' S' =>
      rw [em] at ms
      exact fun as' cls dd σ' H' g rel' xr => ms as' cls dd H' g rel'.w xr
    | stuck => rw [em] at ms; exact ms.elim
end
/-- positional values, keywords' values, and the defaults behind them, in the parameters' order -/
def byIxD {α : Type} (ix : List Nat) (dd : List α) (us ws : List α) : List α := byIx ix us (ws ++ dd)
def KBD (K : PySem.W.Frag) (fd : FuncData) (ps : List Str) (n : Nat) (ks : List Str) (ix : List Nat) (zd : List V) : Prop := ∃ dus : List Value, Vals zd dus ∧ ∀ (s : Shared) (us ws : List Value), K.In s.heap → us.length = n → ws.length = ks.length → BindsTo s fd ⟨us, ks.zip ws⟩ (ps.zip (byIx ix us (ws ++ dus)))
section
variable {X : Cx} {W : WX} {k : Nat} {f : Addr} {fd : FuncData} {ps ks : List Str} {m : FM} {x : Str} {p pos : Pos} {e : Expr} {es : List Expr} {kws : List Keyword} {mr mk : AM}
theorem de_callD {n : Nat} {ix : List Nat} {zd : List V} {dd : List D} (F : FnG X.prog X.w X.K X.mg X.base k f fd ps m) (hr : Room k X.A) (hgd : Qt X.A X.base) (tk : Takes X W) (hg : Gl X x) (hm : X.mg x = some (.ref f)) (hk : PySem.W.keepIn X.K (.ref f) = true) (hb : KBD X.K fd ps n ks ix zd) (hrep : ∀ (as : List Addr) (F : Hp), RepL X.K as F zd dd) (ha : DA X W (e :: es) mr) (hkw : DK X W kws mk)
    (hn : ∀ ρ S ds S', mr ρ S = .ok ds S' → ds.length = n) (hn' : ∀ ρ S ds S', mk ρ S = .ok ds S' → ds.length = ks.length)
    (hall : (backToKw pos (keywordEach kws X.env)).all (·.1.isSome) = true := by rfl) (hks : (backToKw pos (keywordEach kws X.env)).filterMap (·.1) = ks := by rfl)
    (hdb : (x == ("__debug__" : Str)) = false := by decide) (he : starEach (e :: es) X.env = (false, eval e X.env) :: starEach es X.env := by rfl)
    (hpl : ((backTo pos (starEach (e :: es) X.env)).any (·.1) || (backToKw pos (keywordEach kws X.env)).any (·.1.isNone)) = false := by rfl) : DE X W (.Call (.Name x p) (e :: es) kws pos) (eK m (byIxD ix dd) mr mk) := by
  obtain ⟨dus, rdu, hb⟩ := hb
  refine ⟨fun pins s σ H Q I ⟨hd, as, ρ, S, rel, po⟩ => wpAny_Call_Name_kw (ld_glob I hg hm (PySem.W.callWith_KW (h₀ := X.base) I.ok.mod.kin hk hall (thn (ha.run pos pins s σ H (fun vs H1 => vs.length = n ∧ tA X.K X.mg W mk σ H1 fun zs H2 => zs.length = ks.length ∧ spM X.K X.mg m (byIx ix vs (zs ++ zd)) H2 Q fun cls d H' => W cls d σ H') I ?_)
    fun us s1 ⟨vs, H1, I1, r, l1, q⟩ => thn (hkw.run pos pins s1 σ H1 _ I1 q) fun ws s2 ⟨zs, H2, I2, rz, l2, q2⟩ => ⟨I2.kIn, ?_⟩) hpl he) hdb)⟩
  · refine ⟨hd, as, ρ, S, rel, ?_⟩
    cases em : mr ρ S with
    | exc z S1 => simp only [eK, bind_ap, em, R.bind_exc] at po; exact po
    | stuck => simp only [eK, bind_ap, em, R.bind_stuck] at po; exact po.elim
    | ok ds S1 =>
      simp only [eK, bind_ap, em, R.bind_ok] at po
      intro as1 H1 g1 rel1 vs r1
      refine ⟨by rw [r1.length]; exact hn _ _ _ _ em, hd, as1, ρ, S1, rel1, ?_⟩
      cases ek : mk ρ S1 with
      | exc z S2 =>
        rw [ek] at po
        exact fun as' cls dd H' g rel' xr => po as' cls dd H' (g1.trans g) rel' xr
      | stuck => rw [ek] at po; exact po.elim
      | ok es' S2 =>
        rw [ek] at po
        intro as2 H2 g2 rel2 zs r2
        exact ⟨by rw [r2.length]; exact hn' _ _ _ _ ek, sp_of rel2 (byIx_rep (r1.grow g2) (r2.append (hrep _ _)) ix) (Post.later (r := m (byIxD ix dd ds es') S2) po (g1.trans g2))⟩
  · rw [hks]
    exact run_fnG F hr hgd tk (args := ⟨us, ks.zip ws⟩) (us := byIx ix us (ws ++ dus)) (hb s2 us ws I2.kIn (by rw [← r.length]; exact l1) (by rw [← rz.length]; exact l2)) I2 (byIx_vals r (rz.append rdu) ix) (fun _ _ _ z => z) q2
end
structure HasD (P : Program) (w : World) (K : PySem.W.Frag) (mg : Str → Option Value) (base : Heap) (k : Nat) (x : Str) (st : Stmt) (ps : List Str) (dvs : List V) (kds : List (Str × V)) (m : FM) : Prop where
  ex : ∃ f fd, FnG P w K mg base k f fd ps m ∧ mg x = some (.ref f) ∧ L2.FunD K x x (defArgs st) (defBody st) (defScope st) dvs kds f fd
structure DefAtD (K : PySem.W.Frag) (mg : Str → Option Value) (x : Str) (st : Stmt) (ps : List Str) (dvs : List V) (kds : List (Str × V)) : Prop where
  ex : ∃ f fd, L2.FunD K x x (defArgs st) (defBody st) (defScope st) dvs kds f fd ∧ mg x = some (.ref f)
theorem has_ofD {P : Program} {w : World} {K : PySem.W.Frag} {mg : Str → Option Value} {base : Heap} {k : Nat} {x : Str} {st : Stmt} {N ps : List Str} {m : SD} {dvs : List V} {kds : List (Str × V)} (h : DefAtD K mg x st ps dvs kds) (Sc : FnScope N ps (defScope st))
    (hbody : ∀ (f : Addr) (cdv : Value) (A : Around) (outer : List PySem.Env) (s : Shared) (H : Hp) (E : XK), Room k (A.deeper (envOfC x (defScope st) s.heap.objs.size f cdv)) → Qt (A.deeper (envOfC x (defScope st) s.heap.objs.size f cdv)) base →
      DSs (cxOf (L2.CX P w) P w K mg base N x (defScope st) f cdv A outer s H E) (WOf E) (defBody st) m) : HasD P w K mg base (k + 1) x st ps dvs kds (runFn N.length ps.length m) := by
  obtain ⟨f, fd, F, hm⟩ := h.ex
  exact ⟨f, fd, FunD.okG F Sc (hbody f), hm, F⟩
section
variable {K : PySem.W.Frag} {x : Str} {st : Stmt} {ps ks : List Str} {n : Nat} {ix : List Nat} {dvs : List V} {kds : List (Str × V)} {f : Addr} {fd : FuncData}
/-- keyword-only ones, ms of which lack -/
theorem kbd_k (ms : List (Str × V)) (F : L2.FunD K x x (defArgs st) (defBody st) (defScope st) [] kds f fd) (hk : kds ≠ []) (hms : ∀ q ∈ ms, q ∈ kds)
    (h : ∀ (D : Addr) (doc pm : Value) (an : Option Addr) (cdv ct : Value) (us ws mv : List Value), us.length = n → ws.length = ks.length → mv.length = ms.length →
      KwChain D ((ms.map (·.1)).zip mv) (bindArgs (PySem.W.fnOf x x (defArgs st) (defBody st) (defScope st) .none (.ref D) doc pm an cdv ct) ⟨us, ks.zip ws⟩) (ps.zip (byIx ix us (ws ++ mv)))) : KBD K fd ps n ks ix (ms.map (·.2)) := by
  obtain ⟨oc, od, dV, kV, doc, pm, an, cdv, ct, osl, rfl, lk, hcd, hD, hK⟩ := F.ex
  rcases hD with ⟨_, rfl⟩ | ⟨e, _⟩
  · rcases hK with e | ⟨D, rfl, hq⟩
    · exact absurd e hk
    · obtain ⟨mv, hl, rk, hks⟩ := kwd_vals (ms := ms) fun q hm => hq q (hms q hm)
      refine ⟨mv, rk, fun s us ws X l1 l2 => ?_⟩
      exact BindsTo.of_looks fun M => KwChain.looks X hks (h D doc pm an cdv ct us ws mv l1 l2 hl)
  · exact absurd rfl e
end
section
variable {X : Cx} {W : WX} {j k n : Nat} {ps ks : List Str} {m : FM} {x : Str} {st : Stmt} {p pos : Pos} {e : Expr} {es : List Expr} {kws : List Keyword} {mr mk : AM} {dvs zd : List V} {kds : List (Str × V)} {dd : List D}
theorem de_fnD (h : HasD X.prog X.w X.K X.mg X.base k x st ps dvs kds m) (ix : List Nat) (hb : ∀ {f : Addr} {fd : FuncData}, L2.FunD X.K x x (defArgs st) (defBody st) (defScope st) dvs kds f fd → KBD X.K fd ps n ks ix zd) (hrep : ∀ (as : List Addr) (F : Hp), RepL X.K as F zd dd) (hr : Room j X.A) (hj : k ≤ j) (hgd : Qt X.A X.base) (tk : Takes X W) (hg : Gl X x) (ha : DA X W (e :: es) mr) (hkw : DK X W kws mk)
    (hn : ∀ ρ S ds S', mr ρ S = .ok ds S' → ds.length = n) (hn' : ∀ ρ S ds S', mk ρ S = .ok ds S' → ds.length = ks.length)
    (hall : (backToKw pos (keywordEach kws X.env)).all (·.1.isSome) = true := by rfl) (hks : (backToKw pos (keywordEach kws X.env)).filterMap (·.1) = ks := by rfl)
    (hdb : (x == ("__debug__" : Str)) = false := by decide) (he : starEach (e :: es) X.env = (false, eval e X.env) :: starEach es X.env := by rfl)
    (hpl : ((backTo pos (starEach (e :: es) X.env)).any (·.1) || (backToKw pos (keywordEach kws X.env)).any (·.1.isNone)) = false := by rfl) : DE X W (.Call (.Name x p) (e :: es) kws pos) (eK m (byIxD ix dd) mr mk) := by
  obtain ⟨f, fd, F, hm, Fu⟩ := h.ex
  exact de_callD F (hr.mono hj) hgd tk hg hm Fu.kp (hb Fu) hrep ha hkw hn hn' hall hks hdb he hpl
end
/-- of keyword-only ones -/
theorem funD_k {K : PySem.W.Frag} {x qual : Str} {st : Stmt} {f D : Addr} {oc : Value} {od an : Option Addr} {osl : Array (Option Value)} {doc pm cdv ct : Value} {kds : List (Str × V)} (l : K.lookup f = some ⟨oc, od, .func (PySem.W.fnOf x qual (defArgs st) (defBody st) (defScope st) .none (.ref D) doc pm an cdv ct), osl⟩)
    (c : PySem.W.codeIn K cdv qual = true) (k : PySem.W.keepIn K (.ref f) = true) (h : ∀ q ∈ kds, ∃ u, PySem.W.nsIn K D q.1 = some (some u) ∧ RelV q.2 u) : L2.FunD K x qual (defArgs st) (defBody st) (defScope st) [] kds f (PySem.W.fnOf x qual (defArgs st) (defBody st) (defScope st) .none (.ref D) doc pm an cdv ct) :=
  ⟨⟨oc, od, _, _, doc, pm, an, cdv, ct, osl, rfl, l, c, .inl ⟨rfl, rfl⟩, .inr ⟨D, rfl, h⟩⟩, k⟩
end
end DL

set_option Elab.async false
set_option linter.all false
set_option maxRecDepth 100000
set_option maxHeartbeats 2000000
/-! DT: texts: methods, signs one by one, f-strings, int of a text, or between values. -/
namespace DL
open PySem PySem.Spec PyProof.Rows L2
noncomputable section
/-! ### methods -/
def chkS (d : D) (_ : Sto) : Bool := match d with
  | .str _ => true
  | _ => false
def mSplit : D → List D → M D
  | .str a, [.str b] => fun S => if (b.length == 0) = false ∧ a.length + 2 ≤ sizeLine then .ok (.lst ((Txt.split a b).map .str)) S else .stuck
  | _, _ => fun _ => .stuck
def mWords : D → List D → M D
  | .str a, [] => fun S => if a.length + 2 ≤ sizeLine then .ok (.lst ((Txt.words a).map .str)) S else .stuck
  | _, _ => fun _ => .stuck
def mPart : D → List D → M D
  | .str a, [.str b] => fun S => if (b.length == 0) = false ∧ a.length ≤ sizeLine then .ok (.tup [.str (Txt.partition a b).1, .str (Txt.partition a b).2.1, .str (Txt.partition a b).2.2]) S else .stuck
  | _, _ => fun _ => .stuck
def mStarts : D → List D → M D
  | .str a, [.str b] => fun S => .ok (.bl (Txt.startswith a b)) S
  | _, _ => fun _ => .stuck
def mEnds : D → List D → M D
  | .str a, [.str b] => fun S => .ok (.bl (Txt.endswith a b)) S
  | _, _ => fun _ => .stuck
def mStrip : D → List D → M D
  | .str a, [] => fun S => if a.length ≤ sizeLine then .ok (.str (Txt.strip a)) S else .stuck
  | _, _ => fun _ => .stuck
def strsD : List D → Option (List Str)
  | [] => some []
  | .str x :: ds => (strsD ds).map (x :: ·)
  | _ :: _ => none
def mJoin : D → List D → M D
  | .str a, [d] => fun S => match (seqOf S d).bind strsD with
    | some ys => if (ys.map (·.length)).sum + ys.length * a.length ≤ 16777216 then .ok (.str (Txt.join a ys)) S else .stuck
    | none => .stuck
  | _, _ => fun _ => .stuck
section
variable {K : PySem.W.Frag}
end
/-! ### int of a text -/
def fIntX : List D → M D
  | [.int i] => fun S => .ok (.int i) S
  | [.bl k] => fun S => .ok (.int (if k then 1 else 0)) S
  | [.str a] => fun S => match PySem.intText? a with
    | some n => if a.length ≤ 640 then .ok (.int n) S else .stuck
    | none => .stuck
  | _ => fun _ => .stuck
def rIntX : List V → Hp → VK → Prop := fun xs H Q => ((∃ i, xs = [.int i] ∧ Q (.int i) H) ∨ ∃ k, xs = [.bl k] ∧ Q (.int (if k then 1 else 0)) H) ∨ ∃ a n, xs = [.str a] ∧ PySem.intText? a = some n ∧ a.length ≤ 640 ∧ Q (.int n) H
/-! ### or between values -/
def eOrV (a b : EM) : EM := fun ρ => M.bind (a ρ) fun d S => match truD S d with
  | some true => .ok d S
  | some false => b ρ S
  | none => .stuck
section
variable {X : Cx} {W : WX} {e e2 : Expr} {me : EM} {es rest : List Expr} {pos : Pos} {ma mb : EM}
end
/-! ### f-strings -/
def fmtD : D → Option Str
  | .str y => if y.length ≤ sizeLine then some y else none
  | .int i => if i.natAbs.log2 < 1920 then some (toString i) else none
  | _ => none
def eFmt (a : EM) : EM := fun ρ => M.bind (a ρ) fun d S => match fmtD d with
  | some y => .ok (.str y) S
  | none => .stuck
def jsL : List EM → Str → EM
  | [], acc => fun _ S => .ok (.str acc) S
  | m :: ms, acc => fun ρ => M.bind (m ρ) fun d => match d with
    | .str y => if (acc ++ y).length ≤ sizeLine then jsL ms (acc ++ y) ρ else fun _ => .stuck
    | _ => fun _ => .stuck
def eJs (ms : List EM) : EM := jsL ms Str.empty
section
variable {X : Cx} {W : WX} {e : Expr} {me : EM} {es : List Expr} {pos : Pos}
inductive DJ (X : Cx) (W : WX) : List Expr → List EM → Prop where
  | nil : DJ X W [] []
  | cons {e : Expr} {m : EM} {es : List Expr} {ms : List EM} (h : DE X W e m) (r : DJ X W es ms) : DJ X W (e :: es) (m :: ms)
end
/-! ### signs one by one -/
def signsD (z : Str) : List D := z.cps.toList.map fun c => .str ⟨#[c]⟩
def mItS (d : D) : M ItD := match d with
  | .str z => fun S => .ok (itL (signsD z)) S
  | _ => fun _ => .stuck
theorem jok_str {K : PySem.W.Frag} {hd : Hid} {as : List Addr} {S : Sto} {H : Hp} {z : Str} : JOk K as (fz hd as S H) (Its z) (itL (signsD z)) := by
  intro i hd' as' S' H' pre sm w
  show match some (signsD z)[i]? with
    | none => True
    | some none => _
    | some (some d) => _
  unfold signsD
  rw [List.getElem?_map]
  cases e : z.cps.toList[i]? with
  | none =>
    have : z.cps.toList.length ≤ i := List.getElem?_eq_none_iff.mp e
    show z.cps.size ≤ i
    simpa using this
  | some c =>
    have hi := (List.getElem?_eq_some_iff.mp e).1
    refine ⟨show i < z.cps.size by simpa using hi, fun y H2 hy => ?_⟩
    obtain ⟨rfl, c', e2, rfl⟩ := hy
    have : c' = c := by
      rw [Array.getElem?_toList] at e
      rw [e] at e2; exact (Option.some.inj e2).symm
    subst this
    exact ⟨w, .refl, .str _⟩
theorem di_str {X : Cx} {W : WX} {tg e : Expr} {me : EM} (h : DE X W e me) : DI X W tg e (imOf mItS me) := PI.le (pi_str h) fun σ H Rk ⟨hd, as, ρ, S, rel, po⟩ => tE_seq rel po fun as1 S1 H1 v d g1 rel1 r po1 => by
  cases r with
  | str z => exact ⟨z, rfl, po1 as1 H1 .refl rel1 _ jok_str⟩
  | _ => exact po1.elim
end
end DL

set_option Elab.async false
set_option linter.all false
set_option maxRecDepth 100000
set_option maxHeartbeats 2000000
/-! DR: a range with a step; list.count of truths. -/
namespace DL
open PySem PySem.Spec PyProof.Rows L2
noncomputable section
def mItR3 : List D → M ItD
  | [.int i, .int j, .int c] => fun S => if c ≠ 0 ∧ c.natAbs < 1073741824 ∧ Builtin.Range.small i j c = true ∧ Builtin.Range.rangeSize i j c = ((Builtin.Range.rangeSize i j c).toNat : Int) then .ok (itL ((List.range (Builtin.Range.rangeSize i j c).toNat).map fun k : Nat => D.int (i + k * c))) S else .stuck
  | _ => fun _ => .stuck
/-! ### list.count of a truth -/
def eqbl (k : Bool) (v : Value) : Bool := match v with
  | .bool n => n == k
  | _ => false
def rCntB (K : PySem.W.Frag) : V → List V → Hp → VK → Prop := fun x xs H Q => ∃ (p : Addr) (bs : List Bool) (k : Bool), x = .ref p ∧ xs = [.bl k] ∧ SqL K H p (bs.map V.bl) ∧ Q (.int (bs.count k : Nat)) H
def mCountB : D → List D → M D
  | d, [.bl k] => fun S => match (listOf S d).bind blsOf with
    | some bs => .ok (.int (bs.count k : Nat)) S
    | none => .stuck
  | _, _ => fun _ => .stuck
end
end DL

set_option Elab.async false
set_option linter.all false
set_option maxRecDepth 100000
/-! DU: a, b, .. = a list. -/
namespace DL
open PySem PySem.Spec PyProof.Rows L2
noncomputable section
/-- (a, b, ..) = a list of that length -/
def gLstT (K : PySem.W.Frag) (n : Nat) (t : TGs) : TG := fun v σ H Q => ∃ a xs, v = .ref a ∧ SqL K H a xs ∧ xs.length = n ∧ t xs σ H Q
theorem pg_lstT {X : Cx} {pos : Pos} {es : List Expr} {k : Nat} {t : TGs} {n : Nat} (hc : X.calm = true) (h : PGs X es t)
    (hn : (assignEach es X.env).length = n := by rfl) (hst : (assignEach es X.env).findIdx? (·.1) = none := by rfl) : PG X (.Tuple es k pos) (gLstT X.K n t) := by
  refine ⟨fun pins s σ H v u Q I r hw => ?_⟩
  obtain ⟨a, xs, e1, hq, hl, hw⟩ := hw
  subst e1
  cases r
  obtain ⟨its, rv, ⟨o, m, ho, ho2, ho3, ho4⟩, hz⟩ := I.list hq
  have hlen := rv.length
  have isl : s.heap.IsList a its.toArray := ⟨o, ho, ho2, m, ho4⟩
  rw [assign_Tuple]
  refine wpAny_bind (wpAny_standAt ?_)
  unfold unpack
  rw [hst, hn, show n = its.toArray.size by simp only [List.size_toArray]; omega]
  refine wpAny_bind (wpAny_holding (PySem.W.kun_itemsOf (I.ok.hd hc) isl fun h' he => ?_))
  have I1 : Inv X pins σ H { s with heap := h' } := I.kept (t' := s.toks) fun b o e => he b o (Nat.ne_of_lt (Heap.lt_size e)) e
  exact h.run pins _ σ H xs _ Q I1 (by simpa using rv) hw
def sAsgL (ts : List Tg) (m : EM) : SD := fun ρ S => (m ρ S).to ρ fun d S' => match listOf S' d with
  | some ds => if ds.length = ts.length then (match asgL ts ds ρ with
    | some ρ' => .ok .nx ρ' S'
    | none => .stuck) else .stuck
  | none => .stuck
section
variable {X : Cx} {W : WX} {e : Expr} {me : EM} {pos tpos : Pos} {es : List Expr} {ts : List Tg} {k n : Nat}
theorem ds_asgL (h : DE X W e me) (hc : X.calm = true) (h1 : DGs X es ts) (hn : (assignEach es X.env).length = ts.length := by rfl) (hst : (assignEach es X.env).findIdx? (·.1) = none := by rfl)
    (hs : swapsWithSole [.Tuple es k tpos] e pos.line X.env = pure false := by rfl) (hw : swappedStores [.Tuple es k tpos] e X.env = pure none := by rfl)
    (h3 : (assignEach [.Tuple es k tpos] X.env).map (·.2) = [assign (.Tuple es k tpos) X.env] := by rfl) :
    DS X W (.Assign [.Tuple es k tpos] e pos) (sAsgL ts me) :=
  PS.le (ps_asg h (pg_lstT hc h1 hn hst) hs hw h3) fun Dn σ H ⟨hd, as, ρ, S, rel, po⟩ => tE_to rel po fun as1 S1 H1 v d g rel1 r q => by
    cases e1 : listOf S1 d with
    | none => rw [e1] at q; exact q.elim
    | some ds =>
      rw [e1] at q
      by_cases hz : ds.length = ts.length
      · simp only [hz, if_true] at q
        obtain ⟨a, vs, rfl, hq, rr⟩ := seqL rel1.w r e1
        cases e2 : asgL ts ds ρ with
        | none => rw [e2] at q; exact q.elim
        | some ρ' =>
          rw [e2] at q
          refine ⟨a, _, rfl, hq, by rw [rr.length]; exact hz, gOfL_ok rel1.s rr fz_same e2 fun σ' s' _ => ?_⟩
          exact q as1 σ' H1 .refl ⟨rel1.w, s'⟩
      · simp only [hz, if_false] at q; exact q.elim
end
end
end DL

set_option Elab.async false
set_option linter.all false
set_option maxRecDepth 100000
set_option maxHeartbeats 1000000
/-! DO: objects of own classes: fields, methods, made. -/
namespace DL
open PySem PySem.Spec PyProof.Rows L2
noncomputable section
/-- which fields of which classes are the object's own -/
def TblO (K : PySem.W.Frag) (fi : Str → Str → Bool) : Prop := ∀ n f, fi n f = true → ∀ Ca, ClsK K n (.ref Ca) → Cls K Ca ∧ NoAttr K Ca f
theorem Wld.insAt {K : PySem.W.Frag} {hd : Hid} {as : List Addr} {S : Sto} {H : Hp} {n a : Nat} {C : Str} {fs : List (Str × D)} (w : Wld K hd as S H) (ha : as[n]? = some a) (e : S[n]? = some (some (.ins C fs))) :
    ∃ Ca dx ws, H a = some (.ins Ca dx ws) ∧ ClsK K C (.ref Ca) ∧ ws.map (·.1) = fs.map (·.1) ∧ RepL K as (fz hd as S H) (ws.map (·.2)) (fs.map (·.2)) := by
  obtain ⟨b, o, e1, e2, r⟩ := w.atC n _ e
  rw [ha] at e1; cases e1
  cases o with
  | ins Ca dx ws => exact ⟨Ca, dx, ws, e2, r.1, r.2.1, r.2.2⟩
  | _ => exact r.elim
def putD (f : Str) (v : D) : List (Str × D) → List (Str × D)
  | [] => [(f, v)]
  | (g, x) :: r => if g = f then (g, v) :: r else (g, x) :: putD f v r
section
variable {K : PySem.W.Frag} {as : List Addr} {F : Hp} {f : Str}
theorem look_rep {d : D} : ∀ {fs : List (Str × D)} {ws : List (Str × V)}, ws.map (·.1) = fs.map (·.1) → RepL K as F (ws.map (·.2)) (fs.map (·.2)) → fs.lookup f = some d → ∃ v, ws.lookup f = some v ∧ Rep K as F v d
  | [], ws, _, _, h => by simp at h
  | (g, x) :: fs, [], e, _, _ => by simp at e
  | (g, x) :: fs, (g', y) :: ws, e, r, h => by
    simp only [List.map_cons, List.cons.injEq] at e r
    obtain ⟨rfl, e⟩ := e
    cases r with
    | cons r0 r1 =>
      simp only [List.lookup] at h ⊢
      cases q : f == g' with
      | true => rw [q] at h; simp only at h ⊢; cases h; exact ⟨y, rfl, r0⟩
      | false => rw [q] at h; exact look_rep e r1 h
theorem look_none : ∀ {fs : List (Str × D)} {ws : List (Str × V)}, ws.map (·.1) = fs.map (·.1) → fs.lookup f = none → ws.lookup f = none
  | [], [], _, _ => rfl
  | [], _ :: _, e, _ => by simp at e
  | (g, x) :: fs, [], e, _ => by simp at e
  | (g, x) :: fs, (g', y) :: ws, e, h => by
    simp only [List.map_cons, List.cons.injEq] at e
    obtain ⟨rfl, e⟩ := e
    simp only [List.lookup] at h ⊢
    cases q : f == g' with
    | true => rw [q] at h; cases h
    | false => rw [q] at h; exact look_none e h
theorem put_rep {v : V} {d : D} (rv : Rep K as F v d) : ∀ {fs : List (Str × D)} {ws : List (Str × V)}, ws.map (·.1) = fs.map (·.1) → RepL K as F (ws.map (·.2)) (fs.map (·.2)) →
    (putF f v ws).map (·.1) = (putD f d fs).map (·.1) ∧ RepL K as F ((putF f v ws).map (·.2)) ((putD f d fs).map (·.2))
  | [], [], _, _ => ⟨rfl, .cons rv .nil⟩
  | [], _ :: _, e, _ => by simp at e
  | (g, x) :: fs, [], e, _ => by simp at e
  | (g, x) :: fs, (g', y) :: ws, e, r => by
    simp only [List.map_cons, List.cons.injEq] at e r
    obtain ⟨rfl, e⟩ := e
    cases r with
    | cons r0 r1 =>
      unfold putF putD
      by_cases q : g' = f
      · rw [if_pos q, if_pos q]
        exact ⟨by simp [e], .cons rv r1⟩
      · rw [if_neg q, if_neg q]
        obtain ⟨h1, h2⟩ := put_rep rv e r1
        exact ⟨by simp [h1], .cons r0 h2⟩
end
/-! fields -/
def oFldI (fi : Str → Str → Bool) (f : Str) : D → M D := fun d S => match d with
  | .cell n => match S[n]? with
    | some (some (.ins C fs)) => if fi C f = true then (match fs.lookup f with
      | some v => .ok v S
      | none => .stuck) else .stuck
    | _ => .stuck
  | _ => .stuck
def sFldI (fi : Str → Str → Bool) (f : Str) (mo mv : EM) : SD := fun ρ S => (mv ρ S).to ρ fun d S1 => (mo ρ S1).to ρ fun o S2 => match o with
  | .cell n => match S2[n]? with
    | some (some (.ins C fs)) => if fi C f = true ∧ fs.length < 1000 then .ok .nx ρ (S2.set n (some (.ins C (putD f d fs)))) else .stuck
    | _ => .stuck
  | _ => .stuck
section
variable {X : Cx} {W : WX} {e o value : Expr} {me mo mv : EM} {pos pos' : Pos} {f : Str} {fi : Str → Str → Bool}
theorem de_fldI (T : TblO X.K fi) (he : DE X W e me) (hb : attributeBase e f X.env (eval e X.env) = eval e X.env := by rfl) : DE X W (.Attribute e f pos) (e1 (oFldI fi f) me) :=
  PE.le (pe_fld he hb) fun σ H Q ⟨hd, as, ρ, S, rel, po⟩ => tE_seq rel po fun as1 S1 H1 v1 d g1 rel1 r1 po1 => by
    cases r1 with
    | cell q =>
      rename_i n a
      unfold oFldI at po1
      dsimp only at po1
      split at po1
      · rename_i C fs e1
        split at po1
        · rename_i hok
          cases el : fs.lookup f with
          | none => rw [el] at po1; exact po1.elim
          | some d =>
            rw [el] at po1
            obtain ⟨Ca, dx, ws, ea, hk, hn, r⟩ := rel1.w.insAt q e1
            obtain ⟨v, ev, rv⟩ := look_rep hn r el
            obtain ⟨c, na⟩ := T C f hok Ca hk
            exact ⟨a, Ca, dx, ws, v, rfl, ea, c, na, ev, po1 as1 H1 .refl rel1 v rv⟩
        · exact po1.elim
      · exact po1.elim
    | _ => exact po1.elim
theorem ds_fldI (T : TblO X.K fi) (ho : DE X W o mo) (hv : DE X W value mv) (hs : swapsWith value (some (.Attribute o f pos')) pos.line X.env = pure false := by rfl) : DS X W (.Assign [.Attribute o f pos'] value pos) (sFldI fi f mo mv) :=
  PS.le (ps_fld ho hv hs) fun Dn σ H ⟨hd, as, ρ, S, rel, po⟩ => tE_to rel po fun as1 S1 H1 v d g1 rel1 r1 po1 => tE_to rel1 po1 fun as2 S2 H2 vo od g2 rel2 r2 po2 => by
    cases r2 with
    | cell q =>
      rename_i n a
      dsimp only at po2
      split at po2
      · rename_i C fs e1
        split at po2
        · rename_i hok
          obtain ⟨Ca, dx, ws, ea, hk, hn, r⟩ := rel2.w.insAt q e1
          obtain ⟨c, na⟩ := T C f hok.1 Ca hk
          obtain ⟨h1, h2⟩ := put_rep (f := f) (r1.grow g2) hn r
          obtain ⟨w', g'⟩ := rel2.w.writeC (c2 := .ins C (putD f d fs)) (o := .ins Ca dx (putF f v ws)) e1 q ⟨hk, h1, h2⟩
          refine ⟨a, Ca, dx, ws, rfl, ea, c, na, ?_, po2 as2 σ _ g' (rel2.grow g' w')⟩
          have : ws.length = fs.length := by simpa using congrArg List.length hn
          omega
        · exact po2.elim
      · exact po2.elim
    | _ => exact po2.elim
end
/-! methods -/
def eMo (C m : Str) (fm : FM) (mo : EM) (ma : AM) : EM := fun ρ => M.bind (mo ρ) fun o S => match o with
  | .cell n => match S[n]? with
    | some (some (.ins C' fs)) => if C' = C ∧ fs.lookup m = none then (ma ρ S).bind fun ds S1 => fm (.cell n :: ds) S1 else .stuck
    | _ => .stuck
  | _ => .stuck
/-- what the text says of a method -/
structure MethD (P : Program) (w : World) (K : PySem.W.Frag) (mg : Str → Option Value) (base : Heap) (k : Nat) (C m : Str) (ps : List Str) (fm : FM) : Prop where
  ex : ∃ (Ca f : Addr) (fd : FuncData), ClsK K C (.ref Ca) ∧ Cls K Ca ∧ Meth K Ca m f ∧ FnG P w K mg base k f fd ps fm ∧ Binds K fd ps []
section
variable {X : Cx} {W : WX} {k j : Nat} {C m : Str} {fm : FM} {o e : Expr} {es : List Expr} {mo : EM} {ma : AM} {pos apos : Pos} {ps : List Str} {pl : Sem Bool}
theorem de_meth (T : MethD X.prog X.w X.K X.mg X.base k C m ps fm) (hr : Room j X.A) (hj : k ≤ j) (hgd : Qt X.A X.base) (tk : Takes X W) (ho : DE X W o mo) (ha : DA X W (e :: es) ma)
    (hst : starEach (e :: es) X.env = (false, eval e X.env) :: starEach es X.env := by rfl) (hpl : (backTo pos (starEach es X.env)).any (·.1) = false := by rfl)
    (ht : eval (.Call (.Attribute o m apos) (e :: es) [] pos) X.env = (do
      let ov ← eval o X.env
      standAt apos.atName
      let (f, first) ← holding [ov] (getMethod ov m pl)
      callWith pos f first (backTo pos (starEach (e :: es) X.env)) (backToKw pos (keywordEach [] X.env))) := by rfl) :
    DE X W (.Call (.Attribute o m apos) (e :: es) [] pos) (eMo C m fm mo ma) := by
  obtain ⟨Ca, f, fd, hk, c, hm, F, hb⟩ := T.ex
  refine ⟨fun pins s σ H Q I ⟨hd, as, ρ, S, rel, po⟩ => PySem.W.methodCall_KW (pl := pl) (thn (ho.run pins s σ H (fun x H1 => ∃ a dx fs, x = .ref a ∧ H1 a = some (.ins Ca dx fs) ∧ fs.lookup m = none ∧
    tA X.K X.mg W ma σ H1 fun vs H2 => spM X.K X.mg fm (.ref a :: vs) H2 Q fun cls d H' => W cls d σ H') I (tE_seq rel po fun as1 S1 H1 v1 d1 g1 rel1 r1 po1 => ?_)) fun u s1 ⟨x, H1, I1, rx, a, dx, fs, ex, ea, l, q⟩ => ?_) ht⟩
  · cases r1 with
    | cell q =>
      rename_i n a
      dsimp only at po1
      split at po1
      · rename_i C' fs e1
        split at po1
        · rename_i hok
          obtain ⟨rfl, hnone⟩ := hok
          obtain ⟨Ca', dx, ws, ea, hk', hn, r⟩ := rel1.w.insAt q e1
          have : Value.ref Ca' = Value.ref Ca := by
            have := hk'.symm.trans hk
            simpa using this
          cases this
          refine ⟨a, dx, ws, rfl, ea, look_none hn hnone, tA_seq rel1 po1 fun as2 S2 H2 vs ds g2 rel2 r2 po2 => ?_⟩
          exact sp_of rel2 (.cons (.cell (g2.pre _ _ q)) r2) po2
        · exact po1.elim
      · exact po1.elim
    | _ => exact po1.elim
  · subst ex
    obtain rfl : u = Value.ref a := rx
    refine getmeth_ok I1 ea c hm l ?_
    refine PySem.W.callWith_K (first := [.ref a]) (h₀ := X.base) I.ok.mod.kin hm.kp (thn (ha.run pos pins s1 σ H1 _ I1 q) fun us s2 ⟨vs, H2, I2, r, q2⟩ => ⟨I2.kIn, ?_⟩) hst hpl
    have hl : (Value.ref a :: us ++ []).length = ps.length := by
      have e := sp_len F q2
      rw [List.append_nil, List.length_cons, ← r.length]; simpa using e
    exact run_fnG F (hr.mono hj) hgd tk (args := ⟨.ref a :: us, []⟩) (us := .ref a :: us) (vs := .ref a :: vs) (by simpa using hb s2 (.ref a :: us) I2.kIn hl) I2 (.cons rfl r) (fun _ _ _ z => z) q2
theorem de_meth0 (T : MethD X.prog X.w X.K X.mg X.base k C m ps fm) (hr : Room j X.A) (hj : k ≤ j) (hgd : Qt X.A X.base) (tk : Takes X W) (ho : DE X W o mo)
    (ht : eval (.Call (.Attribute o m apos) [] [] pos) X.env = (do
      let ov ← eval o X.env
      standAt apos.atName
      let (f, first) ← holding [ov] (getMethod ov m pl)
      callWith pos f first (backTo pos (starEach [] X.env)) (backToKw pos (keywordEach [] X.env))) := by rfl) :
    DE X W (.Call (.Attribute o m apos) [] [] pos) (eMo C m fm mo aNil) := by
  obtain ⟨Ca, f, fd, hk, c, hm, F, hb⟩ := T.ex
  refine ⟨fun pins s σ H Q I ⟨hd, as, ρ, S, rel, po⟩ => PySem.W.methodCall_KW (pl := pl) (thn (ho.run pins s σ H (fun x H1 => ∃ a dx fs, x = .ref a ∧ H1 a = some (.ins Ca dx fs) ∧ fs.lookup m = none ∧
    spM X.K X.mg fm [.ref a] H1 Q fun cls d H' => W cls d σ H') I (tE_seq rel po fun as1 S1 H1 v1 d1 g1 rel1 r1 po1 => ?_)) fun u s1 ⟨x, H1, I1, rx, a, dx, fs, ex, ea, l, q⟩ => ?_) ht⟩
  · cases r1 with
    | cell q =>
      rename_i n a
      dsimp only at po1
      split at po1
      · rename_i C' fs e1
        split at po1
        · rename_i hok
          obtain ⟨rfl, hnone⟩ := hok
          obtain ⟨Ca', dx, ws, ea, hk', hn, r⟩ := rel1.w.insAt q e1
          have : Value.ref Ca' = Value.ref Ca := by
            have := hk'.symm.trans hk
            simpa using this
          cases this
          exact ⟨a, dx, ws, rfl, ea, look_none hn hnone, sp_of rel1 (.cons (.cell q) .nil) po1⟩
        · exact po1.elim
      · exact po1.elim
    | _ => exact po1.elim
  · subst ex
    obtain rfl : u = Value.ref a := rx
    refine getmeth_ok I1 ea c hm l ?_
    refine PySem.W.callWith_K0 (first := [.ref a]) I1.kIn hm.kp ?_
    have hl : (Value.ref a :: [] ++ []).length = ps.length := by
      have e := sp_len F q
      simpa using e
    exact run_fnG F (hr.mono hj) hgd tk (args := ⟨[.ref a], []⟩) (us := [.ref a]) (vs := [.ref a]) (by simpa using hb s1 [.ref a] I1.kIn hl) I1 (.cons rfl .nil) (fun _ _ _ z => z) q
end
/-! made -/
def eMk (C : Str) (fm : FM) (ma : AM) : EM := fun ρ => M.bind (ma ρ) fun ds S => (fm (.cell S.length :: ds) (S ++ [some (.ins C [])])).bind fun d S' => match d with
  | .non => .ok (.cell S.length) S'
  | _ => .stuck
structure MakeD (P : Program) (w : World) (K : PySem.W.Frag) (mg : Str → Option Value) (base : Heap) (k : Nat) (C : Str) (ps : List Str) (fm : FM) : Prop where
  ex : ∃ (Ca f : Addr) (fd : FuncData), mg C = some (.ref Ca) ∧ ClsK K C (.ref Ca) ∧ Mk K Ca f ∧ FnG P w K mg base k f fd ps fm ∧ Binds K fd ps []
section
variable {X : Cx} {W : WX} {k j : Nat} {C : Str} {fm : FM} {e : Expr} {es : List Expr} {ma : AM} {pos p : Pos} {ps : List Str}
theorem Qt.under {A : Around} {base : Heap} {x : Value} {us : List Value} (h : Qt A base) : Qt (A.under (.builtin "type.__call__" ⟨x :: us, []⟩)) base := ⟨by
  have e := h.g
  have g : ("type.__call__" ∈ guardIds) = False := by simp [guardIds]
  simp [Around.under, Code.guards, pushGuards, e, Code.isGuard, g], h.s⟩
end
/-! what the text says of methods -/
structure MethAt (K : PySem.W.Frag) (C m : Str) (qual : Str) (st : Stmt) (ps : List Str) : Prop where
  ex : ∃ (Ca f : Addr) (fd : FuncData), ClsK K C (.ref Ca) ∧ Cls K Ca ∧ Meth K Ca m f ∧ Fun K m qual st f fd ∧ Binds K fd ps []
structure MakeAt (K : PySem.W.Frag) (mg : Str → Option Value) (C : Str) (qual : Str) (st : Stmt) (ps : List Str) : Prop where
  ex : ∃ (Ca f : Addr) (fd : FuncData), mg C = some (.ref Ca) ∧ ClsK K C (.ref Ca) ∧ Mk K Ca f ∧ Fun K "__init__" qual st f fd ∧ Binds K fd ps []
section
variable {P : Program} {w : World} {K : PySem.W.Frag} {mg : Str → Option Value} {base : Heap} {k : Nat} {C x qual : Str} {st : Stmt} {N ps : List Str} {m : SD}
theorem meth_of (h : MethAt K C x qual st ps) (Sc : FnScope N ps (defScope st))
    (hbody : ∀ (f : Addr) (cdv : Value) (A : Around) (outer : List PySem.Env) (s : Shared) (H : Hp) (E : XK), Room k (A.deeper (envOfC qual (defScope st) s.heap.objs.size f cdv)) → Qt (A.deeper (envOfC qual (defScope st) s.heap.objs.size f cdv)) base →
      DSs (cxOf (L2.CX P w) P w K mg base N qual (defScope st) f cdv A outer s H E) (WOf E) (defBody st) m) : MethD P w K mg base (k + 1) C x ps (runFn N.length ps.length m) := by
  obtain ⟨Ca, f, fd, h1, h2, h3, F, h4⟩ := h.ex
  exact ⟨Ca, f, fd, h1, h2, h3, Fun.okG F Sc (hbody f), h4⟩
end
theorem tblO_mk {K : PySem.W.Frag} {l : List (Str × Str)} (h : ∀ p ∈ l, ∀ Ca, ClsK K p.1 (.ref Ca) → Cls K Ca ∧ NoAttr K Ca p.2) : TblO K (fun n f => decide ((n, f) ∈ l)) := fun n f e => h (n, f) (of_decide_eq_true e)
/-! a told tuple whose lists are changed no more -/
def mFrzL : List D → M (List D)
  | [] => fun S => .ok [] S
  | d :: ds => fun S => (mFrz d S).bind fun x S1 => (mFrzL ds S1).bind fun xs S2 => .ok (x :: xs) S2
def mFrzT : D → M D
  | .tup xs => fun S => (mFrzL xs S).bind fun ys S1 => .ok (.tup ys) S1
  | d => fun S => .ok d S
end
end DL

set_option Elab.async false
set_option linter.all false
set_option maxRecDepth 100000
set_option maxHeartbeats 1000000
/-! DV: isinstance by a tuple of classes; more methods of lists. -/
namespace DL
open PySem PySem.Spec PyProof.Rows L2
noncomputable section
/-! ### isinstance of an error, by a tuple of classes -/
def rIsXT (K : PySem.W.Frag) : List V → Hp → VK → Prop := fun xs H Q => ∃ (a C : Addr) (d : Option Addr) (tp : Addr) (cs : List V) (us : List Value) (b : Bool), xs = [.ref a, .ref tp] ∧ ErIs H a C d ∧ ExcC K C ∧ (PySem.W.clsIn K C).isSome = true ∧ SqT K H tp cs ∧ (∀ its, Vals cs its → its = us) ∧ PySem.W.kitAny K (.ref C) us = some b ∧ Q (.bl b) H
theorem call_isXT {X : Cx} : CallR X (.builtin "isinstance") (rIsXT X.K) := by
  intro pins s σ H xs us Q I r h
  obtain ⟨a, C, d, tp, cs, ws, b, rfl, hE, hC, hcl, hT, hcv, e, q⟩ := h
  obtain ⟨u1, u2, rfl, r1, r2⟩ := vals2 r
  cases (show u1 = Value.ref a from r1)
  cases (show u2 = Value.ref tp from r2)
  obtain ⟨oe, od, J⟩ := erIs_inst I hE
  obtain ⟨its, rv, ⟨o, h1, h2, n, h3⟩, _⟩ := I.tuple hT
  have e3 := hcv its rv
  subst e3
  obtain ⟨oc, od', dt, sl⟩ := o
  simp only at h2 h3
  subst h2 h3
  exact PySem.W.kia_tup (PySem.W.kitx_exc hcl hC.hg hC.hk hC.hs hC.ha hC.hn hC.ht hC.hm) I.kIn J h1 e (fun z => nomatch z) fun tk => ⟨.bl b, H, I.kept (t' := tk) fun _ _ z => z, rfl, q⟩
/-- of classes in a row -/
def anyT (tc : Str → Str → Option Bool) (tt : Str → String → Option Bool) (n : Str) : List D → Option Bool
  | [] => some false
  | .cls c :: r => match tc n c, anyT tc tt n r with
    | some b, some b' => some (b || b')
    | _, _ => none
  | .ty c :: r => match tt n c, anyT tc tt n r with
    | some b, some b' => some (b || b')
    | _, _ => none
  | _ :: _ => none
def fIsiT (tc : Str → Str → Option Bool) (tt : Str → String → Option Bool) : List D → M D := fun ds => match ds with
  | [.err n _ _, .tup (c :: cs)] => fun S => match anyT tc tt n (c :: cs) with
    | some b => .ok (.bl b) S
    | none => .stuck
  | _ => fun _ => .stuck
/-! ### methods of lists -/
theorem rep0 {K : PySem.W.Frag} {as : List Addr} {F : Hp} {vs : List V} (r : RepL K as F vs []) : vs = [] := by cases r; rfl
def mInsert : D → List D → M D
  | .cell n, [.int i, x] => fun S => match S[n]? with
    | some (some (.lst xs)) => if xs.length < sizeLine ∧ 0 ≤ i ∧ i < 2 ^ 63 then .ok .non (S.set n (some (.lst (xs.take i.toNat ++ [x] ++ xs.drop i.toNat)))) else .stuck
    | _ => .stuck
  | _, _ => fun _ => .stuck
def rInsert : V → List V → Hp → VK → Prop := fun x vs H Q => ∃ (l : Addr) (xs : List V) (i : Int) (y : V), x = .ref l ∧ vs = [.int i, y] ∧ H l = some (.lst xs) ∧ xs.length < sizeLine ∧ 0 ≤ i ∧ i < 2 ^ 63 ∧
    Q .non (upd H l (.lst (xs.take i.toNat ++ [y] ++ xs.drop i.toNat)))
def mPop : D → List D → M D
  | .cell n, [] => fun S => match S[n]? with
    | some (some (.lst xs)) => match xs[xs.length - 1]? with
      | some y => .ok y (S.set n (some (.lst xs.dropLast)))
      | none => .stuck
    | _ => .stuck
  | _, _ => fun _ => .stuck
theorem RepL.dropLast {K : PySem.W.Frag} {as : List Addr} {F : Hp} {ds : List D} {vs : List V} (h : RepL K as F vs ds) : RepL K as F vs.dropLast ds.dropLast := by
  rw [List.dropLast_eq_take, List.dropLast_eq_take, h.length]
  exact h.take _
def mClear : D → List D → M D
  | .cell n, [] => fun S => match S[n]? with
    | some (some (.lst _)) => .ok .non (S.set n (some (.lst [])))
    | _ => .stuck
  | _, _ => fun _ => .stuck
theorem act_clear {K : PySem.W.Frag} : ActM K rClear mClear := by
  intro hd as S H v vs d ds w r rs
  unfold mClear
  split
  · rename_i n
    split
    · rename_i xs e
      have := rep0 rs
      subst this
      cases r with
      | cell q =>
        obtain ⟨a, ws, e1, e2, r⟩ := w.at_ n xs e
        rw [q] at e1; cases e1
        obtain ⟨w', g⟩ := w.write (ys := []) (us := []) e q .nil
        exact fun Q k => ⟨_, ws, rfl, rfl, e2, k _ _ _ g w' .non⟩
    · trivial
  · trivial
end
end DL

set_option Elab.async false
set_option linter.all false
set_option maxRecDepth 100000
/-! slices with a step; str.rpartition; list.index; a module's table of texts: its items, its look-up -/
namespace DL
open PySem PySem.Spec PyProof.Rows L2

/-! ### xs[lo:hi:c] -/
/-- the places that a slice picks -/
def ixs3 (lo hi st : Option Int) (n : Nat) : List Nat := sliceRange (sliceBounds lo hi st n).1 (sliceBounds lo hi st n).2.1 (sliceBounds lo hi st n).2.2
def pick3 {α : Type} (xs : List α) (lo hi st : Option Int) : List α := (ixs3 lo hi st xs.length).filterMap (xs[·]?)
def rSl3 (K : PySem.W.Frag) (c : Int) : V → Option Int → Option Int → Hp → VK → Prop := fun x lo hi H Q => ∃ a xs, x = .ref a ∧ SqL K H a xs ∧ ∀ p, H p = none → Q (.ref p) (upd H p (.lst (pick3 xs lo hi (some c))))
/-- a step that is written: what it is -/
def StepIs (X : Cx) (e : Expr) (c : Int) : Prop := PO X (some e) fun _ H Q => Q (some c) H
section
variable {X : Cx} {W : WX}
end
def oSl3 (c : Int) (d : D) (lo hi : Option Int) : M D := fun S => match listOf S d with
  | some xs => .ok (.lst (pick3 xs lo hi (some c))) S
  | none => .stuck
section
variable {X : Cx} {W : WX}
end

/-! ### str.rpartition, list.index of a text -/
def mRPart : D → List D → M D
  | .str a, [.str b] => fun S => if (b.length == 0) = false ∧ a.length ≤ sizeLine then .ok (.tup [.str (Txt.rpartition a b).1, .str (Txt.rpartition a b).2.1, .str (Txt.rpartition a b).2.2]) S else .stuck
  | _, _ => fun _ => .stuck
def mIndexS : D → List D → M D
  | d, [.str b] => fun S => match (listOf S d).bind strsD with
    | some ys => (match ys.findIdx? (· == b) with
      | some j => .ok (.int (j : Nat)) S
      | none => .stuck)
    | none => .stuck
  | _, _ => fun _ => .stuck
/-! ### a module's table of texts -/
def RowsK (P : Params) : List DictEntry → List (Str × Str) → Prop
  | [], [] => True
  | e :: r, kv :: q => (∃ t t2, e.key = .str kv.1 t ∧ e.hash = PyData.keyHash P kv.1 ∧ e.val = .str kv.2 t2) ∧ RowsK P r q
  | _, _ => False
structure KTab (K : PySem.W.Frag) (w : World) (a : Addr) (tb : List (Str × Str)) : Prop where
  ex : ∃ es n, K.lookup a = some ⟨.type "dict", none, .dict es n, #[]⟩ ∧ RowsK w.params es.toList tb
  low : (a == sysModules) = false
  nd : (tb.map (·.1)).Nodup
  get : ∀ kv ∈ tb, ∃ t, PySem.W.nsIn K a kv.1 = some (some (.str kv.2 t))
section
variable {X : Cx} {pins : List (Addr × Obj)} {σ : L2.St} {H : Hp} {s : Shared} {d : Addr} {tb : List (Str × Str)}
end
/-- the table's items, each in a new pair -/
def Itb (tb : List (Str × Str)) : It :=
  ⟨fun i _ => i < tb.length, fun i H x H' => ∃ T k v, tb[i]? = some (k, v) ∧ x = .ref T ∧ H T = none ∧ H' = upd H T (.tup [.str k, .str v]), fun i _ => tb.length ≤ i⟩
section
variable {X : Cx} {W : WX} {tb : List (Str × Str)} {d : Addr}
def imTab (tb : List (Str × Str)) : IM := fun _ S => .ok (itL (tb.map fun kv => .tup [.str kv.1, .str kv.2])) S
def oTab (tb : List (Str × Str)) : D → M D
  | .str k => fun S => match tb.lookup k with
    | some v => .ok (.str v) S
    | none => .stuck
  | _ => fun _ => .stuck
end
end DL

set_option Elab.async false
set_option linter.all false
set_option maxRecDepth 100000
set_option maxHeartbeats 4000000
/-! DX4: errors of own classes that keep things, over other built-in classes than ValueError (after HandS' ExcInit, for any root). -/
namespace DL
open PySem PySem.Spec PyProof.Rows L2
/-! ### a root of errors -/
structure RootR (B newId initId : String) (tl : List Value) : Prop where
  F : ExcBaseFacts B newId initId tl
  st : StoreFacts B tl "object.__setattr__" "object"
  ty : typeOf (.type B) = pure (.type "type")
theorem root_IndexError : RootR "IndexError" "IndexError.__new__" "IndexError.__init__" [.type "IndexError", .type "LookupError", .type "Exception", .type "BaseException", .type "object"] := ⟨F.excBase_IndexError, F.store_IndexError, by kernel_rfl⟩
section
open PySem.W PySem.HandSPX Builtin Builtin.ObjectAttr
variable {prog : Program} {w : World} {A : Around} {R : Result → Shared → Prop} {h0 : Heap} {gs : Array GenState} {dr : Drawn} {tk0 : Nat} {os : OsState}
variable {B newId initId : String} {tl : List Value}
theorem root_pass (T : RootR B newId initId tl) (C : Addr) (self : Value) : refuseLoop self "__setattr__" (.ref C :: tl) = pure () := by
  rw [refuseLoop_ref]; exact T.st.passes self
/-- the first thing kept -/
theorem root_osa {K : PySem.W.Frag} {name : Str} {tk : Tok} {v : Value} {x C : Addr} {fv : Array Value} {cd : ClassData} (T : RootR B newId initId tl)
    (kin : K.In h0) (ex : h0.get? x = some { cls := .ref C, data := .fields fv }) (ec : PySem.W.clsIn K C = some cd) (em : cd.mro = .ref C :: tl) (eh : cd.hasDict = true) (no : PySem.W.findIn K (.ref C) name = some none)
    (k : ∀ h1 tk1 dx, (∀ b o, b ≠ x → h0.get? b = some o → h1.get? b = some o) → h0.objs.size ≤ dx → dx ≠ x → h1.get? x = some { cls := .ref C, dict := some dx, data := .fields fv } →
      h1.Ns1 dx (fun y => if y = name then some v else none) → R (.ok (.ret .none)) ⟨h1, gs, dr, tk1, os⟩) :
    codeAny (model prog w) A (.call (.builtin "object.__setattr__") ⟨[.ref x, .str name tk, v], []⟩) R ⟨h0, gs, dr, tk0, os⟩ := by
  have at0 : PySem.W.InstAt h0 x { cls := .ref C, data := .fields fv } C none := ⟨ex, rfl, rfl, trivial⟩
  have sf := F.store_object
  have nel : cd.mro.isEmpty = false := by rw [em]; rfl
  have hasO : cd.mro.contains (.type "object") = true := by rw [em, List.contains_cons, T.st.hasOwner, Bool.or_true]
  have apart : x ≠ h0.objs.size := Nat.ne_of_lt (Heap.lt_size ex)
  have isO : PySem.W.Looks (model prog w) h0 (isInstance (.ref x) (.type "object")) true := at0.type.andThen (PySem.W.looks_mroIn kin (by unfold PySem.W.mroIn; rw [ec, Option.bind_some, if_neg (by rw [nel]; decide), hasO]))
  refine codeAny_call_builtin sf.slot.plain sf.entry (@PySem.W.check_slot (model prog w) _ _ ⟨h0, gs, dr, tk0, os⟩ "object.__setattr__" "object" "__setattr__" (.ref x) [.str name tk, v] [] _ sf.kind sf.split isO (sf.args (.ref x) (.str name tk) v) ?_)
  have looksM : PySem.W.Looks (model prog w) h0 (mroOf (.ref C)) cd.mro := (PySem.W.looks_clsIn kin ec).andThen .now
  have looksT : PySem.W.Looks (model prog w) h0 (storeTaker? none) none := .now
  have looksC : PySem.W.Looks (model prog w) h0 (classData C) cd := PySem.W.looks_clsIn kin ec
  rw [PySem.W.osa_eq, refuse_eq]
  refine wpAny_bind (wpAny_bind (at0.type.at (wpAny_bind (looksM.at ?_))))
  rw [em, root_pass T]
  refine wpAny_pure (wpAny_bind (at0.type.at (wpAny_bind ((PySem.W.looks_findIn kin no).at (wpAny_bind (looksT.at ?_))))))
  show wpAny _ _ (storeInOwnDict (Value.ref x) (Value.ref C) (.str name tk) name v false) _ _ _
  obtain ⟨nm, bs, mro, ns, qn, hd, sn, sb, ab, col, del⟩ := cd
  dsimp only at eh
  subst eh
  unfold storeInOwnDict ownDictForStores
  repeat (first | with_reducible refine store_in_new ?_ ?_ | with_reducible refine wpAny_loadPart_at ex ?_ | with_reducible refine looksC.at ?_ | wp_step)
  · exact ⟨_, #[], _, (Heap.get?_update_ne _ _ _ _ apart.symm).trans (Heap.get?_push_at rfl rfl), rfl, fun _ he => absurd he (by simp), fun _ => rfl⟩
  · intro h1 tk1 n1 sb1
    have ex1 : (h0.push { cls := .type "dict", data := .dict #[] }).get? x = some { cls := .ref C, data := .fields fv } := Heap.get?_push_of_some _ ex
    refine k h1 tk1 h0.objs.size (fun b o nb eb => ?_) (Nat.le_refl _) apart.symm ?_ n1
    · exact (sb1.2 b (Nat.ne_of_lt (Heap.lt_size eb))).trans ((Heap.get?_update_ne _ _ _ _ nb).trans (Heap.get?_push_of_some _ eb))
    · exact (sb1.2 x apart).trans (Heap.get?_update_self _ ex1 rfl)
end
/-! ### a class over such a root -/
structure OexR (newId : String) (tl : List Value) (K : PySem.W.Frag) (C : Addr) : Prop where
  cls : ∃ nm q N bs sn sub ab col dd k0 k1 k2 k3 k5, K.lookup C = some (excClassObj nm q C N bs tl true sn sub ab col dd k0 k1 k2 k3 k5 newId)
  sa : PySem.W.findIn K (.ref C) "__setattr__" = some (some (.builtin "object.__setattr__"))
  exC : PySem.W.subIn K (.ref C) (.type "BaseException") = some true
  tyC : PySem.W.typeIn K (.ref C) = some (.type "type")
  kC : PySem.W.keepIn K (.ref C) = true
section
variable {B newId initId : String} {tl : List Value}
variable {X : Cx} {pins : List (Addr × Obj)} {σ : L2.St} {H : Hp} {s : Shared} {a C : Addr} {f : Str} {y : V} {u : Value} {Q : Unit → Shared → Prop} {E : Value → Shared → Prop} {A : Around}
theorem clsIn_root (T : OexR newId tl X.K C) : ∃ cd, PySem.W.clsIn X.K C = some cd ∧ cd.mro = .ref C :: tl ∧ cd.hasDict = true := by
  obtain ⟨nm, q, N, bs, sn, sub, ab, col, dd, k0, k1, k2, k3, k5, hC⟩ := T.cls
  refine ⟨{ name := nm, bases := bs, mro := .ref C :: tl, ns := N, qualname := q, hasDict := true, slotNames := sn, subclasses := sub, abstract := ab, collection := col, hasDel := false }, ?_, rfl, rfl⟩
  unfold PySem.W.clsIn
  rw [hC] <;> rfl
/-- self.f = y, the first one -/
theorem root_ost (R : RootR B newId initId tl) (T : OexR newId tl X.K C) (I : Inv X pins σ H s) (e : H a = some (exo a C none)) (no : PySem.W.findIn X.K (.ref C) f = some none) (ry : RelV y u)
    (k : ∀ dx s1, H dx = none → dx ≠ a → Inv X pins σ (upd (upd H dx (exd dx [(f, y)])) a (exo a C (some dx))) s1 → Q () s1) : wpAny (model X.prog X.w) A (setAttr (.ref a) f u) Q E s := by
  obtain ⟨cd, ec, em, eh⟩ := clsIn_root T
  obtain ⟨t1, eo⟩ := exo_at I.hok e
  obtain ⟨h0, gs, dr, tk0, os⟩ := s
  refine PySem.W.set_plain I.kIn (ox := { cls := .ref C, dict := none, data := .fields #[.ref t1, .none, .none, .none, .bool false, .none] }) (od := none) ⟨eo, rfl, rfl, trivial⟩ T.sa ?_
  refine root_osa R I.kIn eo ec em eh no fun h1 tk1 dx kp dn dne ex1 n1 => ?_
  have hd0 : H dx = none := I.hok.fresh dn
  have nd : ∀ {b : Addr} {o : Obj}, h0.get? b = some o → b ≠ dx := fun {b o} q => Nat.ne_of_lt (Nat.lt_of_lt_of_le (Heap.lt_size q) dn)
  have na : ∀ {b : Addr}, H b = none → b ≠ a := fun {b} n z => by rw [z, e] at n; cases n
  have un1 : Un X.fs [] H (upd (upd H dx (exd dx [(f, y)])) a (exo a C (some dx))) h0 h1 :=
    ⟨fun b o q n _ _ => kp b o (na n) q, fun b o q n _ _ => ⟨o.slots, kp b o (na n) q⟩, fun b o q n _ => by rw [upd_ne (na n), upd_ne (nd q)]; exact n,
      fun b o q _ => by
        by_cases hb : b = a
        · exact ⟨_, by rw [hb]; exact ex1⟩
        · exact ⟨o, kp b o hb q⟩,
      fun b xs q => by rw [upd_ne (at_ne e q exo_tup), upd_ne (ne_of_none q hd0)]; exact q,
      fun b o v q => by rw [upd_ne (at_ne e q exo_frz), upd_ne (ne_of_none q hd0)]; exact q,
      fun b ps q => ⟨#[], by rw [upd_ne (at_ne e q exo_tbl), upd_ne (ne_of_none q hd0), q]; simp⟩⟩
  refine k dx _ hd0 dne (I.un (t' := tk1) un1 fun b o q => ?_)
  by_cases hb : b = a
  · rw [hb, upd_same] at q
    cases q
    rw [hb]
    exact exo_ok ex1
  rw [upd_ne hb] at q
  by_cases hdx : b = dx
  · rw [hdx, upd_same] at q
    cases q
    rw [hdx]
    exact exd_ok n1 (relO_put (fs := []) ry fun _ => True.intro)
  rw [upd_ne hdx] at q
  refine (I.hok b o q).stay (fun c v hc z => kp c v ?_ z) (fun c hc => ?_) fun c xs hc => ?_
  · rcases hc with hc | hc
    · rw [hc]; exact hb
    · exact at_ne e hc exo_own
  · rw [upd_ne (at_ne e hc exo_own), upd_ne (ne_of_none hc hd0)]; exact hc
  · rw [upd_ne (at_ne e hc exo_tup), upd_ne (ne_of_none hc hd0)]; exact hc
/-- Root.__init__(self, ..): nothing of it is told -/
theorem root_oinit {us : List Value} {Q : Value → Shared → Prop} (R : RootR B newId initId tl) (T : OexR newId tl X.K C) (I : Inv X pins σ H s) (e : H a = some (exo a C none)) (hl : us.length ≤ sizeLine) (k : ∀ s1, Inv X pins σ H s1 → Q .none s1) :
    wpAny (model X.prog X.w) A (call (.builtin initId) (.ref a :: us)) Q E s := by
  obtain ⟨nm, q, N, bs, sn, sub, ab, col, dd, k0, k1, k2, k3, k5, hC⟩ := T.cls
  obtain ⟨t1, eo⟩ := exo_at I.hok e
  obtain ⟨h0, gs, dr, tk0, os⟩ := s
  refine wpAny_call (PySem.HandSPX.init_base R.F (fun _ => rfl) (I.kIn _ _ hC) eo hl fun h1 t2 kp ex1 => ?_)
  have J := I.write (t' := tk0) (x := a) (e := a) (o := exo a C none) (by rw [e]; exact True.intro) (.inl rfl) kp ⟨_, ex1⟩ (exo_ok ex1)
  have same : upd H a (exo a C none) = H := funext fun b => by
    by_cases hb : b = a
    · rw [hb, upd_same, e]
    · rw [upd_ne hb]
  rw [same] at J
  exact k _ J
end
/-! ### readings and rules -/
def tRtI (newId : String) (tl : List Value) (K : PySem.W.Frag) (ta : TA) : TE := fun σ H Q => ta σ H fun vs H1 => ∃ (a C : Addr) (ws : List V), vs = .ref a :: ws ∧ ws.length ≤ 1000 ∧ OexR newId tl K C ∧ H1 a = some (exo a C none) ∧ Q .non H1
def tRtO (newId : String) (tl : List Value) (K : PySem.W.Frag) (f : Str) (to te : TE) : TS := fun D σ H => te σ H fun y H1 => to σ H1 fun x H2 => ∃ a C : Addr, x = .ref a ∧ OexR newId tl K C ∧ PySem.W.findIn K (.ref C) f = some none ∧
  H2 a = some (exo a C none) ∧ ∀ dx, H2 dx = none → dx ≠ a → D.nx σ (upd (upd H2 dx (exd dx [(f, y)])) a (exo a C (some dx)))
section
variable {B newId initId : String} {tl : List Value}
variable {X : Cx} {o e : Expr} {es : List Expr} {to te : TE} {ta : TA} {f : Str} {p p' p1 p2 pos : Pos}
theorem pe_rtinit {pl : Sem Bool} {x : Str} (R : RootR B newId initId tl) (hg : Gl X x) (hm : X.mg x = none) (hbt : bootBuiltins x = some (.type B)) (hst : Manifest.isStub B = false) (hhi : PySem.W.handedIn (.builtin initId) = true)
    (fc : PySem.W.findCls X.K (.type B) (.type "type") "__init__" = some (.val (.builtin initId))) (ha : PA X (e :: es) ta) (hx1 : x ≠ "__name__") (hx2 : (x == ("__debug__" : Str)) = false)
    (hc : eval (.Call (.Attribute (.Name x p1) "__init__" p2) (e :: es) [] pos) X.env = (do
      let ov ← eval (.Name x p1) X.env
      standAt p2.atName
      let (f, first) ← holding [ov] (getMethod ov "__init__" pl)
      callWith pos f first (backTo pos (starEach (e :: es) X.env)) (backToKw pos (keywordEach [] X.env))) := by rfl)
    (he : starEach (e :: es) X.env = (false, eval e X.env) :: starEach es X.env := by rfl) (hpl : (backTo pos (starEach es X.env)).any (·.1) = false := by rfl) :
    PE X (.Call (.Attribute (.Name x p1) "__init__" p2) (e :: es) [] pos) (tRtI newId tl X.K ta) := by
  refine ⟨fun pins s σ H Q I h => ?_⟩
  refine PySem.W.methodCall_KW (ld_blt I hg hm hbt ?_ hx1 hx2) hc
  obtain ⟨m, fr⟩ := I.fr
  refine PySem.W.method_type fr I.ok.mod.kin R.ty hst fc hhi ?_
  show wpAny _ _ (callWith pos (Value.builtin initId) [] (backTo pos (starEach (e :: es) X.env)) []) _ _ _
  refine PyProof.Rows.callWith_method1 (thn (ha.run pos pins _ σ H _ (I.tok _) h) fun us s1 ⟨vs, H1, I1, r1, a, C, ws, ev, hl, T, ea, q⟩ => ?_) he hpl
  subst ev
  cases r1 with
  | @cons _ u0 _ ur ra rr =>
    obtain rfl : u0 = Value.ref a := ra
    have short : ur.length ≤ sizeLine := by
      rw [← Paired.length rr, sizeLine_eq]; omega
    exact root_oinit R T I1 ea short fun s2 J => ⟨.non, H1, J, rfl, q⟩
theorem ps_rto (R : RootR B newId initId tl) (ho : PE X o to) (he : PE X e te) (hs : swapsWith e (some (.Attribute o f p')) pos.line X.env = pure false := by rfl) : PS X (.Assign [.Attribute o f p'] e pos) (tRtO newId tl X.K f to te) := by
  refine ⟨fun pins s σ H D I h => ?_⟩
  refine plainObj_wpAny_Assign_Attribute (thn (he.run pins s σ H _ I h) fun v s1 ⟨y, H1, I1, r1, q1⟩ => thn (ho.run pins s1 σ H1 _ I1 q1) fun u s2 ⟨x, H2, I2, r2, a, C, ex, T, no, ea, q⟩ => ?_) hs
  subst ex
  obtain rfl : u = Value.ref a := r2
  exact root_ost R T I2 ea no r1 fun dx s3 n ne J => ⟨σ, _, J, q dx n ne⟩
theorem pmk_root {CX : CXT} {x : Str} {C fI : Addr} {k : Nat} {fd : FuncData} {ps : List Str} {sp : Sp} {ds : List Value} {dvs : List V} (R : RootR B newId initId tl) (T : OexR newId tl X.K C) (iC : PySem.W.findIn X.K (.ref C) "__init__" = some (some (.ref fI))) (tI : PySem.W.typeIn X.K (.ref fI) = some (.type "function"))
    (F1 : FnOk X.prog X.w X.K X.mg X.base CX k fI fd ps sp) (hr : Room (k + 1) X.A) (hb : Binds X.K fd ps ds) (hd : Vals dvs ds) (hx : Passes CX X (fun _ _ _ => False)) (hg : Gl X x) (hm : X.mg x = some (.ref C)) (ha : PA X (e :: es) ta)
    (hdb : (x == ("__debug__" : Str)) = false := by decide) (he : starEach (e :: es) X.env = (false, eval e X.env) :: starEach es X.env := by rfl) (hpl : (backTo pos (starEach es X.env)).any (·.1) = false := by rfl) :
    PMk X (.Call (.Name x p) (e :: es) [] pos) (tMkO C sp dvs ta) := by
  intro pins s σ H Q I h
  obtain ⟨nm, q, N, bs, sn, sub, ab, col, dd, k0, k1, k2, k3, k5, hC⟩ := T.cls
  refine wpAny_Call_Name_kw (ld_glob I hg hm ?_ hdb)
  refine PySem.W.callWith_K (h₀ := X.base) I.ok.mod.kin T.kC (thn (ha.run pos pins s σ H _ I h) fun us s1 ⟨vs, H1, I1, r1, hz, q1⟩ => ⟨I1.kIn, ?_⟩) he hpl
  show wpAny _ _ (call (Value.ref C) us) _ _ _
  obtain ⟨h0, gs, dr, tk0, os⟩ := s1
  have lt : h0.objs.size ≤ h0.objs.size + 1 := Nat.le_succ _
  have fresh1 : H1 (h0.objs.size + 1) = none := I1.hok.fresh lt
  have q2 := q1 (h0.objs.size + 1) fresh1
  have kk : ∀ b o, h0.get? b = some o → ((h0.push (PySem.W.kdv_tup us)).push (PySem.HandSPX.excO C h0.objs.size)).get? b = some o := fun b o e => Heap.get?_push_of_some _ (Heap.get?_push_of_some _ e)
  have made : ((h0.push (PySem.W.kdv_tup us)).push (PySem.HandSPX.excO C h0.objs.size)).get? (h0.objs.size + 1) = some (PySem.HandSPX.excO C h0.objs.size) := by heap_get
  have I2 : Inv X pins σ (upd H1 (h0.objs.size + 1) (exo (h0.objs.size + 1) C none)) ⟨(h0.push (PySem.W.kdv_tup us)).push (PySem.HandSPX.excO C h0.objs.size), gs, dr, tk0, os⟩ :=
    I1.laid (t' := tk0) (a := h0.objs.size + 1) (o := exo (h0.objs.size + 1) C none) (h' := (h0.push (PySem.W.kdv_tup us)).push (PySem.HandSPX.excO C h0.objs.size)) kk lt (exo_ok made)
  have r2 : Vals (V.ref (h0.objs.size + 1) :: (vs ++ dvs)) (Value.ref (h0.objs.size + 1) :: (us ++ ds)) := .cons rfl (r1.append hd)
  have many : (Value.ref (h0.objs.size + 1) :: us ++ ds).length = ps.length := by
    have e := r2.length
    rw [F1.len _ _ _ _ q2] at e
    exact e.symm
  have short : us.length ≤ sizeLine := by
    rw [← Paired.length r1, sizeLine_eq]; omega
  refine wpAny_call (PySem.HandSPX.call_own R.F (fun _ => rfl) (I1.kIn _ _ hC) (PySem.W.looks_findIn I1.kIn iC) (fun self => PySem.W.bind_fn I1.kIn self tI) short
    (codeAny_mono (F1.run _ X.stack _ _ ⟨Value.ref (h0.objs.size + 1) :: us, []⟩ (Value.ref (h0.objs.size + 1) :: (us ++ ds)) _ _ (fun _ _ _ => False) (hr.make C us []) (I2.env0.make C us []) (hb _ (Value.ref (h0.objs.size + 1) :: us) I2.kIn many) r2 q2) fun r s2 z => ?_))
  cases r with
  | error er => exact hx pins σ _ _ er s2 I2 z
  | ok fl =>
    cases fl with
    | ret u =>
      obtain ⟨v, H2, os2, bare2, un2, ok2, rv, ev, d, fs, ea, ed, hd1, q3⟩ := z
      subst ev
      obtain ⟨h2, g2, d2, t2, o2⟩ := s2
      exact ⟨rv, mk_end (raises_own T.exC T.tyC) I1 lt kk un2 ok2 os2 bare2 ea ed hd1 q3⟩
    | next => exact False.elim z
    | brk => exact False.elim z
    | cont => exact False.elim z
end
section
variable {P : Program} {w : World} {K : PySem.W.Frag} {mg : Str → Option Value} {base : Heap}
variable {B newId initId : String} {tl : List Value}
theorem initR_ok {st : Stmt} {qual f : Str} {C fI : Addr} {fd : FuncData} (F : Fun K "__init__" qual st fI fd) (Sc : FnScope ["self", f] ["self", f] (defScope st)) (O : OexR newId tl K C) (hno : PySem.W.findIn K (.ref C) f = some none)
    (hb : ∀ (cdv : Value) (A : Around) (outer : List PySem.Env) (s : Shared) (H : Hp) (E : XK), ∃ m : Str, PSs (cxOf (L2.CX P w) P w K mg base ["self", f] qual (defScope st) fI cdv A outer s H E) (defBody st) (tSeq (tDrop (tRtI newId tl K (tCons (tVar 0) (tCons (tC (.str m)) tNil)))) (tRtO newId tl K f (tVar 0) (tVar 1)))) :
    FnOk P w K mg base (L2.CX P w) 1 fI fd ["self", f] (spI1 C f) := by
  refine F.okX Sc (fun vs H Q E h => ?_) (fun cdv A outer s H vs Q E hr h => ?_)
  · obtain ⟨a, y, rfl, _⟩ := h; rfl
  · obtain ⟨m, pb⟩ := hb cdv A outer s H E
    refine ⟨_, pb, ?_⟩
    obtain ⟨a, y, rfl, ea, k⟩ := h
    refine ⟨_, rfl, a, C, [.str m], rfl, by simp, O, ea, ?_⟩
    refine ⟨_, rfl, _, rfl, a, C, rfl, O, hno, ea, fun dx n ne => ?_⟩
    exact k dx n ne
/-- what the text says of a class of errors over another root, with one thing kept -/
structure ErR (newId : String) (tl : List Value) (P : Program) (w : World) (K : PySem.W.Frag) (mg : Str → Option Value) (base : Heap) (n f : Str) : Prop where
  ex : ∃ (C fI : Addr) (fd : FuncData), mg n = some (.ref C) ∧ ClsK K n (.ref C) ∧ OexR newId tl K C ∧ PySem.W.findIn K (.ref C) "__init__" = some (some (.ref fI)) ∧ PySem.W.typeIn K (.ref fI) = some (.type "function") ∧
    FnOk P w K mg base (L2.CX P w) 1 fI fd ["self", f] (spI1 C f) ∧ Binds K fd ["self", f] []
end
section
variable {B newId initId : String} {tl : List Value}
variable {X : Cx} {W : WX} {n f : Str} {e : Expr} {es : List Expr} {ma : AM} {p pos pos2 : Pos} {j : Nat}
theorem ds_raiseR (R : RootR B newId initId tl) (hc : X.calm = true) (tk : Takes X W) (T : ErR newId tl X.prog X.w X.K X.mg X.base n f) (hr : Room j X.A) (hj : 2 ≤ j) (hg : Gl X n) (ha : DA X W (e :: es) ma) (hdb : (n == ("__debug__" : Str)) = false := by decide)
    (he : starEach (e :: es) X.env = (false, eval e X.env) :: starEach es X.env := by rfl) (hpl : (backTo pos (starEach es X.env)).any (·.1) = false := by rfl) :
    DS X W (.Raise (some (.Call (.Name n p) (e :: es) [] pos)) none pos2) (sRaise1 n f ma) := by
  obtain ⟨C, fI, fd, gC, hk, O, iC, tI, F, hb⟩ := T.ex
  refine PS.le (ps_raise hc tk (pmk_root R O iC tI F (hr.mono hj) hb .nil passesF hg gC ha hdb he hpl)) fun D σ H ⟨hd, as, ρ, S, rel, po⟩ => ?_
  refine tA_to rel po fun as1 S1 H1 vs ds g1 rel1 r1 po1 => ?_
  split at po1
  · rename_i d
    cases r1 with
    | cons r1 rr =>
      cases rr
      rename_i v
      refine ⟨by simp, fun a na => ⟨a, v, rfl, upd_same, fun dx nd ne => ⟨rfl, dx, [(f, v)], upd_same, ?_, ?_, ?_⟩⟩⟩
      · rw [upd_ne ne]; exact upd_same
      · rw [← nd]
        exact (upd_ne ne).symm
      · have hdx : H1 dx = none := by rw [← nd]; exact (upd_ne ne).symm
        have eH : upd (L2.del (upd (upd (upd H1 a (exo a C none)) dx (exd dx [(f, v)])) a (exo a C (some dx))) a) dx (.xd [(f, v)]) = upd H1 dx (.xd [(f, v)]) := by
          funext b
          by_cases hb : b = dx
          · rw [hb, upd_same, upd_same]
          · rw [upd_ne hb, upd_ne hb]
            by_cases hba : b = a
            · rw [hba, L2.del_same, na]
            · rw [L2.del_ne hba, upd_ne hba, upd_ne hb, upd_ne hba]
        rw [eH]
        obtain ⟨w1, g2, e2⟩ := rel1.w.fresh (o := .xd [(f, v)]) hdx
        exact po1 as1 (.ref C) (some dx) σ _ g2 (rel1.grow g2 w1) ⟨hk, gC, [v], .inr ⟨dx, rfl, rfl, e2⟩, .cons (r1.grow g2) .nil⟩
  · exact po1.elim
end
end DL

set_option Elab.async false
set_option linter.all false
set_option maxRecDepth 100000
set_option maxHeartbeats 4000000
/-! DX5: zip(xs, ys, strict=True), after the kit's way with zip(xs, ys). -/
namespace DL
open PySem PySem.Spec PyProof.Rows L2
/-! ### a type called with keywords -/
section
variable {M : Model} {A : Around} {E : Value → Shared → Prop} {s : Shared}
end
section
variable {prog : Program} {w : World} {A : Around} {E : Value → Shared → Prop} {s : Shared}
end
/-! ### the strict zip's object -/
abbrev IsZs (h : Heap) (z TI TO : Addr) (f0 : Value) : Prop :=
  h.get? z = some { cls := .type "zip", dict := none, data := .fields #[f0, .bool false, .bool true, .ref TI, .ref TO], slots := #[] }
section
variable {prog : Program} {w : World} {A : Around} {E : Value → Shared → Prop} {s : Shared}
end
/-! ### made -/
abbrev kwS : List (Str × Value) := [(Str.ofString "strict", .bool true)]
abbrev zsH5 (h : Heap) (l1 l2 : Addr) : Heap := (zipH4 h l1 l2).push { cls := .type "zip", data := .fields #[.none, .bool false, .bool true, .ref (zipH2 h l1 l2).objs.size, .ref (zipH3 h l1 l2).objs.size] }
section
variable {prog : Program} {w : World} {A : Around} {E : Value → Shared → Prop} {s : Shared}
end
/-! ### walked -/
def Itzs (K : PySem.W.Frag) (a b : Addr) : It :=
  ⟨(Itz K a b).go, (Itz K a b).yld, fun i H => ∃ xs ys : List V, SqL K H a xs ∧ SqL K H b ys ∧ xs.length ≤ i ∧ ys.length ≤ i⟩
def iZs (K : PySem.W.Frag) (ta tk : TA) : TI := fun σ H R => ta σ H fun vs H1 => tk σ H1 fun ks H2 => ∃ a b xs ys, vs = [.ref a, .ref b] ∧ ks = [.bl true] ∧ SqL K H2 a xs ∧ SqL K H2 b ys ∧ R (Itzs K a b) H2
/-! ### as data -/
def itZS (d e : D) (k : Nat) : ItD := ⟨fun i S => match listOf S d, listOf S e with
  | some xs, some ys => if xs.length = ys.length then some ((zipD xs ys)[i]?) else none
  | _, _ => none, k + 1⟩
def mItZS : List D → M ItD
  | [d, e] => fun S => match frozenL d, frozenL e with
    | some xs, some ys => if xs.length = ys.length then .ok (itL (zipD xs ys)) S else .stuck
    | _, _ => match listOf S d, listOf S e with
      | some xs, some ys => .ok (itZS d e (zipD xs ys).length) S
      | _, _ => .stuck
  | _ => fun _ => .stuck
def imZS (m k : AM) : IM := fun ρ => M.bind (m ρ) fun ds => M.bind (k ρ) fun ks => match ks with
  | [.bl true] => mItZS ds
  | _ => fun _ => .stuck
end DL

set_option Elab.async false
set_option linter.all false
set_option maxRecDepth 100000
set_option maxHeartbeats 4000000
/-! DX6: defs that call themselves; list(range(..)); [f, g][i](..); tables made by a comprehension, asked by in; xs[i], y = .. -/
namespace DL
open PySem PySem.Spec PyProof.Rows L2
noncomputable section
/-! ### a def that calls itself -/
theorem FnG.none {P : Program} {w : World} {K : PySem.W.Frag} {mg : Str → Option Value} {base : Heap} {k : Nat} {f : Addr} {fd : FuncData} {ps : List Str} : FnG P w K mg base k f fd ps (fun _ _ => .stuck) :=
  ⟨fun _ _ => .inl rfl, fun _ _ _ _ _ _ _ _ _ _ _ _ _ _ ⟨_, _, _, _, _, _, z⟩ => z.elim⟩
theorem Has.none {P : Program} {w : World} {K : PySem.W.Frag} {mg : Str → Option Value} {base : Heap} {k : Nat} {x : Str} {st : Stmt} {ps : List Str} (h : DefAt K mg x st ps) : Has P w K mg base k x st ps (fun _ _ => .stuck) := by
  obtain ⟨f, fd, F, hm, hb⟩ := h.ex
  exact ⟨f, fd, .none, hm, F, hb⟩
/-- n turns of a body with a hole -/
def recF (n np : Nat) (d : FM → SD) : Nat → FM
  | 0 => fun _ _ => .stuck
  | k + 1 => runFn n np (d (recF n np d k))
/-! ### list(range(..)) -/
def mLRng : List D → M D
  | [.int j] => fun S => if -(2 ^ 62) ≤ j ∧ j < 2 ^ 62 ∧ j.toNat ≤ 2 ^ 24 then .ok (.lst ((List.range j.toNat).map fun i : Nat => D.int i)) S else .stuck
  | _ => fun _ => .stuck
def mLRngC : List D → M D
  | [.int j] => fun S => if -(2 ^ 62) ≤ j ∧ j < 2 ^ 62 ∧ j.toNat ≤ 2 ^ 24 then .ok (.cell S.length) (S ++ [some (.lst ((List.range j.toNat).map fun i : Nat => D.int i))]) else .stuck
  | _ => fun _ => .stuck
section
variable {X : Cx} {W : WX} {e : Expr} {me : EM} {p p2 pos pos2 : Pos}
end
/-! ### [f, g][i](..) -/
def eCs (fs : List FM) (ix : EM) (a : AM) : EM := fun ρ S => (ix ρ S).bind fun d S1 => match d with
  | .int i => match L2.atI fs i with
    | some m => (a ρ S1).bind m
    | none => .stuck
  | _ => .stuck
section
variable {X : Cx} {W : WX} {j k1 k2 : Nat} {ps1 ps2 : List Str} {m1 m2 : FM} {x1 x2 : Str} {st1 st2 : Stmt} {p1 p2 lp sp pos : Pos} {ie e : Expr} {es : List Expr} {mi : EM} {mr : AM}
end
end
end DL

set_option Elab.async false
set_option linter.all false
set_option maxRecDepth 100000
set_option maxHeartbeats 4000000
/-! DX7: tables made by a comprehension; in, not in. -/
namespace DL
open PySem PySem.Spec PyProof.Rows L2
noncomputable section
def keyD : D → Option Key
  | .int i => some (.inl i)
  | .str s => some (.inr s)
  | _ => none
def putKD (kvs : List (Key × D)) (k : Key) (v : D) : List (Key × D) :=
  if (kvs.any fun kv => decide (kv.1 = k)) = true then kvs.map (fun kv => if kv.1 = k then (kv.1, v) else kv) else kvs ++ [(k, v)]
def dcLoop (nx : Nat → Sto → Option (Option D)) (T : Tg) (c : BM) (ek ev : EM) (ρ : Env) : Nat → Nat → List (Key × D) → M (List (Key × D))
  | 0, _, _, _ => .stuck
  | n + 1, i, acc, S => match nx i S with
    | none => .stuck
    | some none => .ok acc S
    | some (some d) => match asg T d ρ with
      | none => .stuck
      | some ρ' => (c ρ' S).bind fun b S1 => if b then (ek ρ' S1).bind fun x S2 => (ev ρ' S2).bind fun y S3 => (match keyD x with
          | some k => if acc.length < sizeLine then dcLoop nx T c ek ev ρ n (i + 1) (putKD acc k y) S3 else .stuck
          | none => .stuck) else dcLoop nx T c ek ev ρ n (i + 1) acc S1
def eDc (im : IM) (T : Tg) (c : BM) (ek ev : EM) (vs : List Nat) : EM := fun ρ => M.bind (im ρ) fun it S => (noX (dcLoop it.nx T c ek ev (wipeD ρ vs) it.fu 0 [] S)).bind fun kvs S' => .ok (.cell S'.length) (S' ++ [some (.dK kvs)])
section
variable {X : Cx} {W : WX} {kx vx tg iter : Expr} {ifs : List Expr} {scope : Scope} {own : List (Str × Nat)} {pos spos : Pos} {im : IM} {T : Tg} {mt : BM} {mk me : EM}
end
/-! ### in, not in -/
def inK (neg : Bool) (x t : D) (S : Sto) : R Bool := match keyD x, t with
  | some k, .cell n => match S[n]? with
    | some (some (.dK kvs)) => .ok ((kvs.any fun kv => decide (kv.1 = k)) != neg) S
    | _ => .stuck
  | _, _ => .stuck
def bInK (neg : Bool) (a b : EM) : BM := fun ρ => M.bind (a ρ) fun x => M.bind (b ρ) fun t => inK neg x t
section
variable {X : Cx} {W : WX} {a b : Expr} {ma mb : EM} {pos : Pos}
end
/-! ### a def with keyword-only parameters that must be given -/
theorem kbd_n {K : PySem.W.Frag} {x : Str} {st : Stmt} {f : Addr} {fd : FuncData} {ps ks : List Str} {n : Nat} {ix : List Nat} {kds : List (Str × V)} (F : L2.FunD K x x (defArgs st) (defBody st) (defScope st) [] kds f fd)
    (h : ∀ (kV doc pm : Value) (an : Option Addr) (cdv ct : Value) (us ws : List Value), us.length = n → ws.length = ks.length → bindArgs (PySem.W.fnOf x x (defArgs st) (defBody st) (defScope st) .none kV doc pm an cdv ct) ⟨us, ks.zip ws⟩ = pure (ps.zip (byIx ix us ws))) : KBD K fd ps n ks ix [] := by
  obtain ⟨oc, od, dV, kV, doc, pm, an, cdv, ct, osl, rfl, lk, hcd, hD, hK⟩ := F.ex
  rcases hD with ⟨_, rfl⟩ | ⟨e, _⟩
  · refine ⟨[], .nil, fun s us ws X l1 l2 => ?_⟩
    rw [List.append_nil]
    exact BindsTo.of_eq (h kV doc pm an cdv ct us ws l1 l2)
  · exact absurd rfl e
theorem funD_n {K : PySem.W.Frag} {x qual : Str} {st : Stmt} {f : Addr} {oc kV : Value} {od an : Option Addr} {osl : Array (Option Value)} {doc pm cdv ct : Value} (l : K.lookup f = some ⟨oc, od, .func (PySem.W.fnOf x qual (defArgs st) (defBody st) (defScope st) .none kV doc pm an cdv ct), osl⟩)
    (c : PySem.W.codeIn K cdv qual = true) (k : PySem.W.keepIn K (.ref f) = true) : L2.FunD K x qual (defArgs st) (defBody st) (defScope st) [] [] f (PySem.W.fnOf x qual (defArgs st) (defBody st) (defScope st) .none kV doc pm an cdv ct) :=
  ⟨⟨oc, od, _, _, doc, pm, an, cdv, ct, osl, rfl, l, c, .inl ⟨rfl, rfl⟩, .inl rfl⟩, k⟩
end
end DL

set_option Elab.async false
set_option linter.all false
set_option maxRecDepth 100000
set_option maxHeartbeats 2000000
/-! DX8: lists that are changed within others: shown, compared, changed no more. -/
namespace DL
open PySem PySem.Spec PyProof.Rows L2
noncomputable section
/-- what a value is now, cells read to a depth -/
def deepD (S : Sto) : Nat → D → D
  | 0, d => d
  | n + 1, d => match d with
    | .cell m => (match S[m]? with
      | some (some (.lst xs)) => .lst (xs.map (deepD S n))
      | _ => .cell m)
    | .tup xs => .tup (xs.map (deepD S n))
    | .lst xs => .lst (xs.map (deepD S n))
    | .ro xs => .ro (xs.map (deepD S n))
    | d => d
mutual
theorem deep_pr {S : Sto} : ∀ {d : D} {n k : Nat}, d.pr k = true → deepD S n d = d
  | d, 0, _, _ => rfl
  | .non, n + 1, _, _ => rfl
  | .bl b, n + 1, _, _ => rfl
  | .int i, n + 1, _, _ => rfl
  | .str s, n + 1, _, _ => rfl
  | .dE, n + 1, _, _ => rfl
  | .tup xs, n + 1, k, h => by
    simp only [D.pr, Bool.and_eq_true] at h
    show D.tup (xs.map (deepD S n)) = .tup xs
    rw [deep_prL h.2]
  | .lst xs, n + 1, k, h => by
    simp only [D.pr, Bool.and_eq_true] at h
    show D.lst (xs.map (deepD S n)) = .lst xs
    rw [deep_prL h.2]
  | .ro xs, n + 1, k, h => by
    simp only [D.pr, Bool.and_eq_true] at h
    show D.ro (xs.map (deepD S n)) = .ro xs
    rw [deep_prL h.2]
  | .cell m, n + 1, k, h => by simp [D.pr] at h
  | .ty _, n + 1, k, h => by simp [D.pr] at h
  | .err _ _ _, n + 1, k, h => by simp [D.pr] at h
  | .cls _, n + 1, k, h => by simp [D.pr] at h
theorem deep_prL {S : Sto} : ∀ {xs : List D} {n k : Nat}, D.prL k xs = true → xs.map (deepD S n) = xs
  | [], _, _, _ => rfl
  | x :: xs, n, k, h => by
    simp only [D.prL, Bool.and_eq_true] at h
    rw [List.map_cons, deep_pr h.1, deep_prL h.2]
end
section
variable {K : PySem.W.Frag} {hd : Hid} {as : List Addr} {S : Sto} {H : Hp}
theorem Rep.drDeep (w : Wld K hd as S H) : ∀ {n : Nat} {d : D} {v : V} {k : Nat}, Rep K as (fz hd as S H) v d → (deepD S n d).pr k = true → Dr K H v (deepD S n d).py
  | 0, d, v, k, r, p => Rep.dr fz_same p r
  | n + 1, d, v, k, r, p => by
    have all : ∀ {xs : List D} {vs : List V} {k : Nat}, RepL K as (fz hd as S H) vs xs → D.prL k (xs.map (deepD S n)) = true → DrL K H vs (D.pyL (xs.map (deepD S n))) := by
      intro xs
      induction xs with
      | nil => intro vs k h _; cases h; exact .nil
      | cons x xs ih =>
        intro vs k h p
        simp only [List.map_cons, D.prL, Bool.and_eq_true] at p
        cases h with
        | cons q r => exact .cons (Rep.drDeep w q p.1) (ih r p.2)
    cases r with
    | cell q =>
      rename_i m a
      unfold deepD at p ⊢
      cases e : S[m]? with
      | none => simp [e, D.pr] at p
      | some z =>
        cases z with
        | none => simp [e, D.pr] at p
        | some c =>
          cases c with
          | ins _ _ => simp [e, D.pr] at p
          | dK _ => simp [e, D.pr] at p
          | lst xs =>
            simp only [e, D.pr, Bool.and_eq_true] at p ⊢
            obtain ⟨b, vs, e1, e2, r⟩ := w.at_ m xs e
            rw [q] at e1; cases e1
            simp only [D.py]
            exact .lst (.inl (.inl e2)) (all r p.2)
    | tup q r =>
      have p : (D.tup (_ : List D)).pr k = true := p
      simp only [D.pr, Bool.and_eq_true] at p
      show Dr K H _ (D.tup (_ : List D)).py
      simp only [D.py]
      exact .tup (same_t fz_same q) (all r p.2)
    | lst q r =>
      have p : (D.lst (_ : List D)).pr k = true := p
      simp only [D.pr, Bool.and_eq_true] at p
      show Dr K H _ (D.lst (_ : List D)).py
      simp only [D.py]
      exact .lst (.inl (.inl (fz_same _ _ q))) (all r p.2)
    | ro q r =>
      have p : (D.ro (_ : List D)).pr k = true := p
      simp only [D.pr, Bool.and_eq_true] at p
      show Dr K H _ (D.ro (_ : List D)).py
      simp only [D.py]
      exact .lst (same_l fz_same q) (all r p.2)
    | non => exact Rep.dr (k := k) (K := K) (as := as) (F := fz hd as S H) fz_same p .non
    | bl b => exact Rep.dr (k := k) (K := K) (as := as) (F := fz hd as S H) fz_same p (.bl b)
    | int i => exact Rep.dr (k := k) (K := K) (as := as) (F := fz hd as S H) fz_same p (.int i)
    | str s => exact Rep.dr (k := k) (K := K) (as := as) (F := fz hd as S H) fz_same p (.str s)
    | dE q => exact Rep.dr (k := k) (K := K) (as := as) (F := fz hd as S H) fz_same p (.dE q)
    | ty x => simp [deepD, D.pr] at p
    | err => simp [deepD, D.pr] at p
    | cls => simp [deepD, D.pr] at p
theorem Rep.dpDeep (w : Wld K hd as S H) : ∀ {n : Nat} {d : D} {v : V} {k : Nat}, Rep K as (fz hd as S H) v d → (deepD S n d).pl k = true → Dp K H v (deepD S n d).py
  | 0, d, v, k, r, p => dp_mono fz_same (Rep.dp p r)
  | n + 1, d, v, k, r, p => by
    have all : ∀ {xs : List D} {vs : List V} {k : Nat}, RepL K as (fz hd as S H) vs xs → D.plL k (xs.map (deepD S n)) = true → DpAll K H vs (D.pyL (xs.map (deepD S n))) := by
      intro xs
      induction xs with
      | nil => intro vs k h _; cases h; exact .nil
      | cons x xs ih =>
        intro vs k h p
        simp only [List.map_cons, D.plL, Bool.and_eq_true] at p
        cases h with
        | cons q r => exact .cons (Rep.dpDeep w q p.1) (ih r p.2)
    cases r with
    | cell q =>
      rename_i m a
      unfold deepD at p ⊢
      cases e : S[m]? with
      | none => simp [e, D.pl] at p
      | some z =>
        cases z with
        | none => simp [e, D.pl] at p
        | some c =>
          cases c with
          | ins _ _ => simp [e, D.pl] at p
          | dK _ => simp [e, D.pl] at p
          | lst xs =>
            simp only [e, D.pl, Bool.and_eq_true] at p ⊢
            obtain ⟨b, vs, e1, e2, r⟩ := w.at_ m xs e
            rw [q] at e1; cases e1
            simp only [D.py]
            exact .lst (.inl (.inl e2)) (all r p.2)
    | tup q r =>
      have p : (D.tup (_ : List D)).pl k = true := p
      simp only [D.pl, Bool.and_eq_true] at p
      show Dp K H _ (D.tup (_ : List D)).py
      simp only [D.py]
      exact .tup (same_t fz_same q) (all r p.2)
    | lst q r =>
      have p : (D.lst (_ : List D)).pl k = true := p
      simp only [D.pl, Bool.and_eq_true] at p
      show Dp K H _ (D.lst (_ : List D)).py
      simp only [D.py]
      exact .lst (.inl (.inl (fz_same _ _ q))) (all r p.2)
    | ro q r =>
      have p : (D.ro (_ : List D)).pl k = true := p
      simp only [D.pl, Bool.and_eq_true] at p
      show Dp K H _ (D.ro (_ : List D)).py
      simp only [D.py]
      exact .lst (same_l fz_same q) (all r p.2)
    | non => exact dp_mono (F := fz hd as S H) fz_same (Rep.dp (k := k) (as := as) p .non)
    | bl b => exact dp_mono (F := fz hd as S H) fz_same (Rep.dp (k := k) (as := as) p (.bl b))
    | int i => exact dp_mono (F := fz hd as S H) fz_same (Rep.dp (k := k) (as := as) p (.int i))
    | str s => exact dp_mono (F := fz hd as S H) fz_same (Rep.dp (k := k) (as := as) p (.str s))
    | dE q => simp [deepD, D.pl] at p
    | ty x => simp [deepD, D.pl] at p
    | err => simp [deepD, D.pl] at p
    | cls => simp [deepD, D.pl] at p
end
/-! ### repr, == and != of such -/
def fReprD : List D → M D
  | [d] => fun S => if (deepD S 12 d).pr 60 && (deepD S 12 d).shows then .ok (.str (deepD S 12 d).shown) S else .stuck
  | _ => fun _ => .stuck
theorem act_reprD {K : PySem.W.Frag} : ActL K (rRepr K) fReprD := by
  intro hd as S H vs ds w r
  match ds, r with
  | [], _ => trivial
  | [d], r =>
    simp only [fReprD]
    split
    · rename_i h
      obtain ⟨v, rfl, a⟩ := rep1 r
      simp only [Bool.and_eq_true, D.shows, decide_eq_true_eq] at h
      have h2 := D.pr_depth h.1
      exact .now w (.str _) fun Q q => ⟨v, _, rfl, a.drDeep w h.1, h.2.1, by omega, h.2.2, q⟩
    · trivial
  | _ :: _ :: _, _ => trivial
def oEqDp (d e : D) : M D := fun S => match eqD d e (deepD S 12 d) (deepD S 12 e) with
  | some b => .ok (.bl b) S
  | none => .stuck
def oNeDp (d e : D) : M D := fun S => match eqD d e (deepD S 12 d) (deepD S 12 e) with
  | some b => .ok (.bl (!b)) S
  | none => .stuck
theorem act_eqDp {K : PySem.W.Frag} : Act2 K (rEqA K) oEqDp := by
  intro hd as S H v u d e w r1 r2
  unfold oEqDp
  cases eb : eqD d e (deepD S 12 d) (deepD S 12 e) with
  | none => trivial
  | some b =>
    dsimp only
    rcases eqD_cases eb with ⟨x, y, rfl, rfl, rfl⟩ | ⟨h1, h2, rfl⟩
    · cases r1; cases r2
      refine .now w (.bl _) fun Q q => .inl ⟨rfl, ?_⟩
      have : decide (V.str x = V.str y) = decide (x = y) := by simp
      rw [this]; exact q
    · exact .now w (.bl _) fun Q q => .inr ⟨_, _, r1.dpDeep w h1, r2.dpDeep w h2, D.pl_shaped h1, D.pl_shaped h2, q⟩
theorem act_neDp {K : PySem.W.Frag} : Act2 K (rNeA K) oNeDp := by
  intro hd as S H v u d e w r1 r2
  unfold oNeDp
  cases eb : eqD d e (deepD S 12 d) (deepD S 12 e) with
  | none => trivial
  | some b =>
    dsimp only
    rcases eqD_cases eb with ⟨x, y, rfl, rfl, rfl⟩ | ⟨h1, h2, rfl⟩
    · cases r1; cases r2
      refine .now w (.bl _) fun Q q => .inl ⟨rfl, ?_⟩
      have : decide (V.str x = V.str y) = decide (x = y) := by simp
      rw [this]; exact q
    · exact .now w (.bl _) fun Q q => .inr ⟨_, _, r1.dpDeep w h1, r2.dpDeep w h2, D.pl_shaped h1, D.pl_shaped h2, q⟩
/-! ### changed no more, to a depth -/
def frzM (f : D → Sto → Option (D × Sto)) : List D → Sto → Option (List D × Sto)
  | [], S => some ([], S)
  | x :: xs, S => (f x S).bind fun p => (frzM f xs p.2).map fun q => (p.1 :: q.1, q.2)
def frzN : Nat → D → Sto → Option (D × Sto)
  | 0, d, S => some (d, S)
  | n + 1, d, S => match d with
    | .cell m => (match S[m]? with
      | some (some (.lst xs)) => (frzM (frzN n) xs (S.set m none)).map fun p => (.lst p.1, p.2)
      | _ => none)
    | .tup xs => (frzM (frzN n) xs S).map fun p => (.tup p.1, p.2)
    | .lst xs => (frzM (frzN n) xs S).map fun p => (.lst p.1, p.2)
    | d => some (d, S)
def mFrzDp (d : D) : M D := fun S => match frzN 12 d S with
  | some (e, S') => .ok e S'
  | none => .stuck
section
variable {K : PySem.W.Frag} {hd : Hid} {as : List Addr}
def FrzOk (K : PySem.W.Frag) (hd : Hid) (as : List Addr) (f : D → Sto → Option (D × Sto)) : Prop := ∀ {d e : D} {S S' : Sto} {H : Hp} {v : V}, Wld K hd as S H → Rep K as (fz hd as S H) v d → f d S = some (e, S') → Wld K hd as S' H ∧ Grow hd as S H as S' H ∧ Rep K as (fz hd as S' H) v e
theorem frzM_ok {f : D → Sto → Option (D × Sto)} (one : FrzOk K hd as f) : ∀ {xs ys : List D} {S S' : Sto} {H : Hp} {vs : List V}, Wld K hd as S H → RepL K as (fz hd as S H) vs xs → frzM f xs S = some (ys, S') → Wld K hd as S' H ∧ Grow hd as S H as S' H ∧ RepL K as (fz hd as S' H) vs ys
  | [], ys, S, S', H, vs, w, r, h => by
    simp only [frzM, Option.some.injEq, Prod.mk.injEq] at h
    obtain ⟨rfl, rfl⟩ := h
    cases r
    exact ⟨w, .refl, .nil⟩
  | x :: xs, ys, S, S', H, vs, w, r, h => by
    cases r with
    | cons rx rr =>
      simp only [frzM] at h
      obtain ⟨⟨y, S1⟩, e1, h⟩ := Option.bind_eq_some_iff.mp h
      obtain ⟨⟨zs, S2⟩, e2, h⟩ := Option.map_eq_some_iff.mp h
      cases h
      obtain ⟨w1, g1, r1⟩ := one w rx e1
      obtain ⟨w2, g2, r2⟩ := frzM_ok one w1 (rr.grow g1) e2
      exact ⟨w2, g1.trans g2, .cons (r1.grow g2) r2⟩
theorem frzN_ok : ∀ (n : Nat), FrzOk K hd as (frzN n)
  | 0, d, e, S, S', H, v, w, r, h => by
    simp only [frzN, Option.some.injEq, Prod.mk.injEq] at h
    obtain ⟨rfl, rfl⟩ := h
    exact ⟨w, .refl, r⟩
  | n + 1, d, e, S, S', H, v, w, r, h => by
    have same : some (d, S) = some (e, S') → Wld K hd as S' H ∧ Grow hd as S H as S' H ∧ Rep K as (fz hd as S' H) v e := fun h => by
      cases h; exact ⟨w, .refl, r⟩
    cases r with
    | cell q =>
      rename_i m a
      unfold frzN at h
      cases em : S[m]? with
      | none => simp [em] at h
      | some z =>
        cases z with
        | none => simp [em] at h
        | some c =>
          cases c with
          | ins _ _ => simp [em] at h
          | dK _ => simp [em] at h
          | lst xs =>
            simp only [em] at h
            obtain ⟨⟨ys, S2⟩, e2, h⟩ := Option.map_eq_some_iff.mp h
            cases h
            obtain ⟨w1, g1, r1⟩ := w.freeze em q
            cases r1 with
            | lst f1 rl =>
              obtain ⟨w2, g2, r2⟩ := frzM_ok (frzN_ok n) w1 rl e2
              exact ⟨w2, g1.trans g2, .lst (g2.same _ _ f1) r2⟩
    | tup q rl =>
      have h : (frzM (frzN n) _ S).map _ = _ := h
      obtain ⟨⟨ys, S2⟩, e2, h⟩ := Option.map_eq_some_iff.mp h
      cases h
      obtain ⟨w2, g2, r2⟩ := frzM_ok (frzN_ok n) w rl e2
      exact ⟨w2, g2, .tup (same_t g2.same q) r2⟩
    | lst q rl =>
      have h : (frzM (frzN n) _ S).map _ = _ := h
      obtain ⟨⟨ys, S2⟩, e2, h⟩ := Option.map_eq_some_iff.mp h
      cases h
      obtain ⟨w2, g2, r2⟩ := frzM_ok (frzN_ok n) w rl e2
      exact ⟨w2, g2, .lst (g2.same _ _ q) r2⟩
    | non => exact same h
    | bl _ => exact same h
    | int _ => exact same h
    | str _ => exact same h
    | ty _ => exact same h
    | ro _ _ => exact same h
    | dE _ => exact same h
    | err _ _ _ _ => exact same h
    | cls _ => exact same h
theorem de_frzDp {X : Cx} {W : WX} {e : Expr} {me : EM} (h : DE X W e me) : DE X W e (e1 mFrzDp me) := PE.le h fun σ H Q ⟨hd, as, ρ, S, rel, po⟩ => tE_seq rel po fun as1 S1 H1 v1 d1 g1 rel1 r1 po1 => by
  unfold mFrzDp at po1
  cases ef : frzN 12 d1 S1 with
  | none => rw [ef] at po1; exact po1.elim
  | some p =>
    obtain ⟨d2, S2⟩ := p
    rw [ef] at po1
    obtain ⟨w2, g2, r2⟩ := frzN_ok 12 rel1.w r1 ef
    exact po1 _ _ g2 (rel1.grow g2 w2) _ r2
end
end
end DL

set_option Elab.async false
set_option linter.all false
set_option maxRecDepth 100000
set_option maxHeartbeats 2000000
/-! DX9: a name's data is changed no more behind a statement, cells within it too. -/
namespace DL
open PySem PySem.Spec PyProof.Rows L2
noncomputable section
def frzSlotD (i : Nat) : RS → RS
  | .ok .nx ρ S => match ρ[i]? with
    | some (some d) => match frzN 12 d S with
      | some (e, S') => .ok .nx (ρ.set i (some e)) S'
      | none => .stuck
    | _ => .stuck
  | r => r
def sThenFrzD (i : Nat) (m : SD) : SD := fun ρ S => frzSlotD i (m ρ S)
/-! ### != with an empty list -/
def rNeZ (K : PySem.W.Frag) : R2 := fun x y H Q => ∃ a b xs, x = .ref a ∧ y = .ref b ∧ SqL K H a xs ∧ SqL K H b [] ∧ Q (.bl (!xs.isEmpty)) H
theorem opr_neZ {X : Cx} (hu : X.A.units + 64 < cLine) : OpR X (compareOp .NotEq) (rNeZ X.K) := by
  intro pins s σ H x y v u Q I rx ry h
  obtain ⟨a, b, xs, rfl, rfl, ha, hb, q⟩ := h
  cases rx; cases ry
  obtain ⟨its, rv, hl, _⟩ := I.list ha
  obtain ⟨its2, rv2, hl2, _⟩ := I.list hb
  have e1 := rv.length
  have e2 := rv2.length
  have hl' : s.heap.IsList a its.toArray := let ⟨o, n, ho, hc, _, hd⟩ := hl; ⟨o, ho, hc, n, hd⟩
  have hl2' : s.heap.IsList b its2.toArray := let ⟨o, n, ho, hc, _, hd⟩ := hl2; ⟨o, ho, hc, n, hd⟩
  cases xs with
  | nil =>
    simp only [List.length_nil] at e1 e2
    have z1 := List.eq_nil_of_length_eq_zero (by omega : its.length = 0)
    have z2 := List.eq_nil_of_length_eq_zero (by omega : its2.length = 0)
    subst z1 z2
    exact SeqAt.RcNeAt.lists (e := fun _ => true) hl' hl2' rfl (by omega) (fun j h1 h2 => absurd h1 (by simp)) _ _ _ _ ⟨.bl _, H, I, rfl, q⟩
  | cons z zs =>
    simp only [List.length_nil, List.length_cons] at e1 e2
    exact SeqAt.RcNeAt.lists_lengths hl' hl2' (by simp; omega) (by omega) _ _ _ _ ⟨.bl _, H, I, rfl, q⟩
def oNeZ : D → D → M D
  | d, .lst [] => fun S => match listOf S d with
    | some xs => .ok (.bl (!xs.isEmpty)) S
    | none => .stuck
  | _, _ => fun _ => .stuck
theorem act_neZ {K : PySem.W.Frag} : Act2 K (rNeZ K) oNeZ := by
  intro hd as S H v u d e w r1 r2
  unfold oNeZ
  split
  · cases e1 : listOf S d with
    | none => trivial
    | some xs =>
      obtain ⟨a, vs, rfl, q, rr⟩ := seqL w r1 e1
      have rz := r2
      obtain ⟨b, us, rfl, q2, rr2⟩ := seqL w r2 (show listOf S (.lst []) = some [] from rfl)
      cases rr2
      have e3 : xs.isEmpty = vs.isEmpty := by cases rr <;> rfl
      dsimp only
      exact .now w (.bl _) fun Q q3 => ⟨a, b, vs, rfl, rfl, q, q2, by rw [← e3]; exact q3⟩
  · trivial
/-! ### t + u for tuples of any length -/
def oAddU : D → D → M D
  | .tup xs, .tup ys => fun S => if xs.length + ys.length ≤ sizeLine then .ok (.tup (xs ++ ys)) S else .stuck
  | d, e => oAdd d e
def rAddU (K : PySem.W.Frag) : R2 := fun x y H Q => rAddA K x y H Q ∨ rCatA K x y H Q
theorem opr_addU {X : Cx} : OpR X (binaryOp .Add) (rAddU X.K) := opr_add.or op_catA
theorem act_addU {K : PySem.W.Frag} : Act2 K (rAddU K) oAddU := by
  intro hd as S H v u d e w r1 r2
  have old : Ret K hd as S H (oAdd d e S) (rAddU K v u H) := (act_add hd as S H v u d e w r1 r2).map fun Q q => .inl q
  cases r1 with
  | tup q r =>
    cases r2 with
    | tup q' r' =>
      rename_i xs a vs ys b us
      simp only [oAddU]
      split
      · rename_i hz
        cases r with
        | nil =>
          rw [List.nil_append]
          refine .now w (.tup q' r') fun Q z => .inr ⟨_, _, [], _, rfl, rfl, same_t fz_same q, same_t fz_same q', by rw [← r'.length] at hz; simpa using hz, fun _ => z, fun h => absurd rfl h, fun h => absurd rfl h⟩
        | cons r0 rr =>
          cases r' with
          | nil =>
            rw [List.append_nil]
            refine .now w (.tup q (.cons r0 rr)) fun Q z => .inr ⟨_, _, _, [], rfl, rfl, same_t fz_same q, same_t fz_same q', by rw [(RepL.cons r0 rr).length]; simpa using hz, fun h => absurd h (by simp), fun _ _ => z, fun _ h => absurd rfl h⟩
          | cons r0' rr' =>
            refine .fresh w (fun p ep g => .tup (.inl (.inl ep)) (((RepL.cons r0 rr).append (RepL.cons r0' rr')).grow g)) fun Q z => .inr ⟨_, _, _, _, rfl, rfl, same_t fz_same q, same_t fz_same q', by rw [(RepL.cons r0 rr).length, (RepL.cons r0' rr').length]; exact hz, fun h => absurd h (by simp), fun _ h => absurd h (by simp), fun _ _ => z⟩
      · trivial
    | _ => exact old
  | _ => cases r2 <;> exact old
end
end DL

set_option Elab.async false
set_option linter.all false
set_option maxRecDepth 100000
set_option maxHeartbeats 2000000
/-! DY1: an int times a list. -/
namespace DL
open PySem PySem.Spec PyProof.Rows L2
noncomputable section
def rRepR : R2 := fun x y H Q => ∃ l k xs, y = .ref l ∧ x = .int k ∧ H l = some (.lst xs) ∧ -(2 ^ 63) ≤ k ∧ k < 2 ^ 63 ∧ xs.length * k.toNat ≤ sizeLine ∧
  ∀ p, H p = none → Q (.ref p) (upd H p (.lst (List.replicate k.toNat xs).flatten))
def oMulR : D → D → M D
  | .int k, d => fun S => match listOw S d with
    | some xs => if -(2 ^ 63) ≤ k ∧ k < 2 ^ 63 ∧ xs.length * k.toNat ≤ sizeLine then .ok (.lst (List.replicate k.toNat xs).flatten) S else .stuck
    | none => .stuck
  | _, _ => fun _ => .stuck
end
end DL

set_option Elab.async false
set_option linter.all false
set_option maxRecDepth 100000
set_option maxHeartbeats 2000000
/-! DY2: o[i], x = a list of two. -/
namespace DL
open PySem PySem.Spec PyProof.Rows L2
noncomputable section
def sAsgSN (mo mi : EM) (k : Nat) (m : EM) : SD := fun ρ S => (m ρ S).to ρ fun d S1 => match listOf S1 d with
  | some [x, y] => (mo ρ S1).to ρ fun o S2 => (mi ρ S2).to ρ fun i S3 => match setD o i x S3 with
    | some S4 => .ok .nx (ρ.set k (some y)) S4
    | none => .stuck
  | _ => .stuck
section
variable {X : Cx} {W : WX} {e o i : Expr} {me mo mi : EM} {pos tpos p2 p3 : Pos} {kk : Nat} {x : Str}
end
end
end DL

set_option Elab.async false
set_option linter.all false
set_option maxRecDepth 100000
set_option maxHeartbeats 4000000
/-! DY3: sorted(set(xs)) of a list of ints. -/
namespace DL
open PySem PySem.Spec PyProof.Rows L2
noncomputable section
section
variable {P : Program} {w : World} {A : Around} {E : Value → Shared → Prop} {s : Shared}
end

/-- put into a rising list -/
def insS (x : Int) : List Int → List Int
  | [] => [x]
  | y :: ys => if x < y then x :: y :: ys else if x = y then y :: ys else y :: insS x ys
def sortSet (ns : List Int) : List Int := ns.foldr insS []
def rSS (K : PySem.W.Frag) : V → Hp → VK → Prop := fun x H1 Q => ∃ (l : Addr) (ns : List Int), x = .ref l ∧ SqL K H1 l (ns.map V.int) ∧ ns.length < 64 ∧ ∀ p : Addr, H1 p = none → Q (.ref p) (upd H1 p (.lst ((sortSet ns).map V.int)))
def tSS (K : PySem.W.Frag) (ta : TE) : TE := fun σ H Q => ta σ H fun x H1 => rSS K x H1 Q
def mSortSet (d : D) : M D := fun S => match (listOf S d).bind intsOf with
  | some ns => if ns.length < 64 then .ok (.lst ((sortSet ns).map .int)) S else .stuck
  | none => .stuck
def mIndexI : D → List D → M D
  | d, [.int b] => fun S => match (listOf S d).bind intsOf with
    | some ys => (match ys.findIdx? (· == b) with
      | some j => .ok (.int (j : Nat)) S
      | none => .stuck)
    | none => .stuck
  | _, _ => fun _ => .stuck
end
end DL

set_option Elab.async false
set_option linter.all false
set_option maxRecDepth 100000
set_option maxHeartbeats 2000000
/-! DY4: for x, (y, *others) in ... -/
namespace DL
open PySem PySem.Spec PyProof.Rows L2
noncomputable section
def asgSt (i0 i1 i2 : Nat) (d : D) (ρ : Env) (S : Sto) : Option Env := match d with
  | .tup [x, y] => match listOf S y with
    | some (p :: fs) => if fs.length < 16000 then some (((ρ.set i0 (some x)).set i1 (some p)).set i2 (some (.lst fs))) else none
    | _ => none
  | _ => none
def forLoopSt (nx : Nat → Sto → Option (Option D)) (i0 i1 i2 : Nat) (b : SD) : Nat → Nat → SD
  | 0, _, _, _ => .stuck
  | n + 1, i, ρ, S => match nx i S with
    | none => .stuck
    | some none => .ok .nx ρ S
    | some (some d) => match asgSt i0 i1 i2 d ρ S with
      | none => .stuck
      | some ρ' => match b ρ' S with
        | .ok .nx ρ2 S2 => forLoopSt nx i0 i1 i2 b n (i + 1) ρ2 S2
        | .ok .cnt ρ2 S2 => forLoopSt nx i0 i1 i2 b n (i + 1) ρ2 S2
        | .ok .brk ρ2 S2 => .ok .nx ρ2 S2
        | r => r
def sForSt (im : IM) (i0 i1 i2 : Nat) (b : SD) : SD := fun ρ S => (im ρ S).to ρ fun it S' => forLoopSt it.nx i0 i1 i2 b it.fu 0 ρ S'
def gSt3 (K : PySem.W.Frag) (i0 i1 i2 : Nat) : TG := gTup K 2 (gCons (gName i0) (gCons (gStar K i1 i2) gNil))
section
variable {X : Cx} {W : WX} {tg iter : Expr} {body : List Stmt} {im : IM} {ms : SD} {pos tpos p0 p1 p2 sp : Pos} {x y z : Str} {i0 i1 i2 k k2 : Nat}
end
end
end DL

set_option Elab.async false
set_option linter.all false
set_option maxRecDepth 100000
/-! DZ1: a def that is called by another name of it (y = x at the module's top, x bound anew later). -/
namespace DL
open PySem PySem.Spec PyProof.Rows L2
noncomputable section
structure DefAtA (K : PySem.W.Frag) (mg : Str → Option Value) (y x : Str) (st : Stmt) (ps : List Str) : Prop where
  ex : ∃ f fd, Fun K x x st f fd ∧ mg y = some (.ref f) ∧ Binds K fd ps []
structure HasA (P : Program) (w : World) (K : PySem.W.Frag) (mg : Str → Option Value) (base : Heap) (k : Nat) (y x : Str) (st : Stmt) (ps : List Str) (m : FM) : Prop where
  ex : ∃ f fd, FnG P w K mg base k f fd ps m ∧ mg y = some (.ref f) ∧ Fun K x x st f fd ∧ Binds K fd ps []
section
variable {X : Cx} {W : WX} {j k n : Nat} {ps ks : List Str} {m : FM} {y x : Str} {st : Stmt} {p pos : Pos} {e : Expr} {es : List Expr} {kws : List Keyword} {mr mk : AM} {ix : List Nat}
end
end
end DL

set_option Elab.async false
set_option linter.all false
set_option maxRecDepth 100000
/-! DZ2: lists that are changed, lent as data to an expression that tells something flat and leaves no trace. -/
namespace DL
open PySem PySem.Spec PyProof.Rows L2
noncomputable section
def D.flat : D → Bool
  | .non | .bl _ | .int _ | .str _ => true
  | _ => false
def offS (S : Sto) : Sto := S.map fun _ => none
def asD (S : Sto) (ρ : Env) : Env := ρ.map (Option.map (deepD S 12))
open Classical in
/-- every list that is changed is data meanwhile -/
def eBor (m : EM) : EM := fun ρ S => match m (asD S ρ) (offS S) with
  | .ok d S' => if D.flat d = true ∧ S' = offS S then .ok d S else .stuck
  | _ => .stuck
/-- what is no list is hidden meanwhile -/
def hidL (as : List Addr) (S : Sto) (H : Hp) : Hid := (List.range S.length).filterMap fun n => match S[n]? with
  | some (some (.lst _)) => none
  | some (some _) => match as[n]? with
    | some a => (H a).map fun o => (a, o)
    | none => none
  | _ => none
theorem mem_hidL {as : List Addr} {S : Sto} {H : Hp} {p : Addr × HO} (h : p ∈ hidL as S H) : ∃ (n : Nat) (c : CO), S[n]? = some (some c) ∧ (∀ xs : List D, c ≠ CO.lst xs) ∧ as[n]? = some p.1 ∧ H p.1 = some p.2 := by
  unfold hidL at h
  rw [List.mem_filterMap] at h
  obtain ⟨n, _, e⟩ := h
  split at e
  · cases e
  · rename_i c hc e1
    split at e
    · rename_i a ha
      cases eo : H a with
      | none => rw [eo] at e; cases e
      | some o =>
        rw [eo] at e
        cases e
        exact ⟨n, c, e1, fun xs z => hc xs z, ha, eo⟩
    · cases e
  · cases e
section
variable {K : PySem.W.Frag} {hd : Hid} {as : List Addr} {S : Sto} {H : Hp}
theorem off_get {n : Nat} {c : CO} : (offS S)[n]? ≠ some (some c) := by
  unfold offS
  rw [List.getElem?_map]
  cases S[n]? <;> simp
theorem live_off {a : Addr} : a ∉ live as (offS S) := fun z => by
  obtain ⟨n, c, _, e⟩ := mem_live.mp z
  exact off_get e
theorem wld_off (w : Wld K hd as S H) : Wld K (hd ++ hidL as S H) as (offS S) H :=
  ⟨by rw [w.len]; simp [offS], fun i j a c c' _ _ h _ => (off_get h).elim, fun p hp => by
    rcases List.mem_append.mp hp with h | h
    · exact ⟨(w.hid p h).1, live_off⟩
    · obtain ⟨n, c, _, _, _, e⟩ := mem_hidL h
      exact ⟨e, live_off⟩, fun n c h => (off_get h).elim⟩
theorem same_off : Same (fz hd as S H) (fz (hd ++ hidL as S H) as (offS S) H) := fun b o e => by
  refine fz_of (fz_same _ _ e) live_off fun z => ?_
  rw [List.map_append] at z
  rcases List.mem_append.mp z with z | z
  · exact fz_nh e z
  · obtain ⟨p, hp, rfl⟩ := List.mem_map.mp z
    obtain ⟨n, c, e1, _, e2, _⟩ := mem_hidL hp
    exact fz_not e (mem_live.mpr ⟨n, c, e2, e1⟩)
/-- a list's place, meanwhile -/
theorem at_off (w : Wld K hd as S H) {n : Nat} {a : Addr} {xs : List D} {vs : List V} (e : S[n]? = some (some (.lst xs))) (ha : as[n]? = some a) (hv : H a = some (.lst vs)) : fz (hd ++ hidL as S H) as (offS S) H a = some (.lst vs) := by
  refine fz_of hv live_off fun z => ?_
  rw [List.map_append] at z
  rcases List.mem_append.mp z with z | z
  · obtain ⟨p, hp, rfl⟩ := List.mem_map.mp z
    exact (w.hid p hp).2 (mem_live.mpr ⟨n, _, ha, e⟩)
  · obtain ⟨p, hp, rfl⟩ := List.mem_map.mp z
    obtain ⟨m, c, e1, hc, e2, _⟩ := mem_hidL hp
    have := w.inj n m _ _ _ ha e2 e e1
    subst this
    rw [e] at e1
    cases e1
    exact hc xs rfl
theorem rep_off (w : Wld K hd as S H) : ∀ (n : Nat) {d : D} {v : V}, Rep K as (fz hd as S H) v d → Rep K as (fz (hd ++ hidL as S H) as (offS S) H) v (deepD S n d)
  | 0, d, v, r => r.mono (fun _ _ h => h) same_off
  | n + 1, d, v, r => by
    have all : ∀ {xs : List D} {vs : List V}, RepL K as (fz hd as S H) vs xs → RepL K as (fz (hd ++ hidL as S H) as (offS S) H) vs (xs.map (deepD S n)) := by
      intro xs
      induction xs with
      | nil => intro vs h; cases h; exact .nil
      | cons x xs ih =>
        intro vs h
        cases h with
        | cons q r => exact .cons (rep_off w n q) (ih r)
    cases r with
    | cell q =>
      rename_i m a
      show Rep K as _ (.ref a) (match S[m]? with
        | some (some (.lst xs)) => .lst (xs.map (deepD S n))
        | _ => .cell m)
      split
      · rename_i xs e
        obtain ⟨b, vs, e1, e2, r⟩ := w.at_ m xs e
        rw [q] at e1; cases e1
        exact .lst (at_off w e q e2) (all r)
      · exact .cell q
    | tup q r => exact .tup (same_t same_off q) (all r)
    | lst q r => exact .lst (same_off _ _ q) (all r)
    | ro q r => exact .ro (same_l same_off q) (all r)
    | non => exact .non
    | bl b => exact .bl b
    | int i => exact .int i
    | str s => exact .str s
    | dE q => exact .dE (same_rd same_off q)
    | ty x => exact .ty x
    | err q1 q2 q3 r => exact Rep.mono (fun _ _ h => h) same_off (.err q1 q2 q3 r)
    | cls q => exact .cls q
theorem rep_flat {as' : List Addr} {F F' : Hp} {v : V} {d : D} (h : D.flat d = true) (r : Rep K as F v d) : Rep K as' F' v d := by
  cases r with
  | non => exact .non
  | bl b => exact .bl b
  | int i => exact .int i
  | str s => exact .str s
  | _ => cases h
end
theorem de_bor {X : Cx} {W : WX} {e : Expr} {m : EM} (h : DE X W e m) : DE X W e (eBor m) := PE.le h fun σ H Q ⟨hd, as, ρ, S, rel, po⟩ => by
  have w := rel.w
  refine ⟨hd ++ hidL as S H, as, asD S ρ, offS S, ⟨wld_off w, ⟨by rw [rel.s.len]; simp [asD], fun i d ei => ?_⟩⟩, ?_⟩
  · unfold asD at ei
    rw [List.getElem?_map] at ei
    cases e1 : ρ[i]? with
    | none => rw [e1] at ei; cases ei
    | some o =>
      cases o with
      | none => rw [e1] at ei; cases ei
      | some d0 =>
        rw [e1] at ei
        cases ei
        obtain ⟨v, ev, r⟩ := rel.s.at_ i d0 e1
        exact ⟨v, ev, rep_off w 12 r⟩
  · unfold eBor at po
    generalize m (asD S ρ) (offS S) = r at po
    match r, po with
    | .exc x S', po => exact po.elim
    | .stuck, po => exact po.elim
    | .ok d S', po =>
      dsimp only at po
      split at po
      · rename_i hh
        obtain ⟨hf, rfl⟩ := hh
        intro as' H' g rel' v rv
        have hl : as'.length = as.length := by rw [rel'.w.len, w.len]; simp [offS]
        have has : as' = as := by
          refine List.ext_getElem? fun i => ?_
          by_cases hi : i < as.length
          · rw [List.getElem?_eq_getElem hi]
            exact g.pre i _ (List.getElem?_eq_getElem hi)
          · rw [List.getElem?_eq_none (by omega), List.getElem?_eq_none (by omega)]
        subst has
        have sm : Same (fz hd as' S H) (fz hd as' S H') := fun b o eb => fz_of (fz_same _ _ (g.same _ _ (same_off _ _ eb))) (fz_not eb) (fz_nh eb)
        have keep : ∀ (n : Nat) c, S[n]? = some (some c) → ∃ a o, as'[n]? = some a ∧ H' a = some o ∧ CRep X.K as' (fz hd as' S H') c o := fun n c en => by
          obtain ⟨a, o, e1, e2, r⟩ := w.atC n c en
          refine ⟨a, o, e1, ?_, r.mono (fun _ _ h => h) sm⟩
          cases c with
          | lst xs =>
            cases o <;> first | exact r.elim | skip
            exact fz_same _ _ (g.same _ _ (at_off w en e1 e2))
          | ins C fs =>
            have hm : (a, o) ∈ hidL as' S H := by
              unfold hidL
              rw [List.mem_filterMap]
              refine ⟨n, List.mem_range.mpr (List.getElem?_eq_some_iff.mp en).1, ?_⟩
              simp only [en, e1, e2, Option.map_some]
            exact (rel'.w.hid (a, o) (List.mem_append.mpr (.inr hm))).1
          | dK kvs =>
            have hm : (a, o) ∈ hidL as' S H := by
              unfold hidL
              rw [List.mem_filterMap]
              refine ⟨n, List.mem_range.mpr (List.getElem?_eq_some_iff.mp en).1, ?_⟩
              simp only [en, e1, e2, Option.map_some]
            exact (rel'.w.hid (a, o) (List.mem_append.mpr (.inr hm))).1
        have w' : Wld X.K hd as' S H' := ⟨w.len, w.inj, fun p hp => ⟨(rel'.w.hid p (List.mem_append.mpr (.inl hp))).1, (w.hid p hp).2⟩, keep⟩
        have gr : Grow hd as' S H as' S H' := ⟨fun _ _ h => h, sm⟩
        exact po as' H' gr ⟨w', rel.s.mono (fun _ _ h => h) sm⟩ v (rep_flat hf rv)
      · exact po.elim
end
end DL

set_option Elab.async false
set_option linter.all false
set_option maxRecDepth 100000
set_option maxHeartbeats 2000000
/-! DZ3: several except clauses, each of which keeps the error in a name. -/
namespace DL
open PySem PySem.Spec PyProof.Rows L2
/-- what the clauses wish of an error of the body, one after the other -/
def wKeeps (K : PySem.W.Frag) (Wout : WX) (D : Ends) : List (Value × Nat × TS) → WX
  | [] => Wout
  | (c, i, ts) :: r => wKeep K c i ts (wKeeps K Wout D r) D
inductive HdsK (X : Cx) : List ExceptHandler → List (Value × Nat × TS) → Prop
  | nil : HdsK X [] []
  | cons {x n : Str} {c : Value} {i : Nat} {ts : TS} {b₀ : Stmt} {suite : List Stmt} {np pos' : Pos} {hds : List ExceptHandler} {l : List (Value × Nat × TS)} (hi : X.N[i]? = some n) (hln : X.env.kindOf n = some .local) (hc : Names X x c)
      (hsu : ∀ (a : Addr) (pn : List (Addr × Obj)), PSs (X.suite a pn) (b₀ :: suite) ts) (r : HdsK X hds l) :
      HdsK X (.ExceptHandler (some (.Name x np)) (some n) (b₀ :: suite) pos' :: hds) ((c, i, ts) :: l)
section
variable {X : Cx} {body : List Stmt} {h₀ : ExceptHandler} {hds : List ExceptHandler} {l : List (Value × Nat × TS)} {pos : Pos} {tb : WX → TS} {Wout : WX}
end
/-! ### as data -/
abbrev TryL := List ((Str → Option Bool) × Nat × SD)
def sTries (b : SD) : TryL → SD
  | [] => b
  | (tbl, i, h) :: r => sTries (sTryAs tbl i b h) r
inductive HdsD (X : Cx) : List ExceptHandler → TryL → List (Value × Nat × TS) → Prop
  | nil : HdsD X [] [] []
  | cons {x n : Str} {c : Value} {i : Nat} {tbl : Str → Option Bool} {mh : SD} {b₀ : Stmt} {suite : List Stmt} {np pos' : Pos} {hds : List ExceptHandler} {l : TryL} {l2 : List (Value × Nat × TS)} (hi : X.N[i]? = some n) (hln : X.env.kindOf n = some .local) (hc : Names X x c) (ht : TblX X.K c tbl)
      (hsu : ∀ (a : Addr) (pn : List (Addr × Obj)), DSs (X.suite a pn) WNo (b₀ :: suite) mh) (r : HdsD X hds l l2) :
      HdsD X (.ExceptHandler (some (.Name x np)) (some n) (b₀ :: suite) pos' :: hds) ((tbl, i, mh) :: l) ((c, i, tS X.K X.mg WNo mh) :: l2)
theorem HdsD.keeps {X : Cx} {hds : List ExceptHandler} {l : TryL} {l2 : List (Value × Nat × TS)} (h : HdsD X hds l l2) : HdsK X hds l2 := by
  induction h with
  | nil => exact .nil
  | cons hi hln hc ht hsu r ih => exact .cons hi hln hc hsu ih
theorem HdsD.step {X : Cx} {mg : Str → Option Value} {Wout : WX} (hmg : X.mg = mg) {hds : List ExceptHandler} {l : TryL} {l2 : List (Value × Nat × TS)} (h : HdsD X hds l l2) : ∀ {mb : SD} {D : Ends} {σ : L2.St} {H : Hp},
    tS X.K mg Wout (sTries mb l) D σ H → tS X.K mg (wKeeps X.K Wout D l2) mb D σ H := by
  subst hmg
  induction h with
  | nil => exact fun h => h
  | cons hi hln hc ht hsu r ih => exact fun h => try_step ht (ih h)
end DL

set_option Elab.async false
set_option linter.all false
set_option maxRecDepth 100000
set_option maxHeartbeats 4000000
/-! DZ4: zip(xs, ys, zs, strict=True). Printed by mkdz4.py. -/
namespace DL
open PySem PySem.Spec PyProof.Rows L2
structure Z3Apart (z TI TO i1 i2 i3 l1 l2 l3 : Addr) : Prop where
  TIz : TI ≠ z
  TOz : TO ≠ z
  i1z : i1 ≠ z
  i2z : i2 ≠ z
  i3z : i3 ≠ z
  TITO : TI ≠ TO
  TIi1 : TI ≠ i1
  TIi2 : TI ≠ i2
  TIi3 : TI ≠ i3
  TOi1 : TO ≠ i1
  TOi2 : TO ≠ i2
  TOi3 : TO ≠ i3
  i1i2 : i1 ≠ i2
  i1i3 : i1 ≠ i3
  i2i3 : i2 ≠ i3
  l1z : l1 ≠ z
  l1TO : l1 ≠ TO
  l1i1 : l1 ≠ i1
  l1i2 : l1 ≠ i2
  l1i3 : l1 ≠ i3
  l2z : l2 ≠ z
  l2TO : l2 ≠ TO
  l2i1 : l2 ≠ i1
  l2i2 : l2 ≠ i2
  l2i3 : l2 ≠ i3
  l3z : l3 ≠ z
  l3TO : l3 ≠ TO
  l3i1 : l3 ≠ i1
  l3i2 : l3 ≠ i2
  l3i3 : l3 ≠ i3
abbrev IsTri (h : Heap) (T : Addr) (a b c : Value) : Prop := h.get? T = some { cls := .type "tuple", data := .seq #[a, b, c] }
section
variable {prog : Program} {w : World} {A : Around} {E : Value → Shared → Prop} {s : Shared}
end
/-! ### made -/
abbrev z3H1 (h : Heap) (l1 : Addr) : Heap := h.push { cls := .type "list_iterator", data := .fields #[.ref l1, .int 0 0] }
abbrev z3H2 (h : Heap) (l1 l2 : Addr) : Heap := (z3H1 h l1).push { cls := .type "list_iterator", data := .fields #[.ref l2, .int 0 0] }
abbrev z3H3 (h : Heap) (l1 l2 l3 : Addr) : Heap := (z3H2 h l1 l2).push { cls := .type "list_iterator", data := .fields #[.ref l3, .int 0 0] }
abbrev z3H4 (h : Heap) (l1 l2 l3 : Addr) : Heap := (z3H3 h l1 l2 l3).push { cls := .type "tuple", data := .seq #[.ref h.objs.size, .ref (z3H1 h l1).objs.size, .ref (z3H2 h l1 l2).objs.size] }
abbrev z3H5 (h : Heap) (l1 l2 l3 : Addr) : Heap := (z3H4 h l1 l2 l3).push { cls := .type "tuple", data := .seq #[.none, .none, .none] }
abbrev z3H6 (h : Heap) (l1 l2 l3 : Addr) : Heap := (z3H5 h l1 l2 l3).push { cls := .type "zip", data := .fields #[.none, .bool false, .bool true, .ref (z3H3 h l1 l2 l3).objs.size, .ref (z3H4 h l1 l2 l3).objs.size] }
section
variable {prog : Program} {w : World} {A : Around} {E : Value → Shared → Prop} {s : Shared}
end
/-! ### walked -/
def Itz3 (K : PySem.W.Frag) (a b c : Addr) : It :=
  ⟨fun i H => ∃ (xs ys us : List V) (x y u : V), SqL K H a xs ∧ SqL K H b ys ∧ SqL K H c us ∧ xs[i]? = some x ∧ ys[i]? = some y ∧ us[i]? = some u,
    fun i H v H' => ∃ T x y u, v = .ref T ∧ H T = none ∧ H' = upd H T (.tup [x, y, u]) ∧ (∀ xs, SqL K H a xs → xs[i]? = some x) ∧ (∀ ys, SqL K H b ys → ys[i]? = some y) ∧ ∀ us, SqL K H c us → us[i]? = some u,
    fun i H => ∃ xs ys us : List V, SqL K H a xs ∧ SqL K H b ys ∧ SqL K H c us ∧ xs.length ≤ i ∧ ys.length ≤ i ∧ us.length ≤ i⟩
def iZ3 (K : PySem.W.Frag) (ta tk : TA) : TI := fun σ H R => ta σ H fun vs H1 => tk σ H1 fun ks H2 => ∃ a b c xs ys us, vs = [.ref a, .ref b, .ref c] ∧ ks = [.bl true] ∧ SqL K H2 a xs ∧ SqL K H2 b ys ∧ SqL K H2 c us ∧ R (Itz3 K a b c) H2
/-! ### as data -/
def zip3D : List D → List D → List D → List D
  | x :: xs, y :: ys, z :: zs => .tup [x, y, z] :: zip3D xs ys zs
  | _, _, _ => []
def mItZ3 : List D → M ItD
  | [d, e, f] => fun S => match frozenL d, frozenL e, frozenL f with
    | some xs, some ys, some zs => if xs.length = ys.length ∧ ys.length = zs.length then .ok (itL (zip3D xs ys zs)) S else .stuck
    | _, _, _ => .stuck
  | _ => fun _ => .stuck
def imZ3 (m k : AM) : IM := fun ρ => M.bind (m ρ) fun ds => M.bind (k ρ) fun ks => match ks with
  | [.bl true] => mItZ3 ds
  | _ => fun _ => .stuck
end DL

set_option Elab.async false
set_option linter.all false
set_option maxRecDepth 100000
set_option maxHeartbeats 2000000
/-! DZ5: isinstance(None, a class of the text). -/
namespace DL
open PySem PySem.Spec PyProof.Rows L2
def fIsiN (tn : List Str) (tc : Str → Str → Option Bool) (tt : Str → String → Option Bool) : List D → M D
  | [.non, .cls c] => fun S => if c ∈ tn then .ok (.bl false) S else .stuck
  | ds => fIsiX tc tt ds
def TblN (K : PySem.W.Frag) (tn : List Str) : Prop := ∀ c ∈ tn, ∀ D, ClsK K c (.ref D) → PySem.W.kitOne K (.type "NoneType") (.ref D) = some false
def rIsN (K : PySem.W.Frag) : List V → Hp → VK → Prop := fun xs H Q => ∃ (c : V) (cv : Value), xs = [.non, c] ∧ (∀ u, RelV c u → u = cv) ∧ PySem.W.kitOne K (.type "NoneType") cv = some false ∧ Q (.bl false) H
theorem call_isN {X : Cx} : CallR X (.builtin "isinstance") (rIsN X.K) := by
  intro pins s σ H xs us Q I r h
  obtain ⟨c, cv, rfl, hcv, e, q⟩ := h
  cases r with
  | cons rx rr =>
    cases rr with
    | cons rt rr =>
      cases rr
      cases rx
      have ec := hcv _ rt
      subst ec
      exact PySem.W.kia_one PySem.W.kitx_none I.kIn trivial e (fun z => nomatch z) fun tk => ⟨.bl false, H, I.kept (t' := tk) fun _ _ z => z, rfl, q⟩
end DL

set_option Elab.async false
set_option linter.all false
set_option maxRecDepth 100000
set_option maxHeartbeats 2000000
/-! DZ6: t[::-1] of a tuple. -/
namespace DL
open PySem PySem.Spec PyProof.Rows L2 HT
section
variable {prog : Program} {w : World} {A : Around} {E : Value → Shared → Prop} {s : Shared}
end
def rSlR (K : PySem.W.Frag) : V → Option Int → Option Int → Hp → VK → Prop := fun x lo hi H Q => ∃ a xs, x = .ref a ∧ lo = none ∧ hi = none ∧ SqT K H a xs ∧ ∀ p, H p = none → Q (.ref p) (upd H p (.tup xs.reverse))
section
variable {X : Cx} {W : WX}
end
def oSlR (d : D) (lo hi : Option Int) : M D := match d, lo, hi with
  | .tup xs, none, none => fun S => .ok (.tup xs.reverse) S
  | _, _, _ => fun _ => .stuck
section
variable {X : Cx} {W : WX}
end
end DL

set_option Elab.async false
set_option linter.all false
set_option maxRecDepth 100000
set_option maxHeartbeats 4000000
/-! DZ7: sorted({x for x in xs}), xs a list of ints (after the kit's walk for a set of truth values). -/
namespace DL
open PySem PySem.Spec PyProof.Rows L2
noncomputable section
section
variable {X : Cx}
/-- the set's walk: the set of the ints met -/
def rScI (w : World) (K : PySem.W.Frag) (Q : VK) : It → Hp → Prop := fun J H1 => ∃ (l : Addr) (ns : List Int), J = Itl K l ∧ SqL K H1 l (ns.map V.int) ∧ ns.length + 1 < scanBound ∧
  ∀ D c, H1 D = none → c ≤ ns.length → Q (.ref D) (upd H1 D (SetO w D (fun j => decide (j ∈ ns)) c))
def tScI (w : World) (K : PySem.W.Frag) (te : TE) : TE := fun σ H Q => iList K te σ H (rScI w K Q)
end
/-! ### sorted of it -/
section
variable {X : Cx}
def rSC (w : World) (K : PySem.W.Frag) (Q : VK) : It → Hp → Prop := rScI w K fun v H => ∃ (D : Addr) (ns : List Int) (c : Nat), v = .ref D ∧ H D = some (SetO w D (fun j => decide (j ∈ ns)) c) ∧ c < 64 ∧ ∀ p : Addr, H p = none → Q (.ref p) (upd H p (.lst ((sortSet ns).map V.int)))
def tSC (w : World) (K : PySem.W.Frag) (te : TE) : TE := fun σ H Q => iList K te σ H (rSC w K Q)
end
end
end DL

set_option Elab.async false
set_option linter.all false
set_option maxRecDepth 100000
/-! DZ8: a test to which lists are lent (after DZ2's de_bor). -/
namespace DL
open PySem PySem.Spec PyProof.Rows L2
noncomputable section
end
end DL

set_option Elab.async false
set_option linter.all false
set_option maxRecDepth 100000
set_option maxHeartbeats 2000000
/-! DZ9: xs[i] += e, ints, the place told from the front. -/
namespace DL
open PySem PySem.Spec PyProof.Rows L2
noncomputable section
def rGetL (K : PySem.W.Frag) : V → V → Hp → VK → Prop := fun x y H Q => ∃ p xs i z, x = .ref p ∧ y = .int i ∧ 0 ≤ i ∧ SqL K H p xs ∧ xs[i.toNat]? = some z ∧ Q z H
def mGetN (x k : D) : M D := fun S => match listOf S x, k with
  | some xs, .int i => if 0 ≤ i then (match xs[i.toNat]? with
    | some z => .ok z S
    | none => .stuck) else .stuck
  | _, _ => .stuck
def sSubAug (f : D → D → M D) (mo mi mv : EM) : SD := fun ρ S => (mo ρ S).to ρ fun x S1 => (mi ρ S1).to ρ fun k S2 => (mGetN x k S2).to ρ fun z S3 => (mv ρ S3).to ρ fun y S4 => (f z y S4).to ρ fun w S5 => match setD x k w S5 with
  | some S6 => .ok .nx ρ S6
  | none => .stuck
end
end DL

set_option Elab.async false
set_option linter.all false
set_option maxRecDepth 100000
set_option maxHeartbeats 2000000
/-! DZ10: for x, *others in .. (after DY4). -/
namespace DL
open PySem PySem.Spec PyProof.Rows L2
noncomputable section
def asgS2 (i1 i2 : Nat) (d : D) (ρ : Env) (S : Sto) : Option Env := match listOf S d with
  | some (p :: fs) => if fs.length < 16000 then some ((ρ.set i1 (some p)).set i2 (some (.lst fs))) else none
  | _ => none
def forLoopS2 (nx : Nat → Sto → Option (Option D)) (i1 i2 : Nat) (b : SD) : Nat → Nat → SD
  | 0, _, _, _ => .stuck
  | n + 1, i, ρ, S => match nx i S with
    | none => .stuck
    | some none => .ok .nx ρ S
    | some (some d) => match asgS2 i1 i2 d ρ S with
      | none => .stuck
      | some ρ' => match b ρ' S with
        | .ok .nx ρ2 S2 => forLoopS2 nx i1 i2 b n (i + 1) ρ2 S2
        | .ok .cnt ρ2 S2 => forLoopS2 nx i1 i2 b n (i + 1) ρ2 S2
        | .ok .brk ρ2 S2 => .ok .nx ρ2 S2
        | r => r
def sForS2 (im : IM) (i1 i2 : Nat) (b : SD) : SD := fun ρ S => (im ρ S).to ρ fun it S' => forLoopS2 it.nx i1 i2 b it.fu 0 ρ S'
section
variable {X : Cx} {W : WX} {tg iter : Expr} {body : List Stmt} {im : IM} {ms : SD} {pos tpos p0 p1 p2 sp : Pos} {x y z : Str} {i1 i2 k k2 : Nat}
end
end
end DL

set_option Elab.async false
set_option linter.all false
set_option maxRecDepth 100000
set_option maxHeartbeats 2000000
/-! DZ11: x, (y, *others) = e. -/
namespace DL
open PySem PySem.Spec PyProof.Rows L2
noncomputable section
def sAsgSt (i0 i1 i2 : Nat) (m : EM) : SD := fun ρ S => (m ρ S).to ρ fun d S' => match asgSt i0 i1 i2 d ρ S' with
  | some ρ' => .ok .nx ρ' S'
  | none => .stuck
section
variable {X : Cx} {W : WX} {e : Expr} {me : EM} {pos tpos p0 p1 p2 sp p3 : Pos} {x y z : Str} {i0 i1 i2 k k2 : Nat}
end
end
end DL

set_option Elab.async false
set_option linter.all false
set_option maxRecDepth 100000
set_option maxHeartbeats 2000000
/-! DZ12: except clauses with and without a name for the error. -/
namespace DL
open PySem PySem.Spec PyProof.Rows L2
def wKeep0 (K : PySem.W.Frag) (c : Value) (ts : TS) (Wout : WX) (D : Ends) : WX := fun cls d σ H =>
  ∃ b, PySem.W.exmOne K cls c = some b ∧ (b = true → ts D σ H) ∧ (b = false → Wout cls d σ H)
/-- what the clauses wish of an error of the body, one after the other -/
def wKeeps0 (K : PySem.W.Frag) (Wout : WX) (D : Ends) : List (Value × Option Nat × TS) → WX
  | [] => Wout
  | (c, some i, ts) :: r => wKeep K c i ts (wKeeps0 K Wout D r) D
  | (c, none, ts) :: r => wKeep0 K c ts (wKeeps0 K Wout D r) D
inductive HdsK0 (X : Cx) : List ExceptHandler → List (Value × Option Nat × TS) → Prop
  | nil : HdsK0 X [] []
  | cons {x n : Str} {c : Value} {i : Nat} {ts : TS} {b₀ : Stmt} {suite : List Stmt} {np pos' : Pos} {hds : List ExceptHandler} {l : List (Value × Option Nat × TS)} (hi : X.N[i]? = some n) (hln : X.env.kindOf n = some .local) (hc : Names X x c)
      (hsu : ∀ (a : Addr) (pn : List (Addr × Obj)), PSs (X.suite a pn) (b₀ :: suite) ts) (r : HdsK0 X hds l) :
      HdsK0 X (.ExceptHandler (some (.Name x np)) (some n) (b₀ :: suite) pos' :: hds) ((c, some i, ts) :: l)
  | cons0 {x : Str} {c : Value} {ts : TS} {b₀ : Stmt} {suite : List Stmt} {np pos' : Pos} {hds : List ExceptHandler} {l : List (Value × Option Nat × TS)} (hc : Names X x c)
      (hsu : ∀ (a : Addr) (pn : List (Addr × Obj)), PSs (X.suite a pn) (b₀ :: suite) ts) (r : HdsK0 X hds l) :
      HdsK0 X (.ExceptHandler (some (.Name x np)) none (b₀ :: suite) pos' :: hds) ((c, none, ts) :: l)
section
variable {X : Cx} {body : List Stmt} {h₀ : ExceptHandler} {hds : List ExceptHandler} {l : List (Value × Option Nat × TS)} {pos : Pos} {tb : WX → TS} {Wout : WX}
theorem ps_try_keeps0 (hs : X.stack = X.env :: X.outer) (hf : X.env.frame = some X.env.locals) (hN : X.N.Nodup) (tk : Takes X Wout) (hx0 : X.ex = [])
    (hb : ∀ (W : WX) (pn : List (Addr × Obj)) (xe : Value → Shared → Prop), Takes (X.tr pn xe) W → PassesOwn (model X.prog X.w) X.A X.env xe → PSs (X.tr pn xe) body (tb W))
    (hh : HdsK0 X (h₀ :: hds) l) : PS X (.Try body (h₀ :: hds) [] [] pos) (fun D σ H => tb (wKeeps0 X.K Wout D l) D σ H) := by
  refine ⟨fun pins s σ H D I h => ?_⟩
  have ok := I.ok
  have hfr : X.A.frames = some (X.env :: X.outer) := by rw [ok.frames, hs]
  refine wpAny_Try_except ?_
  refine wpAny_mono ((hb (wKeeps0 X.K Wout D l) (X.pn ++ pins) (fun e s₁ => wpAny (model X.prog X.w) X.A (noteFrame e X.env) (fun _ s₂ => wpAny (model X.prog X.w) X.A (setFlight e none) (fun _ s₃ =>
    wpAny (model X.prog X.w) X.A (handleBy e X.env (h₀ :: hds)) (SP X pins D) X.xe s₃) X.xe s₂) X.xe s₁) (fun u s' xx => ?_) PassesOwn.looking).run [] s σ H D (I.toTry _) h) (fun f s1 hsp => ?_) (fun e s1 he => he)
  · -- the catch
    obtain ⟨a, B, sI, pins', σ', H', cls, d, rfl, J', nb, up, sky, na, os, ag, w⟩ := xx
    have J : Inv X pins σ' H' sI := J'.ofTry ok
    have sky' : Sky B (X.env :: X.outer) a (Zc cls d) X.env.locals s'.heap := by rw [← hs]; exact sky
    have hBa : B.get? a = none := by
      rcases sky' with ⟨_, hn, _⟩ | fl | hh
      · exact hn
      · exact fl.2.1
      · exact hh.2.1
    show wpAny (model X.prog X.w) X.A (noteFrame (.ref a) X.env) _ _ _
    refine Sky.land Zc.steady hfr hf sky' fun h3 fl3 up3 => ?_
    have J3 : Inv X pins σ' H' { s' with heap := h3 } := J.landed nb fl3.1 (up.trans up3) os ag
    obtain ⟨oe3, vs3, he3, hz3, hd3⟩ := fl3.there
    have notFr : ∀ {h : Heap} {o : Obj} {vs : Array Value}, h.FunFrames B (X.env :: X.outer) → h.get? a = some o → o.data = .fields vs → a ∉ frs (X.env :: X.outer) := fun {h o vs} ff e dd hm => by
      obtain ⟨_, o', e', hnf⟩ := ff.mem hm
      rw [e] at e'; cases e'
      exact hnf _ dd
    have nfr := notFr fl3.2.2.1 he3 hd3
    have nL : a ≠ X.env.locals := fun z => nfr (List.mem_filterMap.mpr ⟨X.env, List.mem_cons_self, by rw [hf, z]⟩)
    have nF : a ∉ X.fs := fun hm => by
      obtain ⟨e, he, q⟩ := List.mem_filterMap.mp hm
      exact nfr (List.mem_filterMap.mpr ⟨e, List.mem_cons_of_mem _ he, q⟩)
    have nI : sI.heap.get? a = none := by
      cases e : sI.heap.get? a with
      | none => rfl
      | some o =>
        have := nb a o e (by rw [hs]; exact nfr)
        rw [hBa] at this; cases this
    have n0 : X.ex = [] → X.s_0.heap.get? a = none := fun hx => by
      cases e : X.s_0.heap.get? a with
      | none => rfl
      | some o =>
        obtain ⟨o', e1⟩ := J.base.there a o e (by rw [hx]; exact fun z => nomatch z)
        rw [nI] at e1; cases e1
    have hpin : ∀ p ∈ X.pn ++ pins, p.1 ≠ a := fun p hm z => by
      have := (J.pin p hm).1
      rw [z, nI] at this; cases this
    have S3 := J3.suite he3 hd3 na nL nF
    have go : ∀ {hds' : List ExceptHandler} {l' : List (Value × Option Nat × TS)}, HdsK0 X hds' l' → wKeeps0 X.K Wout D l' cls d σ' H' →
        wpAny (model X.prog X.w) X.A (handleBy (.ref a) X.env hds') (SP X pins D) X.xe { s' with heap := h3 } := by
      intro hds' l' hk
      induction hk with
      | nil =>
        intro w
        refine wpAny_handleBy_nil ?_
        obtain ⟨k1, k2, k3, oe, vs, T, oT, ts', he, hz, hd, h1, hr⟩ := id fl3
        unfold PySem.passOn
        refine wpAny_bind (wpAny_field he hd h1 ?_)
        rw [if_neg (show ¬ ((Value.ref T == Value.none) = true) from by simp)]
        have fin : wpAny (model X.prog X.w) X.A (setFlight (.ref a) X.env.frame) (fun _ s4 => wpAny (model X.prog X.w) X.A (throw (.ref a) : Sem Flow) (SP X pins D) X.xe s4) X.xe { s' with heap := h3 } := by
          rw [hf]
          refine HandSPX.setFlight_upZ fl3 fun h4 hh4 up4 => wpAny_throw (tk _ _ ?_)
          exact ⟨a, B, sI, pins, σ', H', cls, d, rfl, J, nb, (up.trans up3).trans up4, .inr (.inr (by rw [hs]; exact hh4)), na, os, ag, w⟩
        first
          | exact wpAny_bind (wpAny_pure (wpAny_bind fin))
          | exact wpAny_bind fin
      | @cons x n c i ts b₀ suite np pos' hds2 l2 hi hln hc hsu r ih =>
        intro w
        obtain ⟨b, hb1, hyes, hno⟩ := w
        have hloc : Loc X.env.scope n := .inl hln
        refine wpAny_handleBy_cons (codeAny_handlers_test ?_) (by intro q; cases q)
        have LT : PySem.W.Looks (model X.prog X.w) h3 (typeOf (.ref a)) cls := fun A Q E s k q => wpAny_typeOf_ref (k _ _ he3) (by rw [hz3.1]; exact q)
        have LM := PySem.W.exm_one (M := model X.prog X.w) (J3.kIn) LT hb1
        have test : ∀ {Q : Value → Shared → Prop} {E : Value → Shared → Prop}, Q c { s' with heap := h3 } → wpAny (model X.prog X.w) (X.A.mark (some (.ref a))) (eval (.Name x np) X.env) Q E { s' with heap := h3 } := fun {Q E} q => by
          obtain ⟨hg, hdbg, hm | ⟨hm, hv, hnn⟩⟩ := hc
          · exact ld_glob (X := X.suite a ((a, oe3) :: (X.pn ++ pins))) S3 hg hm q hdbg
          · exact ld_blt (X := X.suite a ((a, oe3) :: (X.pn ++ pins))) S3 hg hm hv q hnn hdbg
        refine test (LM.here ?_)
        cases b with
        | true =>
          refine codeAny_handlers_suite_as ?_
          refine HandSPX.lands_againZ fl3 fun h4 fl4 up4 => ?_
          have J4 : Inv X pins σ' H' { s' with heap := h4 } := J.landed nb fl4.1 ((up.trans up3).trans up4) os ag
          obtain ⟨oe4, vs4, he4, hz4, hd4⟩ := fl4.there
          have T4 := Inv.track J4 na (n0 hx0) hpin he4 hz4 hd4 nL
          have S4 := Inv.suite0 T4 a
          refine store_ok (X := X.suite a (X.pn ++ pins)) (v := .ref a) S4 hN hi hloc rfl (fun s5 S5 => ?_) (.inr hln)
          refine wpAny_mono ((hsu a (X.pn ++ pins)).run [] s5 _ _ _ S5 (hyes rfl a na)) (fun f s6 hsp => ?_) (fun _ _ z => False.elim z)
          have end_ : ∀ {σ6 : L2.St} {H6 : Hp} {Q : Shared → Prop}, Inv (X.suite a (X.pn ++ pins)) [] σ6 H6 s6 → (∀ s7, Inv X pins (σ6.set i none) H6 s7 → Q s7) →
              wpAny (model X.prog X.w) X.A (do bindName X.env n .none; unbindBehindTheSuite X.env n pos') (fun _ s7 => Q s7) X.xe s6 := fun {σ6 H6 Q} S6 hq => gone_ok (Inv.unsuite0 S6 ok) hN hi hln hq
          cases f with
          | next =>
            obtain ⟨σ6, H6, S6, q6⟩ := hsp
            exact end_ S6 fun s7 J7 => ⟨_, _, J7, q6⟩
          | brk =>
            obtain ⟨σ6, H6, S6, q6⟩ := hsp
            exact end_ S6 fun s7 J7 => ⟨_, _, J7, q6⟩
          | cont =>
            obtain ⟨σ6, H6, S6, q6⟩ := hsp
            exact end_ S6 fun s7 J7 => ⟨_, _, J7, q6⟩
          | ret u =>
            obtain ⟨v6, σ6, H6, S6, r6, q6⟩ := hsp
            exact end_ S6 fun s7 J7 => ⟨_, _, _, J7, r6, q6⟩
        | false =>
          show wpAny _ X.A (handleBy (.ref a) X.env hds2) _ _ _
          exact ih (hno rfl)
      | @cons0 x c ts b₀ suite np pos' hds2 l2 hc hsu r ih =>
        intro w
        obtain ⟨b, hb1, hyes, hno⟩ := w
        refine wpAny_handleBy_cons (codeAny_handlers_test ?_) (by intro q; cases q)
        have LT : PySem.W.Looks (model X.prog X.w) h3 (typeOf (.ref a)) cls := fun A Q E s k q => wpAny_typeOf_ref (k _ _ he3) (by rw [hz3.1]; exact q)
        have LM := PySem.W.exm_one (M := model X.prog X.w) (J3.kIn) LT hb1
        have test : ∀ {Q : Value → Shared → Prop} {E : Value → Shared → Prop}, Q c { s' with heap := h3 } → wpAny (model X.prog X.w) (X.A.mark (some (.ref a))) (eval (.Name x np) X.env) Q E { s' with heap := h3 } := fun {Q E} q => by
          obtain ⟨hg, hdbg, hm | ⟨hm, hv, hnn⟩⟩ := hc
          · exact ld_glob (X := X.suite a ((a, oe3) :: (X.pn ++ pins))) S3 hg hm q hdbg
          · exact ld_blt (X := X.suite a ((a, oe3) :: (X.pn ++ pins))) S3 hg hm hv q hnn hdbg
        refine test (LM.here ?_)
        cases b with
        | true =>
          refine codeAny_handlers_suite ?_
          refine HandSPX.lands_againZ fl3 fun h4 fl4 up4 => ?_
          have J4 : Inv X pins σ' H' { s' with heap := h4 } := J.landed nb fl4.1 ((up.trans up3).trans up4) os ag
          obtain ⟨oe4, vs4, he4, hz4, hd4⟩ := fl4.there
          have S4 := J4.suite he4 hd4 na nL nF
          refine wpAny_mono ((hsu a ((a, oe4) :: (X.pn ++ pins))).run [] _ _ H' _ S4 (hyes rfl)) (fun f s6 hsp => ?_) (fun _ _ z => False.elim z)
          cases f with
          | next =>
            obtain ⟨σ6, H6, S6, q6⟩ := hsp
            exact ⟨_, _, S6.unsuite ok, q6⟩
          | brk =>
            obtain ⟨σ6, H6, S6, q6⟩ := hsp
            exact ⟨_, _, S6.unsuite ok, q6⟩
          | cont =>
            obtain ⟨σ6, H6, S6, q6⟩ := hsp
            exact ⟨_, _, S6.unsuite ok, q6⟩
          | ret u =>
            obtain ⟨v6, σ6, H6, S6, r6, q6⟩ := hsp
            exact ⟨_, _, _, S6.unsuite ok, r6, q6⟩
        | false =>
          show wpAny _ X.A (handleBy (.ref a) X.env hds2) _ _ _
          exact ih (hno rfl)
    exact go hh w
  · cases f with
    | next =>
      obtain ⟨σ', H', J', q⟩ := hsp
      exact wpAny_execs_nil ⟨σ', H', J'.ofTry ok, q⟩
    | brk =>
      obtain ⟨σ', H', J', q⟩ := hsp
      exact ⟨σ', H', J'.ofTry ok, q⟩
    | cont =>
      obtain ⟨σ', H', J', q⟩ := hsp
      exact ⟨σ', H', J'.ofTry ok, q⟩
    | ret u =>
      obtain ⟨v, σ', H', J', r, q⟩ := hsp
      exact ⟨v, σ', H', J'.ofTry ok, r, q⟩
end
/-! ### as data -/
/-- a clause that gives the error no name -/
def sTryN (tbl : Str → Option Bool) (b h : SD) : SD := fun ρ S => match b ρ S with
  | .exc x ρ1 S1 => match tbl x.name with
    | some true => (match h ρ1 S1 with
      | .exc _ _ _ => .stuck
      | r => r)
    | some false => .exc x ρ1 S1
    | none => .stuck
  | r => r
theorem try_stepN {K : PySem.W.Frag} {c : Value} {mb mh : SD} {tbl : Str → Option Bool} {mg : Str → Option Value} {Wout : WX} (ht : TblX K c tbl) {D : Ends} {σ : L2.St} {H : Hp} (h : tS K mg Wout (sTryN tbl mb mh) D σ H) : tS K mg (wKeep0 K c (tS K mg WNo mh) Wout D) mb D σ H := by
  obtain ⟨hd, as, ρ, S, rel, po⟩ := h
  refine ⟨hd, as, ρ, S, rel, ?_⟩
  unfold sTryN at po
  cases e : mb ρ S with
  | stuck => rw [e] at po; exact po.elim
  | ok f ρ1 S1 =>
    rw [e] at po
    cases f <;> exact po
  | exc xd ρ1 S1 =>
    rw [e] at po
    intro as' cls dd σ' H' g rel' xr
    dsimp only at po
    cases et : tbl xd.name with
    | none => rw [et] at po; exact po.elim
    | some b =>
      rw [et] at po
      have hb := ht _ _ et cls xr.1
      cases b with
      | false => exact ⟨false, hb, (fun z => by cases z), fun _ => po as' cls dd σ' H' g rel' xr⟩
      | true =>
        refine ⟨true, hb, fun _ => ?_, fun z => by cases z⟩
        refine ⟨hd, as', _, S1, rel', ?_⟩
        dsimp only at po
        cases eh : mh ρ1 S1 with
        | stuck => rw [eh] at po; exact po.elim
        | exc y ρ2 S2 => rw [eh] at po; exact po.elim
        | ok f ρ2 S2 =>
          rw [eh] at po
          cases f with
          | nx => exact fun as2 σ2 H2 g2 r2 => po as2 σ2 H2 (g.trans g2) r2
          | brk => exact fun as2 σ2 H2 g2 r2 => po as2 σ2 H2 (g.trans g2) r2
          | cnt => exact fun as2 σ2 H2 g2 r2 => po as2 σ2 H2 (g.trans g2) r2
          | ret d => exact fun as2 v H2 g2 w2 r2 => po as2 v H2 (g.trans g2) w2 r2
abbrev TryL0 := List ((Str → Option Bool) × Option Nat × SD)
def sTries0 (b : SD) : TryL0 → SD
  | [] => b
  | (tbl, some i, h) :: r => sTries0 (sTryAs tbl i b h) r
  | (tbl, none, h) :: r => sTries0 (sTryN tbl b h) r
inductive HdsD0 (X : Cx) : List ExceptHandler → TryL0 → List (Value × Option Nat × TS) → Prop
  | nil : HdsD0 X [] [] []
  | cons {x n : Str} {c : Value} {i : Nat} {tbl : Str → Option Bool} {mh : SD} {b₀ : Stmt} {suite : List Stmt} {np pos' : Pos} {hds : List ExceptHandler} {l : TryL0} {l2 : List (Value × Option Nat × TS)} (hi : X.N[i]? = some n) (hln : X.env.kindOf n = some .local) (hc : Names X x c) (ht : TblX X.K c tbl)
      (hsu : ∀ (a : Addr) (pn : List (Addr × Obj)), DSs (X.suite a pn) WNo (b₀ :: suite) mh) (r : HdsD0 X hds l l2) :
      HdsD0 X (.ExceptHandler (some (.Name x np)) (some n) (b₀ :: suite) pos' :: hds) ((tbl, some i, mh) :: l) ((c, some i, tS X.K X.mg WNo mh) :: l2)
  | cons0 {x : Str} {c : Value} {tbl : Str → Option Bool} {mh : SD} {b₀ : Stmt} {suite : List Stmt} {np pos' : Pos} {hds : List ExceptHandler} {l : TryL0} {l2 : List (Value × Option Nat × TS)} (hc : Names X x c) (ht : TblX X.K c tbl)
      (hsu : ∀ (a : Addr) (pn : List (Addr × Obj)), DSs (X.suite a pn) WNo (b₀ :: suite) mh) (r : HdsD0 X hds l l2) :
      HdsD0 X (.ExceptHandler (some (.Name x np)) none (b₀ :: suite) pos' :: hds) ((tbl, none, mh) :: l) ((c, none, tS X.K X.mg WNo mh) :: l2)
theorem HdsD0.keeps {X : Cx} {hds : List ExceptHandler} {l : TryL0} {l2 : List (Value × Option Nat × TS)} (h : HdsD0 X hds l l2) : HdsK0 X hds l2 := by
  induction h with
  | nil => exact .nil
  | cons hi hln hc ht hsu r ih => exact .cons hi hln hc hsu ih
  | cons0 hc ht hsu r ih => exact .cons0 hc hsu ih
theorem HdsD0.step {X : Cx} {mg : Str → Option Value} {Wout : WX} (hmg : X.mg = mg) {hds : List ExceptHandler} {l : TryL0} {l2 : List (Value × Option Nat × TS)} (h : HdsD0 X hds l l2) : ∀ {mb : SD} {D : Ends} {σ : L2.St} {H : Hp},
    tS X.K mg Wout (sTries0 mb l) D σ H → tS X.K mg (wKeeps0 X.K Wout D l2) mb D σ H := by
  subst hmg
  induction h with
  | nil => exact fun h => h
  | cons hi hln hc ht hsu r ih => exact fun h => try_step ht (ih h)
  | cons0 hc ht hsu r ih => exact fun h => try_stepN ht (ih h)
theorem ds_tries0 {X : Cx} {W : WX} {body : List Stmt} {h₀ : ExceptHandler} {hds : List ExceptHandler} {pos : Pos} {mb : SD} {l : TryL0} {l2 : List (Value × Option Nat × TS)} (hs : X.stack = X.env :: X.outer) (hf : X.env.frame = some X.env.locals) (hN : X.N.Nodup) (tk : Takes X W) (hx0 : X.ex = [])
    (hb : ∀ (W : WX) (pn : List (Addr × Obj)) (xe : Value → Shared → Prop), Takes (X.tr pn xe) W → PassesOwn (model X.prog X.w) X.A X.env xe → DSs (X.tr pn xe) W body mb)
    (hh : HdsD0 X (h₀ :: hds) l l2) :
    DS X W (.Try body (h₀ :: hds) [] [] pos) (sTries0 mb l) :=
  PS.le (ps_try_keeps0 (tb := fun W => tS X.K X.mg W mb) hs hf hN tk hx0 hb hh.keeps) fun D σ H h => hh.step rfl h
theorem ds_tryN {X : Cx} {W : WX} {body : List Stmt} {pos : Pos} {mb : SD} {x0 : Str} {np0 pp0 : Pos} {b0 : Stmt} {s0 : List Stmt} {c0 : Value} {t0 : Str → Option Bool} {m0 : SD}
    (hs : X.stack = X.env :: X.outer) (hf : X.env.frame = some X.env.locals) (hN : X.N.Nodup) (tk : Takes X W) (hx0 : X.ex = [])
    (hb : ∀ (W : WX) (pn : List (Addr × Obj)) (xe : Value → Shared → Prop), Takes (X.tr pn xe) W → PassesOwn (model X.prog X.w) X.A X.env xe → DSs (X.tr pn xe) W body mb)
    (hc0 : Names X x0 c0) (ht0 : TblX X.K c0 t0) (h0 : ∀ (a : Addr) (pn : List (Addr × Obj)), DSs (X.suite a pn) WNo (b0 :: s0) m0) :
    DS X W (.Try body [.ExceptHandler (some (.Name x0 np0)) none (b0 :: s0) pp0] [] [] pos) (sTryN t0 mb m0) :=
  ds_tries0 (l := [(t0, none, m0)]) hs hf hN tk hx0 hb (.cons0 hc0 ht0 h0 .nil)
end DL

set_option Elab.async false
set_option linter.all false
set_option maxRecDepth 100000
set_option maxHeartbeats 2000000
/-! DZ13: a slice of a list as a list that is changed. -/
namespace DL
open PySem PySem.Spec PyProof.Rows L2
def oSlC (d : D) (lo hi : Option Int) : M D := fun S => match listOf S d with
  | some xs => .ok (.cell S.length) (S ++ [some (.lst (cutD xs lo hi))])
  | none => .stuck
end DL

set_option Elab.async false
set_option linter.all false
set_option maxRecDepth 100000
set_option maxHeartbeats 2000000
/-! DZ14: methods called with keywords, with defaults; objects made with keywords. -/
namespace DL
open PySem PySem.Spec PyProof.Rows L2
noncomputable section
def eMoK (C m : Str) (fm : FM) (ix : List Nat) (dd : List D) (mo : EM) (mr mk : AM) : EM := fun ρ => M.bind (mo ρ) fun o S => match o with
  | .cell n => match S[n]? with
    | some (some (.ins C' fs)) => if C' = C ∧ fs.lookup m = none then (mr ρ S).bind fun ds S1 => (mk ρ S1).bind fun es S2 => fm (byIxD ix dd (.cell n :: ds) es) S2 else .stuck
    | _ => .stuck
  | _ => .stuck
/-- what the text says of a method with defaults -/
structure MethDD (P : Program) (w : World) (K : PySem.W.Frag) (mg : Str → Option Value) (base : Heap) (k : Nat) (C m qual : Str) (st : Stmt) (ps : List Str) (dvs : List V) (kds : List (Str × V)) (fm : FM) : Prop where
  ex : ∃ (Ca f : Addr) (fd : FuncData), ClsK K C (.ref Ca) ∧ Cls K Ca ∧ Meth K Ca m f ∧ FnG P w K mg base k f fd ps fm ∧ L2.FunD K m qual (defArgs st) (defBody st) (defScope st) dvs kds f fd
structure MethAtD (K : PySem.W.Frag) (C m : Str) (qual : Str) (st : Stmt) (dvs : List V) (kds : List (Str × V)) : Prop where
  ex : ∃ (Ca f : Addr) (fd : FuncData), ClsK K C (.ref Ca) ∧ Cls K Ca ∧ Meth K Ca m f ∧ L2.FunD K m qual (defArgs st) (defBody st) (defScope st) dvs kds f fd
structure MakeDD (P : Program) (w : World) (K : PySem.W.Frag) (mg : Str → Option Value) (base : Heap) (k : Nat) (C qual : Str) (st : Stmt) (ps : List Str) (dvs : List V) (kds : List (Str × V)) (fm : FM) : Prop where
  ex : ∃ (Ca f : Addr) (fd : FuncData), mg C = some (.ref Ca) ∧ ClsK K C (.ref Ca) ∧ Mk K Ca f ∧ FnG P w K mg base k f fd ps fm ∧ L2.FunD K "__init__" qual (defArgs st) (defBody st) (defScope st) dvs kds f fd
structure MakeAtD (K : PySem.W.Frag) (mg : Str → Option Value) (C : Str) (qual : Str) (st : Stmt) (dvs : List V) (kds : List (Str × V)) : Prop where
  ex : ∃ (Ca f : Addr) (fd : FuncData), mg C = some (.ref Ca) ∧ ClsK K C (.ref Ca) ∧ Mk K Ca f ∧ L2.FunD K "__init__" qual (defArgs st) (defBody st) (defScope st) dvs kds f fd
section
variable {P : Program} {w : World} {K : PySem.W.Frag} {mg : Str → Option Value} {base : Heap} {k : Nat} {C x qual : Str} {st : Stmt} {N ps : List Str} {m : SD} {dvs : List V} {kds : List (Str × V)}
theorem meth_ofD (h : MethAtD K C x qual st dvs kds) (Sc : FnScope N ps (defScope st))
    (hbody : ∀ (f : Addr) (cdv : Value) (A : Around) (outer : List PySem.Env) (s : Shared) (H : Hp) (E : XK), Room k (A.deeper (envOfC qual (defScope st) s.heap.objs.size f cdv)) → Qt (A.deeper (envOfC qual (defScope st) s.heap.objs.size f cdv)) base →
      DSs (cxOf (L2.CX P w) P w K mg base N qual (defScope st) f cdv A outer s H E) (WOf E) (defBody st) m) : MethDD P w K mg base (k + 1) C x qual st ps dvs kds (runFn N.length ps.length m) := by
  obtain ⟨Ca, f, fd, h1, h2, h3, F⟩ := h.ex
  exact ⟨Ca, f, fd, h1, h2, h3, FunD.okG F Sc (hbody f), F⟩
theorem make_ofD (h : MakeAtD K mg C qual st dvs kds) (Sc : FnScope N ps (defScope st))
    (hbody : ∀ (f : Addr) (cdv : Value) (A : Around) (outer : List PySem.Env) (s : Shared) (H : Hp) (E : XK), Room k (A.deeper (envOfC qual (defScope st) s.heap.objs.size f cdv)) → Qt (A.deeper (envOfC qual (defScope st) s.heap.objs.size f cdv)) base →
      DSs (cxOf (L2.CX P w) P w K mg base N qual (defScope st) f cdv A outer s H E) (WOf E) (defBody st) m) : MakeDD P w K mg base (k + 1) C qual st ps dvs kds (runFn N.length ps.length m) := by
  obtain ⟨Ca, f, fd, h1, h2, h3, F⟩ := h.ex
  exact ⟨Ca, f, fd, h1, h2, h3, FunD.okG F Sc (hbody f), F⟩
end
section
variable {K : PySem.W.Frag} {x qual : Str} {st : Stmt} {ps ks : List Str} {n : Nat} {ix : List Nat} {dvs : List V} {kds : List (Str × V)} {f : Addr} {fd : FuncData}
theorem kbq_n (F : L2.FunD K x qual (defArgs st) (defBody st) (defScope st) [] kds f fd)
    (h : ∀ (kV doc pm : Value) (an : Option Addr) (cdv ct : Value) (us ws : List Value), us.length = n → ws.length = ks.length → bindArgs (PySem.W.fnOf x qual (defArgs st) (defBody st) (defScope st) .none kV doc pm an cdv ct) ⟨us, ks.zip ws⟩ = pure (ps.zip (byIx ix us ws))) : KBD K fd ps n ks ix [] := by
  obtain ⟨oc, od, dV, kV, doc, pm, an, cdv, ct, osl, rfl, lk, hcd, hD, hK⟩ := F.ex
  rcases hD with ⟨_, rfl⟩ | ⟨e, _⟩
  · refine ⟨[], .nil, fun s us ws X l1 l2 => .of_eq ?_⟩
    rw [List.append_nil]
    exact h kV doc pm an cdv ct us ws l1 l2
  · exact absurd rfl e
end
section
variable {X : Cx} {W : WX} {k j n : Nat} {C m qual : Str} {st : Stmt} {fm : FM} {o e : Expr} {es : List Expr} {kws : List Keyword} {mo : EM} {mr mk : AM} {pos apos p : Pos} {ps ks : List Str} {pl : Sem Bool} {ix : List Nat} {dvs zd : List V} {kds : List (Str × V)} {dd : List D}
/-- o.m(k = v, ..), o.m() -/
theorem de_methK0 (T : MethDD X.prog X.w X.K X.mg X.base k C m qual st ps dvs kds fm) (hb : ∀ {f : Addr} {fd : FuncData}, L2.FunD X.K m qual (defArgs st) (defBody st) (defScope st) dvs kds f fd → KBD X.K fd ps 1 ks ix zd) (hrep : ∀ (as : List Addr) (F : Hp), RepL X.K as F zd dd)
    (hr : Room j X.A) (hj : k ≤ j) (hgd : Qt X.A X.base) (tk : Takes X W) (ho : DE X W o mo) (hkw : DK X W kws mk)
    (hn' : ∀ ρ S ds S', mk ρ S = .ok ds S' → ds.length = ks.length)
    (hall : (backToKw pos (keywordEach kws X.env)).all (·.1.isSome) = true := by rfl) (hks : (backToKw pos (keywordEach kws X.env)).filterMap (·.1) = ks := by rfl)
    (hpl : ((backTo pos (starEach [] X.env)).any (·.1) || (backToKw pos (keywordEach kws X.env)).any (·.1.isNone)) = false := by rfl)
    (ht : eval (.Call (.Attribute o m apos) [] kws pos) X.env = (do
      let ov ← eval o X.env
      standAt apos.atName
      let (f, first) ← holding [ov] (getMethod ov m pl)
      callWith pos f first (backTo pos (starEach [] X.env)) (backToKw pos (keywordEach kws X.env))) := by rfl) :
    DE X W (.Call (.Attribute o m apos) [] kws pos) (eMoK C m fm ix dd mo aNil mk) := by
  obtain ⟨Ca, f, fd, hk, c, hm, F, Fu⟩ := T.ex
  obtain ⟨dus, rdu, hb⟩ := hb Fu
  refine ⟨fun pins s σ H Q I ⟨hd, as, ρ, S, rel, po⟩ => PySem.W.methodCall_KW (pl := pl) (thn (ho.run pins s σ H (fun x H1 => ∃ a dx fs, x = .ref a ∧ H1 a = some (.ins Ca dx fs) ∧ fs.lookup m = none ∧
    tA X.K X.mg W mk σ H1 fun zs H3 => zs.length = ks.length ∧ spM X.K X.mg fm (byIx ix [.ref a] (zs ++ zd)) H3 Q fun cls d H' => W cls d σ H') I (tE_seq rel po fun as1 S1 H1 v1 d1 g1 rel1 r1 po1 => ?_)) fun u s1 ⟨x, H1, I1, rx, a, dx, fs, ex, ea, l, q⟩ => ?_) ht⟩
  · cases r1 with
    | cell q =>
      rename_i n' a
      dsimp only at po1
      split at po1
      · rename_i C' fs e1
        split at po1
        · rename_i hok
          obtain ⟨rfl, hnone⟩ := hok
          obtain ⟨Ca', dx, ws, ea, hk', hn0, r⟩ := rel1.w.insAt q e1
          have : Value.ref Ca' = Value.ref Ca := by
            have := hk'.symm.trans hk
            simpa using this
          cases this
          refine ⟨a, dx, ws, rfl, ea, look_none hn0 hnone, hd, as1, ρ, S1, rel1, ?_⟩
          have po1 : Post X.K X.mg W σ ρ hd as1 S1 H1 ((mk ρ S1).bind fun es => fm (byIxD ix dd [.cell n'] es)) _ := po1
          cases ek : mk ρ S1 with
          | exc z S3 => rw [ek] at po1; exact po1
          | stuck => rw [ek] at po1; exact po1.elim
          | ok es' S3 =>
            rw [ek] at po1
            intro as3 H3 g3 rel3 zs r3
            exact ⟨by rw [r3.length]; exact hn' _ _ _ _ ek, sp_of rel3 (byIx_rep (.cons (.cell (g3.pre _ _ q)) .nil) (r3.append (hrep _ _)) ix) (Post.later (r := fm (byIxD ix dd [.cell n'] es') S3) po1 g3)⟩
        · exact po1.elim
      · exact po1.elim
    | _ => exact po1.elim
  · subst ex
    obtain rfl : u = Value.ref a := rx
    refine getmeth_ok I1 ea c hm l ?_
    refine PySem.W.callWith_KW0 (first := [.ref a]) (h₀ := X.base) I.ok.mod.kin hm.kp hall (thn (hkw.run pos pins s1 σ H1 _ I1 q) fun ws s3 ⟨zs, H3, I3, rz, l2, q3⟩ => ⟨I3.kIn, ?_⟩) hpl
    rw [hks]
    exact run_fnG F (hr.mono hj) hgd tk (args := ⟨[.ref a], ks.zip ws⟩) (us := byIx ix [.ref a] (ws ++ dus)) (hb s3 [.ref a] ws I3.kIn rfl (by rw [← rz.length]; exact l2)) I3 (byIx_vals (show Vals [V.ref a] [Value.ref a] from .cons rfl .nil) (rz.append rdu) ix) (fun _ _ _ z => z) q3
end
/-! made -/
def eMkK (C : Str) (fm : FM) (ix : List Nat) (dd : List D) (mr mk : AM) : EM := fun ρ => M.bind (mr ρ) fun ds S => (mk ρ S).bind fun es S1 => (fm (byIxD ix dd (.cell S1.length :: ds) es) (S1 ++ [some (.ins C [])])).bind fun d S' => match d with
  | .non => .ok (.cell S1.length) S'
  | _ => .stuck
section
variable {X : Cx} {W : WX} {k j n : Nat} {C qual : Str} {st : Stmt} {fm : FM} {e : Expr} {es : List Expr} {kws : List Keyword} {mr mk : AM} {pos p : Pos} {ps ks : List Str} {ix : List Nat} {dvs zd : List V} {kds : List (Str × V)} {dd : List D}
theorem Qt.underK {A : Around} {base : Heap} {x : Value} {us : List Value} {kw : List (Str × Value)} (h : Qt A base) : Qt (A.under (.builtin "type.__call__" ⟨x :: us, kw⟩)) base := ⟨by
  have e := h.g
  have g : ("type.__call__" ∈ guardIds) = False := by simp [guardIds]
  simp [Around.under, Code.guards, pushGuards, e, Code.isGuard, g], h.s⟩
theorem run_makeK {Ca f : Addr} {fd : FuncData} {pins : List (Addr × Obj)} {σ : L2.St} {H : Hp} {s : Shared} {Q : VK} {us ws dus : List Value} {vs zs : List V} {E : XK} (M0 : Mk X.K Ca f) (F : FnG X.prog X.w X.K X.mg X.base k f fd ps fm) (hr : Room (k + 1) X.A) (hgd : Qt X.A X.base) (tk : Takes X W)
    (hb : ∀ (s : Shared) (us ws : List Value), X.K.In s.heap → us.length = n + 1 → ws.length = ks.length → BindsTo s fd ⟨us, ks.zip ws⟩ (ps.zip (byIx ix us (ws ++ dus)))) (rdu : Vals zd dus)
    (I : Inv X pins σ H s) (r : Vals vs us) (rz : Vals zs ws) (l1 : vs.length = n) (l2 : zs.length = ks.length) (hW : ∀ x dx cls d H', H x = none → H dx = none → dx ≠ x → E cls d H' → W cls d σ H')
    (h : ∀ x dx, H x = none → H dx = none → dx ≠ x → spM X.K X.mg fm (byIx ix (.ref x :: vs) (zs ++ zd)) (upd (upd H dx (.own x)) x (.ins Ca dx [])) (fun v H2 => v = .non ∧ Q (.ref x) H2) E) :
    wpAny (model X.prog X.w) X.A (call (.ref Ca) us (ks.zip ws)) (EP X pins σ Q) X.xe s := by
  have hx0 := I.hok.fresh (Nat.le_succ s.heap.objs.size)
  have hx1 := I.hok.fresh (Nat.le_refl s.heap.objs.size)
  have hq := h (s.heap.objs.size + 1) s.heap.objs.size hx0 hx1 (Nat.ne_of_lt (Nat.lt_succ_self _))
  have I2 := Inv.made (C := Ca) I
  have r1 : Vals (V.ref (s.heap.objs.size + 1) :: vs) (Value.ref (s.heap.objs.size + 1) :: us) := .cons rfl r
  have r2 := byIx_vals r1 (rz.append rdu) ix
  have e1 : (Value.ref (s.heap.objs.size + 1) :: us).length = n + 1 := r1.length.symm.trans (congrArg Nat.succ l1)
  have e2 : ws.length = ks.length := rz.length.symm.trans l2
  refine wpAny_call (make_map (f := f) I.kIn M0.makes M0.init (beq_iff_eq.mp M0.fn) (codeAny_mono (F.run _ X.stack _ _ ⟨Value.ref (s.heap.objs.size + 1) :: us, ks.zip ws⟩ (byIx ix (Value.ref (s.heap.objs.size + 1) :: us) (ws ++ dus)) _ _ E (hr.make Ca us (ks.zip ws)) hgd.underK
    (I2.env0.make Ca us (ks.zip ws)) (hb _ (Value.ref (s.heap.objs.size + 1) :: us) ws I2.kIn e1 e2) r2 hq) fun r s' hq' => ?_))
  match r, hq' with
  | .error e, hq' => exact takes_xe tk I2 (fun cls d H' q => hW _ _ cls d H' hx0 hx1 (Nat.ne_of_lt (Nat.lt_succ_self _)) q) hq'
  | .ok (.ret u), hq' =>
    obtain ⟨v, H', I3, rv, ev, q3⟩ := I2.after hq'
    subst ev
    exact ⟨rv, ⟨V.ref (s.heap.objs.size + 1), H', I3, rfl, q3⟩⟩
end
end
end DL

set_option Elab.async false
set_option linter.all false
set_option maxRecDepth 100000
set_option maxHeartbeats 2000000
/-! DZ15: len(o), o == p by own __len__, __eq__. -/
namespace DL
open PySem PySem.Spec PyProof.Rows L2
noncomputable section
def rLenO (K : PySem.W.Frag) (mg : Str → Option Value) (fm : FM) (Ca : Addr) : List V → Hp → VK → Prop := fun vs H Q => ∃ a dx fs, vs = [.ref a] ∧ H a = some (.ins Ca dx fs) ∧ spM K mg fm [.ref a] H (fun v H' => ∃ i : Int, v = .int i ∧ 0 ≤ i ∧ i < 2 ^ 63 ∧ Q (.int i) H') fun _ _ _ => False
def fLenO (C : Str) (fm : FM) : List D → M D := fun ds S => match ds with
  | [.cell n] => (match S[n]? with
    | some (some (.ins C' _)) => if C' = C then (match fm [.cell n] S with
      | .ok (.int i) S' => if 0 ≤ i ∧ i < 2 ^ 63 then .ok (.int i) S' else .stuck
      | _ => .stuck) else .stuck
    | _ => .stuck)
  | _ => .stuck
section
variable {X : Cx} {W : WX} {k j : Nat} {C m : Str} {fm : FM} {Ca f : Addr} {fd : FuncData} {ps : List Str}
theorem call_lenO (hm : Meth X.K Ca "__len__" f) (F : FnG X.prog X.w X.K X.mg X.base k f fd ps fm) (hb : Binds X.K fd ps []) (hr : Room (k + 1) X.A) (hgd : Qt X.A X.base) : CallR X (.builtin "len") (rLenO X.K X.mg fm Ca) := by
  intro pins s σ H xs us Q I r h
  obtain ⟨a, dx, fs, rfl, ha, hsp⟩ := h
  obtain ⟨u, rfl, ru⟩ := vals1 r
  obtain rfl : u = Value.ref a := ru
  obtain ⟨mA, J, _⟩ := ins_get I.hok ha
  obtain ⟨od, J, _⟩ := J.look
  obtain ⟨mm, hF⟩ := I.fr
  refine PySem.W.len_K hF I.ok.mod.kin J hm.at_ hm.fn ?_
  have e0 : Env0 X.prog X.w X.K X.mg X.base X.A.in1 X.stack s H := by
    have e := I.env0
    exact ⟨e.frames, e.mod, e.bs, e.bsz, e.funs, e.frf, e.hok, e.bare⟩
  have hl := sp_len F hsp
  have r2 : Vals [V.ref a] [Value.ref a] := .cons rfl .nil
  refine wpAny_call (codeAny_mono (F.run X.A.in1 X.stack s H ⟨[.ref a], []⟩ [.ref a] [.ref a] _ _ hr.in1 ⟨hgd.g, hgd.s⟩ e0 (by simpa using hb s [.ref a] I.kIn (by simpa using hl)) r2 hsp) fun rr s' hq => ?_)
  match rr, hq with
  | .error e, hq =>
    obtain ⟨_, _, _, _, _, _, _, _, _, _, _, _, hE⟩ := hq
    exact hE.elim
  | .ok (.ret u), hq =>
    obtain ⟨v, H', I', rv, i, rfl, h0, h1, q⟩ := I.after hq
    obtain ⟨t, rfl⟩ := rv
    exact ⟨⟨h0, h1⟩, .int i, H', I'.tok _, ⟨_, rfl⟩, q⟩
theorem clsK_uniq {K : PySem.W.Frag} {C : Str} {a b : Addr} (h : ClsK K C (.ref a)) (g : ClsK K C (.ref b)) : a = b := by
  have := h.symm.trans g
  simpa using this
theorem act_lenO {K : PySem.W.Frag} {mg : Str → Option Value} (hk : ClsK K C (.ref Ca)) : ActL K (rLenO K mg fm Ca) (fLenO C fm) := by
  intro hd as S H vs ds w r
  cases r with
  | nil => exact trivial
  | cons r0 r1 =>
    cases r1 with
    | cons _ _ => cases r0 <;> exact trivial
    | nil =>
      cases r0 with
      | cell q =>
        rename_i n a
        unfold fLenO
        dsimp only
        split
        · rename_i C' fs e1
          split
          · rename_i hok
            subst hok
            obtain ⟨Ca', dx, ws, ea, hk', hn, rr⟩ := w.insAt q e1
            obtain rfl := clsK_uniq hk hk'
            cases em : fm [.cell n] S with
            | stuck => exact trivial
            | exc z S' => exact trivial
            | ok d S' =>
              cases d with
              | int i =>
                dsimp only
                split
                · rename_i hi
                  exact fun Q q2 => ⟨a, dx, ws, rfl, ea, hd, as, S, [.cell n], w, .cons (.cell q) .nil, by
                    rw [em]
                    intro as' v H' g w' r'
                    cases r' with
                    | int i => exact ⟨i, rfl, hi.1, hi.2, q2 as' (.int i) H' g w' (.int i)⟩⟩
                · exact trivial
              | _ => exact trivial
          · exact trivial
        · exact trivial
      | _ => exact trivial
/-- len(o) by the class's own -/
theorem de_lenO {e : Expr} {me : EM} {p pos : Pos} (T : MethD X.prog X.w X.K X.mg X.base k C "__len__" ps fm) (hr : Room j X.A) (hj : k + 1 ≤ j) (hgd : Qt X.A X.base) (hg : Gl X "len") (hm : X.mg "len" = none) (he : DE X W e me)
    (hst : starEach [e] X.env = (false, eval e X.env) :: starEach [] X.env := by rfl) (hpl : (backTo pos (starEach [] X.env)).any (·.1) = false := by rfl) : DE X W (.Call (.Name "len" p) [e] [] pos) (eL (fLenO C fm) (aCons me aNil)) := by
  obtain ⟨Ca, f, fd, hk, c, hmm, F, hb⟩ := T.ex
  exact de_callB (call_lenO hmm F hb (hr.mono hj) hgd) (act_lenO hk) hg hm PySem.boot_len (da_cons he da_nil hst) (by decide) (by decide) hst hpl
end
end
end DL

set_option Elab.async false
set_option linter.all false
set_option maxRecDepth 100000
set_option maxHeartbeats 4000000
/-! DZ16: zip(xs, ys, zs) without strict. Printed by mkdz16.py. -/
namespace DL
open PySem PySem.Spec PyProof.Rows L2
section
variable {prog : Program} {w : World} {A : Around} {E : Value → Shared → Prop} {s : Shared}
end
/-! ### made -/
abbrev z3pH1 (h : Heap) (l1 : Addr) : Heap := h.push { cls := .type "list_iterator", data := .fields #[.ref l1, .int 0 0] }
abbrev z3pH2 (h : Heap) (l1 l2 : Addr) : Heap := (z3pH1 h l1).push { cls := .type "list_iterator", data := .fields #[.ref l2, .int 0 0] }
abbrev z3pH3 (h : Heap) (l1 l2 l3 : Addr) : Heap := (z3pH2 h l1 l2).push { cls := .type "list_iterator", data := .fields #[.ref l3, .int 0 0] }
abbrev z3pH4 (h : Heap) (l1 l2 l3 : Addr) : Heap := (z3pH3 h l1 l2 l3).push { cls := .type "tuple", data := .seq #[.ref h.objs.size, .ref (z3pH1 h l1).objs.size, .ref (z3pH2 h l1 l2).objs.size] }
abbrev z3pH5 (h : Heap) (l1 l2 l3 : Addr) : Heap := (z3pH4 h l1 l2 l3).push { cls := .type "tuple", data := .seq #[.none, .none, .none] }
abbrev z3pH6 (h : Heap) (l1 l2 l3 : Addr) : Heap := (z3pH5 h l1 l2 l3).push { cls := .type "zip", data := .fields #[.none, .bool false, .bool false, .ref (z3pH3 h l1 l2 l3).objs.size, .ref (z3pH4 h l1 l2 l3).objs.size] }
section
variable {prog : Program} {w : World} {A : Around} {E : Value → Shared → Prop} {s : Shared}
end
def Itz3p (K : PySem.W.Frag) (a b c : Addr) : It :=
  ⟨fun i H => ∃ (xs ys us : List V) (x y u : V), SqL K H a xs ∧ SqL K H b ys ∧ SqL K H c us ∧ xs[i]? = some x ∧ ys[i]? = some y ∧ us[i]? = some u,
    fun i H v H' => ∃ T x y u, v = .ref T ∧ H T = none ∧ H' = upd H T (.tup [x, y, u]) ∧ (∀ xs, SqL K H a xs → xs[i]? = some x) ∧ (∀ ys, SqL K H b ys → ys[i]? = some y) ∧ ∀ us, SqL K H c us → us[i]? = some u,
    fun i H => ∃ xs ys us : List V, SqL K H a xs ∧ SqL K H b ys ∧ SqL K H c us ∧ (xs.length ≤ i ∨ ys.length ≤ i)⟩
def iZ3p (K : PySem.W.Frag) (ta : TA) : TI := fun σ H R => ta σ H fun vs H2 => ∃ a b c xs ys us, vs = [.ref a, .ref b, .ref c] ∧ SqL K H2 a xs ∧ SqL K H2 b ys ∧ SqL K H2 c us ∧ R (Itz3p K a b c) H2
/-! ### as data -/
def mItZ3p : List D → M ItD
  | [d, e, f] => fun S => match frozenL d, frozenL e, frozenL f with
    | some xs, some ys, some zs => if min xs.length ys.length ≤ zs.length then .ok (itL (zip3D xs ys zs)) S else .stuck
    | _, _, _ => .stuck
  | _ => fun _ => .stuck
end DL

set_option Elab.async false
set_option linter.all false
set_option maxRecDepth 100000
/-! DZ17: len(set(xs)) of ints. -/
namespace DL
open PySem PySem.Spec PyProof.Rows L2
noncomputable section
def rLS (K : PySem.W.Frag) : V → Hp → VK → Prop := fun v H Q => ∃ (l : Addr) (ns : List Int), v = .ref l ∧ SqL K H l (ns.map V.int) ∧ ns.length ≤ 4000 ∧ Q (.int ((PyProof.Rows.firstMet (fun i => ns.getD i 0) ns.length).length : Nat)) H
def mLenSet (d : D) : M D := fun S => match (listOf S d).bind intsOf with
  | some ns => if ns.length ≤ 4000 then .ok (.int ((PyProof.Rows.firstMet (fun i => ns.getD i 0) ns.length).length : Nat)) S else .stuck
  | none => .stuck
end
end DL

set_option Elab.async false
set_option linter.all false
set_option maxRecDepth 100000
/-! DZ18: sorted(xs) of ints. -/
namespace DL
open PySem PySem.Spec PyProof.Rows L2
noncomputable section
def sortI (ns : List Int) : List Int := ns.mergeSort fun a b => decide (a ≤ b)
def fSortI : List D → M D
  | [d] => fun S => match (listOf S d).bind intsOf with
    | some ns => .ok (.lst ((sortI ns).map .int)) S
    | none => .stuck
  | _ => fun _ => .stuck
end
end DL

set_option Elab.async false
set_option linter.all false
set_option maxRecDepth 100000
/-! DZ19: xs.pop(i). -/
namespace DL
open PySem PySem.Spec PyProof.Rows L2
noncomputable section
def mPopAt : D → List D → M D
  | .cell n, [.int i] => fun S => match S[n]? with
    | some (some (.lst xs)) => match xs[i.toNat]? with
      | some y => if 0 ≤ i ∧ i < 2 ^ 63 then .ok y (S.set n (some (.lst (xs.eraseIdx i.toNat)))) else .stuck
      | none => .stuck
    | _ => .stuck
  | _, _ => fun _ => .stuck
end
end DL

set_option Elab.async false
set_option linter.all false
set_option maxRecDepth 100000
/-! DZ20: xs.remove(i), a list of ints. -/
namespace DL
open PySem PySem.Spec PyProof.Rows L2
noncomputable section
def mRemI : D → List D → M D
  | .cell n, [.int k] => fun S => match S[n]? with
    | some (some (.lst xs)) => match intsOf xs with
      | some ns => match ns.findIdx? (· == k) with
        | some j => .ok .non (S.set n (some (.lst (xs.eraseIdx j))))
        | none => .stuck
      | none => .stuck
    | _ => .stuck
  | _, _ => fun _ => .stuck
end
end DL

set_option Elab.async false
set_option linter.all false
set_option maxRecDepth 100000
set_option maxHeartbeats 4000000
/-! DZ21: a name of a def's own that stands for one of two defs of the text (f = [g, h][i]), called -/
namespace DL
open PySem PySem.Spec PyProof.Rows L2
noncomputable section
/-- which of two defs the data names -/
def pick2 (x1 x2 : Str) (m1 m2 : FM) : D → Option FM
  | .cls n => if n = x1 then some m1 else if n = x2 then some m2 else none
  | _ => none
def eCl (x1 x2 : Str) (m1 m2 : FM) (mv : EM) (a : AM) : EM := fun ρ S => (mv ρ S).bind fun d S1 => match pick2 x1 x2 m1 m2 d with
  | some m => (a ρ S1).bind m
  | none => .stuck
def eClK (x1 x2 : Str) (m1 m2 : FM) (ix : List Nat) (mv : EM) (b : AM) : EM := fun ρ S => (mv ρ S).bind fun d S1 => match pick2 x1 x2 m1 m2 d with
  | some m => (b ρ S1).bind fun es => m (byIx ix [] es)
  | none => .stuck
section
variable {X : Cx} {W : WX} {j k1 k2 : Nat} {ps1 ps2 ks : List Str} {m1 m2 : FM} {x1 x2 y : Str} {st1 st2 : Stmt} {p pos : Pos} {e : Expr} {es : List Expr} {kws : List Keyword} {mv : EM} {mr mk : AM}
/-- the def of the text that a name stands for, as a thing -/
abbrev NmK (X : Cx) (x : Str) : Prop := ∃ C, X.mg x = some (.ref C) ∧ ClsK X.K x (.ref C)
end
/-! ### how these walk (Ok) stands in DQ3 -/
end
end DL

set_option Elab.async false
set_option linter.all false
set_option maxRecDepth 100000
set_option maxHeartbeats 4000000
/-! DZ22: an empty table == a list: False; list.index and sorted, xs.pop(i) as Ok rules stand in Pq1 -/
namespace PySem.SeqAt
open AutoSeq1 (wpAny_loadPart')
open MeetsSeq
section
variable {A : Around} {s : Shared}
end
end PySem.SeqAt
namespace DL
open PySem PySem.Spec PyProof.Rows L2
noncomputable section
/-- an empty table == a list -/
def rEqE (K : PySem.W.Frag) : R2 := fun x y H Q => ∃ a b xs, x = .ref a ∧ y = .ref b ∧ Rd H a (.dK []) ∧ SqL K H b xs ∧ Q (.bl false) H
def oEqE (d e : D) : M D := match d with
  | .dE => fun S => match listOf S e with
    | some _ => .ok (.bl false) S
    | none => .stuck
  | d => oEqDp d e
def rEqAE (K : PySem.W.Frag) : R2 := fun x y H Q => rEqA K x y H Q ∨ rEqE K x y H Q
end
end DL

set_option Elab.async false
set_option linter.all false
set_option maxRecDepth 100000
set_option maxHeartbeats 4000000
/-! DZ23: except (C1, C2) as n: the clause's classes a tuple -/
namespace DL
open PySem PySem.Spec PyProof.Rows L2
/-- what an except's expression comes to, and whether the error is of it -/
def HEv (X : Cx) (tt : Expr) (cs : List Value) : Prop := ∀ (a : Addr) (pn : List (Addr × Obj)) (σ : L2.St) (H : Hp) (s : Shared) (cls : Value) (b : Bool), Inv (X.suite a pn) [] σ H s → PySem.W.Looks (model X.prog X.w) s.heap (typeOf (.ref a)) cls → PySem.W.exmAny X.K cls cs = some b →
  ∀ {Q : Bool → Shared → Prop} {E E2 : Value → Shared → Prop}, (∀ h', (∀ q o, s.heap.get? q = some o → h'.get? q = some o) → Q b { s with heap := h' }) →
    wpAny (model X.prog X.w) (X.A.mark (some (.ref a))) (eval tt X.env) (fun c s₁ => wpAny (model X.prog X.w) (X.A.mark (some (.ref a))) (excMatches (.ref a) c) Q E2 s₁) E s
/-- what the clause wishes of an error of the body: slot i is n's; the error is kept -/
def wKeepT (K : PySem.W.Frag) (cs : List Value) (i : Nat) (ts : TS) (Wout : WX) (D : Ends) : WX := fun cls d σ H =>
  ∃ b, PySem.W.exmAny K cls cs = some b ∧ (b = true → ∀ a, H a = none → ts { nx := fun σ' H' => D.nx (σ'.set i none) H', rt := D.rt, bk := fun σ' H' => D.bk (σ'.set i none) H', ct := fun σ' H' => D.ct (σ'.set i none) H' } (σ.set i (some (.ref a))) (upd H a (ErO cls d a))) ∧
    (b = false → Wout cls d σ H)
def TblT (K : PySem.W.Frag) (cs : List Value) (tbl : Str → Option Bool) : Prop := ∀ n b, tbl n = some b → ∀ cls, ClsK K n cls → PySem.W.exmAny K cls cs = some b
def orT (t t' : Str → Option Bool) : Str → Option Bool := fun n => match t n, t' n with
  | some a, some b => some (a || b)
  | _, _ => none
def noT : Str → Option Bool := fun _ => some false
section
variable {X : Cx} {tt : Expr} {n : Str} {cs : List Value} {i : Nat} {body suite : List Stmt} {b₀ : Stmt} {pos pos' : Pos} {tb : WX → TS} {ts : TS} {Wout : WX}
end
section
variable {X : Cx} {W : WX} {tt : Expr} {n : Str} {cs : List Value} {i : Nat} {body suite : List Stmt} {b₀ : Stmt} {pos pos' : Pos} {mb mh : SD} {tbl : Str → Option Bool}
end
end DL

set_option Elab.async false
set_option linter.all false
set_option maxRecDepth 100000
/-! DZ24: sorted(xs) of pairs of ints. -/
namespace DL
open PySem PySem.Spec PyProof.Rows L2
noncomputable section
def ple (a b : Int × Int) : Bool := decide (a.1 < b.1) || (decide (a.1 = b.1) && decide (a.2 ≤ b.2))
def sortP (ps : List (Int × Int)) : List (Int × Int) := ps.mergeSort ple
def prD (p : Int × Int) : D := .tup [.int p.1, .int p.2]
def prsOf : List D → Option (List (Int × Int))
  | [] => some []
  | .tup [.int i, .int j] :: r => (prsOf r).map ((i, j) :: ·)
  | _ :: _ => none
/-- x is a pair that holds these two ints -/
def PairAt (K : PySem.W.Frag) (H : Hp) (x : V) (p : Int × Int) : Prop := ∃ t, x = .ref t ∧ SqT K H t [.int p.1, .int p.2]
/-- sorted(xs), xs pairs of ints: a new list of the same pairs, sorted -/
def rSortPD (K : PySem.W.Frag) : List V → Hp → VK → Prop := fun vs H Q => ∃ (a : Addr) (xs : List V) (ps : List (Int × Int)), vs = [V.ref a] ∧ SqL K H a xs ∧ xs.length = ps.length ∧ (∀ z ∈ xs.zip ps, PairAt K H z.1 z.2) ∧
  ∀ (zs : List (V × (Int × Int))) p, zs.Perm (xs.zip ps) → zs.map (·.2) = sortP ps → H p = none → Q (.ref p) (upd H p (.lst (zs.map (·.1))))
section
variable {X : Cx}
end
def fSortP : List D → M D
  | [d] => fun S => match (listOf S d).bind prsOf with
    | some ps => .ok (.lst ((sortP ps).map prD)) S
    | none => .stuck
  | _ => fun _ => .stuck
end
end DL

set_option Elab.async false
set_option linter.all false
set_option maxRecDepth 100000
/-! DZ25: x in xs, x and the items data of any depth. -/
namespace DL
open PySem PySem.Spec PyProof.Rows L2
noncomputable section
def inDp (S : Sto) (d e : D) : Option Bool := match topD S e with
  | .lst xs => if (topD S d).pl 60 && (D.lst xs).pl 60 then some ((D.pyL xs).any fun z => PyData.eqv z (topD S d).py) else none
  | _ => none
def oInD (d e : D) : M D := fun S => match inDp S d e with
  | some b => .ok (.bl b) S
  | none => .stuck
def oNotInD (d e : D) : M D := fun S => match inDp S d e with
  | some b => .ok (.bl (!b)) S
  | none => .stuck
end
end DL

set_option Elab.async false
set_option linter.all false
set_option maxRecDepth 100000
set_option maxHeartbeats 4000000
/-! DZ26: errors that are made and not raised: X(..) as a thing. -/
namespace DL
open PySem PySem.Spec PyProof.Rows L2
noncomputable section
/-! ### what is made is kept -/
def eErr0 (n : Str) (a : EM) : EM := fun ρ S => (a ρ S).bind fun _ S1 => .ok (.err n [] []) S1
def eErr1 (n f : Str) (a : AM) : EM := fun ρ S => (a ρ S).bind fun ds S1 => match ds with
  | [d] => .ok (.err n [f] [d]) S1
  | _ => .stuck
def eErr2 (n f g : Str) (a : AM) : EM := fun ρ S => (a ρ S).bind fun ds S1 => match ds with
  | [d, e] => .ok (.err n [g, f] [e, d]) S1
  | _ => .stuck
section
variable {X : Cx} {W : WX} {n f g : Str} {e : Expr} {es : List Expr} {ma : AM} {me : EM} {p pos pos2 : Pos} {j : Nat}
end
section
variable {B newId initId : String} {tl : List Value}
variable {X : Cx} {W : WX} {n f : Str} {e : Expr} {es : List Expr} {ma : AM} {p pos pos2 : Pos} {j : Nat}
end
end
end DL

set_option Elab.async false
set_option linter.all false
set_option maxRecDepth 100000
set_option maxHeartbeats 4000000
/-! DZ27 (printed by mkdz27.py): errors of own classes over KeyError, whose __new__ is another class's (after HandS' Exc and DX4). -/
namespace PySem
namespace HandSPX
open Builtin Builtin.ObjectAttr
/-- what __init__ of a built-in error wants -/
structure InitX (B initId : String) (bm : List Value) : Prop where
  hasB : bm.contains (.type B) = true
  init : Slot B "__init__" initId
  initEntry : entryFor table initId = some Builtin.«BaseException.__init__»
  initSplit : splitId initId = some (B, "__init__")
  initKind : builtinKind initId = some .slot
  initRow : Manifest.signature? initId = some ⟨.positional, "*", B, .self, [⟨"args", .varPos, false⟩]⟩
  noStar : (B != "*") = true
section
variable {M : Model} {A : Around} {E : Value → Shared → Prop} {h : Heap} {g : Array GenState} {d : Drawn} {t : Nat} {os : OsState}
variable {nm q : Str} {C N : Addr} {bs bm bmB : List Value} {hdct : Bool} {sn : List Str} {sub : List Value} {ab : Bool} {col : Option Bool} {dd : Option Addr} {k0 k1 k2 k3 k5 : Option Value} {B newId initId : String}
theorem check_new_ownX (F : ExcBaseFacts B newId initId bmB) (hT : bm.contains (.type B) = true) (hA : bm.contains (.type "AttributeError") = false) (hN : bm.contains (.type "NameError") = false) {rest : List Value} {Q : Unit → Shared → Prop}
    (hC : h.get? C = some (excClassObj nm q C N bs bm hdct sn sub ab col dd k0 k1 k2 k3 k5 newId)) (hq : Q () ⟨h, g, d, t, os⟩) : wpAny M A (checkBuiltinCall newId ⟨.ref C :: rest, []⟩) Q E ⟨h, g, d, t, os⟩ := by
  have hcont : (Value.ref C :: bm).contains (.type B) = true := by rw [List.contains_cons, hT, Bool.or_true]
  have hstar := F.noStar
  simp only [checkBuiltinCall, F.newKind, F.newSplit, F.newRow]
  repeat (first | refine wpAny_loadPart_at hC ?_ | (refine wpAny_isSubtype_exc hC ?_; rw [hcont]) | refine wpAny_staticBase_exc hC ?_ | refine wpAny_madeBy_exc hC ?_ | simp only [bne_self_eq_false, Bool.false_eq_true, if_false] | wp_step)
  exact hq
theorem check_init_ownX (F : InitX B initId bm) {e : Addr} {oe : Obj} {rest : List Value} {Q : Unit → Shared → Prop}
    (hC : h.get? C = some (excClassObj nm q C N bs bm hdct sn sub ab col dd k0 k1 k2 k3 k5 newId)) (he : h.get? e = some oe) (hcls : oe.cls = .ref C) (hq : Q () ⟨h, g, d, t, os⟩) :
    wpAny M A (checkBuiltinCall initId ⟨.ref e :: rest, []⟩) Q E ⟨h, g, d, t, os⟩ := by
  have hcB : (Value.ref C :: bm).contains (.type B) = true := by rw [List.contains_cons, F.hasB, Bool.or_true]
  have hshort := F.noStar
  simp only [checkBuiltinCall, F.initKind, F.initSplit, F.initRow]
  repeat (first | (with_reducible refine wpAny_loadPart_at he ?_; rw [hcls]) | with_reducible refine wpAny_loadPart_at hC ?_ | (with_reducible refine wpAny_isSubtype_exc hC ?_; rw [hcB]) | wp_step)
  refine wpAny_onRaise ?_
  rw [show ∀ (a b : String) (n : Nat), Bind.check ⟨.positional, "*", B, .self, [⟨"args", .varPos, false⟩]⟩ a b n (List.map (fun x => x.fst) ({ pos := Value.ref e :: rest } : Args).kw) = pure () from
    fun a b n => check_star_args _ _ _ _ _ _]
  exact wpAny_pure hq
end
section
variable {prog : Program} {w : World} {A : Around} {E : Value → Shared → Prop} {R : Result → Shared → Prop} {h : Heap} {g : Array GenState} {d : Drawn} {t : Nat} {os : OsState}
variable {nm q : Str} {C N : Addr} {bs bm bmB : List Value} {hdct : Bool} {sn : List Str} {sub : List Value} {ab : Bool} {col : Option Bool} {dd : Option Addr} {k0 k1 k2 k3 k5 : Option Value} {B newId initId : String}
theorem new_ownX (F : ExcBaseFacts B newId initId bmB) (hT : bm.contains (.type B) = true) (hA : bm.contains (.type "AttributeError") = false) (hN : bm.contains (.type "NameError") = false) {rest : List Value}
    (hC : h.get? C = some (excClassObj nm q C N bs bm hdct sn sub ab col dd k0 k1 k2 k3 k5 newId))
    (hq : R (.ok (.ret (.ref (h.objs.size + 1)))) ⟨(h.push { cls := .type "tuple", data := .seq rest.toArray }).push
      { cls := .ref C, data := .fields #[.ref h.objs.size, .none, .none, .none, .bool false, .none] }, g, d, t, os⟩) (hrest : rest.length ≤ sizeLine) :
    codeAny (model prog w) A (.builtin newId ⟨.ref C :: rest, []⟩) R ⟨h, g, d, t, os⟩ := by
  have hends := F.ends
  have hcB : (Value.ref C :: bm).contains (.type B) = true := by rw [List.contains_cons, hT, Bool.or_true]
  have hcA : (Value.ref C :: bm).contains (.type "AttributeError") = false := by rw [List.contains_cons, hA]; rfl
  have hcN : (Value.ref C :: bm).contains (.type "NameError") = false := by rw [List.contains_cons, hN]; rfl
  refine codeAny_builtinAt F.entry ?_
  unfold Builtin.«BaseException.__new__»
  refine wpAt_bind ?_
  show wpAt _ _ _ (stack >>= _) _ _ _
  refine wpAt_bind (wpAt_stack fun p below => wpAt_of_wpAny ?_)
  wp_walk
  refine wpAt_of_wpAny ?_
  rw [F.owner]
  repeat (first | with_reducible refine wpAny_madeHere_exc F.canon hC ?_ | with_reducible refine wpAny_loadPart_at hC ?_ | (with_reducible refine wpAny_isSubtype_exc hC ?_; first | rw [hcB] | rw [hcA] | rw [hcN]) | wp_step)
  show R _ _
  rw [Heap.size_push]
  exact hq
theorem type_call_ownX (F : ExcBaseFacts B newId initId bmB) (hT : bm.contains (.type B) = true) (hA : bm.contains (.type "AttributeError") = false) (hN : bm.contains (.type "NameError") = false) {rest : List Value} {fI : Addr} {Q : Fin → Shared → Prop}
    (hC : h.get? C = some (excClassObj nm q C N bs bm hdct sn sub ab col dd k0 k1 k2 k3 k5 newId))
    (hi : W.Looks (model prog w) h (typeLookup (.ref C) "__init__") (some (.ref fI))) (hb : ∀ self, W.Looks (model prog w) h (bindSpecial (.ref fI) self) (.ref fI, [self])) (hrest : rest.length ≤ sizeLine)
    (hq : codeAny (model prog w) A (.call (.ref fI) ⟨.ref (h.objs.size + 1) :: rest, []⟩)
      (fun r s' => match r with | .ok (.ret v) => v = .none ∧ Q (.done (.ret (.ref (h.objs.size + 1)))) s' | .ok _ => False | .error e => E e s')
      ⟨(h.push (W.kdv_tup rest)).push (excO C h.objs.size), g, d, t, os⟩) :
    wpAny (model prog w) A (Builtin.«type.__call__» ⟨.ref C :: rest, []⟩) Q E ⟨h, g, d, t, os⟩ := by
  repeat (first | with_reducible refine wpAny_loadPart_at hC ?_ | with_reducible refine wpAny_madeBy_exc hC ?_ | wp_step)
  refine codeAny_call_builtin_code (Code.quiet_builtin _ F.quiet) (check_new_ownX F hT hA hN hC ?_)
  refine new_ownX F hT hA hN hC ?_ hrest
  show wpAny _ _ _ _ _ _
  have k : ∀ b o, h.get? b = some o → ((h.push (W.kdv_tup rest)).push (excO C h.objs.size)).get? b = some o := fun b o e => Heap.get?_push_of_some _ (Heap.get?_push_of_some _ e)
  have hC₁ := k _ _ hC
  have hget : ((h.push (W.kdv_tup rest)).push (excO C h.objs.size)).get? (h.objs.size + 1) = some (excO C h.objs.size) := by heap_get
  have hcC : (Value.ref C :: bm).contains (.ref C) = true := by simp
  have i1 := hi.keeps k
  have b1 := (hb (.ref (h.objs.size + 1))).keeps k
  unfold isInstance
  repeat (first | with_reducible refine wpAny_loadPart_at hget ?_ | (with_reducible refine wpAny_isSubtype_exc hC₁ ?_; rw [hcC]) | wp_step)
  show wpAny _ _ (typeLookup (.ref C) _) _ _ _
  refine i1.at ?_
  refine wpAny_holding (wpAny_bind (b1.at ?_))
  refine wpAny_bind (wpAny_call (codeAny_mono hq fun r s' z => ?_))
  rcases r with e | (v | _ | _ | _) <;> first | exact z | exact z.elim | skip
  obtain ⟨rfl, z⟩ := z
  first
    | exact wpAny_pure (wpAny_pure z)
    | (wp_walk; exact z)
theorem call_ownX (F : ExcBaseFacts B newId initId bmB) (hT : bm.contains (.type B) = true) (hA : bm.contains (.type "AttributeError") = false) (hN : bm.contains (.type "NameError") = false) {rest : List Value} {fI : Addr}
    (hC : h.get? C = some (excClassObj nm q C N bs bm hdct sn sub ab col dd k0 k1 k2 k3 k5 newId))
    (hi : W.Looks (model prog w) h (typeLookup (.ref C) "__init__") (some (.ref fI))) (hb : ∀ self, W.Looks (model prog w) h (bindSpecial (.ref fI) self) (.ref fI, [self])) (hrest : rest.length ≤ sizeLine)
    (hq : codeAny (model prog w) (A.under (.builtin "type.__call__" ⟨.ref C :: rest, []⟩)) (.call (.ref fI) ⟨.ref (h.objs.size + 1) :: rest, []⟩) (W.InitBack (h.objs.size + 1) R)
      ⟨(h.push (W.kdv_tup rest)).push (excO C h.objs.size), g, d, t, os⟩) :
    codeAny (model prog w) A (.call (.ref C) ⟨rest, []⟩) R ⟨h, g, d, t, os⟩ := by
  have f1 := tc_lookup
  have f2 := tc_bind (.ref C)
  have hTy : (⟨h, g, d, t, os⟩ : Shared).TypeIs (.ref C) "type" := ⟨_, hC, rfl⟩
  refine codeAny_of_tree ?_
  show wpAny _ _ (callAny (.ref C) _) _ _ _
  repeat (any_goals (first | assumption | with_reducible refine wpAny_loadPart_at hC ?_ | wp_step))
  refine ⟨rfl, ?_⟩
  refine codeAny_call_builtin_at (Code.quiet_builtin _ (by decide +kernel)) entry_typeCall (wpAny_check_type_call_sub hC (type_call_ownX F hT hA hN hC hi hb hrest ?_))
  refine codeAny_mono hq fun r s' z => ?_
  rcases r with e | (v | _ | _ | _) <;> exact z
theorem init_baseX (F : InitX B initId bm) {e t0 : Addr} {rest : List Value}
    (hC : h.get? C = some (excClassObj nm q C N bs bm hdct sn sub ab col dd k0 k1 k2 k3 k5 newId)) (he : h.get? e = some (excO C t0)) (hrest : rest.length ≤ sizeLine)
    (hq : ∀ h' t1, (∀ b o, b ≠ e → h.get? b = some o → h'.get? b = some o) → h'.get? e = some (excO C t1) → R (.ok (.ret .none)) ⟨h', g, d, t, os⟩) :
    codeAny (model prog w) A (.call (.builtin initId) ⟨.ref e :: rest, []⟩) R ⟨h, g, d, t, os⟩ := by
  refine codeAny_call_builtin F.init.plain F.initEntry (check_init_ownX F hC he rfl ?_)
  wp_walk
  refine hq _ h.objs.size (fun b o hb ho => ?_) ?_
  · rw [Heap.get?_update_other _ _ (Ne.symm hb)]
    exact Heap.get?_push_of_some _ ho
  · rw [Heap.get?_update_self _ (Heap.get?_push_of_some _ he) rfl]
    rfl
end
end HandSPX
end PySem
namespace DL
namespace KX
open PySem PySem.Spec PyProof.Rows L2
/-! ### a root of errors -/
structure RootR (B newId initId : String) (tl : List Value) : Prop where
  fn : ∃ BN iN bmN, ExcBaseFacts BN newId iN bmN ∧ tl.contains (.type BN) = true ∧ tl.contains (.type "AttributeError") = false ∧ tl.contains (.type "NameError") = false
  ix : PySem.HandSPX.InitX B initId tl
  st : StoreFacts B tl "object.__setattr__" "object"
  ty : typeOf (.type B) = pure (.type "type")
section
open PySem.W PySem.HandSPX Builtin Builtin.ObjectAttr
variable {prog : Program} {w : World} {A : Around} {R : Result → Shared → Prop} {h0 : Heap} {gs : Array GenState} {dr : Drawn} {tk0 : Nat} {os : OsState}
variable {B newId initId : String} {tl : List Value}
theorem root_pass (T : RootR B newId initId tl) (C : Addr) (self : Value) : refuseLoop self "__setattr__" (.ref C :: tl) = pure () := by
  rw [refuseLoop_ref]; exact T.st.passes self
/-- the first thing kept -/
theorem root_osa {K : PySem.W.Frag} {name : Str} {tk : Tok} {v : Value} {x C : Addr} {fv : Array Value} {cd : ClassData} (T : RootR B newId initId tl)
    (kin : K.In h0) (ex : h0.get? x = some { cls := .ref C, data := .fields fv }) (ec : PySem.W.clsIn K C = some cd) (em : cd.mro = .ref C :: tl) (eh : cd.hasDict = true) (no : PySem.W.findIn K (.ref C) name = some none)
    (k : ∀ h1 tk1 dx, (∀ b o, b ≠ x → h0.get? b = some o → h1.get? b = some o) → h0.objs.size ≤ dx → dx ≠ x → h1.get? x = some { cls := .ref C, dict := some dx, data := .fields fv } →
      h1.Ns1 dx (fun y => if y = name then some v else none) → R (.ok (.ret .none)) ⟨h1, gs, dr, tk1, os⟩) :
    codeAny (model prog w) A (.call (.builtin "object.__setattr__") ⟨[.ref x, .str name tk, v], []⟩) R ⟨h0, gs, dr, tk0, os⟩ := by
  have at0 : PySem.W.InstAt h0 x { cls := .ref C, data := .fields fv } C none := ⟨ex, rfl, rfl, trivial⟩
  have sf := F.store_object
  have nel : cd.mro.isEmpty = false := by rw [em]; rfl
  have hasO : cd.mro.contains (.type "object") = true := by rw [em, List.contains_cons, T.st.hasOwner, Bool.or_true]
  have apart : x ≠ h0.objs.size := Nat.ne_of_lt (Heap.lt_size ex)
  have isO : PySem.W.Looks (model prog w) h0 (isInstance (.ref x) (.type "object")) true := at0.type.andThen (PySem.W.looks_mroIn kin (by unfold PySem.W.mroIn; rw [ec, Option.bind_some, if_neg (by rw [nel]; decide), hasO]))
  refine codeAny_call_builtin sf.slot.plain sf.entry (@PySem.W.check_slot (model prog w) _ _ ⟨h0, gs, dr, tk0, os⟩ "object.__setattr__" "object" "__setattr__" (.ref x) [.str name tk, v] [] _ sf.kind sf.split isO (sf.args (.ref x) (.str name tk) v) ?_)
  have looksM : PySem.W.Looks (model prog w) h0 (mroOf (.ref C)) cd.mro := (PySem.W.looks_clsIn kin ec).andThen .now
  have looksT : PySem.W.Looks (model prog w) h0 (storeTaker? none) none := .now
  have looksC : PySem.W.Looks (model prog w) h0 (classData C) cd := PySem.W.looks_clsIn kin ec
  rw [PySem.W.osa_eq, refuse_eq]
  refine wpAny_bind (wpAny_bind (at0.type.at (wpAny_bind (looksM.at ?_))))
  rw [em, root_pass T]
  refine wpAny_pure (wpAny_bind (at0.type.at (wpAny_bind ((PySem.W.looks_findIn kin no).at (wpAny_bind (looksT.at ?_))))))
  show wpAny _ _ (storeInOwnDict (Value.ref x) (Value.ref C) (.str name tk) name v false) _ _ _
  obtain ⟨nm, bs, mro, ns, qn, hd, sn, sb, ab, col, del⟩ := cd
  dsimp only at eh
  subst eh
  unfold storeInOwnDict ownDictForStores
  repeat (first | with_reducible refine store_in_new ?_ ?_ | with_reducible refine wpAny_loadPart_at ex ?_ | with_reducible refine looksC.at ?_ | wp_step)
  · exact ⟨_, #[], _, (Heap.get?_update_ne _ _ _ _ apart.symm).trans (Heap.get?_push_at rfl rfl), rfl, fun _ he => absurd he (by simp), fun _ => rfl⟩
  · intro h1 tk1 n1 sb1
    have ex1 : (h0.push { cls := .type "dict", data := .dict #[] }).get? x = some { cls := .ref C, data := .fields fv } := Heap.get?_push_of_some _ ex
    refine k h1 tk1 h0.objs.size (fun b o nb eb => ?_) (Nat.le_refl _) apart.symm ?_ n1
    · exact (sb1.2 b (Nat.ne_of_lt (Heap.lt_size eb))).trans ((Heap.get?_update_ne _ _ _ _ nb).trans (Heap.get?_push_of_some _ eb))
    · exact (sb1.2 x apart).trans (Heap.get?_update_self _ ex1 rfl)
end
/-! ### a class over such a root -/
structure OexR (newId : String) (tl : List Value) (K : PySem.W.Frag) (C : Addr) : Prop where
  cls : ∃ nm q N bs sn sub ab col dd k0 k1 k2 k3 k5, K.lookup C = some (excClassObj nm q C N bs tl true sn sub ab col dd k0 k1 k2 k3 k5 newId)
  sa : PySem.W.findIn K (.ref C) "__setattr__" = some (some (.builtin "object.__setattr__"))
  exC : PySem.W.subIn K (.ref C) (.type "BaseException") = some true
  tyC : PySem.W.typeIn K (.ref C) = some (.type "type")
  kC : PySem.W.keepIn K (.ref C) = true
section
variable {B newId initId : String} {tl : List Value}
variable {X : Cx} {pins : List (Addr × Obj)} {σ : L2.St} {H : Hp} {s : Shared} {a C : Addr} {f : Str} {y : V} {u : Value} {Q : Unit → Shared → Prop} {E : Value → Shared → Prop} {A : Around}
theorem clsIn_root (T : OexR newId tl X.K C) : ∃ cd, PySem.W.clsIn X.K C = some cd ∧ cd.mro = .ref C :: tl ∧ cd.hasDict = true := by
  obtain ⟨nm, q, N, bs, sn, sub, ab, col, dd, k0, k1, k2, k3, k5, hC⟩ := T.cls
  refine ⟨{ name := nm, bases := bs, mro := .ref C :: tl, ns := N, qualname := q, hasDict := true, slotNames := sn, subclasses := sub, abstract := ab, collection := col, hasDel := false }, ?_, rfl, rfl⟩
  unfold PySem.W.clsIn
  rw [hC] <;> rfl
/-- self.f = y, the first one -/
theorem root_ost (R : RootR B newId initId tl) (T : OexR newId tl X.K C) (I : Inv X pins σ H s) (e : H a = some (exo a C none)) (no : PySem.W.findIn X.K (.ref C) f = some none) (ry : RelV y u)
    (k : ∀ dx s1, H dx = none → dx ≠ a → Inv X pins σ (upd (upd H dx (exd dx [(f, y)])) a (exo a C (some dx))) s1 → Q () s1) : wpAny (model X.prog X.w) A (setAttr (.ref a) f u) Q E s := by
  obtain ⟨cd, ec, em, eh⟩ := clsIn_root T
  obtain ⟨t1, eo⟩ := exo_at I.hok e
  obtain ⟨h0, gs, dr, tk0, os⟩ := s
  refine PySem.W.set_plain I.kIn (ox := { cls := .ref C, dict := none, data := .fields #[.ref t1, .none, .none, .none, .bool false, .none] }) (od := none) ⟨eo, rfl, rfl, trivial⟩ T.sa ?_
  refine root_osa R I.kIn eo ec em eh no fun h1 tk1 dx kp dn dne ex1 n1 => ?_
  have hd0 : H dx = none := I.hok.fresh dn
  have nd : ∀ {b : Addr} {o : Obj}, h0.get? b = some o → b ≠ dx := fun {b o} q => Nat.ne_of_lt (Nat.lt_of_lt_of_le (Heap.lt_size q) dn)
  have na : ∀ {b : Addr}, H b = none → b ≠ a := fun {b} n z => by rw [z, e] at n; cases n
  have un1 : Un X.fs [] H (upd (upd H dx (exd dx [(f, y)])) a (exo a C (some dx))) h0 h1 :=
    ⟨fun b o q n _ _ => kp b o (na n) q, fun b o q n _ _ => ⟨o.slots, kp b o (na n) q⟩, fun b o q n _ => by rw [upd_ne (na n), upd_ne (nd q)]; exact n,
      fun b o q _ => by
        by_cases hb : b = a
        · exact ⟨_, by rw [hb]; exact ex1⟩
        · exact ⟨o, kp b o hb q⟩,
      fun b xs q => by rw [upd_ne (at_ne e q exo_tup), upd_ne (ne_of_none q hd0)]; exact q,
      fun b o v q => by rw [upd_ne (at_ne e q exo_frz), upd_ne (ne_of_none q hd0)]; exact q,
      fun b ps q => ⟨#[], by rw [upd_ne (at_ne e q exo_tbl), upd_ne (ne_of_none q hd0), q]; simp⟩⟩
  refine k dx _ hd0 dne (I.un (t' := tk1) un1 fun b o q => ?_)
  by_cases hb : b = a
  · rw [hb, upd_same] at q
    cases q
    rw [hb]
    exact exo_ok ex1
  rw [upd_ne hb] at q
  by_cases hdx : b = dx
  · rw [hdx, upd_same] at q
    cases q
    rw [hdx]
    exact exd_ok n1 (relO_put (fs := []) ry fun _ => True.intro)
  rw [upd_ne hdx] at q
  refine (I.hok b o q).stay (fun c v hc z => kp c v ?_ z) (fun c hc => ?_) fun c xs hc => ?_
  · rcases hc with hc | hc
    · rw [hc]; exact hb
    · exact at_ne e hc exo_own
  · rw [upd_ne (at_ne e hc exo_own), upd_ne (ne_of_none hc hd0)]; exact hc
  · rw [upd_ne (at_ne e hc exo_tup), upd_ne (ne_of_none hc hd0)]; exact hc
/-- Root.__init__(self, ..): nothing of it is told -/
theorem root_oinit {us : List Value} {Q : Value → Shared → Prop} (R : RootR B newId initId tl) (T : OexR newId tl X.K C) (I : Inv X pins σ H s) (e : H a = some (exo a C none)) (hl : us.length ≤ sizeLine) (k : ∀ s1, Inv X pins σ H s1 → Q .none s1) :
    wpAny (model X.prog X.w) A (call (.builtin initId) (.ref a :: us)) Q E s := by
  obtain ⟨nm, q, N, bs, sn, sub, ab, col, dd, k0, k1, k2, k3, k5, hC⟩ := T.cls
  obtain ⟨t1, eo⟩ := exo_at I.hok e
  obtain ⟨h0, gs, dr, tk0, os⟩ := s
  refine wpAny_call (PySem.HandSPX.init_baseX R.ix (I.kIn _ _ hC) eo hl fun h1 t2 kp ex1 => ?_)
  have J := I.write (t' := tk0) (x := a) (e := a) (o := exo a C none) (by rw [e]; exact True.intro) (.inl rfl) kp ⟨_, ex1⟩ (exo_ok ex1)
  have same : upd H a (exo a C none) = H := funext fun b => by
    by_cases hb : b = a
    · rw [hb, upd_same, e]
    · rw [upd_ne hb]
  rw [same] at J
  exact k _ J
end
/-! ### readings and rules -/
def tRtI (newId : String) (tl : List Value) (K : PySem.W.Frag) (ta : TA) : TE := fun σ H Q => ta σ H fun vs H1 => ∃ (a C : Addr) (ws : List V), vs = .ref a :: ws ∧ ws.length ≤ 1000 ∧ OexR newId tl K C ∧ H1 a = some (exo a C none) ∧ Q .non H1
def tRtO (newId : String) (tl : List Value) (K : PySem.W.Frag) (f : Str) (to te : TE) : TS := fun D σ H => te σ H fun y H1 => to σ H1 fun x H2 => ∃ a C : Addr, x = .ref a ∧ OexR newId tl K C ∧ PySem.W.findIn K (.ref C) f = some none ∧
  H2 a = some (exo a C none) ∧ ∀ dx, H2 dx = none → dx ≠ a → D.nx σ (upd (upd H2 dx (exd dx [(f, y)])) a (exo a C (some dx)))
section
variable {B newId initId : String} {tl : List Value}
variable {X : Cx} {o e : Expr} {es : List Expr} {to te : TE} {ta : TA} {f : Str} {p p' p1 p2 pos : Pos}
theorem pe_rtinit {pl : Sem Bool} {x : Str} (R : RootR B newId initId tl) (hg : Gl X x) (hm : X.mg x = none) (hbt : bootBuiltins x = some (.type B)) (hst : Manifest.isStub B = false) (hhi : PySem.W.handedIn (.builtin initId) = true)
    (fc : PySem.W.findCls X.K (.type B) (.type "type") "__init__" = some (.val (.builtin initId))) (ha : PA X (e :: es) ta) (hx1 : x ≠ "__name__") (hx2 : (x == ("__debug__" : Str)) = false)
    (hc : eval (.Call (.Attribute (.Name x p1) "__init__" p2) (e :: es) [] pos) X.env = (do
      let ov ← eval (.Name x p1) X.env
      standAt p2.atName
      let (f, first) ← holding [ov] (getMethod ov "__init__" pl)
      callWith pos f first (backTo pos (starEach (e :: es) X.env)) (backToKw pos (keywordEach [] X.env))) := by rfl)
    (he : starEach (e :: es) X.env = (false, eval e X.env) :: starEach es X.env := by rfl) (hpl : (backTo pos (starEach es X.env)).any (·.1) = false := by rfl) :
    PE X (.Call (.Attribute (.Name x p1) "__init__" p2) (e :: es) [] pos) (tRtI newId tl X.K ta) := by
  refine ⟨fun pins s σ H Q I h => ?_⟩
  refine PySem.W.methodCall_KW (ld_blt I hg hm hbt ?_ hx1 hx2) hc
  obtain ⟨m, fr⟩ := I.fr
  refine PySem.W.method_type fr I.ok.mod.kin R.ty hst fc hhi ?_
  show wpAny _ _ (callWith pos (Value.builtin initId) [] (backTo pos (starEach (e :: es) X.env)) []) _ _ _
  refine PyProof.Rows.callWith_method1 (thn (ha.run pos pins _ σ H _ (I.tok _) h) fun us s1 ⟨vs, H1, I1, r1, a, C, ws, ev, hl, T, ea, q⟩ => ?_) he hpl
  subst ev
  cases r1 with
  | @cons _ u0 _ ur ra rr =>
    obtain rfl : u0 = Value.ref a := ra
    have short : ur.length ≤ sizeLine := by
      rw [← Paired.length rr, sizeLine_eq]; omega
    exact root_oinit R T I1 ea short fun s2 J => ⟨.non, H1, J, rfl, q⟩
theorem ps_rto (R : RootR B newId initId tl) (ho : PE X o to) (he : PE X e te) (hs : swapsWith e (some (.Attribute o f p')) pos.line X.env = pure false := by rfl) : PS X (.Assign [.Attribute o f p'] e pos) (tRtO newId tl X.K f to te) := by
  refine ⟨fun pins s σ H D I h => ?_⟩
  refine plainObj_wpAny_Assign_Attribute (thn (he.run pins s σ H _ I h) fun v s1 ⟨y, H1, I1, r1, q1⟩ => thn (ho.run pins s1 σ H1 _ I1 q1) fun u s2 ⟨x, H2, I2, r2, a, C, ex, T, no, ea, q⟩ => ?_) hs
  subst ex
  obtain rfl : u = Value.ref a := r2
  exact root_ost R T I2 ea no r1 fun dx s3 n ne J => ⟨σ, _, J, q dx n ne⟩
theorem pmk_root {CX : CXT} {x : Str} {C fI : Addr} {k : Nat} {fd : FuncData} {ps : List Str} {sp : Sp} {ds : List Value} {dvs : List V} (R : RootR B newId initId tl) (T : OexR newId tl X.K C) (iC : PySem.W.findIn X.K (.ref C) "__init__" = some (some (.ref fI))) (tI : PySem.W.typeIn X.K (.ref fI) = some (.type "function"))
    (F1 : FnOk X.prog X.w X.K X.mg X.base CX k fI fd ps sp) (hr : Room (k + 1) X.A) (hb : Binds X.K fd ps ds) (hd : Vals dvs ds) (hx : Passes CX X (fun _ _ _ => False)) (hg : Gl X x) (hm : X.mg x = some (.ref C)) (ha : PA X (e :: es) ta)
    (hdb : (x == ("__debug__" : Str)) = false := by decide) (he : starEach (e :: es) X.env = (false, eval e X.env) :: starEach es X.env := by rfl) (hpl : (backTo pos (starEach es X.env)).any (·.1) = false := by rfl) :
    PMk X (.Call (.Name x p) (e :: es) [] pos) (tMkO C sp dvs ta) := by
  intro pins s σ H Q I h
  obtain ⟨BN, iN, bmN, FN, c1, c2, c3⟩ := R.fn
  obtain ⟨nm, q, N, bs, sn, sub, ab, col, dd, k0, k1, k2, k3, k5, hC⟩ := T.cls
  refine wpAny_Call_Name_kw (ld_glob I hg hm ?_ hdb)
  refine PySem.W.callWith_K (h₀ := X.base) I.ok.mod.kin T.kC (thn (ha.run pos pins s σ H _ I h) fun us s1 ⟨vs, H1, I1, r1, hz, q1⟩ => ⟨I1.kIn, ?_⟩) he hpl
  show wpAny _ _ (call (Value.ref C) us) _ _ _
  obtain ⟨h0, gs, dr, tk0, os⟩ := s1
  have lt : h0.objs.size ≤ h0.objs.size + 1 := Nat.le_succ _
  have fresh1 : H1 (h0.objs.size + 1) = none := I1.hok.fresh lt
  have q2 := q1 (h0.objs.size + 1) fresh1
  have kk : ∀ b o, h0.get? b = some o → ((h0.push (PySem.W.kdv_tup us)).push (PySem.HandSPX.excO C h0.objs.size)).get? b = some o := fun b o e => Heap.get?_push_of_some _ (Heap.get?_push_of_some _ e)
  have made : ((h0.push (PySem.W.kdv_tup us)).push (PySem.HandSPX.excO C h0.objs.size)).get? (h0.objs.size + 1) = some (PySem.HandSPX.excO C h0.objs.size) := by heap_get
  have I2 : Inv X pins σ (upd H1 (h0.objs.size + 1) (exo (h0.objs.size + 1) C none)) ⟨(h0.push (PySem.W.kdv_tup us)).push (PySem.HandSPX.excO C h0.objs.size), gs, dr, tk0, os⟩ :=
    I1.laid (t' := tk0) (a := h0.objs.size + 1) (o := exo (h0.objs.size + 1) C none) (h' := (h0.push (PySem.W.kdv_tup us)).push (PySem.HandSPX.excO C h0.objs.size)) kk lt (exo_ok made)
  have r2 : Vals (V.ref (h0.objs.size + 1) :: (vs ++ dvs)) (Value.ref (h0.objs.size + 1) :: (us ++ ds)) := .cons rfl (r1.append hd)
  have many : (Value.ref (h0.objs.size + 1) :: us ++ ds).length = ps.length := by
    have e := r2.length
    rw [F1.len _ _ _ _ q2] at e
    exact e.symm
  have short : us.length ≤ sizeLine := by
    rw [← Paired.length r1, sizeLine_eq]; omega
  refine wpAny_call (PySem.HandSPX.call_ownX FN c1 c2 c3 (I1.kIn _ _ hC) (PySem.W.looks_findIn I1.kIn iC) (fun self => PySem.W.bind_fn I1.kIn self tI) short
    (codeAny_mono (F1.run _ X.stack _ _ ⟨Value.ref (h0.objs.size + 1) :: us, []⟩ (Value.ref (h0.objs.size + 1) :: (us ++ ds)) _ _ (fun _ _ _ => False) (hr.make C us []) (I2.env0.make C us []) (hb _ (Value.ref (h0.objs.size + 1) :: us) I2.kIn many) r2 q2) fun r s2 z => ?_))
  cases r with
  | error er => exact hx pins σ _ _ er s2 I2 z
  | ok fl =>
    cases fl with
    | ret u =>
      obtain ⟨v, H2, os2, bare2, un2, ok2, rv, ev, d, fs, ea, ed, hd1, q3⟩ := z
      subst ev
      obtain ⟨h2, g2, d2, t2, o2⟩ := s2
      exact ⟨rv, mk_end (raises_own T.exC T.tyC) I1 lt kk un2 ok2 os2 bare2 ea ed hd1 q3⟩
    | next => exact False.elim z
    | brk => exact False.elim z
    | cont => exact False.elim z
end
section
variable {P : Program} {w : World} {K : PySem.W.Frag} {mg : Str → Option Value} {base : Heap}
variable {B newId initId : String} {tl : List Value}
theorem initR_ok {st : Stmt} {qual f : Str} {C fI : Addr} {fd : FuncData} (F : Fun K "__init__" qual st fI fd) (Sc : FnScope ["self", f] ["self", f] (defScope st)) (O : OexR newId tl K C) (hno : PySem.W.findIn K (.ref C) f = some none)
    (hb : ∀ (cdv : Value) (A : Around) (outer : List PySem.Env) (s : Shared) (H : Hp) (E : XK), ∃ m : Str, PSs (cxOf (L2.CX P w) P w K mg base ["self", f] qual (defScope st) fI cdv A outer s H E) (defBody st) (tSeq (tDrop (tRtI newId tl K (tCons (tVar 0) (tCons (tC (.str m)) tNil)))) (tRtO newId tl K f (tVar 0) (tVar 1)))) :
    FnOk P w K mg base (L2.CX P w) 1 fI fd ["self", f] (spI1 C f) := by
  refine F.okX Sc (fun vs H Q E h => ?_) (fun cdv A outer s H vs Q E hr h => ?_)
  · obtain ⟨a, y, rfl, _⟩ := h; rfl
  · obtain ⟨m, pb⟩ := hb cdv A outer s H E
    refine ⟨_, pb, ?_⟩
    obtain ⟨a, y, rfl, ea, k⟩ := h
    refine ⟨_, rfl, a, C, [.str m], rfl, by simp, O, ea, ?_⟩
    refine ⟨_, rfl, _, rfl, a, C, rfl, O, hno, ea, fun dx n ne => ?_⟩
    exact k dx n ne
/-- what the text says of a class of errors over another root, with one thing kept -/
structure ErR (newId : String) (tl : List Value) (P : Program) (w : World) (K : PySem.W.Frag) (mg : Str → Option Value) (base : Heap) (n f : Str) : Prop where
  ex : ∃ (C fI : Addr) (fd : FuncData), mg n = some (.ref C) ∧ ClsK K n (.ref C) ∧ OexR newId tl K C ∧ PySem.W.findIn K (.ref C) "__init__" = some (some (.ref fI)) ∧ PySem.W.typeIn K (.ref fI) = some (.type "function") ∧
    FnOk P w K mg base (L2.CX P w) 1 fI fd ["self", f] (spI1 C f) ∧ Binds K fd ["self", f] []
end
section
variable {B newId initId : String} {tl : List Value}
variable {X : Cx} {W : WX} {n f : Str} {e : Expr} {es : List Expr} {ma : AM} {p pos pos2 : Pos} {j : Nat}
theorem ds_raiseR (R : RootR B newId initId tl) (hc : X.calm = true) (tk : Takes X W) (T : ErR newId tl X.prog X.w X.K X.mg X.base n f) (hr : Room j X.A) (hj : 2 ≤ j) (hg : Gl X n) (ha : DA X W (e :: es) ma) (hdb : (n == ("__debug__" : Str)) = false := by decide)
    (he : starEach (e :: es) X.env = (false, eval e X.env) :: starEach es X.env := by rfl) (hpl : (backTo pos (starEach es X.env)).any (·.1) = false := by rfl) :
    DS X W (.Raise (some (.Call (.Name n p) (e :: es) [] pos)) none pos2) (sRaise1 n f ma) := by
  obtain ⟨C, fI, fd, gC, hk, O, iC, tI, F, hb⟩ := T.ex
  refine PS.le (ps_raise hc tk (pmk_root R O iC tI F (hr.mono hj) hb .nil passesF hg gC ha hdb he hpl)) fun D σ H ⟨hd, as, ρ, S, rel, po⟩ => ?_
  refine tA_to rel po fun as1 S1 H1 vs ds g1 rel1 r1 po1 => ?_
  split at po1
  · rename_i d
    cases r1 with
    | cons r1 rr =>
      cases rr
      rename_i v
      refine ⟨by simp, fun a na => ⟨a, v, rfl, upd_same, fun dx nd ne => ⟨rfl, dx, [(f, v)], upd_same, ?_, ?_, ?_⟩⟩⟩
      · rw [upd_ne ne]; exact upd_same
      · rw [← nd]
        exact (upd_ne ne).symm
      · have hdx : H1 dx = none := by rw [← nd]; exact (upd_ne ne).symm
        have eH : upd (L2.del (upd (upd (upd H1 a (exo a C none)) dx (exd dx [(f, v)])) a (exo a C (some dx))) a) dx (.xd [(f, v)]) = upd H1 dx (.xd [(f, v)]) := by
          funext b
          by_cases hb : b = dx
          · rw [hb, upd_same, upd_same]
          · rw [upd_ne hb, upd_ne hb]
            by_cases hba : b = a
            · rw [hba, L2.del_same, na]
            · rw [L2.del_ne hba, upd_ne hba, upd_ne hb, upd_ne hba]
        rw [eH]
        obtain ⟨w1, g2, e2⟩ := rel1.w.fresh (o := .xd [(f, v)]) hdx
        exact po1 as1 (.ref C) (some dx) σ _ g2 (rel1.grow g2 w1) ⟨hk, gC, [v], .inr ⟨dx, rfl, rfl, e2⟩, .cons (r1.grow g2) .nil⟩
  · exact po1.elim
end
noncomputable section
section
variable {B newId initId : String} {tl : List Value}
variable {X : Cx} {W : WX} {n f : Str} {e : Expr} {es : List Expr} {ma : AM} {p pos pos2 : Pos} {j : Nat}
end
end
end KX
end DL

set_option Elab.async false
set_option linter.all false
set_option maxRecDepth 100000
/-! DZ28: <= of two texts. -/
namespace DL
open PySem PySem.Spec PyProof.Rows L2
noncomputable section
/-- x <= y, texts -/
def oLeS : D → D → M D
  | .str a, .str b => fun S => .ok (.bl (!decide (b.cps.toList < a.cps.toList))) S
  | _, _ => fun _ => .stuck
section
variable {S : Sto} {P : D → Sto → Prop} {a b : Str}
end
end
end DL

set_option Elab.async false
set_option linter.all false
set_option maxRecDepth 100000
/-! DZ29: C(k = v, ..): an object made by keywords alone. -/
namespace DL
open PySem PySem.Spec PyProof.Rows L2
noncomputable section
variable {X : Cx} {W : WX} {k j n : Nat} {C qual : Str} {st : Stmt} {fm : FM} {kws : List Keyword} {mk : AM} {pos p : Pos} {ps ks : List Str} {ix : List Nat} {dvs zd : List V} {kds : List (Str × V)} {dd : List D}
theorem de_makeK0 (T : MakeDD X.prog X.w X.K X.mg X.base k C qual st ps dvs kds fm) (hb : ∀ {f : Addr} {fd : FuncData}, L2.FunD X.K "__init__" qual (defArgs st) (defBody st) (defScope st) dvs kds f fd → KBD X.K fd ps 1 ks ix zd) (hrep : ∀ (as : List Addr) (F : Hp), RepL X.K as F zd dd)
    (hr : Room j X.A) (hj : k + 1 ≤ j) (hgd : Qt X.A X.base) (tk : Takes X W) (hg : Gl X C) (hkw : DK X W kws mk)
    (hn' : ∀ ρ S ds S', mk ρ S = .ok ds S' → ds.length = ks.length)
    (hall : (backToKw pos (keywordEach kws X.env)).all (·.1.isSome) = true := by rfl) (hks : (backToKw pos (keywordEach kws X.env)).filterMap (·.1) = ks := by rfl)
    (hdb : (C == ("__debug__" : Str)) = false := by decide)
    (hpl : ((backTo pos (starEach [] X.env)).any (·.1) || (backToKw pos (keywordEach kws X.env)).any (·.1.isNone)) = false := by rfl) :
    DE X W (.Call (.Name C p) [] kws pos) (eMkK C fm ix dd aNil mk) := by
  obtain ⟨Ca, f, fd, gC, hk, M0, F, Fu⟩ := T.ex
  obtain ⟨dus, rdu, hb⟩ := hb Fu
  refine ⟨fun pins s σ H Q I ⟨hd, as, ρ, S, rel, po⟩ => wpAny_Call_Name_kw (ld_glob I hg gC (PySem.W.callWith_KW0 (h₀ := X.base) I.ok.mod.kin M0.kp hall (thn (hkw.run pos pins s σ H (fun zs H2 => zs.length = ks.length ∧ ∀ x dx, H2 x = none → H2 dx = none → dx ≠ x →
    spM X.K X.mg fm (byIx ix [.ref x] (zs ++ zd)) (upd (upd H2 dx (.own x)) x (.ins Ca dx [])) (fun v H3 => v = .non ∧ Q (.ref x) H3) fun cls d H' => W cls d σ H') I ?_) fun ws s2 ⟨zs, H2, I2, rz, l2, q2⟩ => ⟨I2.kIn, ?_⟩) hpl) hdb)⟩
  · refine ⟨hd, as, ρ, S, rel, ?_⟩
    have po : Post X.K X.mg W σ ρ hd as S H ((mk ρ S).bind fun es S1 => (fm (byIxD ix dd [.cell S1.length] es) (S1 ++ [some (.ins C [])])).bind fun d S' => (match d with
      | .non => .ok (.cell S1.length) S'
      | _ => .stuck : R D)) _ := po
    cases ek : mk ρ S with
    | exc z S2 => rw [ek] at po; exact po
    | stuck => rw [ek] at po; exact po.elim
    | ok es' S2 =>
      rw [ek] at po
      intro as2 H2 g2 rel2 zs r2
      refine ⟨by rw [r2.length]; exact hn' _ _ _ _ ek, fun x dx nx nd ne => ?_⟩
      have po := Post.later (r := (fm (byIxD ix dd [.cell S2.length] es') (S2 ++ [some (.ins C [])])).bind fun d S' => (match d with
        | .non => .ok (.cell S2.length) S'
        | _ => .stuck : R D)) po g2
      obtain ⟨w1, g3, e3⟩ := rel2.w.fresh (o := .own x) nd
      have nx' : upd H2 dx (.own x) x = none := by rw [upd_ne (Ne.symm ne)]; exact nx
      obtain ⟨w2, g4, e4⟩ := w1.newC (co := .ins C []) (o := .ins Ca dx []) nx' ⟨hk, rfl, .nil⟩
      have rel3 : REL X.K hd (as2 ++ [x]) ρ (S2 ++ [some (.ins C [])]) σ (upd (upd H2 dx (.own x)) x (.ins Ca dx [])) := rel2.grow (g3.trans g4) w2
      refine ⟨hd, as2 ++ [x], _, _, w2, byIx_rep (.cons (.cell e4) .nil) ((((r2.grow g3).grow g4)).append (hrep _ _)) ix, ?_⟩
      show match fm (byIxD ix dd [.cell S2.length] es') (S2 ++ [some (.ins C [])]) with
        | .ok _ _ => _
        | .exc _ _ => _
        | .stuck => _
      cases ef : fm (byIxD ix dd [.cell S2.length] es') (S2 ++ [some (.ins C [])]) with
      | stuck => rw [ef] at po; exact po.elim
      | exc z S' =>
        rw [ef] at po
        exact fun as' cls dd H' g w' xr => po as' cls dd H' ((g3.trans g4).trans g) ((rel3.grow g w')) xr
      | ok d S' =>
        rw [ef] at po
        intro as' v H' g w' r'
        cases r' with
        | non => exact ⟨rfl, po as' H' ((g3.trans g4).trans g) (rel3.grow g w') (.ref x) (.cell (g.pre _ _ e4))⟩
        | _ => exact po.elim
  · rw [hks]
    exact run_makeK (n := 0) M0 F (hr.mono hj) hgd tk hb rdu I2 .nil rz rfl l2 (fun _ _ _ _ _ _ _ _ z => z) q2
end
end DL

set_option Elab.async false
set_option linter.all false
set_option maxRecDepth 100000
/-! DZ30: *others, last = a tuple. -/
namespace DL
open PySem PySem.Spec PyProof.Rows L2
noncomputable section
section
variable {prog : Program} {w : World} {A : Around} {E : Value → Shared → Prop} {s : Shared}
/-- the items of a tuple for a target with a star ahead of one name -/
theorem star_itemsT {l : Addr} {items : Array Value} {R : List Value → Shared → Prop} (hl : PyProof.Rows.IsTup s.heap l items) (hh : A.handled = none) (one : 1 ≤ items.size) (hz : items.size ≤ 16384)
    (k : ∀ (g : Heap) (t : Nat), (∀ b o, s.heap.get? b = some o → g.get? b = some o) → R ([.ref g.objs.size] ++ items.toList.drop (items.size - 1)) { s with heap := g.push { cls := .type "list", data := .seq (items.toList.take (items.size - 1)).toArray }, toks := t }) :
    wpAny (model prog w) A (unpackItems (.ref l) 2 (some 0)) R E s := by
  have hlt : l ≠ s.heap.objs.size := by obtain ⟨o, ho, _⟩ := hl; exact Nat.ne_of_lt (Heap.lt_size ho)
  unfold unpackItems
  refine wpAny_bind ?_
  unfold notIterableAtAll
  refine wpAny_bind (wpAny_specialOf hl.typeIs slot_tuple_iter.lookup ?_)
  refine wpAny_pure ?_
  simp only [Bool.false_eq_true, if_false]
  refine wpAny_bind (wpAny_holding (PyProof.Rows.iter_tuple hl ?_))
  refine wpAny_bind (wpAny_holding (PyProof.Rows.draw_tuple hlt 0 0 _ _ ⟨_, Heap.get?_push_size _ rfl, rfl, rfl⟩ (hl.push _) (by omega) fun h₁ hit₁ hs₁ => ?_))
  have hl₁ : PyProof.Rows.IsTup h₁ l items := (hl.push _).extBut hs₁.extBut hlt
  obtain ⟨oi, hoi, _⟩ := id hit₁
  obtain ⟨ol, hol, _⟩ := id hl₁
  rw [List.drop_zero]
  have hfl : (items.toList.take 0).length = 0 := by simp
  rw [if_neg (show ¬ ((items.toList.take 0).length < 0) by rw [hfl]; omega)]
  refine wpAny_bind (wpAny_holding (PySem.W.kun_collect (s := { s with heap := h₁ }) (T := "tuple_iterator") (.inr (.inr (.inr rfl))) (Walks.tuple (A := A.in1) hh s.heap.objs.size l hlt items) (fun j u st => st.1.typeIs) (k := 0) (by omega) ⟨hit₁, hl₁⟩ (Heap.lt_size hoi) (Heap.lt_size hol) (fun h₂ tk hk => ?_) (by rw [sizeLine_eq]; omega)))
  have hrl : (items.toList.drop 0).length = items.size := by rw [List.drop_zero, Array.length_toList]
  rw [if_neg (by omega)]
  have tk : (items.toList.drop 0).length - (2 - 1 - 0) = items.size - 1 := by rw [hrl]
  rw [tk, List.drop_zero]
  have he : ∀ b o, s.heap.get? b = some o → h₂.get? b = some o := fun b o e => hk b o (Nat.ne_of_lt (Heap.lt_size e)) (hs₁.extBut b o (Nat.ne_of_lt (Heap.lt_size e)) (Heap.get?_push_of_some _ e))
  refine wpAny_bind (wpAny_newList (wpAny_pure ?_) (by rw [List.length_take, Array.length_toList, sizeLine_eq]; omega))
  exact k h₂ _ he
end
theorem vals_snoc {x : V} : ∀ {xs : List V} {its : List Value}, Vals (xs ++ [x]) its → ∃ us u, its = us ++ [u] ∧ Vals xs us ∧ RelV x u
  | [], _, .cons r .nil => ⟨[], _, rfl, .nil, r⟩
  | y :: xs, _, .cons r rr => by
    obtain ⟨us, u, e, h1, h2⟩ := vals_snoc (xs := xs) rr
    exact ⟨_ :: us, u, by rw [e]; rfl, .cons r h1, h2⟩
theorem reps_snoc {K : PySem.W.Frag} {as : List Addr} {F : Hp} {d : D} : ∀ {ds : List D} {vs : List V}, RepL K as F vs (ds ++ [d]) → ∃ us u, vs = us ++ [u] ∧ RepL K as F us ds ∧ Rep K as F u d
  | [], _, .cons r .nil => ⟨[], _, rfl, .nil, r⟩
  | y :: ds, _, .cons r rr => by
    obtain ⟨us, u, e, h1, h2⟩ := reps_snoc (ds := ds) rr
    exact ⟨_ :: us, u, by rw [e]; rfl, .cons r h1, h2⟩
/-- *x, y = a tuple -/
def gStarF (K : PySem.W.Frag) (i j : Nat) : TG := fun v σ H Q => ∃ a x xs, v = .ref a ∧ SqT K H a (xs ++ [x]) ∧ xs.length < 16000 ∧ ∀ p, H p = none → Q ((σ.set i (some (.ref p))).set j (some x)) (upd H p (.lst xs))
section
variable {X : Cx} {pos : Pos}
theorem pg_starF {t1 t2 : Expr} {sp : Pos} {i j k : Nat} (hc : X.calm = true) (h1 : PG X t1 (gName i)) (h2 : PG X t2 (gName j)) (he : assignEach [.Starred t1 sp, t2] X.env = [(true, assign t1 X.env), (false, assign t2 X.env)])
    (hs : (assignEach [t1, t2] X.env).map (·.2) = [assign t1 X.env, assign t2 X.env]) (hs1 : (assignEach [t1, t2] X.env).map (·.2) = assign t1 X.env :: (assignEach [t2] X.env).map (·.2)) (hs2 : (assignEach [t2] X.env).map (·.2) = assign t2 X.env :: (assignEach [] X.env).map (·.2)) :
    PG X (.Tuple [.Starred t1 sp, t2] k pos) (gStarF X.K i j) := by
  refine ⟨fun pins s σ H v u Q I r hw => ?_⟩
  obtain ⟨a, x, xs, e1, hq, hl, hw⟩ := hw
  subst e1
  cases r
  obtain ⟨its, rv, isT, hz⟩ := I.tuple hq
  obtain ⟨us, u0, rfl, rr, r0⟩ := vals_snoc rv
  have hlen := rr.length
  rw [assign_Tuple]
  refine wpAny_bind (wpAny_standAt ?_)
  unfold unpack
  rw [he]
  refine wpAny_bind (wpAny_holding (star_itemsT (items := (us ++ [u0]).toArray) isT (I.ok.hd hc) (by simp) (by simp; omega) fun g t keep => ?_))
  have e1 : (us ++ [u0]).toArray.size - 1 = us.length := by simp
  rw [e1]
  have e2 : (us ++ [u0]).toArray.toList.drop us.length = [u0] := by simp
  have e3 : (us ++ [u0]).toArray.toList.take us.length = us := by simp
  rw [e2, e3]
  have new : g.get? g.objs.size = none := by
    cases q : g.get? g.objs.size with
    | none => rfl
    | some z => exact absurd (Heap.lt_size q) (Nat.lt_irrefl _)
  have n1 : s.heap.get? g.objs.size = none := by
    cases q : s.heap.get? g.objs.size with
    | none => rfl
    | some z => rw [keep _ _ q] at new; cases new
  have n2 : H g.objs.size = none := by
    cases q : H g.objs.size with
    | none => rfl
    | some z =>
      obtain ⟨y, hy⟩ := objOk_get (I.hok _ _ q)
      rw [hy] at n1; cases n1
  have ok1 : ObjOk X.prog X.w (upd H g.objs.size (.lst xs)) (g.push { cls := .type "list", data := .seq us.toArray }) g.objs.size (.lst xs) := ⟨by rw [sizeLine_eq]; omega, us, 0, rr, Heap.get?_push_size _ rfl⟩
  have I1 : Inv X pins σ (upd H g.objs.size (.lst xs)) { s with heap := g.push { cls := .type "list", data := .seq us.toArray }, toks := t } := I.laidN (fun b o e => Heap.get?_push_of_some _ (keep b o e)) n1 n2 ok1
  have run := (pgs_cons h1 (pgs_cons h2 pgs_nil hs2) hs1).run pins _ σ _ [.ref g.objs.size, x] [.ref g.objs.size, u0] Q I1 (.cons rfl (.cons r0 .nil)) ⟨_, _, rfl, _, _, rfl, rfl, hw _ n2⟩
  rw [hs] at run
  exact run
end
/-- the data -/
def sStarF (i j : Nat) (m : EM) : SD := fun ρ S => (m ρ S).to ρ fun d S' => match d with
  | .tup ds => match ds.getLast? with
    | some x => if ds.length < 16000 then .ok .nx ((ρ.set i (some (.lst ds.dropLast))).set j (some x)) S' else .stuck
    | none => .stuck
  | _ => .stuck
section
variable {X : Cx} {W : WX} {e : Expr} {me : EM} {pos tpos p1 p2 sp : Pos} {x y : Str} {i j k : Nat}
theorem ds_starF (h : DE X W e me) (h1 : DG X (.Name x p1) (.nm i)) (h2 : DG X (.Name y p2) (.nm j)) (hc : X.calm = true)
    (he : assignEach [.Starred (.Name x p1) sp, .Name y p2] X.env = [(true, assign (.Name x p1) X.env), (false, assign (.Name y p2) X.env)] := by rfl)
    (hs0 : (assignEach [.Name x p1, .Name y p2] X.env).map (·.2) = [assign (.Name x p1) X.env, assign (.Name y p2) X.env] := by rfl)
    (hs1 : (assignEach [.Name x p1, .Name y p2] X.env).map (·.2) = assign (.Name x p1) X.env :: (assignEach [.Name y p2] X.env).map (·.2) := by rfl) (hs2 : (assignEach [.Name y p2] X.env).map (·.2) = assign (.Name y p2) X.env :: (assignEach [] X.env).map (·.2) := by rfl)
    (hs : swapsWithSole [.Tuple [.Starred (.Name x p1) sp, .Name y p2] k tpos] e pos.line X.env = pure false := by rfl) (hw : swappedStores [.Tuple [.Starred (.Name x p1) sp, .Name y p2] k tpos] e X.env = pure none := by rfl)
    (h3 : (assignEach [.Tuple [.Starred (.Name x p1) sp, .Name y p2] k tpos] X.env).map (·.2) = [assign (.Tuple [.Starred (.Name x p1) sp, .Name y p2] k tpos) X.env] := by rfl) :
    DS X W (.Assign [.Tuple [.Starred (.Name x p1) sp, .Name y p2] k tpos] e pos) (sStarF i j me) :=
  PS.le (ps_asg h (pg_starF hc h1 h2 he hs0 hs1 hs2) hs hw h3) fun Dn σ H ⟨hd, as, ρ, S, rel, po⟩ => tE_to rel po fun as1 S1 H1 v d g rel1 r q => by
    cases d with
    | tup ds =>
      cases e1 : ds.getLast? with
      | none => simp only [e1] at q; exact q.elim
      | some z =>
        by_cases hz : ds.length < 16000
        · simp only [e1, hz, if_true] at q
          obtain ⟨a, vs, rfl, hq, rr⟩ := seqT r
          have hne : ds ≠ [] := fun w => by rw [w] at e1; cases e1
          have eds : ds = ds.dropLast ++ [z] := by
            have := List.dropLast_concat_getLast hne
            rw [List.getLast?_eq_some_getLast hne] at e1
            cases e1
            exact this.symm
          rw [eds] at rr
          obtain ⟨us, u, rfl, r1, r0⟩ := reps_snoc rr
          refine ⟨a, _, _, rfl, hq, by rw [r1.length, List.length_dropLast]; omega, fun p hp => ?_⟩
          obtain ⟨w', g', ep⟩ := rel1.w.fresh (o := .lst _) hp
          refine q as1 _ (upd H1 p (.lst _)) g' ⟨w', ?_⟩
          exact ((rel1.grow g' w').s.set (.lst ep (r1.grow g')) i).set (r0.grow g') j
        · simp only [e1, hz, if_false] at q; exact q.elim
    | _ => exact q.elim
end
end
end DL

set_option Elab.async false
set_option linter.all false
set_option maxRecDepth 100000
/-! DP: what a mirror comes to, step by step (a wish behind each step). -/
namespace DL
open PySem PySem.Spec PyProof.Rows
noncomputable section
structure Ok {α : Type} (r : R α) (P : α → Sto → Prop) : Prop where
  out : match r with
    | .ok a S => P a S
    | _ => False
structure OkS (r : RS) (P : Flw → Env → Sto → Prop) : Prop where
  out : match r with
    | .ok f ρ S => P f ρ S
    | _ => False
theorem ok1 {α : Type} {a : α} {S : Sto} {P : α → Sto → Prop} (q : P a S) : Ok (.ok a S) P := ⟨q⟩
theorem okS1 {f : Flw} {ρ : Env} {S : Sto} {P : Flw → Env → Sto → Prop} (q : P f ρ S) : OkS (.ok f ρ S) P := ⟨q⟩
theorem ok2 {α : Type} {a : α} {S : Sto} {P : α → Sto → Prop} (q : Ok (.ok a S) P) : P a S := q.out
theorem Ok.bind {α β : Type} {r : R α} {f : α → M β} {P : β → Sto → Prop} (h : Ok r fun a S => Ok (f a S) P) : Ok (r.bind f) P := by
  cases r with
  | ok a S => exact h.out
  | exc x S => exact h.out.elim
  | stuck => exact h.out.elim
theorem Ok.to {α : Type} {r : R α} {ρ : Env} {k : α → Sto → RS} {P : Flw → Env → Sto → Prop} (h : Ok r fun a S => OkS (k a S) P) : OkS (r.to ρ k) P := by
  cases r with
  | ok a S => exact h.out
  | exc x S => exact h.out.elim
  | stuck => exact h.out.elim
theorem Ok.imp {α : Type} {r : R α} {P Q : α → Sto → Prop} (h : Ok r P) (k : ∀ a S, P a S → Q a S) : Ok r Q := by
  cases r with
  | ok a S => exact ⟨k a S h.out⟩
  | exc x S => exact h.out.elim
  | stuck => exact h.out.elim
theorem Ok.get {α : Type} {r : R α} {P : α → Sto → Prop} (h : Ok r P) : ∃ a S, r = .ok a S ∧ P a S := by
  cases r with
  | ok a S => exact ⟨a, S, rfl, h.out⟩
  | exc x S => exact h.out.elim
  | stuck => exact h.out.elim
theorem Ok.of {α : Type} {r : R α} {P : α → Sto → Prop} {a : α} {S : Sto} (e : r = .ok a S) (h : P a S) : Ok r P := by rw [e]; exact ⟨h⟩
theorem OkS.imp {r : RS} {P Q : Flw → Env → Sto → Prop} (h : OkS r P) (k : ∀ f ρ S, P f ρ S → Q f ρ S) : OkS r Q := by
  cases r with
  | ok f ρ S => exact ⟨k f ρ S h.out⟩
  | exc x ρ S => exact h.out.elim
  | stuck => exact h.out.elim
section
variable {ρ : Env} {S : Sto} {P : D → Sto → Prop} {PB : Bool → Sto → Prop} {PL : List D → Sto → Prop} {PS : Flw → Env → Sto → Prop}
theorem k_var {i : Nat} {d : D} (h : ρ[i]? = some (some d)) (q : P d S) : Ok (eVar i ρ S) P := by unfold eVar; rw [h]; exact ⟨q⟩
theorem k_c {d : D} (q : P d S) : Ok (eC d ρ S) P := ⟨q⟩
theorem k_e1 {f : D → M D} {a : EM} (h : Ok (a ρ S) fun x S1 => Ok (f x S1) P) : Ok (e1 f a ρ S) P := Ok.bind h
theorem k_e2 {f : D → D → M D} {a b : EM} (h : Ok (a ρ S) fun x S1 => Ok (b ρ S1) fun y S2 => Ok (f x y S2) P) : Ok (e2 f a b ρ S) P := Ok.bind (h.imp fun _ _ q => Ok.bind q)
theorem k_nil (q : PL [] S) : Ok (aNil ρ S) PL := ⟨q⟩
theorem k_cons {a : EM} {r : AM} (h : Ok (a ρ S) fun x S1 => Ok (r ρ S1) fun xs S2 => PL (x :: xs) S2) : Ok (aCons a r ρ S) PL := Ok.bind (h.imp fun _ _ q => Ok.bind (q.imp fun _ _ z => ok1 z))
theorem k_L {f : List D → M D} {a : AM} (h : Ok (a ρ S) fun xs S1 => Ok (f xs S1) P) : Ok (eL f a ρ S) P := Ok.bind h
theorem k_K {m : FM} {g : List D → List D → List D} {a b : AM} (h : Ok (a ρ S) fun xs S1 => Ok (b ρ S1) fun ys S2 => Ok (m (g xs ys) S2) P) : Ok (eK m g a b ρ S) P := Ok.bind (h.imp fun _ _ q => Ok.bind q)
theorem k_Mt {chk : D → Sto → Bool} {f : D → List D → M D} {o : EM} {a : AM} (h : Ok (o ρ S) fun x S1 => chk x S1 = true ∧ Ok (a ρ S1) fun xs S2 => Ok (f x xs S2) P) : Ok (eMt chk f o a ρ S) P := Ok.bind (h.imp fun _ _ q => by rw [if_pos q.1]; exact Ok.bind q.2)
theorem k_tup {xs : List D} (hz : xs.length ≤ sizeLine) (q : P (.tup xs) S) : Ok (mTup xs S) P := by unfold mTup; rw [if_pos hz]; exact ⟨q⟩
theorem k_lst {xs : List D} (hz : xs.length ≤ sizeLine) (q : P (.lst xs) S) : Ok (mLst xs S) P := by unfold mLst; rw [if_pos hz]; exact ⟨q⟩
theorem k_cell {xs : List D} (hz : xs.length ≤ sizeLine) (q : P (.cell S.length) (S ++ [some (.lst xs)])) : Ok (mCell xs S) P := by unfold mCell; rw [if_pos hz]; exact ⟨q⟩
theorem k_bVal {a : EM} (h : Ok (a ρ S) fun x S1 => Ok (mBool x S1) PB) : Ok (bVal a ρ S) PB := Ok.bind h
theorem k_mBool {b : Bool} (q : PB b S) : Ok (mBool (.bl b) S) PB := ⟨q⟩
theorem k_bNot {a : BM} (h : Ok (a ρ S) fun b S1 => PB (!b) S1) : Ok (bNot a ρ S) PB := Ok.bind (h.imp fun _ _ q => ok1 q)
theorem k_bAnd {a b : BM} (h : Ok (a ρ S) fun x S1 => if x = true then Ok (b ρ S1) PB else PB false S1) : Ok (bAnd a b ρ S) PB := Ok.bind (h.imp fun x S1 q => by cases x <;> first | exact ok1 q | exact q)
theorem k_bOr {a b : BM} (h : Ok (a ρ S) fun x S1 => if x = true then PB true S1 else Ok (b ρ S1) PB) : Ok (bOr a b ρ S) PB := Ok.bind (h.imp fun x S1 q => by cases x <;> first | exact ok1 q | exact q)
theorem k_bTru {a : EM} (h : Ok (a ρ S) fun d S1 => ∃ b, truD S1 d = some b ∧ PB b S1) : Ok (bTru a ρ S) PB := Ok.bind (h.imp fun d S1 ⟨b, e, q⟩ => by rw [e]; exact ok1 q)
theorem k_eAnd {a b : EM} (h : Ok (a ρ S) fun d S1 => Ok (mBool d S1) fun x S2 => if x = true then Ok (b ρ S2) P else P (.bl false) S2) : Ok (eAnd a b ρ S) P := Ok.bind (h.imp fun d S1 q => Ok.bind (q.imp fun x S2 q => by cases x <;> first | exact ok1 q | exact q))
theorem k_eOr {a b : EM} (h : Ok (a ρ S) fun d S1 => Ok (mBool d S1) fun x S2 => if x = true then P (.bl true) S2 else Ok (b ρ S2) P) : Ok (eOr a b ρ S) P := Ok.bind (h.imp fun d S1 q => Ok.bind (q.imp fun x S2 q => by cases x <;> first | exact ok1 q | exact q))
theorem k_eNot {a : EM} (h : Ok (a ρ S) fun d S1 => Ok (mBool d S1) fun x S2 => P (.bl (!x)) S2) : Ok (eNot a ρ S) P := Ok.bind (h.imp fun d S1 q => Ok.bind (q.imp fun x S2 q => ok1 q))
theorem k_eIf {c : BM} {a b : EM} (h : Ok (c ρ S) fun x S1 => if x = true then Ok (a ρ S1) P else Ok (b ρ S1) P) : Ok (eIf c a b ρ S) P := Ok.bind (h.imp fun x S1 q => by cases x <;> exact q)
theorem k_chain {f g : D → D → M D} {a b c : EM} (h : Ok (a ρ S) fun x S1 => Ok (b ρ S1) fun y S2 => Ok (f x y S2) fun z S3 => Ok (mBool z S3) fun k S4 => if k = true then Ok (c ρ S4) fun w S5 => Ok (g y w S5) P else P (.bl false) S4) : Ok (eChain f g a b c ρ S) P :=
  Ok.bind (h.imp fun x S1 q => Ok.bind (q.imp fun y S2 q => Ok.bind (q.imp fun z S3 q => Ok.bind (q.imp fun k S4 q => by
    cases k with
    | true => exact Ok.bind q
    | false => exact ok1 q))))
theorem k_oNone {PO : Option Int → Sto → Prop} (q : PO none S) : Ok (oNone ρ S) PO := ⟨q⟩
theorem k_oSome {PO : Option Int → Sto → Prop} {a : EM} (h : Ok (a ρ S) fun d S1 => ∃ i, d = .int i ∧ PO (some i) S1) : Ok (oSome a ρ S) PO := Ok.bind (h.imp fun d S1 ⟨i, e, q⟩ => by subst e; exact ⟨q⟩)
theorem k_Sl {f : D → Option Int → Option Int → M D} {a : EM} {l u : OM} (h : Ok (a ρ S) fun x S1 => Ok (l ρ S1) fun i S2 => Ok (u ρ S2) fun j S3 => Ok (f x i j S3) P) : Ok (eSl f a l u ρ S) P := Ok.bind (h.imp fun x S1 q => Ok.bind (q.imp fun i S2 q => Ok.bind q))
theorem k_frzC {n : Nat} {xs : List D} (h : S[n]? = some (some (.lst xs))) (q : P (.lst xs) (S.set n none)) : Ok (mFrz (.cell n) S) P := by unfold mFrz; dsimp only; rw [h]; exact ⟨q⟩
/-! statements -/
theorem k_seq {a b : SD} (h : OkS (a ρ S) fun f ρ1 S1 => match f with
  | .nx => OkS (b ρ1 S1) PS
  | f => PS f ρ1 S1) : OkS (sSeq a b ρ S) PS := by
  unfold sSeq
  cases e : a ρ S with
  | exc x ρ1 S1 => rw [e] at h; exact h.out.elim
  | stuck => rw [e] at h; exact h.out.elim
  | ok f ρ1 S1 => rw [e] at h; cases f <;> first | exact h.out | exact ⟨h.out⟩
theorem k_nx (q : PS .nx ρ S) : OkS (sNx ρ S) PS := ⟨q⟩
theorem k_brk (q : PS .brk ρ S) : OkS (sBrk ρ S) PS := ⟨q⟩
theorem k_cnt (q : PS .cnt ρ S) : OkS (sCnt ρ S) PS := ⟨q⟩
theorem k_ret {m : EM} (h : Ok (m ρ S) fun d S1 => PS (.ret d) ρ S1) : OkS (sRet m ρ S) PS := Ok.to (h.imp fun _ _ => okS1)
theorem k_retN (q : PS (.ret .non) ρ S) : OkS (sRetN ρ S) PS := ⟨q⟩
theorem k_set {i : Nat} {m : EM} (h : Ok (m ρ S) fun d S1 => PS .nx (ρ.set i (some d)) S1) : OkS (sSet i m ρ S) PS := Ok.to (h.imp fun _ _ => okS1)
theorem k_expr {m : EM} (h : Ok (m ρ S) fun d S1 => PS .nx ρ S1) : OkS (sExpr m ρ S) PS := Ok.to (h.imp fun _ _ => okS1)
theorem k_if {c : BM} {a b : SD} (h : Ok (c ρ S) fun k S1 => if k = true then OkS (a ρ S1) PS else OkS (b ρ S1) PS) : OkS (sIf c a b ρ S) PS := Ok.to (h.imp fun k S1 q => by cases k <;> exact q)
theorem k_par {i j : Nat} {m : AM} (h : Ok (m ρ S) fun ds S1 => ∃ x y, ds = [x, y] ∧ PS .nx ((ρ.set i (some x)).set j (some y)) S1) : OkS (sPar i j m ρ S) PS := Ok.to (h.imp fun ds S1 ⟨x, y, e, q⟩ => by subst e; exact ⟨q⟩)
theorem k_asg {T : Tg} {m : EM} (h : Ok (m ρ S) fun d S1 => ∃ ρ1, asg T d ρ = some ρ1 ∧ PS .nx ρ1 S1) : OkS (sAsg T m ρ S) PS := Ok.to (h.imp fun d S1 ⟨ρ1, e, q⟩ => by rw [e]; exact ⟨q⟩)
theorem k_star {i j : Nat} {m : EM} (h : Ok (m ρ S) fun d S1 => ∃ x xs, DL.listOf S1 d = some (x :: xs) ∧ xs.length < 16000 ∧ PS .nx ((ρ.set i (some x)).set j (some (.lst xs))) S1) : OkS (sStar i j m ρ S) PS := Ok.to (h.imp fun d S1 ⟨x, xs, e, hz, q⟩ => by rw [e]; dsimp only; rw [if_pos hz]; exact ⟨q⟩)
theorem k_sub {f : D → D → D → Sto → Option Sto} {o i m : EM} (h : Ok (m ρ S) fun v S1 => Ok (o ρ S1) fun x S2 => Ok (i ρ S2) fun k S3 => ∃ S4, f x k v S3 = some S4 ∧ PS .nx ρ S4) : OkS (sSub f o i m ρ S) PS :=
  Ok.to (h.imp fun v S1 q => Ok.to (q.imp fun x S2 q => Ok.to (q.imp fun k S3 ⟨S4, e, q⟩ => by rw [e]; exact ⟨q⟩)))
/-- a def's call, from its body -/
theorem k_fn {n np : Nat} {m : SD} {ds : List D} (hn : ds.length = np) (h : OkS (m (ds.map some ++ List.replicate (n - np) none) S) fun f ρ' S' => match f with
  | .nx => P .non (trim S .non S')
  | .ret d => P d (trim S d S')
  | _ => False) : Ok (runFn n np m ds S) P := by
  unfold runFn
  rw [if_pos hn, hn]
  cases e : m (ds.map some ++ List.replicate (n - np) none) S with
  | exc x ρ1 S1 => rw [e] at h; exact h.out.elim
  | stuck => rw [e] at h; exact h.out.elim
  | ok f ρ1 S1 => rw [e] at h; cases f <;> first | exact ⟨h.out⟩ | exact h.out.elim
/-! loops over a fixed list -/
theorem k_forL {T : Tg} {b : SD} {xs : List D} (I : Nat → Env → Sto → Prop) (h0 : I 0 ρ S)
    (hs : ∀ i ρ S d, xs[i]? = some d → I i ρ S → ∃ ρ', asg T d ρ = some ρ' ∧ OkS (b ρ' S) fun f ρ2 S2 => match f with
      | .nx => I (i + 1) ρ2 S2
      | .cnt => I (i + 1) ρ2 S2
      | .brk => PS .nx ρ2 S2
      | .ret d => PS (.ret d) ρ2 S2)
    (hd : ∀ ρ S, I xs.length ρ S → PS .nx ρ S) : OkS (forLoop (itL xs).nx T b (itL xs).fu 0 ρ S) PS := by
  have go : ∀ (k i : Nat) (ρ : Env) (S : Sto), k + i = xs.length + 1 → i ≤ xs.length → I i ρ S → OkS (forLoop (itL xs).nx T b k i ρ S) PS := by
    intro k
    induction k with
    | zero => intro i ρ S e l _; omega
    | succ k ih =>
      intro i ρ S e l hI
      unfold forLoop
      show OkS (match some xs[i]? with
        | none => _
        | some none => _
        | some (some d) => _) PS
      by_cases hi : i < xs.length
      · obtain ⟨ρ', ea, hb⟩ := hs i ρ S xs[i] (List.getElem?_eq_getElem hi) hI
        rw [List.getElem?_eq_getElem hi]
        dsimp only
        rw [ea]
        dsimp only
        cases eb : b ρ' S with
        | exc x ρ1 S1 => rw [eb] at hb; exact hb.out.elim
        | stuck => rw [eb] at hb; exact hb.out.elim
        | ok f ρ1 S1 =>
          rw [eb] at hb
          cases f with
          | nx => exact ih (i + 1) ρ1 S1 (by omega) hi hb.out
          | cnt => exact ih (i + 1) ρ1 S1 (by omega) hi hb.out
          | brk => exact ⟨hb.out⟩
          | ret d => exact ⟨hb.out⟩
      · have : i = xs.length := by omega
        subst this
        rw [List.getElem?_eq_none (Nat.le_refl _)]
        exact ⟨hd ρ S hI⟩
  exact go (xs.length + 1) 0 ρ S (by omega) (Nat.zero_le _) h0
theorem k_for {im : IM} {T : Tg} {b : SD} (h : Ok (im ρ S) fun it S1 => OkS (forLoop it.nx T b it.fu 0 ρ S1) PS) : OkS (sFor im T b ρ S) PS := Ok.to h
/-! comprehensions over a fixed list -/
theorem k_lcL {T : Tg} {c : BM} {e : EM} {xs : List D} {ρw : Env} (I : Nat → List D → Sto → Prop) (h0 : I 0 [] S)
    (hs : ∀ i acc S d, xs[i]? = some d → I i acc S → ∃ ρ', asg T d ρw = some ρ' ∧ Ok (c ρ' S) fun k S1 => if k = true then Ok (e ρ' S1) fun y S2 => acc.length < sizeLine ∧ I (i + 1) (acc ++ [y]) S2 else I (i + 1) acc S1)
    (hd : ∀ acc S, I xs.length acc S → PL acc S) : Ok (lcLoop (itL xs).nx T c e ρw (itL xs).fu 0 [] S) PL := by
  have go : ∀ (k i : Nat) (acc : List D) (S : Sto), k + i = xs.length + 1 → i ≤ xs.length → I i acc S → Ok (lcLoop (itL xs).nx T c e ρw k i acc S) PL := by
    intro k
    induction k with
    | zero => intro i acc S e l _; omega
    | succ k ih =>
      intro i acc S el l hI
      unfold lcLoop
      show Ok (match some xs[i]? with
        | none => _
        | some none => _
        | some (some d) => _) PL
      by_cases hi : i < xs.length
      · obtain ⟨ρ', ea, hb⟩ := hs i acc S xs[i] (List.getElem?_eq_getElem hi) hI
        rw [List.getElem?_eq_getElem hi]
        dsimp only
        rw [ea]
        dsimp only
        refine Ok.bind (hb.imp fun k S1 q => ?_)
        cases k with
        | false => exact ih (i + 1) acc S1 (by omega) hi q
        | true => exact Ok.bind (q.imp fun y S2 q2 => by rw [if_pos q2.1]; exact ih (i + 1) _ S2 (by omega) hi q2.2)
      · have : i = xs.length := by omega
        subst this
        rw [List.getElem?_eq_none (Nat.le_refl _)]
        exact ⟨hd acc S hI⟩
  exact go (xs.length + 1) 0 [] S (by omega) (Nat.zero_le _) h0
theorem noX_ok {α : Type} {r : R α} {Q : α → Sto → Prop} (h : Ok r Q) : Ok (noX r) Q := by
  cases r with
  | ok a S => exact h
  | exc x S => exact h.out.elim
  | stuck => exact h.out.elim
theorem k_lc {im : IM} {T : Tg} {c : BM} {e : EM} {vs : List Nat} (h : Ok (im ρ S) fun it S1 => Ok (lcLoop it.nx T c e (wipeD ρ vs) it.fu 0 [] S1) fun xs S2 => P (.lst xs) S2) : Ok (eLc im T c e vs ρ S) P := Ok.bind (h.imp fun it S1 q => Ok.bind ((noX_ok q).imp fun _ _ => ok1))
theorem k_lcC {im : IM} {T : Tg} {c : BM} {e : EM} {vs : List Nat} (h : Ok (im ρ S) fun it S1 => Ok (lcLoop it.nx T c e (wipeD ρ vs) it.fu 0 [] S1) fun xs S2 => P (.cell S2.length) (S2 ++ [some (.lst xs)])) : Ok (eLcC im T c e vs ρ S) P := Ok.bind (h.imp fun it S1 q => Ok.bind ((noX_ok q).imp fun _ _ => ok1))
theorem k_imOf {PI : ItD → Sto → Prop} {f : D → M ItD} {m : EM} (h : Ok (m ρ S) fun d S1 => Ok (f d S1) PI) : Ok (imOf f m ρ S) PI := Ok.bind h
theorem k_imOfA {PI : ItD → Sto → Prop} {f : List D → M ItD} {m : AM} (h : Ok (m ρ S) fun d S1 => Ok (f d S1) PI) : Ok (imOfA f m ρ S) PI := Ok.bind h
theorem k_yes (q : PB true S) : Ok (bYes ρ S) PB := ⟨q⟩
end
/-! operations -/
section
variable {S : Sto} {P : D → Sto → Prop} {i j : Int} {a b : Bool} {x y : Str} {xs ys : List D}
theorem o_add (q : P (.int (i + j)) S) : Ok (oAdd (.int i) (.int j) S) P := ⟨q⟩
theorem o_sub (q : P (.int (i - j)) S) : Ok (oSub (.int i) (.int j) S) P := ⟨q⟩
theorem o_mul (h : IntMulOk i j) (q : P (.int (i * j)) S) : Ok (oMul (.int i) (.int j) S) P := by
  unfold oMul
  dsimp only
  rw [if_pos h]; exact ⟨q⟩
theorem o_fdiv (h : j ≠ 0) (h2 : j.natAbs.log2 < 9000) (q : P (.int (i.fdiv j)) S) : Ok (oFdiv (.int i) (.int j) S) P := by
  show Ok (opI _ _ _ _ S) P
  unfold opI
  dsimp only
  rw [if_pos (show CDivA i j from ⟨h, h2⟩)]; exact ⟨q⟩
theorem o_mod (h : j ≠ 0) (q : P (.int (i.fmod j)) S) : Ok (oMod (.int i) (.int j) S) P := by
  show Ok (opI _ _ _ _ S) P
  unfold opI
  dsimp only
  rw [if_pos h]; exact ⟨q⟩
theorem o_pow (h : L2.CPow i j) (q : P (.int (i ^ j.toNat)) S) : Ok (oPow (.int i) (.int j) S) P := by
  show Ok (opI _ _ _ _ S) P
  unfold opI
  dsimp only
  rw [if_pos h]; exact ⟨q⟩
theorem o_lt (q : P (.bl (decide (i < j))) S) : Ok (oLt (.int i) (.int j) S) P := ⟨q⟩
theorem o_le (q : P (.bl (decide (i ≤ j))) S) : Ok (oLe (.int i) (.int j) S) P := ⟨q⟩
theorem o_gt (q : P (.bl (decide (j < i))) S) : Ok (oGt (.int i) (.int j) S) P := ⟨q⟩
theorem o_ge (q : P (.bl (decide (j ≤ i))) S) : Ok (oGe (.int i) (.int j) S) P := ⟨q⟩
theorem o_neg (q : P (.int (-i)) S) : Ok (oNeg (.int i) S) P := ⟨q⟩
theorem o_addL (hz : xs.length + ys.length ≤ sizeLine) (q : P (.lst (xs ++ ys)) S) : Ok (oAdd (.lst xs) (.lst ys) S) P := by
  show Ok (oCat (.lst xs) (.lst ys) S) P
  unfold oCat
  show Ok (if xs.length + ys.length ≤ sizeLine then _ else _) P
  rw [if_pos hz]; exact ⟨q⟩
theorem o_eqI (q : P (.bl (decide (i = j))) S) : Ok (oEq (.int i) (.int j) S) P := by
  have e : PyData.eqv (D.int i).py (D.int j).py = decide (i = j) := by simp [D.py, PyData.eqv]; rfl
  first | unfold oEq | unfold oNe
  simp only [topD, eqD, D.pl, Bool.and_self, if_true, e]
  exact ⟨q⟩
theorem o_neI (q : P (.bl (!decide (i = j))) S) : Ok (oNe (.int i) (.int j) S) P := by
  have e : PyData.eqv (D.int i).py (D.int j).py = decide (i = j) := by simp [D.py, PyData.eqv]; rfl
  first | unfold oEq | unfold oNe
  simp only [topD, eqD, D.pl, Bool.and_self, if_true, e]
  exact ⟨q⟩
theorem o_eqS (q : P (.bl (decide (x = y))) S) : Ok (oEq (.str x) (.str y) S) P := ⟨q⟩
theorem o_neS (q : P (.bl (!decide (x = y))) S) : Ok (oNe (.str x) (.str y) S) P := ⟨q⟩
theorem o_eqB (q : P (.bl (decide (a = b))) S) : Ok (oEq (.bl a) (.bl b) S) P := by
  have e : PyData.eqv (D.bl a).py (D.bl b).py = decide (a = b) := by cases a <;> cases b <;> simp [D.py, PyData.eqv]
  first | unfold oEq | unfold oNe
  simp only [topD, eqD, D.pl, Bool.and_self, if_true, e]
  exact ⟨q⟩
/-- any data -/
theorem o_eqD {d e : D} (hd : ∀ s, d ≠ .str s) (h1 : (topD S d).pl 60 = true) (h2 : (topD S e).pl 60 = true) (q : P (.bl (PyData.eqv (topD S d).py (topD S e).py)) S) : Ok (oEq d e S) P := by
  unfold oEq
  have : eqD d e (topD S d) (topD S e) = some (PyData.eqv (topD S d).py (topD S e).py) := by
    unfold eqD
    split
    · exact absurd rfl (hd _)
    · rw [h1, h2]; rfl
  rw [this]; exact ⟨q⟩
theorem o_neD {d e : D} (hd : ∀ s, d ≠ .str s) (h1 : (topD S d).pl 60 = true) (h2 : (topD S e).pl 60 = true) (q : P (.bl (!PyData.eqv (topD S d).py (topD S e).py)) S) : Ok (oNe d e S) P := by
  unfold oNe
  have : eqD d e (topD S d) (topD S e) = some (PyData.eqv (topD S d).py (topD S e).py) := by
    unfold eqD
    split
    · exact absurd rfl (hd _)
    · rw [h1, h2]; rfl
  rw [this]; exact ⟨q⟩
theorem o_ix {d v : D} (h : (seqOf S d).bind (fun xs => L2.atI xs i) = some v) (q : P v S) : Ok (oIx d (.int i) S) P := by
  cases d <;> first
    | (simp [seqOf, listOf] at h; done)
    | (show Ok (match (seqOf S _).bind (fun xs => L2.atI xs i) with
        | some x => _
        | none => _) P
       rw [h]; exact ⟨q⟩)
theorem o_lenL {d : D} (h : seqOf S d = some xs) (q : P (.int xs.length) S) : Ok (fLen [d] S) P := by
  cases d <;> first
    | (simp [seqOf, listOf] at h; done)
    | (simp only [fLen, h]; exact ⟨q⟩)
theorem o_abs (q : P (.int i.natAbs) S) : Ok (fAbs [.int i] S) P := by
  refine ⟨?_⟩
  show P (.int (if i < 0 then -i else i)) S
  have : (if i < 0 then -i else i) = (i.natAbs : Int) := by split <;> omega
  rw [this]; exact q
theorem o_max2 (q : P (.int (max i j)) S) : Ok (fMax2 [.int i, .int j] S) P := by
  refine ⟨?_⟩
  show P (.int (if j > i then j else i)) S
  have : (if j > i then j else i) = max i j := by split <;> omega
  rw [this]; exact q
theorem o_min2 (q : P (.int (min i j)) S) : Ok (fMin2 [.int i, .int j] S) P := by
  refine ⟨?_⟩
  show P (.int (if j < i then j else i)) S
  have : (if j < i then j else i) = min i j := by split <;> omega
  rw [this]; exact q
theorem o_intB (q : P (.int (if a then 1 else 0)) S) : Ok (fInt [.bl a] S) P := ⟨q⟩
theorem o_intI (q : P (.int i) S) : Ok (fInt [.int i] S) P := ⟨q⟩
theorem o_tupL (q : P (.tup xs) S) : Ok (fTuple [.lst xs] S) P := ⟨q⟩
theorem o_sl {d : D} {lo hi : Option Int} (h : listOf S d = some xs) (q : P (.lst (cutD xs lo hi)) S) : Ok (oSl d lo hi S) P := by
  cases d <;> first
    | (simp [seqOf, listOf] at h; done)
    | (simp only [oSl, oSlL, h]; exact ⟨q⟩)
theorem o_app {n : Nat} {d : D} (h : S[n]? = some (some (.lst xs))) (hz : xs.length < sizeLine) (q : P .non (S.set n (some (.lst (xs ++ [d]))))) : Ok (mAppend (.cell n) [d] S) P := by
  unfold mAppend
  dsimp only
  rw [h]
  dsimp only
  rw [if_pos hz]; exact ⟨q⟩
theorem o_isi {d : D} {c k : String} {r : Bool} (h : kindD S d = some k) (e : L2.kitB k c = some r) (q : P (.bl r) S) : Ok (fIsi [d, .ty c] S) P := by
  unfold fIsi
  dsimp only
  rw [h]
  dsimp only
  rw [e]; exact ⟨q⟩
theorem o_all {d : D} {bs : List Bool} (h : (listOf S d).bind blsOf = some bs) (q : P (.bl (bs.all id)) S) : Ok (fAll [d] S) P := by
  unfold fAll
  dsimp only
  rw [h]; exact ⟨q⟩
end
/-! what is walked -/
section
variable {S : Sto} {PI : ItD → Sto → Prop} {i j : Int} {xs ys : List D}
theorem i_list (q : PI (itL xs) S) : Ok (mItL (.lst xs) S) PI := ⟨q⟩
theorem i_ro (q : PI (itL xs) S) : Ok (mItL (.ro xs) S) PI := ⟨q⟩
theorem i_rng1 (h1 : -(2 ^ 62) ≤ j) (h2 : j < 2 ^ 62) (q : PI (itL ((List.range j.toNat).map fun i : Nat => D.int i)) S) : Ok (mItR1 [.int j] S) PI := by
  unfold mItR1
  dsimp only
  rw [if_pos ⟨h1, h2⟩]; exact ⟨q⟩
theorem i_enum (q : PI (itL (enumD xs)) S) : Ok (mItE [.lst xs] S) PI := ⟨q⟩
end
end
end DL

set_option Elab.async false
set_option linter.all false
set_option maxRecDepth 100000
/-! DM: plain mathematics: sizes, fractions in lowest terms. -/
namespace DL
open PySem PySem.Spec PyProof.Rows
noncomputable section
/-! ### sizes -/
/-- below 2 ^ k in size -/
def Sz (k : Nat) (i : Int) : Prop := i.natAbs < 2 ^ k
theorem Sz.mono {k l : Nat} {i : Int} (h : Sz k i) (hl : k ≤ l) : Sz l i := Nat.lt_of_lt_of_le h (Nat.pow_le_pow_right (by decide) hl)
theorem Sz.mul {k l : Nat} {i j : Int} (h : Sz k i) (g : Sz l j) : Sz (k + l) (i * j) := by
  unfold Sz at *
  rw [Int.natAbs_mul, Nat.pow_add]
  exact Nat.mul_lt_mul'' h g
theorem Sz.neg {k : Nat} {i : Int} (h : Sz k i) : Sz k (-i) := by unfold Sz at *; omega
theorem Sz.log {k : Nat} {i : Int} (h : Sz k i) (hk : 0 < k) : i.natAbs.log2 < k := by
  by_cases h0 : i.natAbs = 0
  · rw [h0]; simpa using hk
  · exact (Nat.log2_lt h0).mpr h
theorem Sz.bits {k : Nat} {i : Int} (h : Sz k i) (hk : 0 < k) : Builtin.Int.intBits i ≤ k := by
  unfold Builtin.Int.intBits
  have := h.log hk
  first
    | omega
    | (split <;> omega)
theorem Sz.mulOk {k l : Nat} {i j : Int} (h : Sz k i) (g : Sz l j) (hk : k ≤ 2 ^ 20 := by decide) (hl : l ≤ 2 ^ 20 := by decide) : IntMulOk i j := by
  by_cases h0 : 0 < k
  · by_cases h1 : 0 < l
    · exact .of_bits (Nat.le_trans (h.bits h0) hk) (Nat.le_trans (g.bits h1) hl)
    · exact .of_bits (Nat.le_trans (h.bits h0) hk) (Nat.le_trans ((g.mono (Nat.le_of_lt (by omega : l < 1))).bits (by decide)) (by decide))
  · exact .of_bits (Nat.le_trans ((h.mono (Nat.le_of_lt (by omega : k < 1))).bits (by decide)) (by decide)) (Nat.le_trans ((g.mono (Nat.le_max_left l 1)).bits (by omega)) (by omega))
/-! ### lowest terms -/
abbrev Fr := Int × Int
def Nrm (f : Fr) : Prop := 0 < f.2 ∧ Int.gcd f.1 f.2 = 1
def lowF (t b : Int) : Fr := if b < 0 then (t.fdiv (-(Int.gcd t b : Int)), b.fdiv (-(Int.gcd t b : Int))) else (t.fdiv (Int.gcd t b), b.fdiv (Int.gcd t b))
def plusF (f g : Fr) : Fr := lowF (f.1 * g.2 + g.1 * f.2) (f.2 * g.2)
def timesF (f g : Fr) : Fr := lowF (f.1 * g.1) (f.2 * g.2)
/-- a fraction, tops below 2 ^ k, bottoms below 2 ^ l -/
structure FrS (k l : Nat) (f : Fr) : Prop where
  n : Nrm f
  t : Sz k f.1
  b : Sz l f.2
theorem FrS.mono {k l k' l' : Nat} {f : Fr} (h : FrS k l f) (hk : k ≤ k') (hl : l ≤ l') : FrS k' l' f := ⟨h.n, h.t.mono hk, h.b.mono hl⟩
end
end DL

set_option Elab.async false
set_option linter.all false
set_option maxRecDepth 100000
/-! DN: data that can be shown; comprehensions. -/
namespace DL
open PySem PySem.Spec PyProof.Rows
noncomputable section
/-- what `repr` needs -/
structure Dat (k b : Nat) (d : D) : Prop where
  pl : d.pl k = true
  sh : d.py.showable = true
  lf : d.py.leavesShort 1921 = true
  bk : d.py.bulk ≤ b
structure DatL (k b : Nat) (xs : List D) : Prop where
  pl : D.plL k xs = true
  sh : PyData.showableAll (D.pyL xs) = true
  lf : PyData.leavesShortAll 1921 (D.pyL xs) = true
  bk : PyData.bulkAll (D.pyL xs) ≤ b
theorem Dat.mono {k b c : Nat} {d : D} (h : Dat k b d) (l : b ≤ c) : Dat k c d := ⟨h.pl, h.sh, h.lf, Nat.le_trans h.bk l⟩
theorem DatL.nil {k : Nat} : DatL k 0 [] := ⟨rfl, rfl, rfl, Nat.le_refl _⟩
theorem DatL.cons {k b c : Nat} {x : D} {xs : List D} (h : Dat k b x) (g : DatL k c xs) : DatL k (b + 1 + c) (x :: xs) := by
  refine ⟨?_, ?_, ?_, ?_⟩
  · simp only [D.plL, h.pl, g.pl, Bool.and_self]
  · simp only [D.pyL, PyData.showableAll, h.sh, g.sh, Bool.and_self]
  · simp only [D.pyL, PyData.leavesShortAll, h.lf, g.lf, Bool.and_self]
  · have := h.bk; have := g.bk
    simp only [D.pyL, PyData.bulkAll]; omega
theorem DatL.all {k b : Nat} : ∀ {xs : List D} {n : Nat}, (∀ x ∈ xs, Dat k b x) → xs.length ≤ n → DatL k (n * (b + 1)) xs
  | [], _, _, _ => ⟨rfl, rfl, rfl, Nat.zero_le _⟩
  | x :: xs, 0, _, l => absurd l (by simp)
  | x :: xs, n + 1, h, l => by
    have g := DatL.cons (h x (by simp)) (DatL.all (xs := xs) (n := n) (fun y hy => h y (by simp [hy])) (by simpa using l))
    rw [Nat.add_mul, Nat.one_mul, Nat.add_comm]
    exact g
theorem DatL.mono {k b c : Nat} {d : List D} (h : DatL k b d) (l : b ≤ c) : DatL k c d := ⟨h.pl, h.sh, h.lf, Nat.le_trans h.bk l⟩
theorem Dat.int {k m : Nat} {i : Int} (h : Sz m i) (hm : 0 < m) (hl : m ≤ 1920) : Dat k 0 (.int i) := by
  have l : i.natAbs.log2 < 1920 := Nat.lt_of_lt_of_le (h.log hm) hl
  refine ⟨rfl, by simp [D.py, PyData.showable, l], ?_, Nat.le_refl _⟩
  simp only [D.py, PyData.leavesShort, decide_eq_true_eq]
  exact PyProof.Rows.int_text_len_1921 l
theorem Dat.bl {k : Nat} {b : Bool} : Dat k 0 (.bl b) := ⟨rfl, rfl, rfl, Nat.le_refl _⟩
theorem Dat.non {k : Nat} : Dat k 0 .non := ⟨rfl, rfl, rfl, Nat.le_refl _⟩
theorem Dat.str {k : Nat} {s : Str} (h : PyData.strOk s = true) : Dat k s.length (.str s) := by
  refine ⟨h, rfl, ?_, Nat.le_refl _⟩
  simp only [D.py, PyData.leavesShort, List.all_eq_true, decide_eq_true_eq]
  intro c hc
  have h' : s.cps.all (· < 0x110000) = true := h
  rw [Array.all_eq_true'] at h'
  have := h' c (by simpa using hc)
  simp only [decide_eq_true_eq] at this
  omega
theorem Dat.lst {k b : Nat} {xs : List D} (h : DatL k b xs) : Dat (k + 1) b (.lst xs) := ⟨by simp only [D.pl, Nat.add_sub_cancel, h.pl]; simp, by simp only [D.py, PyData.showable]; exact h.sh, by simp only [D.py, PyData.leavesShort]; exact h.lf, by simp only [D.py, PyData.bulk]; exact h.bk⟩
theorem Dat.tup {k b : Nat} {xs : List D} (h : DatL k b xs) : Dat (k + 1) b (.tup xs) := ⟨by simp only [D.pl, Nat.add_sub_cancel, h.pl]; simp, by simp only [D.py, PyData.showable]; exact h.sh, by simp only [D.py, PyData.leavesShort]; exact h.lf, by simp only [D.py, PyData.bulk]; exact h.bk⟩
/-- what `repr` needs, an empty table among it -/
structure DatE (k b : Nat) (d : D) : Prop where
  pl : d.pr k = true
  sh : d.py.showable = true
  lf : d.py.leavesShort 1921 = true
  bk : d.py.bulk ≤ b
structure DatEL (k b : Nat) (xs : List D) : Prop where
  pl : D.prL k xs = true
  sh : PyData.showableAll (D.pyL xs) = true
  lf : PyData.leavesShortAll 1921 (D.pyL xs) = true
  bk : PyData.bulkAll (D.pyL xs) ≤ b
theorem DatE.mono {k b c : Nat} {d : D} (h : DatE k b d) (l : b ≤ c) : DatE k c d := ⟨h.pl, h.sh, h.lf, Nat.le_trans h.bk l⟩
theorem DatEL.nil {k : Nat} : DatEL k 0 [] := ⟨rfl, rfl, rfl, Nat.le_refl _⟩
theorem DatEL.cons {k b c : Nat} {x : D} {xs : List D} (h : DatE k b x) (g : DatEL k c xs) : DatEL k (b + 1 + c) (x :: xs) := by
  refine ⟨?_, ?_, ?_, ?_⟩
  · simp only [D.prL, h.pl, g.pl, Bool.and_self]
  · simp only [D.pyL, PyData.showableAll, h.sh, g.sh, Bool.and_self]
  · simp only [D.pyL, PyData.leavesShortAll, h.lf, g.lf, Bool.and_self]
  · have := h.bk; have := g.bk
    simp only [D.pyL, PyData.bulkAll]; omega
theorem DatEL.all {k b : Nat} : ∀ {xs : List D} {n : Nat}, (∀ x ∈ xs, DatE k b x) → xs.length ≤ n → DatEL k (n * (b + 1)) xs
  | [], _, _, _ => ⟨rfl, rfl, rfl, Nat.zero_le _⟩
  | x :: xs, 0, _, l => absurd l (by simp)
  | x :: xs, n + 1, h, l => by
    have g := DatEL.cons (h x (by simp)) (DatEL.all (xs := xs) (n := n) (fun y hy => h y (by simp [hy])) (by simpa using l))
    rw [Nat.add_mul, Nat.one_mul, Nat.add_comm]
    exact g
theorem DatEL.mono {k b c : Nat} {d : List D} (h : DatEL k b d) (l : b ≤ c) : DatEL k c d := ⟨h.pl, h.sh, h.lf, Nat.le_trans h.bk l⟩
theorem DatE.int {k m : Nat} {i : Int} (h : Sz m i) (hm : 0 < m) (hl : m ≤ 1920) : DatE k 0 (.int i) := by
  have l : i.natAbs.log2 < 1920 := Nat.lt_of_lt_of_le (h.log hm) hl
  refine ⟨rfl, by simp [D.py, PyData.showable, l], ?_, Nat.le_refl _⟩
  simp only [D.py, PyData.leavesShort, decide_eq_true_eq]
  exact PyProof.Rows.int_text_len_1921 l
theorem DatE.bl {k : Nat} {b : Bool} : DatE k 0 (.bl b) := ⟨rfl, rfl, rfl, Nat.le_refl _⟩
theorem DatE.non {k : Nat} : DatE k 0 .non := ⟨rfl, rfl, rfl, Nat.le_refl _⟩
theorem DatE.str {k : Nat} {s : Str} (h : PyData.strOk s = true) : DatE k s.length (.str s) := by
  refine ⟨h, rfl, ?_, Nat.le_refl _⟩
  simp only [D.py, PyData.leavesShort, List.all_eq_true, decide_eq_true_eq]
  intro c hc
  have h' : s.cps.all (· < 0x110000) = true := h
  rw [Array.all_eq_true'] at h'
  have := h' c (by simpa using hc)
  simp only [decide_eq_true_eq] at this
  omega
theorem DatE.lst {k b : Nat} {xs : List D} (h : DatEL k b xs) : DatE (k + 1) b (.lst xs) := ⟨by simp only [D.pr, Nat.add_sub_cancel, h.pl]; simp, by simp only [D.py, PyData.showable]; exact h.sh, by simp only [D.py, PyData.leavesShort]; exact h.lf, by simp only [D.py, PyData.bulk]; exact h.bk⟩
theorem DatE.tup {k b : Nat} {xs : List D} (h : DatEL k b xs) : DatE (k + 1) b (.tup xs) := ⟨by simp only [D.pr, Nat.add_sub_cancel, h.pl]; simp, by simp only [D.py, PyData.showable]; exact h.sh, by simp only [D.py, PyData.leavesShort]; exact h.lf, by simp only [D.py, PyData.bulk]; exact h.bk⟩
theorem DatE.dE {k : Nat} : DatE (k + 1) 0 .dE := ⟨by simp [D.pr], rfl, rfl, Nat.le_refl _⟩
theorem Dat.e {k b : Nat} {d : D} (h : Dat k b d) : DatE k b d := ⟨D.pr_of h.pl, h.sh, h.lf, h.bk⟩
theorem DatL.e {k b : Nat} {d : List D} (h : DatL k b d) : DatEL k b d := ⟨D.prL_of h.pl, h.sh, h.lf, h.bk⟩
theorem DatE.shows {b : Nat} {k : Nat} {d : D} (h : DatE k b d) (hb : b ≤ 8000) : d.shows = true := by
  have := PyData.shown_le_bulk 1921 (by decide) d.py h.lf
  have e : (1921 + 2) * d.py.bulk ≤ 1923 * 8000 := Nat.mul_le_mul (Nat.le_refl _) (Nat.le_trans h.bk hb)
  unfold D.shows
  rw [h.sh, sizeLine_eq]
  simp
  omega
theorem Dat.shows {b : Nat} {k : Nat} {d : D} (h : Dat k b d) (hb : b ≤ 8000) : d.shows = true := h.e.shows hb
mutual
theorem pl_up : ∀ {d : D} {k m : Nat}, k ≤ m → d.pl k = true → d.pl m = true
  | .non, _, _, _, _ => rfl
  | .bl b, _, _, _, _ => rfl
  | .int i, _, _, _, _ => rfl
  | .str s, _, _, _, h => by simpa [D.pl] using h
  | .tup xs, k, m, l, h => by
    simp only [D.pl, Bool.and_eq_true, decide_eq_true_eq] at h ⊢
    exact ⟨by omega, plL_up (by omega) h.2⟩
  | .lst xs, k, m, l, h => by
    simp only [D.pl, Bool.and_eq_true, decide_eq_true_eq] at h ⊢
    exact ⟨by omega, plL_up (by omega) h.2⟩
  | .ro xs, k, m, l, h => by
    simp only [D.pl, Bool.and_eq_true, decide_eq_true_eq] at h ⊢
    exact ⟨by omega, plL_up (by omega) h.2⟩
  | .cell n, _, _, _, h => by simp [D.pl] at h
  | .ty n, _, _, _, h => by simp [D.pl] at h
  | .err _ _ _, _, _, _, h => by simp [D.pl] at h
  | .cls _, _, _, _, h => by simp [D.pl] at h
  | .dE, _, _, _, h => by simp [D.pl] at h
theorem plL_up : ∀ {ds : List D} {k m : Nat}, k ≤ m → D.plL k ds = true → D.plL m ds = true
  | [], _, _, _, _ => rfl
  | d :: ds, k, m, l, h => by
    simp only [D.plL, Bool.and_eq_true] at h ⊢
    exact ⟨pl_up l h.1, plL_up l h.2⟩
end
mutual
theorem pr_up : ∀ {d : D} {k m : Nat}, k ≤ m → d.pr k = true → d.pr m = true
  | .non, _, _, _, _ => rfl
  | .bl b, _, _, _, _ => rfl
  | .int i, _, _, _, _ => rfl
  | .str s, _, _, _, h => by simpa [D.pr] using h
  | .tup xs, k, m, l, h => by
    simp only [D.pr, Bool.and_eq_true, decide_eq_true_eq] at h ⊢
    exact ⟨by omega, prL_up (by omega) h.2⟩
  | .lst xs, k, m, l, h => by
    simp only [D.pr, Bool.and_eq_true, decide_eq_true_eq] at h ⊢
    exact ⟨by omega, prL_up (by omega) h.2⟩
  | .ro xs, k, m, l, h => by
    simp only [D.pr, Bool.and_eq_true, decide_eq_true_eq] at h ⊢
    exact ⟨by omega, prL_up (by omega) h.2⟩
  | .cell n, _, _, _, h => by simp [D.pr] at h
  | .ty n, _, _, _, h => by simp [D.pr] at h
  | .err _ _ _, _, _, _, h => by simp [D.pr] at h
  | .cls _, _, _, _, h => by simp [D.pr] at h
  | .dE, k, m, l, h => by
    simp only [D.pr, decide_eq_true_eq] at h ⊢
    omega
theorem prL_up : ∀ {ds : List D} {k m : Nat}, k ≤ m → D.prL k ds = true → D.prL m ds = true
  | [], _, _, _, _ => rfl
  | d :: ds, k, m, l, h => by
    simp only [D.prL, Bool.and_eq_true] at h ⊢
    exact ⟨pr_up l h.1, prL_up l h.2⟩
end
theorem Dat.up {k m b : Nat} {d : D} (h : Dat k b d) (l : k ≤ m) : Dat m b d := ⟨pl_up l h.pl, h.sh, h.lf, h.bk⟩
theorem DatL.up {k m b : Nat} {d : List D} (h : DatL k b d) (l : k ≤ m) : DatL m b d := ⟨plL_up l h.pl, h.sh, h.lf, h.bk⟩
theorem DatE.up {k m b : Nat} {d : D} (h : DatE k b d) (l : k ≤ m) : DatE m b d := ⟨pr_up l h.pl, h.sh, h.lf, h.bk⟩
/-! ### lists of one make -/
theorem made {α : Type} {Q : α → Prop} {g : α → D} : ∀ {xs : List D}, (∀ d ∈ xs, ∃ f, Q f ∧ d = g f) → ∃ l : List α, (∀ f ∈ l, Q f) ∧ xs = l.map g
  | [], _ => ⟨[], by simp, rfl⟩
  | x :: xs, h => by
    obtain ⟨f, q, e⟩ := h x (by simp)
    obtain ⟨l, ql, el⟩ := made (xs := xs) fun d hd => h d (by simp [hd])
    refine ⟨f :: l, ?_, by rw [e, el]; rfl⟩
    intro g hg
    rcases List.mem_cons.mp hg with rfl | hg
    · exact q
    · exact ql g hg
theorem blsOf_map : ∀ bs : List Bool, blsOf (bs.map D.bl) = some bs
  | [] => rfl
  | b :: bs => by simp only [List.map_cons, blsOf, blsOf_map bs]; rfl
theorem cut_to (xs : List D) (k : Nat) : cutD xs none (some (k : Int)) = xs.take k := by
  unfold cutD
  rw [HT.sIx_nat, HT.sIx_none]
  by_cases h : k ≤ xs.length
  · rw [Nat.min_eq_left h]; simp
  · rw [Nat.min_eq_right (by omega), List.take_of_length_le (by simp), List.take_of_length_le (by omega)]; simp
theorem rng_get {n i : Nat} {d : D} (h : ((List.range n).map fun i : Nat => D.int i)[i]? = some d) : ∃ z : Int, 0 ≤ z ∧ z < n ∧ d = .int z := by
  rw [List.getElem?_map] at h
  cases e : (List.range n)[i]? with
  | none => rw [e] at h; exact absurd h (by simp)
  | some a =>
    rw [e] at h
    have := List.mem_range.mp (List.mem_of_getElem? e)
    exact ⟨a, by omega, by omega, by simpa using h.symm⟩
theorem getElem?_map_some {α : Type} {f : α → D} {l : List α} {i : Nat} {d : D} (h : (l.map f)[i]? = some d) : ∃ a, l[i]? = some a ∧ d = f a := by
  rw [List.getElem?_map] at h
  cases e : l[i]? with
  | none => rw [e] at h; exact absurd h (by simp)
  | some a => rw [e] at h; exact ⟨a, rfl, by simpa using h.symm⟩
/-! ### comprehensions -/
section
variable {T : Tg} {c : BM} {e : EM} {ρw : Env} {S : Sto} {PL : List D → Sto → Prop}
theorem lc_map {α : Type} {l : List α} {f g : α → D} (hz : l.length ≤ sizeLine)
    (hs : ∀ a ∈ l, ∃ ρ', asg T (f a) ρw = some ρ' ∧ Ok (e ρ' S) fun y S2 => y = g a ∧ S2 = S) (k : PL (l.map g) S) : Ok (lcLoop (itL (l.map f)).nx T bYes e ρw (itL (l.map f)).fu 0 [] S) PL := by
  refine k_lcL (fun i acc S' => acc = (l.take i).map g ∧ S' = S) ⟨by simp, rfl⟩ ?_ ?_
  · intro i acc S' d hd ⟨e1, e2⟩
    obtain ⟨a, ha, rfl⟩ := getElem?_map_some hd
    have hm := List.mem_of_getElem? ha
    have hi := (List.getElem?_eq_some_iff.mp ha).1
    obtain ⟨ρ', h1, h2⟩ := hs a hm
    refine ⟨ρ', h1, ?_⟩
    refine k_yes ?_
    rw [if_pos rfl, e2]
    refine h2.imp fun y S2 ⟨hy, hS⟩ => ⟨?_, ?_, hS⟩
    · rw [e1]; simp; omega
    · rw [e1, hy, List.take_add_one, ha]; simp
  · intro acc S' ⟨e1, e2⟩
    rw [e1, e2]
    simpa using k
/-- a walk over what stays, kept in a cell or not -/
theorem k_forN {T : Tg} {b : SD} {xs : List D} {nx : Nat → Sto → Option (Option D)} {fu : Nat} {ρ : DL.Env} {PS : Flw → DL.Env → Sto → Prop} (I : Nat → DL.Env → Sto → Prop) (hf : fu = xs.length + 1) (h0 : I 0 ρ S)
    (hx : ∀ i ρ S, I i ρ S → nx i S = some xs[i]?)
    (hs : ∀ i ρ S d, xs[i]? = some d → I i ρ S → ∃ ρ', asg T d ρ = some ρ' ∧ OkS (b ρ' S) fun f ρ2 S2 => match f with
      | .nx => I (i + 1) ρ2 S2
      | .cnt => I (i + 1) ρ2 S2
      | .brk => PS .nx ρ2 S2
      | .ret d => PS (.ret d) ρ2 S2)
    (hd : ∀ ρ S, I xs.length ρ S → PS .nx ρ S) : OkS (forLoop nx T b fu 0 ρ S) PS := by
  have go : ∀ (k i : Nat) (ρ : DL.Env) (S : Sto), k + i = xs.length + 1 → i ≤ xs.length → I i ρ S → OkS (forLoop nx T b k i ρ S) PS := by
    intro k
    induction k with
    | zero => intro i ρ S e l _; omega
    | succ k ih =>
      intro i ρ S e l hI
      unfold forLoop
      rw [hx i ρ S hI]
      by_cases hi : i < xs.length
      · obtain ⟨ρ', ea, hb⟩ := hs i ρ S xs[i] (List.getElem?_eq_getElem hi) hI
        rw [List.getElem?_eq_getElem hi]
        dsimp only
        rw [ea]
        dsimp only
        cases eb : b ρ' S with
        | exc x ρ1 S1 => rw [eb] at hb; exact hb.out.elim
        | stuck => rw [eb] at hb; exact hb.out.elim
        | ok f ρ1 S1 =>
          rw [eb] at hb
          cases f with
          | nx => exact ih (i + 1) ρ1 S1 (by omega) hi hb.out
          | cnt => exact ih (i + 1) ρ1 S1 (by omega) hi hb.out
          | brk => exact ⟨hb.out⟩
          | ret d => exact ⟨hb.out⟩
      · have : i = xs.length := by omega
        subst this
        rw [List.getElem?_eq_none (Nat.le_refl _)]
        exact ⟨hd ρ S hI⟩
  rw [hf]
  exact go (xs.length + 1) 0 ρ S (by omega) (Nat.zero_le _) h0
theorem k_lcN {xs : List D} {nx : Nat → Sto → Option (Option D)} {fu : Nat} (I : Nat → List D → Sto → Prop) (hf : fu = xs.length + 1) (h0 : I 0 [] S) (hx : ∀ i acc S, I i acc S → nx i S = some xs[i]?)
    (hs : ∀ i acc S d, xs[i]? = some d → I i acc S → ∃ ρ', asg T d ρw = some ρ' ∧ Ok (c ρ' S) fun k S1 => if k = true then Ok (e ρ' S1) fun y S2 => acc.length < sizeLine ∧ I (i + 1) (acc ++ [y]) S2 else I (i + 1) acc S1)
    (hd : ∀ acc S, I xs.length acc S → PL acc S) : Ok (lcLoop nx T c e ρw fu 0 [] S) PL := by
  have go : ∀ (k i : Nat) (acc : List D) (S : Sto), k + i = xs.length + 1 → i ≤ xs.length → I i acc S → Ok (lcLoop nx T c e ρw k i acc S) PL := by
    intro k
    induction k with
    | zero => intro i acc S e l _; omega
    | succ k ih =>
      intro i acc S el l hI
      unfold lcLoop
      rw [hx i acc S hI]
      by_cases hi : i < xs.length
      · obtain ⟨ρ', ea, hb⟩ := hs i acc S xs[i] (List.getElem?_eq_getElem hi) hI
        rw [List.getElem?_eq_getElem hi]
        dsimp only
        rw [ea]
        dsimp only
        refine Ok.bind (hb.imp fun k S1 q => ?_)
        cases k with
        | false => exact ih (i + 1) acc S1 (by omega) hi q
        | true => exact Ok.bind (q.imp fun y S2 q2 => by rw [if_pos q2.1]; exact ih (i + 1) _ S2 (by omega) hi q2.2)
      · have : i = xs.length := by omega
        subst this
        rw [List.getElem?_eq_none (Nat.le_refl _)]
        exact ⟨hd acc S hI⟩
  rw [hf]
  exact go (xs.length + 1) 0 [] S (by omega) (Nat.zero_le _) h0
theorem lc_mapN {α : Type} {l : List α} {f g : α → D} {nx : Nat → Sto → Option (Option D)} {fu : Nat} (hf : fu = l.length + 1) (hx : ∀ i, nx i S = some (l.map f)[i]?) (hz : l.length ≤ sizeLine)
    (hs : ∀ a ∈ l, ∃ ρ', asg T (f a) ρw = some ρ' ∧ Ok (e ρ' S) fun y S2 => y = g a ∧ S2 = S) (k : PL (l.map g) S) : Ok (lcLoop nx T bYes e ρw fu 0 [] S) PL := by
  refine k_lcN (xs := l.map f) (fun i acc S' => acc = (l.take i).map g ∧ S' = S) (by simpa using hf) ⟨by simp, rfl⟩ (fun i acc S' h => by rw [h.2]; exact hx i) ?_ ?_
  · intro i acc S' d hd ⟨e1, e2⟩
    obtain ⟨a, ha, rfl⟩ := getElem?_map_some hd
    have hm := List.mem_of_getElem? ha
    have hi := (List.getElem?_eq_some_iff.mp ha).1
    obtain ⟨ρ', h1, h2⟩ := hs a hm
    refine ⟨ρ', h1, ?_⟩
    refine k_yes ?_
    rw [if_pos rfl, e2]
    refine h2.imp fun y S2 ⟨hy, hS⟩ => ⟨?_, ?_, hS⟩
    · rw [e1]; simp; omega
    · rw [e1, hy, List.take_add_one, ha]; simp
  · intro acc S' ⟨e1, e2⟩
    rw [e1, e2]
    simpa using k
theorem i_cell {n : Nat} {xs : List D} {PI : ItD → Sto → Prop} (h : S[n]? = some (some (.lst xs))) (q : PI (itC n xs.length) S) : Ok (mItL (.cell n) S) PI := by
  unfold mItL
  dsimp only
  rw [h]; exact ⟨q⟩
theorem itC_nx {n i k : Nat} {xs : List D} (h : S[n]? = some (some (.lst xs))) : (itC n k).nx i S = some xs[i]? := by
  unfold itC
  dsimp only
  rw [h]
/-- each step draws, whatever is drawn keeps `R` -/
theorem lc_any {xs : List D} {Q : D → Prop} {R : Sto → Prop} (hz : xs.length ≤ sizeLine) (h0 : R S)
    (hs : ∀ d ∈ xs, ∀ S1, R S1 → ∃ ρ', asg T d ρw = some ρ' ∧ Ok (e ρ' S1) fun y S2 => Q y ∧ R S2) (k : ∀ ys S', ys.length = xs.length → (∀ y ∈ ys, Q y) → R S' → PL ys S') : Ok (lcLoop (itL xs).nx T bYes e ρw (itL xs).fu 0 [] S) PL := by
  refine k_lcL (fun i acc S' => acc.length = i ∧ (∀ y ∈ acc, Q y) ∧ R S') ⟨rfl, by simp, h0⟩ ?_ ?_
  · intro i acc S' d hd ⟨e1, e2, e3⟩
    have hm := List.mem_of_getElem? hd
    have hi := (List.getElem?_eq_some_iff.mp hd).1
    obtain ⟨ρ', h1, h2⟩ := hs d hm S' e3
    refine ⟨ρ', h1, ?_⟩
    refine k_yes ?_
    rw [if_pos rfl]
    refine h2.imp fun y S2 ⟨hy, hS⟩ => ⟨by omega, by simp [e1], ?_, hS⟩
    intro z hz
    rcases List.mem_append.mp hz with hz | hz
    · exact e2 z hz
    · rw [List.mem_singleton.mp hz]; exact hy
  · intro acc S' ⟨e1, e2, e3⟩
    exact k acc S' e1 e2 e3
end
theorem k_ifT {c a b : Prop} [Decidable c] (h : c) (q : a) : if c then a else b := by rw [if_pos h]; exact q
theorem k_ifF {c a b : Prop} [Decidable c] (h : ¬c) (q : b) : if c then a else b := by rw [if_neg h]; exact q
theorem k_seqQ {a b : SD} {ρ : DL.Env} {S : Sto} {PS : Flw → DL.Env → Sto → Prop} (Q : Flw → DL.Env → Sto → Prop) (h : OkS (a ρ S) Q) (k : ∀ f ρ1 S1, Q f ρ1 S1 → match f with
  | .nx => OkS (b ρ1 S1) PS
  | f => PS f ρ1 S1) : OkS (sSeq a b ρ S) PS := k_seq (h.imp k)
/-- two branches meet -/
theorem k_ite {c : Prop} [Decidable c] {r1 r2 : RS} {PS : Flw → DL.Env → Sto → Prop} (Q : Flw → DL.Env → Sto → Prop) (h1 : c → OkS r1 Q) (h2 : ¬c → OkS r2 Q) (h : ∀ f ρ S, Q f ρ S → PS f ρ S) : if c then OkS r1 PS else OkS r2 PS := by
  by_cases hc : c
  · rw [if_pos hc]; exact (h1 hc).imp h
  · rw [if_neg hc]; exact (h2 hc).imp h
/-! ### great numbers of turns -/
end
end DL

set_option Elab.async false
set_option linter.all false
set_option maxRecDepth 100000
/-! DQ: rules for the walk that goes by itself. -/
namespace DL
open PySem PySem.Spec PyProof.Rows
noncomputable section
theorem k_condD {p : Prop} [Decidable p] {a b : Prop} (ht : p → a) (hf : ¬p → b) : if decide p = true then a else b := by
  by_cases h : p
  · rw [if_pos (by simpa using h)]; exact ht h
  · rw [if_neg (by simpa using h)]; exact hf h
theorem all_nil {Q : D → Prop} : ∀ d ∈ ([] : List D), Q d := fun _ h => absurd h (by simp)
theorem all_cons {Q : D → Prop} {x : D} {xs : List D} (h : Q x) (g : ∀ d ∈ xs, Q d) : ∀ d ∈ x :: xs, Q d := List.forall_mem_cons.mpr ⟨h, g⟩
/-- an int of a size -/
def In (k : Nat) (d : D) : Prop := ∃ i, Sz k i ∧ d = .int i
mutual
/-- what can be shown holds no cell -/
theorem bel_pr {m : Nat} : ∀ {d : D} {k : Nat}, d.pr k = true → d.bel m = true
  | .non, _, _ => rfl
  | .bl b, _, _ => rfl
  | .int i, _, _ => rfl
  | .str s, _, _ => rfl
  | .tup xs, k, h => by
    simp only [D.pr, Bool.and_eq_true] at h
    simp only [D.bel]; exact belL_pr h.2
  | .lst xs, k, h => by
    simp only [D.pr, Bool.and_eq_true] at h
    simp only [D.bel]; exact belL_pr h.2
  | .ro xs, k, h => by
    simp only [D.pr, Bool.and_eq_true] at h
    simp only [D.bel]; exact belL_pr h.2
  | .cell n, _, h => by simp [D.pr] at h
  | .ty n, _, h => by simp [D.pr] at h
  | .err _ _ _, _, h => by simp [D.pr] at h
  | .cls _, _, h => by simp [D.pr] at h
  | .dE, k, h => rfl
theorem belL_pr {m : Nat} : ∀ {ds : List D} {k : Nat}, D.prL k ds = true → D.belL m ds = true
  | [], _, _ => rfl
  | d :: ds, k, h => by
    simp only [D.prL, Bool.and_eq_true] at h
    simp only [D.belL, Bool.and_eq_true]
    exact ⟨bel_pr h.1, belL_pr h.2⟩
end
theorem belL_all {m : Nat} : ∀ {ds : List D}, (∀ d ∈ ds, d.bel m = true) → D.belL m ds = true
  | [], _ => rfl
  | d :: ds, h => by
    simp only [D.belL, Bool.and_eq_true]
    exact ⟨h d (by simp), belL_all fun e he => h e (by simp [he])⟩
end
end DL

set_option Elab.async false
set_option linter.all false
set_option maxRecDepth 100000
/-! DE: what a mirror raises, step by step; a kept error. -/
namespace DL
open PySem PySem.Spec PyProof.Rows
noncomputable section
structure Ex {α : Type} (r : R α) (Q : XD → Sto → Prop) : Prop where
  out : match r with
    | .exc x S => Q x S
    | _ => False
structure ExS (r : RS) (Q : XD → Env → Sto → Prop) : Prop where
  out : match r with
    | .exc x ρ S => Q x ρ S
    | _ => False
theorem Ex.imp {α : Type} {r : R α} {P Q : XD → Sto → Prop} (h : Ex r P) (k : ∀ x S, P x S → Q x S) : Ex r Q := by
  cases r with
  | exc x S => exact ⟨k x S h.out⟩
  | ok a S => exact h.out.elim
  | stuck => exact h.out.elim
theorem ExS.imp {r : RS} {P Q : XD → Env → Sto → Prop} (h : ExS r P) (k : ∀ x ρ S, P x ρ S → Q x ρ S) : ExS r Q := by
  cases r with
  | exc x ρ S => exact ⟨k x ρ S h.out⟩
  | ok f ρ S => exact h.out.elim
  | stuck => exact h.out.elim
theorem Ex.bind2 {α β : Type} {r : R α} {f : α → M β} {Q : XD → Sto → Prop} (h : Ok r fun a S => Ex (f a S) Q) : Ex (r.bind f) Q := by
  cases r with
  | ok a S => exact h.out
  | exc x S => exact h.out.elim
  | stuck => exact h.out.elim
theorem Ex.to1 {α : Type} {r : R α} {ρ : Env} {k : α → Sto → RS} {Q : XD → Env → Sto → Prop} (h : Ex r fun x S => Q x ρ S) : ExS (r.to ρ k) Q := by
  cases r with
  | exc x S => exact ⟨h.out⟩
  | ok a S => exact h.out.elim
  | stuck => exact h.out.elim
theorem Ex.to2 {α : Type} {r : R α} {ρ : Env} {k : α → Sto → RS} {Q : XD → Env → Sto → Prop} (h : Ok r fun a S => ExS (k a S) Q) : ExS (r.to ρ k) Q := by
  cases r with
  | ok a S => exact h.out
  | exc x S => exact h.out.elim
  | stuck => exact h.out.elim
section
variable {ρ : Env} {S : Sto} {Q : XD → Sto → Prop} {QS : XD → Env → Sto → Prop} {P : D → Sto → Prop} {PS : Flw → Env → Sto → Prop}
/-! expressions: the call itself raises -/
/-! statements -/
theorem x_set {i : Nat} {m : EM} (h : Ex (m ρ S) fun x S1 => QS x ρ S1) : ExS (sSet i m ρ S) QS := Ex.to1 h
theorem x_if {c : BM} {a b : SD} (h : Ok (c ρ S) fun k S1 => if k = true then ExS (a ρ S1) QS else ExS (b ρ S1) QS) : ExS (sIf c a b ρ S) QS := Ex.to2 (h.imp fun k S1 q => by cases k <;> exact q)
theorem x_seq1 {a b : SD} (h : ExS (a ρ S) QS) : ExS (sSeq a b ρ S) QS := by
  unfold sSeq
  cases e : a ρ S with
  | exc x ρ1 S1 => rw [e] at h; exact ⟨h.out⟩
  | ok f ρ1 S1 => rw [e] at h; exact h.out.elim
  | stuck => rw [e] at h; exact h.out.elim
theorem x_seq {a b : SD} (h : OkS (a ρ S) fun f ρ1 S1 => f = .nx ∧ ExS (b ρ1 S1) QS) : ExS (sSeq a b ρ S) QS := by
  unfold sSeq
  cases e : a ρ S with
  | exc x ρ1 S1 => rw [e] at h; exact h.out.elim
  | stuck => rw [e] at h; exact h.out.elim
  | ok f ρ1 S1 =>
    rw [e] at h
    obtain ⟨rfl, q⟩ := h.out
    exact q
theorem x_raise0 {n : Str} (q : QS ⟨n, [], []⟩ ρ S) : ExS (sRaise0 n ρ S) QS := ⟨q⟩
theorem x_fn {n np : Nat} {m : SD} {ds : List D} (hn : ds.length = np) (h : ExS (m (ds.map some ++ List.replicate (n - np) none) S) fun x _ S' => Q x S') : Ex (runFn n np m ds S) Q := by
  unfold runFn
  rw [if_pos hn, hn]
  cases e : m (ds.map some ++ List.replicate (n - np) none) S with
  | exc x ρ1 S1 => rw [e] at h; exact ⟨h.out⟩
  | stuck => rw [e] at h; exact h.out.elim
  | ok f ρ1 S1 => rw [e] at h; exact h.out.elim
/-! try -/
/-! a kept error is asked -/
end
end
end DL

set_option Elab.async false
set_option linter.all false
set_option maxRecDepth 100000
/-! DQ2: more rules. -/
namespace DL
open PySem PySem.Spec PyProof.Rows
noncomputable section
section
variable {ρ : Env} {S : Sto} {PS : Flw → Env → Sto → Prop}
theorem k_asgL {ts : List Tg} {m : EM} (h : Ok (m ρ S) fun d S1 => ∃ ds ρ1, listOf S1 d = some ds ∧ ds.length = ts.length ∧ asgL ts ds ρ = some ρ1 ∧ PS .nx ρ1 S1) : OkS (sAsgL ts m ρ S) PS := Ok.to (h.imp fun d S1 ⟨ds, ρ1, e1, e2, e3, q⟩ => by simp only [e1, e2, if_true, e3]; exact ⟨q⟩)
theorem k_fldI {fi : Str → Str → Bool} {f : Str} {mo mv : EM} (h : Ok (mv ρ S) fun d S1 => Ok (mo ρ S1) fun o S2 => ∃ n C fs, o = .cell n ∧ S2[n]? = some (some (.ins C fs)) ∧ fi C f = true ∧ fs.length < 1000 ∧ PS .nx ρ (S2.set n (some (.ins C (putD f d fs))))) : OkS (sFldI fi f mo mv ρ S) PS :=
  Ok.to (h.imp fun d S1 q => Ok.to (q.imp fun o S2 ⟨n, C, fs, eo, e, hf, hl, q⟩ => by
    subst eo
    simp only [e, hf, hl, and_self, if_true]
    exact ⟨q⟩))
theorem k_whileN {c : BM} {b : SD} (I : Nat → Env → Sto → Prop) (K : Nat) (hK : K < FU) (h0 : I 0 ρ S)
    (hs : ∀ j ρ S, j ≤ K → I j ρ S → Ok (c ρ S) fun k S1 => if k = true then OkS (b ρ S1) fun f ρ2 S2 => match f with
      | .nx => j < K ∧ I (j + 1) ρ2 S2
      | .cnt => j < K ∧ I (j + 1) ρ2 S2
      | .brk => PS .nx ρ2 S2
      | .ret d => PS (.ret d) ρ2 S2 else PS .nx ρ S1) : OkS (sWhile c b ρ S) PS := by
  have go : ∀ (k j : Nat) (ρ : Env) (S : Sto), j ≤ K → K < j + k → I j ρ S → OkS (whLoop c b k ρ S) PS := by
    intro k
    induction k with
    | zero => intro j ρ S l l2 _; omega
    | succ k ih =>
      intro j ρ S l l2 hI
      unfold whLoop
      refine Ok.to ((hs j ρ S l hI).imp fun x S1 q => ?_)
      cases x with
      | false => exact ⟨q⟩
      | true =>
        rw [if_pos rfl] at q ⊢
        cases eb : b ρ S1 with
        | exc x ρ1 S1 => rw [eb] at q; exact q.out.elim
        | stuck => rw [eb] at q; exact q.out.elim
        | ok f ρ1 S1 =>
          rw [eb] at q
          cases f with
          | nx => exact ih (j + 1) ρ1 S1 q.out.1 (by omega) q.out.2
          | cnt => exact ih (j + 1) ρ1 S1 q.out.1 (by omega) q.out.2
          | brk => exact ⟨q.out⟩
          | ret d => exact ⟨q.out⟩
  exact go FU 0 ρ S (Nat.zero_le _) (by omega) h0
end
section
variable {ρ : Env} {S : Sto} {P : D → Sto → Prop}
theorem o_fldI {fi : Str → Str → Bool} {n : Nat} {C f : Str} {fs : List (Str × D)} {v : D} (h : S[n]? = some (some (.ins C fs))) (hf : fi C f = true) (hl : fs.lookup f = some v) (q : P v S) : Ok (oFldI fi f (.cell n) S) P := by
  unfold oFldI
  simp only [h, hf, if_true, hl]
  exact ⟨q⟩
theorem k_mo {C m : Str} {fm : FM} {mo : EM} {ma : AM} (h : Ok (mo ρ S) fun o S1 => ∃ n fs, o = .cell n ∧ S1[n]? = some (some (.ins C fs)) ∧ fs.lookup m = none ∧ Ok (ma ρ S1) fun ds S2 => Ok (fm (.cell n :: ds) S2) P) : Ok (eMo C m fm mo ma ρ S) P :=
  Ok.bind (h.imp fun o S1 ⟨n, fs, eo, e, hl, q⟩ => by
    subst eo
    simp only [e, hl, and_self, if_true]
    exact Ok.bind q)
theorem o_ixC {n j : Nat} {xs : List D} {v : D} {i : Int} (h : S[n]? = some (some (.lst xs))) (hi : i = (j : Int)) (hv : xs[j]? = some v) (q : P v S) : Ok (oIx (.cell n) (.int i) S) P := by
  subst hi
  exact o_ix (by simp only [seqOf, DL.listOf, h, Option.bind_some]; exact L2.atI_nat hv) q
theorem o_clear {n : Nat} {xs : List D} (h : S[n]? = some (some (.lst xs))) (q : P .non (S.set n (some (.lst [])))) : Ok (mClear (.cell n) [] S) P := by
  unfold mClear
  simp only [h]
  exact ⟨q⟩
end
end
end DL

set_option Elab.async false
set_option linter.all false
set_option maxRecDepth 100000
/-! HXW: a law's end over the head by one kernel run. -/
namespace DL
open PySem PySem.Spec PyProof.Rows L2
theorem walk_ofZ {l : PySem.W.OpenLaw} {n k : Nat} {q : Program} {loose : List Str} {XP : (Str → Option Value) → Heap → Prop} {YP : World → Heap → Prop} {d : DefRec} {m : FM} {x : Str}
    (hi : importsNone q = true) (hn : l.most = some n) (hn2 : n ≤ sizeLine) (hdf : d.params.defaults = []) (hr : Room k callerA)
    (F : ∀ (w : World) (mg : Str → Option Value) (fa : Addr) (h : Heap), YP w h → h.Ns mainGlobals mg → mg d.name = some (.ref fa) →
      ∃ K : PySem.W.Frag, K.In h ∧ ∃ fd : FuncData, (∀ (s : Shared) (u : Value), BindsTo s fd ⟨[u], []⟩ [(x, u)]) ∧ ∀ base : Heap, K.In base → base.Ns mainGlobals mg → FnG l.prog w K mg base k fa fd [x] m)
    (hm : ∀ ns : List Int, ns.length ≤ n → ∃ S', m [.ro (ns.map D.int)] [] = .ok (.bl true) S') : PySem.W.WalkO q loose XP YP l.row.toRowW d [] (fun f vs => PySem.call f vs) :=
  Att.attach_call hn hdf fun w s₀ s₁ mg mb fa o pm cd doc a vs ns G Y ho hd hcd hmg hobj hints hlen hg => by
    obtain ⟨K, KX, fd, hb, hF⟩ := F w mg fa _ Y G.T.g hmg
    obtain ⟨S', e⟩ := hm ns hlen
    exact law_callG KX G.T.g G.T.b G.T.builtins G.T.nolimit ((G.T.seer hi).mods.elim fun mm h => ⟨mm, h.1⟩) hg hobj hints (Nat.le_trans hlen hn2) hr hF hb e
end DL

set_option Elab.async false
set_option linter.all false
set_option maxRecDepth 100000
/-! printed by gen.py: what each def of law_k73_deeds_at_a_bench does to data -/
namespace Lw
open PySem DL
noncomputable section
def c_MOST_NUMBERS_wishes : D := (.int 8)
def c_LEAST : D := (.str "least")
def c_JUST : D := (.str "just")
def c_LETTERS : D := (.str "abcdefghijklmnopqrstuvwxyz")
def c_MOST_NUMBERS_programs : D := (.int 3)
def c_MOST_PLACES : D := (.int 6)
def c_MOST_ROWS : D := (.int 10)
def txL_Bare : List (Str × Bool) := [("Bare", true), ("Full", false), ("NoNumber", false), ("NoProgram", false), ("NoRow", false), ("NoWishes", false)]
def tx_Bare : Str → Option Bool := fun n => List.lookup n txL_Bare
def txL_Full : List (Str × Bool) := [("Bare", false), ("Full", true), ("NoNumber", false), ("NoProgram", false), ("NoRow", false), ("NoWishes", false)]
def tx_Full : Str → Option Bool := fun n => List.lookup n txL_Full
def tcL : List ((Str × Str) × Bool) := []
def tc : Str → Str → Option Bool := fun n c => List.lookup (n, c) tcL
def ttL : List ((Str × String) × Bool) := []
def tt : Str → String → Option Bool := fun n c => List.lookup (n, c) ttL
def foL : List (Str × Str) := []
def fo : Str → Str → Bool := fun n f => decide ((n, f) ∈ foL)
def fiL : List (Str × Str) := [("Bench", "own_paper"), ("Bench", "own_past"), ("Bench", "own_program")]
def fi : Str → Str → Bool := fun n f => decide ((n, f) ∈ fiL)
/-- is_name(thing, longest): 0 thing, 1 longest, 2 sign -/
def d_is_name : SD := (sRet (eAnd (eL fIsi (aCons (eVar 0) (aCons (eC (.ty "str")) aNil))) (eAnd (eChain oLe oLe (eC (.int 1)) (eL fLen (aCons (eVar 0) aNil)) (eVar 1)) (eL fAll (aCons (eLc (imOf mItS (eVar 0)) (.nm 2) bYes (e2 oIn (eVar 2) (eC c_LETTERS)) [2]) aNil)))))
def f_is_name : FM := runFn 3 2 d_is_name
/-- first_no_name(names): 0 names, 1 number, 2 name -/
def d_first_no_name : SD := (sSeq (sFor (imOfA mItE (aCons (eVar 0) aNil)) (.tup [.nm 1, .nm 2]) (sIf (bOr (bNot (bVal (eK f_is_name (byIxD [0, 1] [(D.int 6)]) (aCons (eVar 2) aNil) aNil))) (bVal (e2 oIn (eVar 2) (eSl oSl (eVar 0) oNone (oSome (eVar 1)))))) (sRet (eVar 1)) sNx)) (sRet (eC .non)))
def f_first_no_name : FM := runFn 3 1 d_first_no_name
/-- look_at_names(part, names, most): 0 part, 1 names, 2 most, 3 number -/
def d_look_at_names : SD := (sSeq (sIf (bOr (bNot (bVal (eL fIsi (aCons (eVar 1) (aCons (eC (.ty "list")) aNil))))) (bNot (bVal (eChain oLe oLe (eC (.int 1)) (eL fLen (aCons (eVar 1) aNil)) (eVar 2))))) (sRaise2 "NoProgram" "part" "number" (aCons (eVar 0) (aCons (eC .non) aNil))) sNx) (sSeq (sSet 3 (eL f_first_no_name (aCons (eVar 1) aNil))) (sIf (bVal (e2 oNotN (eVar 3) (eC .non))) (sRaise2 "NoProgram" "part" "number" (aCons (eVar 0) (aCons (eVar 3) aNil))) sNx)))
def f_look_at_names : FM := runFn 4 3 d_look_at_names
/-- is_whole(thing): 0 thing -/
def d_is_whole : SD := (sRet (eAnd (eL fIsi (aCons (eVar 0) (aCons (eC (.ty "int")) aNil))) (eNot (eL fIsi (aCons (eVar 0) (aCons (eC (.ty "bool")) aNil))))))
def f_is_whole : FM := runFn 1 1 d_is_whole
/-- look_at_many(many): 0 many -/
def d_look_at_many : SD := (sIf (bOr (bNot (bVal (eL f_is_whole (aCons (eVar 0) aNil)))) (bNot (bVal (eChain oLe oLe (eC (.int 0)) (eVar 0) (eC c_MOST_NUMBERS_wishes))))) (sRaise1 "NoNumber" "thing" (aCons (eVar 0) aNil)) sNx)
def f_look_at_many : FM := runFn 1 1 d_look_at_many
/-- is_line(many, thing): 0 many, 1 thing, 2 one -/
def d_is_line : SD := (sSeq (sExpr (eL f_look_at_many (aCons (eVar 0) aNil))) (sRet (eAnd (eL fIsi (aCons (eVar 1) (aCons (eC (.ty "list")) aNil))) (eAnd (e2 oEq (eL fLen (aCons (eVar 1) aNil)) (e2 oAdd (eVar 0) (eC (.int 1)))) (eL fAll (aCons (eLc (imOf mItL (eVar 1)) (.nm 2) bYes (eL f_is_whole (aCons (eVar 2) aNil)) [2]) aNil))))))
def f_is_line : FM := runFn 3 2 d_is_line
/-- is_wish(many, thing): 0 many, 1 thing -/
def d_is_wish : SD := (sSeq (sExpr (eL f_look_at_many (aCons (eVar 0) aNil))) (sSeq (sIf (bOr (bNot (bVal (eL fIsi (aCons (eVar 1) (aCons (eC (.ty "tuple")) aNil))))) (bOr (bVal (e2 oNe (eL fLen (aCons (eVar 1) aNil)) (eC (.int 2)))) (bNot (bVal (eL fIsi (aCons (e2 oIx (eVar 1) (eC (.int 0))) (aCons (eC (.ty "str")) aNil))))))) (sRet (eC (.bl false))) sNx) (sRet (eAnd (e2 oIn (e2 oIx (eVar 1) (eC (.int 0))) (eL mTup (aCons (eC c_LEAST) (aCons (eC c_JUST) aNil)))) (eL f_is_line (aCons (eVar 0) (aCons (e2 oIx (eVar 1) (eC (.int 1))) aNil)))))))
def f_is_wish : FM := runFn 2 2 d_is_wish
/-- are_wishes(many, thing, most): 0 many, 1 thing, 2 most, 3 wish -/
def d_are_wishes : SD := (sRet (eAnd (eL fIsi (aCons (eVar 1) (aCons (eC (.ty "list")) aNil))) (eAnd (e2 oLe (eL fLen (aCons (eVar 1) aNil)) (eVar 2)) (eL fAll (aCons (eLc (imOf mItL (eVar 1)) (.nm 3) bYes (eL f_is_wish (aCons (eVar 0) (aCons (eVar 3) aNil))) [3]) aNil)))))
def f_are_wishes : FM := runFn 4 3 d_are_wishes
/-- is_number_of(thing, many): 0 thing, 1 many -/
def d_is_number_of : SD := (sRet (eAnd (eL f_is_whole (aCons (eVar 0) aNil)) (eChain oLe oLt (eC (.int 0)) (eVar 0) (eVar 1))))
def f_is_number_of : FM := runFn 2 2 d_is_number_of
/-- is_row(numbers, places, thing): 0 numbers, 1 places, 2 thing -/
def d_is_row : SD := (sSeq (sIf (bOr (bNot (bVal (eL fIsi (aCons (eVar 2) (aCons (eC (.ty "tuple")) aNil))))) (bVal (e2 oNe (eL fLen (aCons (eVar 2) aNil)) (eC (.int 3))))) (sRet (eC (.bl false))) sNx) (sSeq (sIf (bOr (bNot (bVal (eL f_is_number_of (aCons (e2 oIx (eVar 2) (eC (.int 0))) (aCons (eVar 1) aNil))))) (bNot (bVal (eL f_is_number_of (aCons (e2 oIx (eVar 2) (eC (.int 1))) (aCons (eVar 1) aNil)))))) (sRet (eC (.bl false))) sNx) (sRet (eK f_are_wishes (byIxD [0, 1, 2] [(D.int 12)]) (aCons (e2 oMul (eC (.int 2)) (eVar 0)) (aCons (e2 oIx (eVar 2) (eC (.int 2))) aNil)) aNil))))
def f_is_row : FM := runFn 3 3 d_is_row
/-- look_at(thing): 0 thing, 1 names, 2 places, 3 rows, 4 number, 5 row -/
def d_look_at : SD := (sSeq (sIf (bOr (bNot (bVal (eL fIsi (aCons (eVar 0) (aCons (eC (.ty "tuple")) aNil))))) (bVal (e2 oNe (eL fLen (aCons (eVar 0) aNil)) (eC (.int 3))))) (sRaise2 "NoProgram" "part" "number" (aCons (eC .non) (aCons (eC .non) aNil))) sNx) (sSeq (sAsg (.tup [.nm 1, .nm 2, .nm 3]) (eVar 0)) (sSeq (sExpr (eK f_look_at_names (byIxD [0, 1, 2] []) (aCons (eC (.str "names")) (aCons (eVar 1) aNil)) (aCons (eC c_MOST_NUMBERS_programs) aNil))) (sSeq (sExpr (eK f_look_at_names (byIxD [0, 1, 2] []) (aCons (eC (.str "places")) (aCons (eVar 2) aNil)) (aCons (eC c_MOST_PLACES) aNil))) (sSeq (sIf (bOr (bNot (bVal (eL fIsi (aCons (eVar 3) (aCons (eC (.ty "list")) aNil))))) (bVal (e2 oGt (eL fLen (aCons (eVar 3) aNil)) (eC c_MOST_ROWS)))) (sRaise2 "NoProgram" "part" "number" (aCons (eC (.str "rows")) (aCons (eC .non) aNil))) sNx) (sFor (imOfA mItE (aCons (eVar 3) aNil)) (.tup [.nm 4, .nm 5]) (sIf (bNot (bVal (eL f_is_row (aCons (eL fLen (aCons (eVar 1) aNil)) (aCons (eL fLen (aCons (eVar 2) aNil)) (aCons (eVar 5) aNil)))))) (sRaise2 "NoProgram" "part" "number" (aCons (eC (.str "rows")) (aCons (eVar 4) aNil))) sNx)))))))
def f_look_at : FM := runFn 6 1 d_look_at
/-- copied_wishes(wishes): 0 wishes, 1 word, 2 line -/
def d_copied_wishes : SD := (sRet (eLcC (imOf mItL (eVar 0)) (.tup [.nm 1, .nm 2]) bYes (eL mTup (aCons (eVar 1) (aCons (eL fListC (aCons (eVar 2) aNil)) aNil))) [1, 2]))
def f_copied_wishes : FM := runFn 3 1 d_copied_wishes
/-- copied_row(row): 0 row -/
def d_copied_row : SD := (sRet (eL mTup (aCons (e2 oIx (eVar 0) (eC (.int 0))) (aCons (e2 oIx (eVar 0) (eC (.int 1))) (aCons (eL f_copied_wishes (aCons (e2 oIx (eVar 0) (eC (.int 2))) aNil)) aNil)))))
def f_copied_row : FM := runFn 1 1 d_copied_row
/-- copied(program): 0 program, 1 names, 2 places, 3 rows, 4 row -/
def d_copied : SD := (sSeq (sAsg (.tup [.nm 1, .nm 2, .nm 3]) (eVar 0)) (sRet (eL mTup (aCons (eL fListC (aCons (eVar 1) aNil)) (aCons (eL fListC (aCons (eVar 2) aNil)) (aCons (eLcC (imOf mItL (eVar 3)) (.nm 4) bYes (eL f_copied_row (aCons (eVar 4) aNil)) [4]) aNil))))))
def f_copied : FM := runFn 5 1 d_copied
/-- Bench_m___init__(self, program): 0 self, 1 program -/
def d_Bench_m___init__ : SD := (sSeq (sExpr (eBor (eL f_look_at (aCons (eVar 1) aNil)))) (sSeq (sFldI fi "own_program" (eVar 0) (e1 mFrzDp (eL f_copied (aCons (eVar 1) aNil)))) (sSeq (sFldI fi "own_past" (eVar 0) (eL mTup aNil)) (sFldI fi "own_paper" (eVar 0) (eC .non)))))
def f_Bench_m___init__ : FM := runFn 2 2 d_Bench_m___init__
/-- _law_pool(_law_script, _law_k): 0 _law_script, 1 _law_k, 2 _law_cell, 3 _law_amount, 4 _law_mixed -/
def d__law_pool : SD := (sSeq (sSet 2 (eC (.int 0))) (sSeq (sIf (bVal (e2 oLt (eVar 1) (eL fLen (aCons (eVar 0) aNil)))) (sSet 2 (e2 oIx (eVar 0) (eVar 1))) sNx) (sSeq (sSet 3 (eL fMax2 (aCons (eVar 2) (aCons (e2 oSub (e1 oNeg (eC (.int 1))) (eVar 2)) aNil)))) (sSeq (sSet 4 (e2 oMod (e2 oMul (e2 oAdd (e2 oAdd (e2 oAdd (e2 oMod (eVar 3) (eC (.int 2147483629))) (e2 oMul (e2 oMul (eC (.int 7919)) (eVar 1)) (eVar 1))) (e2 oMul (eC (.int 31)) (eVar 1))) (eC (.int 17))) (eC (.int 48271))) (eC (.int 2147483647)))) (sRet (eL mCell (aCons (e2 oMul (eVar 3) (eL fInt (aCons (e2 oGe (eVar 3) (e2 oPow (eC (.int 10)) (eC (.int 18)))) aNil))) (aCons (eVar 4) aNil))))))))
def f__law_pool : FM := runFn 5 2 d__law_pool
/-- _law_take(_law_pool_here, _law_wide): 0 _law_pool_here, 1 _law_wide, 2 _law_found -/
def d__law_take : SD := (sSeq (sIf (bVal (e2 oGt (e2 oIx (eVar 0) (eC (.int 0))) (eC (.int 0)))) (sSeq (sSet 2 (e2 oMod (e2 oIx (eVar 0) (eC (.int 0))) (eVar 1))) (sSeq (sSub setD (eVar 0) (eC (.int 0)) (e2 oFdiv (e2 oIx (eVar 0) (eC (.int 0))) (eVar 1))) (sRet (eVar 2)))) sNx) (sSeq (sSub setD (eVar 0) (eC (.int 1)) (e2 oMod (e2 oAdd (e2 oMul (e2 oIx (eVar 0) (eC (.int 1))) (eC (.int 69621))) (eC (.int 7))) (eC (.int 2147483647)))) (sRet (e2 oMod (e2 oFdiv (e2 oMod (e2 oMul (e2 oIx (eVar 0) (eC (.int 1))) (e2 oIx (eVar 0) (eC (.int 1)))) (eC (.int 2147483629))) (eC (.int 32))) (eVar 1)))))
def f__law_take : FM := runFn 3 2 d__law_take
/-- _law_free_row(_law_pool_here, _law_size, _law_places): 0 _law_pool_here, 1 _law_size, 2 _law_places, 3 _law_some, 4 _law_turn, 5 _law_line, 6 _law_k -/
def d__law_free_row : SD := (sSeq (sSet 3 (eL mCell aNil)) (sSeq (sFor (imOfA mItR1 (aCons (eL f__law_take (aCons (eVar 0) (aCons (eC (.int 4)) aNil))) aNil)) (.nm 4) (sSeq (sSet 5 (eLc (imOfA mItR1 (aCons (e2 oAdd (e2 oMul (eC (.int 2)) (eVar 1)) (eC (.int 1))) aNil)) (.nm 6) bYes (e2 oSub (eL f__law_take (aCons (eVar 0) (aCons (eC (.int 7)) aNil))) (eC (.int 3))) [6])) (sExpr (eMt chkL mAppend (eVar 3) (aCons (eL mTup (aCons (e2 oIx (eL mLst (aCons (eC (.str "least")) (aCons (eC (.str "just")) aNil))) (eL f__law_take (aCons (eVar 0) (aCons (eC (.int 2)) aNil)))) (aCons (eVar 5) aNil))) aNil))))) (sRet (eL mTup (aCons (eL f__law_take (aCons (eVar 0) (aCons (eVar 2) aNil))) (aCons (eL f__law_take (aCons (eVar 0) (aCons (eVar 2) aNil))) (aCons (e1 mFrz (eVar 3)) aNil)))))))
def f__law_free_row : FM := runFn 7 3 d__law_free_row
/-- _law_copy(_law_row): 0 _law_row, 1 _law_word, 2 _law_line -/
def d__law_copy : SD := (sRet (eL mTup (aCons (e2 oIx (eVar 0) (eC (.int 0))) (aCons (e2 oIx (eVar 0) (eC (.int 1))) (aCons (eLcC (imOf mItL (e2 oIx (eVar 0) (eC (.int 2)))) (.tup [.nm 1, .nm 2]) bYes (eL mTup (aCons (eVar 1) (aCons (eL fListC (aCons (eVar 2) aNil)) aNil))) [1, 2]) aNil)))))
def f__law_copy : FM := runFn 3 1 d__law_copy
/-- Bench_m_program(self): 0 self -/
def d_Bench_m_program : SD := (sRet (eL f_copied (aCons (e1 (oFldI fi "own_program") (eVar 0)) aNil)))
def f_Bench_m_program : FM := runFn 1 1 d_Bench_m_program
/-- Bench_m_deeds(self): 0 self -/
def d_Bench_m_deeds : SD := (sRet (eL fLen (aCons (e1 (oFldI fi "own_past") (eVar 0)) aNil)))
def f_Bench_m_deeds : FM := runFn 1 1 d_Bench_m_deeds
/-- Bench_m_keeps(self): 0 self -/
def d_Bench_m_keeps : SD := (sRet (e2 oNotN (e1 (oFldI fi "own_paper") (eVar 0)) (eC .non)))
def f_Bench_m_keeps : FM := runFn 1 1 d_Bench_m_keeps
/-- Bench_m___len__(self): 0 self -/
def d_Bench_m___len__ : SD := (sRet (eL fLen (aCons (e2 oIx (e1 (oFldI fi "own_program") (eVar 0)) (eC (.int 2))) aNil)))
def f_Bench_m___len__ : FM := runFn 1 1 d_Bench_m___len__
/-- _law_shows(_law_desk, _law_seat): 0 _law_desk, 1 _law_seat, 2 _law_turn, 3 _law_heads, 4 _law_rows, 5 _law_past, 6 _law_told, 7 _law_row -/
def d__law_shows : SD := (sSeq (sAsgL [.nm 3, .nm 4, .nm 5] (eVar 1)) (sSeq (sFor (imOfA mItR1 (aCons (eC (.int 2)) aNil)) (.nm 2) (sSeq (sSet 6 (eMo "Bench" "program" f_Bench_m_program (eVar 0) aNil)) (sSeq (sIf (bOr (bVal (e2 oNeDp (eL fReprD (aCons (eVar 6) aNil)) (eL fReprD (aCons (eL mTup (aCons (e2 oIx (eVar 3) (eC (.int 0))) (aCons (e2 oIx (eVar 3) (eC (.int 1))) (aCons (eVar 4) aNil)))) aNil)))) (bNot (bVal (eL fIsi (aCons (eVar 6) (aCons (eC (.ty "tuple")) aNil)))))) (sRet (eC (.bl false))) sNx) (sSeq (sExpr (eMt chkL mAppend (e2 oIx (eVar 6) (eC (.int 0))) (aCons (eC (.str "z")) aNil))) (sSeq (sExpr (eMt chkL mClear (e2 oIx (eVar 6) (eC (.int 1))) aNil)) (sSeq (sFor (imOf mItL (e2 oIx (eVar 6) (eC (.int 2)))) (.nm 7) (sExpr (eMt chkL mAppend (e2 oIx (eVar 7) (eC (.int 2))) (aCons (eC .non) aNil)))) (sExpr (eMt chkL mClear (e2 oIx (eVar 6) (eC (.int 2))) aNil)))))))) (sRet (eAnd (e2 oEqDp (eMo "Bench" "deeds" f_Bench_m_deeds (eVar 0) aNil) (eL fLen (aCons (eVar 5) aNil))) (eAnd (e2 oEqDp (eL (fLenO "Bench" f_Bench_m___len__) (aCons (eVar 0) aNil)) (eL fLen (aCons (eVar 4) aNil))) (e2 oEqDp (eL fReprD (aCons (eMo "Bench" "keeps" f_Bench_m_keeps (eVar 0) aNil) aNil)) (eC (.str "False"))))))))
def f__law_shows : FM := runFn 8 2 d__law_shows
/-- Bench_m_done(self, rows, paper): 0 self, 1 rows, 2 paper, 3 names, 4 places, 5 before -/
def d_Bench_m_done : SD := (sSeq (sAsg (.tup [.nm 3, .nm 4, .nm 5]) (e1 (oFldI fi "own_program") (eVar 0))) (sSeq (sFldI fi "own_past" (eVar 0) (e2 oAddU (e1 (oFldI fi "own_past") (eVar 0)) (eL mTup (aCons (e1 (oFldI fi "own_program") (eVar 0)) aNil)))) (sSeq (sFldI fi "own_program" (eVar 0) (eL mTup (aCons (eVar 3) (aCons (eVar 4) (aCons (eVar 1) aNil))))) (sFldI fi "own_paper" (eVar 0) (eVar 2)))))
def f_Bench_m_done : FM := runFn 6 3 d_Bench_m_done
/-- Bench_m_has_left(self): 0 self -/
def d_Bench_m_has_left : SD := (sRet (eAnd (e2 oNotN (e1 (oFldI fi "own_paper") (eVar 0)) (eC .non)) (e2 oEq (e2 oIx (e1 (oFldI fi "own_paper") (eVar 0)) (eC (.int 0))) (eC (.str "left")))))
def f_Bench_m_has_left : FM := runFn 1 1 d_Bench_m_has_left
/-- Bench_m_put(self, row): 0 self, 1 row, 2 names, 3 places, 4 rows -/
def d_Bench_m_put : SD := (sSeq (sAsg (.tup [.nm 2, .nm 3, .nm 4]) (e1 (oFldI fi "own_program") (eVar 0))) (sSeq (sIf (bNot (bVal (eBor (eL f_is_row (aCons (eL fLen (aCons (eVar 2) aNil)) (aCons (eL fLen (aCons (eVar 3) aNil)) (aCons (eVar 1) aNil))))))) (sRaise1 "NoRow" "row" (aCons (eC .non) aNil)) sNx) (sSeq (sIf (bVal (e2 oEq (eL fLen (aCons (eVar 4) aNil)) (eC c_MOST_ROWS))) (sRaise0 "Full") sNx) (sSeq (sExpr (eMo "Bench" "done" f_Bench_m_done (eVar 0) (aCons (e2 oAdd (eVar 4) (eL mLst (aCons (e1 mFrzDp (eL f_copied_row (aCons (eVar 1) aNil))) aNil))) (aCons (eIf (bVal (eMo "Bench" "has_left" f_Bench_m_has_left (eVar 0) aNil)) (e1 (oFldI fi "own_paper") (eVar 0)) (eC .non)) aNil)))) (sRet (eL fLen (aCons (eVar 4) aNil)))))))
def f_Bench_m_put : FM := runFn 5 2 d_Bench_m_put
/-- _law_put(_law_desk, _law_seat, _law_row): 0 _law_desk, 1 _law_seat, 2 _law_row, 3 _law_handed, 4 _law_found, 5 _law_heads, 6 _law_rows, 7 _law_past, 8 _law_word, 9 _law_line -/
def d__law_put : SD := (sSeq (sAsgL [.nm 5, .nm 6, .nm 7] (eVar 1)) (sSeq (sSet 3 (eL f__law_copy (aCons (eVar 2) aNil))) (sSeq (sSet 4 (eC .non)) (sSeq (sTryN tx_Full (sSet 4 (eMo "Bench" "put" f_Bench_m_put (eVar 0) (aCons (eVar 3) aNil))) (sSet 4 (eC (.str "full")))) (sSeq (sIf (bVal (e2 oNeDp (eL fReprD (aCons (eVar 3) aNil)) (eL fReprD (aCons (eVar 2) aNil)))) (sRet (eC .non)) sNx) (sSeq (sFor (imOf mItL (e2 oIx (eVar 3) (eC (.int 2)))) (.tup [.nm 8, .nm 9]) (sSub setD (eVar 9) (eC (.int 0)) (e2 oAddU (e2 oIx (eVar 9) (eC (.int 0))) (eC (.int 1))))) (sSeq (sExpr (eMt chkL mClear (e2 oIx (eVar 3) (eC (.int 2))) aNil)) (sSeq (sIf (bVal (e2 oEqDp (eL fLen (aCons (eVar 6) aNil)) (eC (.int 10)))) (sRet (e2 oIx (eL mLst (aCons (eC .non) (aCons (eVar 1) aNil))) (eL fInt (aCons (e2 oEqDp (eVar 4) (eC (.str "full"))) aNil)))) sNx) (sRet (e2 oIx (eL mLst (aCons (eC .non) (aCons (eL mLst (aCons (eVar 5) (aCons (e2 oAddU (eVar 6) (eL mLst (aCons (eVar 2) aNil))) (aCons (e2 oAddU (eVar 7) (eL mLst (aCons (eVar 6) aNil))) aNil)))) aNil))) (eL fInt (aCons (e2 oEqDp (eL fReprD (aCons (eVar 4) aNil)) (eL fReprD (aCons (eL fLen (aCons (eVar 6) aNil)) aNil))) aNil))))))))))))
def f__law_put : FM := runFn 10 3 d__law_put
/-- Bench_m_look_at_number(self, number): 0 self, 1 number -/
def d_Bench_m_look_at_number : SD := (sIf (bNot (bVal (eL f_is_number_of (aCons (eVar 1) (aCons (eL (fLenO "Bench" f_Bench_m___len__) (aCons (eVar 0) aNil)) aNil))))) (sRaise1 "NoRow" "row" (aCons (eVar 1) aNil)) sNx)
def f_Bench_m_look_at_number : FM := runFn 2 2 d_Bench_m_look_at_number
/-- Bench_m_paper_without(self, number): 0 self, 1 number, 2 word, 3 first, 4 second, 5 row, 6 lines, 7 entries -/
def d_Bench_m_paper_without : SD := (sSeq (sIf (bVal (e2 oIsN (e1 (oFldI fi "own_paper") (eVar 0)) (eC .non))) (sRet (eC .non)) sNx) sNever)
def f_Bench_m_paper_without : FM := runFn 8 2 d_Bench_m_paper_without
/-- Bench_m_take(self, number): 0 self, 1 number, 2 rows -/
def d_Bench_m_take : SD := (sSeq (sExpr (eMo "Bench" "look_at_number" f_Bench_m_look_at_number (eVar 0) (aCons (eVar 1) aNil))) (sSeq (sSet 2 (e2 oIx (e1 (oFldI fi "own_program") (eVar 0)) (eC (.int 2)))) (sSeq (sExpr (eMo "Bench" "done" f_Bench_m_done (eVar 0) (aCons (e2 oAdd (eSl oSl (eVar 2) oNone (oSome (eVar 1))) (eSl oSl (eVar 2) (oSome (e2 oAdd (eVar 1) (eC (.int 1)))) oNone)) (aCons (eMo "Bench" "paper_without" f_Bench_m_paper_without (eVar 0) (aCons (eVar 1) aNil)) aNil)))) (sRet (eL f_copied_row (aCons (e2 oIx (eVar 2) (eVar 1)) aNil))))))
def f_Bench_m_take : FM := runFn 3 2 d_Bench_m_take
/-- _law_taken(_law_pool_here, _law_desk, _law_seat): 0 _law_pool_here, 1 _law_desk, 2 _law_seat, 3 _law_at, 4 _law_found, 5 _law_heads, 6 _law_rows, 7 _law_past -/
def d__law_taken : SD := (sSeq (sAsgL [.nm 5, .nm 6, .nm 7] (eVar 2)) (sSeq (sSet 3 (eL f__law_take (aCons (eVar 0) (aCons (eL fLen (aCons (eVar 6) aNil)) aNil)))) (sSeq (sSet 4 (eMoK "Bench" "take" f_Bench_m_take [0, 1] [] (eVar 1) aNil (aCons (eVar 3) aNil))) (sSeq (sIf (bVal (e2 oNeDp (eL fReprD (aCons (eVar 4) aNil)) (eL fReprD (aCons (e2 oIx (eVar 6) (eVar 3)) aNil)))) (sRet (eC .non)) sNx) (sSeq (sExpr (eMt chkL mAppend (e2 oIx (eVar 4) (eC (.int 2))) (aCons (eC .non) aNil))) (sRet (eL mLst (aCons (eVar 5) (aCons (e2 oAdd (eSl oSl (eVar 6) oNone (oSome (eVar 3))) (eSl oSl (eVar 6) (oSome (e2 oAdd (eVar 3) (eC (.int 1)))) oNone)) (aCons (e2 oAdd (eVar 7) (eL mLst (aCons (eVar 6) aNil))) aNil))))))))))
def f__law_taken : FM := runFn 8 3 d__law_taken
/-- Bench_m_change(self, number, wishes): 0 self, 1 number, 2 wishes, 3 later, 4 stays, 5 names, 6 places, 7 rows, 8 start, 9 to, 10 before -/
def d_Bench_m_change : SD := (sSeq (sExpr (eMo "Bench" "look_at_number" f_Bench_m_look_at_number (eVar 0) (aCons (eVar 1) aNil))) (sSeq (sAsg (.tup [.nm 5, .nm 6, .nm 7]) (e1 (oFldI fi "own_program") (eVar 0))) (sSeq (sIf (bNot (bVal (eBor (eK f_are_wishes (byIxD [0, 1, 2] [(D.int 12)]) (aCons (e2 oMul (eC (.int 2)) (eL fLen (aCons (eVar 5) aNil))) (aCons (eVar 2) aNil)) aNil)))) (sRaise0 "NoWishes") sNx) (sSeq (sAsg (.tup [.nm 8, .nm 9, .nm 10]) (e2 oIx (eVar 7) (eVar 1))) (sSeq (sSet 3 (e2 oAdd (e2 oAdd (eSl oSl (eVar 7) oNone (oSome (eVar 1))) (eL mLst (aCons (eL mTup (aCons (eVar 8) (aCons (eVar 9) (aCons (e1 mFrzDp (eL f_copied_wishes (aCons (eVar 2) aNil))) aNil)))) aNil))) (eSl oSl (eVar 7) (oSome (e2 oAdd (eVar 1) (eC (.int 1)))) oNone))) (sSeq (sSet 4 (eAnd (eMo "Bench" "has_left" f_Bench_m_has_left (eVar 0) aNil) (e2 oNotIn (eVar 1) (e2 oIx (e2 oIx (e1 (oFldI fi "own_paper") (eVar 0)) (eC (.int 1))) (eC (.int 0)))))) (sExpr (eMo "Bench" "done" f_Bench_m_done (eVar 0) (aCons (eVar 3) (aCons (eIf (bTru (eVar 4)) (e1 (oFldI fi "own_paper") (eVar 0)) (eC .non)) aNil))))))))))
def f_Bench_m_change : FM := runFn 11 3 d_Bench_m_change
/-- _law_changed(_law_pool_here, _law_desk, _law_seat): 0 _law_pool_here, 1 _law_desk, 2 _law_seat, 3 _law_at, 4 _law_more, 5 _law_handed, 6 _law_heads, 7 _law_rows, 8 _law_past, 9 _law_word, 10 _law_line, 11 _law_here, 12 _law_there, 13 _law_before -/
def d__law_changed : SD := (sSeq (sAsgL [.nm 6, .nm 7, .nm 8] (eVar 2)) (sSeq (sSet 3 (eL f__law_take (aCons (eVar 0) (aCons (eL fLen (aCons (eVar 7) aNil)) aNil)))) (sSeq (sSet 4 (e2 oIx (eL f__law_free_row (aCons (eVar 0) (aCons (eL fLen (aCons (e2 oIx (eVar 6) (eC (.int 0))) aNil)) (aCons (eL fLen (aCons (e2 oIx (eVar 6) (eC (.int 1))) aNil)) aNil)))) (eC (.int 2)))) (sSeq (sSet 5 (eLcC (imOf mItL (eVar 4)) (.tup [.nm 9, .nm 10]) bYes (eL mTup (aCons (eVar 9) (aCons (eL fListC (aCons (eVar 10) aNil)) aNil))) [9, 10])) (sSeq (sIf (bOr (bVal (e2 oNotN (eMoK "Bench" "change" f_Bench_m_change [0, 2, 1] [] (eVar 1) aNil (aCons (eVar 5) (aCons (eVar 3) aNil))) (eC .non))) (bVal (e2 oNeDp (eL fReprD (aCons (eVar 5) aNil)) (eL fReprD (aCons (eVar 4) aNil))))) (sRet (eC .non)) sNx) (sSeq (sExpr (eMt chkL mAppend (eVar 5) (aCons (eC .non) aNil))) (sSeq (sFor (imOf mItL (eSl oSl (eVar 5) oNone (oSome (e1 oNeg (eC (.int 1)))))) (.tup [.nm 9, .nm 10]) (sExpr (eMt chkL mClear (eVar 10) aNil))) (sSeq (sAsg (.tup [.nm 11, .nm 12, .nm 13]) (e2 oIx (eVar 7) (eVar 3))) (sRet (eL mLst (aCons (eVar 6) (aCons (e2 oAdd (e2 oAdd (eSl oSl (eVar 7) oNone (oSome (eVar 3))) (eL mLst (aCons (eL mTup (aCons (eVar 11) (aCons (eVar 12) (aCons (eVar 4) aNil)))) aNil))) (eSl oSl (eVar 7) (oSome (e2 oAdd (eVar 3) (eC (.int 1)))) oNone)) (aCons (e2 oAdd (eVar 8) (eL mLst (aCons (eVar 7) aNil))) aNil)))))))))))))
def f__law_changed : FM := runFn 14 3 d__law_changed
/-- Bench_m_undo(self): 0 self, 1 last, 2 before -/
def d_Bench_m_undo : SD := (sSeq (sIf (bVal (e2 oEq (e1 (oFldI fi "own_past") (eVar 0)) (eL mTup aNil))) (sRaise0 "Bare") sNx) (sSeq (sStarF 2 1 (e1 (oFldI fi "own_past") (eVar 0))) (sSeq (sFldI fi "own_past" (eVar 0) (eL fTuple (aCons (eVar 2) aNil))) (sSeq (sFldI fi "own_program" (eVar 0) (eVar 1)) (sFldI fi "own_paper" (eVar 0) (eC .non))))))
def f_Bench_m_undo : FM := runFn 3 1 d_Bench_m_undo
/-- _law_undone(_law_desk, _law_seat): 0 _law_desk, 1 _law_seat, 2 _law_found, 3 _law_heads, 4 _law_rows, 5 _law_past -/
def d__law_undone : SD := (sSeq (sAsgL [.nm 3, .nm 4, .nm 5] (eVar 1)) (sSeq (sSet 2 (eC .non)) (sSeq (sTryN tx_Bare (sSet 2 (eMo "Bench" "undo" f_Bench_m_undo (eVar 0) aNil)) (sSet 2 (eC (.str "bare")))) (sSeq (sIf (bVal (e2 oEqZ (eVar 5) (eL mLst aNil))) (sRet (e2 oIx (eL mLst (aCons (eC .non) (aCons (eVar 1) aNil))) (eL fInt (aCons (e2 oEq (eVar 2) (eC (.str "bare"))) aNil)))) sNx) (sRet (e2 oIx (eL mLst (aCons (eC .non) (aCons (eL mLst (aCons (eVar 3) (aCons (e2 oIx (eVar 5) (e1 oNeg (eC (.int 1)))) (aCons (eSl oSl (eVar 5) oNone (oSome (e1 oNeg (eC (.int 1))))) aNil)))) aNil))) (eL fInt (aCons (e2 oIsN (eVar 2) (eC .non)) aNil))))))))
def f__law_undone : FM := runFn 6 2 d__law_undone
/-- law(_law_script): 0 _law_script, 1 _law_pool_here, 2 _law_heads, 3 _law_rows, 4 _law_handed, 5 _law_desk, 6 _law_seat, 7 _law_k, 8 _law_turn, 9 _law_way, 10 _law_row -/
def d_law : SD := (sSeq (sSet 1 (eL f__law_pool (aCons (eVar 0) (aCons (eC (.int 0)) aNil)))) (sSeq (sSet 2 (eL mTup (aCons (eSl oSl (eL mLst (aCons (eC (.str "x")) (aCons (eC (.str "y")) aNil))) oNone (oSome (e2 oAdd (eC (.int 1)) (eL f__law_take (aCons (eVar 1) (aCons (eC (.int 2)) aNil)))))) (aCons (eSl oSl (eL mLst (aCons (eC (.str "a")) (aCons (eC (.str "b")) (aCons (eC (.str "c")) aNil)))) oNone (oSome (e2 oAdd (eC (.int 1)) (eL f__law_take (aCons (eVar 1) (aCons (eC (.int 3)) aNil)))))) aNil)))) (sSeq (sSet 3 (eLc (imOfA mItR1 (aCons (eL f__law_take (aCons (eVar 1) (aCons (eC (.int 4)) aNil))) aNil)) (.nm 8) bYes (eL f__law_free_row (aCons (eVar 1) (aCons (eL fLen (aCons (e2 oIx (eVar 2) (eC (.int 0))) aNil)) (aCons (eL fLen (aCons (e2 oIx (eVar 2) (eC (.int 1))) aNil)) aNil)))) [8])) (sSeq (sSet 4 (eL mTup (aCons (eL fListC (aCons (e2 oIx (eVar 2) (eC (.int 0))) aNil)) (aCons (eL fList (aCons (e2 oIx (eVar 2) (eC (.int 1))) aNil)) (aCons (eLcC (imOf mItL (eVar 3)) (.nm 10) bYes (eL f__law_copy (aCons (eVar 10) aNil)) [10]) aNil))))) (sSeq (sSet 5 (eMkK "Bench" f_Bench_m___init__ [0, 1] [] aNil (aCons (eVar 4) aNil))) (sSeq (sSet 6 (eL mLst (aCons (eVar 2) (aCons (eVar 3) (aCons (eL mLst aNil) aNil))))) (sSeq (sExpr (eMt chkL mAppend (e2 oIx (eVar 4) (eC (.int 2))) (aCons (eC .non) aNil))) (sSeq (sExpr (eMt chkL mClear (e2 oIx (eVar 4) (eC (.int 0))) aNil)) (sSeq (sIf (bNot (bVal (eL f__law_shows (aCons (eVar 5) (aCons (eVar 6) aNil))))) (sRet (eC (.bl false))) sNx) (sSeq (sFor (imOfA mItR2 (aCons (eC (.int 1)) (aCons (eL fMax2 (aCons (eC (.int 6)) (aCons (eL fMin2 (aCons (eL fLen (aCons (eVar 0) aNil)) (aCons (eC (.int 41)) aNil))) aNil))) aNil))) (.nm 7) (sSeq (sSet 1 (eL f__law_pool (aCons (eVar 0) (aCons (eVar 7) aNil)))) (sSeq (sSet 9 (eL f__law_take (aCons (eVar 1) (aCons (eC (.int 10)) aNil)))) (sSeq (sIf (bVal (e2 oLt (eVar 9) (eC (.int 4)))) (sSet 6 (eL f__law_put (aCons (eVar 5) (aCons (eVar 6) (aCons (eL f__law_free_row (aCons (eVar 1) (aCons (eL fLen (aCons (e2 oIx (eVar 2) (eC (.int 0))) aNil)) (aCons (eL fLen (aCons (e2 oIx (eVar 2) (eC (.int 1))) aNil)) aNil)))) aNil))))) (sIf (bAnd (bVal (e2 oLt (eVar 9) (eC (.int 6)))) (bVal (e2 oNeZ (e2 oIx (eVar 6) (eC (.int 1))) (eL mLst aNil)))) (sSet 6 (eL f__law_taken (aCons (eVar 1) (aCons (eVar 5) (aCons (eVar 6) aNil))))) (sIf (bAnd (bVal (e2 oLt (eVar 9) (eC (.int 8)))) (bVal (e2 oNeZ (e2 oIx (eVar 6) (eC (.int 1))) (eL mLst aNil)))) (sSet 6 (eL f__law_changed (aCons (eVar 1) (aCons (eVar 5) (aCons (eVar 6) aNil))))) (sSet 6 (eL f__law_undone (aCons (eVar 5) (aCons (eVar 6) aNil))))))) (sIf (bOr (bVal (e2 oIsN (eVar 6) (eC .non))) (bNot (bVal (eL f__law_shows (aCons (eVar 5) (aCons (eVar 6) aNil)))))) (sRet (eC (.bl false))) sNx))))) (sSeq (sFor (imOfA mItR1 (aCons (e2 oSub (eC (.int 10)) (eL fLen (aCons (e2 oIx (eVar 6) (eC (.int 1))) aNil))) aNil)) (.nm 8) (sSeq (sSet 6 (eL f__law_put (aCons (eVar 5) (aCons (eVar 6) (aCons (eL f__law_free_row (aCons (eVar 1) (aCons (eL fLen (aCons (e2 oIx (eVar 2) (eC (.int 0))) aNil)) (aCons (eL fLen (aCons (e2 oIx (eVar 2) (eC (.int 1))) aNil)) aNil)))) aNil))))) (sIf (bVal (e2 oIsN (eVar 6) (eC .non))) (sRet (eC (.bl false))) sNx))) (sSeq (sIf (bOr (bVal (e2 oNe (eL f__law_put (aCons (eVar 5) (aCons (eVar 6) (aCons (eL mTup (aCons (eC (.int 0)) (aCons (eC (.int 0)) (aCons (eL mLst aNil) aNil)))) aNil)))) (eVar 6))) (bNot (bVal (eL f__law_shows (aCons (eVar 5) (aCons (eVar 6) aNil)))))) (sRet (eC (.bl false))) sNx) (sSeq (sWhile (bVal (e2 oNeZ (e2 oIx (eVar 6) (eC (.int 2))) (eL mLst aNil))) (sSeq (sSet 6 (eL f__law_undone (aCons (eVar 5) (aCons (eVar 6) aNil)))) (sIf (bOr (bVal (e2 oIsN (eVar 6) (eC .non))) (bNot (bVal (eL f__law_shows (aCons (eVar 5) (aCons (eVar 6) aNil)))))) (sRet (eC (.bl false))) sNx))) (sRet (eAnd (e2 oEq (eL f__law_undone (aCons (eVar 5) (aCons (eVar 6) aNil))) (eVar 6)) (eL f__law_shows (aCons (eVar 5) (aCons (eVar 6) aNil))))))))))))))))))
def f_law : FM := runFn 11 1 d_law
end
end Lw

namespace Lw
open PySem L2 DL
noncomputable section
/-- what the top has written -/
structure Txt (w : World) (K : PySem.W.Frag) (mg : Str → Option Value) : Prop where
  d_is_name : DefAtD K mg "is_name" s_is_name ["thing", "longest"] [] [("longest", (V.int 6))]
  d_first_no_name : DefAt K mg "first_no_name" s_first_no_name ["names"]
  d_look_at_names : DefAtD K mg "look_at_names" s_look_at_names ["part", "names", "most"] [] []
  d_is_whole : DefAt K mg "is_whole" s_is_whole ["thing"]
  d_look_at_many : DefAt K mg "look_at_many" s_look_at_many ["many"]
  d_is_line : DefAt K mg "is_line" s_is_line ["many", "thing"]
  d_is_wish : DefAt K mg "is_wish" s_is_wish ["many", "thing"]
  d_are_wishes : DefAtD K mg "are_wishes" s_are_wishes ["many", "thing", "most"] [] [("most", (V.int 12))]
  d_is_number_of : DefAt K mg "is_number_of" s_is_number_of ["thing", "many"]
  d_is_row : DefAt K mg "is_row" s_is_row ["numbers", "places", "thing"]
  d_look_at : DefAt K mg "look_at" s_look_at ["thing"]
  d_copied_wishes : DefAt K mg "copied_wishes" s_copied_wishes ["wishes"]
  d_copied_row : DefAt K mg "copied_row" s_copied_row ["row"]
  d_copied : DefAt K mg "copied" s_copied ["program"]
  d_Bench_m___init__ : MakeAtD K mg "Bench" "Bench.__init__" s_Bench_m___init__ [] []
  d__law_pool : DefAt K mg "_law_pool" s__law_pool ["_law_script", "_law_k"]
  d__law_take : DefAt K mg "_law_take" s__law_take ["_law_pool_here", "_law_wide"]
  d__law_free_row : DefAt K mg "_law_free_row" s__law_free_row ["_law_pool_here", "_law_size", "_law_places"]
  d__law_copy : DefAt K mg "_law_copy" s__law_copy ["_law_row"]
  d_Bench_m_program : MethAt K "Bench" "program" "Bench.program" s_Bench_m_program ["self"]
  d_Bench_m_deeds : MethAt K "Bench" "deeds" "Bench.deeds" s_Bench_m_deeds ["self"]
  d_Bench_m_keeps : MethAt K "Bench" "keeps" "Bench.keeps" s_Bench_m_keeps ["self"]
  d_Bench_m___len__ : MethAt K "Bench" "__len__" "Bench.__len__" s_Bench_m___len__ ["self"]
  d__law_shows : DefAt K mg "_law_shows" s__law_shows ["_law_desk", "_law_seat"]
  d_Bench_m_done : MethAt K "Bench" "done" "Bench.done" s_Bench_m_done ["self", "rows", "paper"]
  d_Bench_m_has_left : MethAt K "Bench" "has_left" "Bench.has_left" s_Bench_m_has_left ["self"]
  d_Bench_m_put : MethAt K "Bench" "put" "Bench.put" s_Bench_m_put ["self", "row"]
  d__law_put : DefAt K mg "_law_put" s__law_put ["_law_desk", "_law_seat", "_law_row"]
  d_Bench_m_look_at_number : MethAt K "Bench" "look_at_number" "Bench.look_at_number" s_Bench_m_look_at_number ["self", "number"]
  d_Bench_m_paper_without : MethAt K "Bench" "paper_without" "Bench.paper_without" s_Bench_m_paper_without ["self", "number"]
  d_Bench_m_take : MethAtD K "Bench" "take" "Bench.take" s_Bench_m_take [] []
  d__law_taken : DefAt K mg "_law_taken" s__law_taken ["_law_pool_here", "_law_desk", "_law_seat"]
  d_Bench_m_change : MethAtD K "Bench" "change" "Bench.change" s_Bench_m_change [] []
  d__law_changed : DefAt K mg "_law_changed" s__law_changed ["_law_pool_here", "_law_desk", "_law_seat"]
  d_Bench_m_undo : MethAt K "Bench" "undo" "Bench.undo" s_Bench_m_undo ["self"]
  d__law_undone : DefAt K mg "_law_undone" s__law_undone ["_law_desk", "_law_seat"]
  d_law : DefAt K mg "law" s_law ["_law_script"]
  z_IndexError : mg "IndexError" = none
  z_all : mg "all" = none
  z_bool : mg "bool" = none
  z_enumerate : mg "enumerate" = none
  z_int : mg "int" = none
  z_isinstance : mg "isinstance" = none
  z_len : mg "len" = none
  z_list : mg "list" = none
  z_max : mg "max" = none
  z_min : mg "min" = none
  z_range : mg "range" = none
  z_repr : mg "repr" = none
  z_str : mg "str" = none
  z_tuple : mg "tuple" = none
  k_JUST : ∃ t, mg "JUST" = some (.str "just" t)
  k_LEAST : ∃ t, mg "LEAST" = some (.str "least" t)
  k_LETTERS : ∃ t, mg "LETTERS" = some (.str "abcdefghijklmnopqrstuvwxyz" t)
  k_MOST_NUMBERS_programs : ∃ t, mg "MOST_NUMBERS_programs" = some (.int 3 t)
  k_MOST_NUMBERS_wishes : ∃ t, mg "MOST_NUMBERS_wishes" = some (.int 8 t)
  k_MOST_PLACES : ∃ t, mg "MOST_PLACES" = some (.int 6 t)
  k_MOST_ROWS : ∃ t, mg "MOST_ROWS" = some (.int 10 t)
  tO : TblO K fi
  t_Bare : ∃ C, mg "Bare" = some (.ref C) ∧ TblX K (.ref C) tx_Bare
  t_Full : ∃ C, mg "Full" = some (.ref C) ∧ TblX K (.ref C) tx_Full
  w_IndexError : PySem.W.findCls K (.type "IndexError") (.type "type") "__init__" = some (.val (.builtin "IndexError.__init__"))
  tI : TblI K tc tt
  tF : TblF K fo
  r_Bare : ∃ C, mg "Bare" = some (.ref C) ∧ ClsK K "Bare" (.ref C) ∧ PySem.W.excIn K C [.type "RuntimeError", .type "Exception", .type "BaseException", .type "object"] "RuntimeError.__new__" = true ∧ PySem.W.keepIn K (.ref C) = true ∧ PySem.W.subIn K (.ref C) (.type "BaseException") = some true ∧ PySem.W.typeIn K (.ref C) = some (.type "type")
  r_Full : ∃ C, mg "Full" = some (.ref C) ∧ ClsK K "Full" (.ref C) ∧ PySem.W.excIn K C [.type "OverflowError", .type "ArithmeticError", .type "Exception", .type "BaseException", .type "object"] "OverflowError.__new__" = true ∧ PySem.W.keepIn K (.ref C) = true ∧ PySem.W.subIn K (.ref C) (.type "BaseException") = some true ∧ PySem.W.typeIn K (.ref C) = some (.type "type")
  r_NoNumber : ∃ (C CB fI : Addr) (fd : FuncData), mg "NoNumber" = some (.ref C) ∧ ClsK K "NoNumber" (.ref C) ∧ OexC K C ∧ PySem.W.findIn K (.ref C) "__init__" = some (some (.ref fI)) ∧ PySem.W.typeIn K (.ref fI) = some (.type "function") ∧ PySem.W.findIn K (.ref C) "thing" = some none ∧ BaseK K mg "WeighError" CB ∧ Fun K "__init__" "NoNumber.__init__" i_NoNumber fI fd ∧ Binds K fd ["self", "thing"] []
  r_NoProgram : ∃ (C CB fI : Addr) (fd : FuncData), mg "NoProgram" = some (.ref C) ∧ ClsK K "NoProgram" (.ref C) ∧ OexC K C ∧ PySem.W.findIn K (.ref C) "__init__" = some (some (.ref fI)) ∧ PySem.W.typeIn K (.ref fI) = some (.type "function") ∧ PySem.W.findIn K (.ref C) "part" = some none ∧ PySem.W.findIn K (.ref C) "number" = some none ∧ BaseK K mg "WeighError" CB ∧ Fun K "__init__" "NoProgram.__init__" i_NoProgram fI fd ∧ Binds K fd ["self", "part", "number"] []
  r_NoRow : ∃ (C fI : Addr) (fd : FuncData), mg "NoRow" = some (.ref C) ∧ ClsK K "NoRow" (.ref C) ∧ OexR "IndexError.__new__" [.type "IndexError", .type "LookupError", .type "Exception", .type "BaseException", .type "object"] K C ∧ PySem.W.findIn K (.ref C) "__init__" = some (some (.ref fI)) ∧ PySem.W.typeIn K (.ref fI) = some (.type "function") ∧ PySem.W.findIn K (.ref C) "row" = some none ∧ Fun K "__init__" "NoRow.__init__" i_NoRow fI fd ∧ Binds K fd ["self", "row"] []
  r_NoWishes : ∃ C, mg "NoWishes" = some (.ref C) ∧ ClsK K "NoWishes" (.ref C) ∧ PySem.W.excIn K C [.type "ValueError", .type "Exception", .type "BaseException", .type "object"] "ValueError.__new__" = true ∧ PySem.W.keepIn K (.ref C) = true ∧ PySem.W.subIn K (.ref C) (.type "BaseException") = some true ∧ PySem.W.typeIn K (.ref C) = some (.type "type")
theorem Txt.c_JUST {X : Cx} {W : WX} {pos : Pos} (T : Txt X.w X.K X.mg) (hg : Gl X "JUST") : DE X W (.Name "JUST" pos) (eC Lw.c_JUST) := by
  obtain ⟨t, h⟩ := T.k_JUST
  exact de_glob hg h (show RelV (.str _) _ from ⟨t, rfl⟩) fun _ _ => .str _
theorem Txt.c_LEAST {X : Cx} {W : WX} {pos : Pos} (T : Txt X.w X.K X.mg) (hg : Gl X "LEAST") : DE X W (.Name "LEAST" pos) (eC Lw.c_LEAST) := by
  obtain ⟨t, h⟩ := T.k_LEAST
  exact de_glob hg h (show RelV (.str _) _ from ⟨t, rfl⟩) fun _ _ => .str _
theorem Txt.c_LETTERS {X : Cx} {W : WX} {pos : Pos} (T : Txt X.w X.K X.mg) (hg : Gl X "LETTERS") : DE X W (.Name "LETTERS" pos) (eC Lw.c_LETTERS) := by
  obtain ⟨t, h⟩ := T.k_LETTERS
  exact de_glob hg h (show RelV (.str _) _ from ⟨t, rfl⟩) fun _ _ => .str _
theorem Txt.c_MOST_NUMBERS_programs {X : Cx} {W : WX} {pos : Pos} (T : Txt X.w X.K X.mg) (hg : Gl X "MOST_NUMBERS_programs") : DE X W (.Name "MOST_NUMBERS_programs" pos) (eC Lw.c_MOST_NUMBERS_programs) := by
  obtain ⟨t, h⟩ := T.k_MOST_NUMBERS_programs
  exact de_glob hg h (show RelV (.int _) _ from ⟨t, rfl⟩) fun _ _ => .int _
theorem Txt.c_MOST_NUMBERS_wishes {X : Cx} {W : WX} {pos : Pos} (T : Txt X.w X.K X.mg) (hg : Gl X "MOST_NUMBERS_wishes") : DE X W (.Name "MOST_NUMBERS_wishes" pos) (eC Lw.c_MOST_NUMBERS_wishes) := by
  obtain ⟨t, h⟩ := T.k_MOST_NUMBERS_wishes
  exact de_glob hg h (show RelV (.int _) _ from ⟨t, rfl⟩) fun _ _ => .int _
theorem Txt.c_MOST_PLACES {X : Cx} {W : WX} {pos : Pos} (T : Txt X.w X.K X.mg) (hg : Gl X "MOST_PLACES") : DE X W (.Name "MOST_PLACES" pos) (eC Lw.c_MOST_PLACES) := by
  obtain ⟨t, h⟩ := T.k_MOST_PLACES
  exact de_glob hg h (show RelV (.int _) _ from ⟨t, rfl⟩) fun _ _ => .int _
theorem Txt.c_MOST_ROWS {X : Cx} {W : WX} {pos : Pos} (T : Txt X.w X.K X.mg) (hg : Gl X "MOST_ROWS") : DE X W (.Name "MOST_ROWS" pos) (eC Lw.c_MOST_ROWS) := by
  obtain ⟨t, h⟩ := T.k_MOST_ROWS
  exact de_glob hg h (show RelV (.int _) _ from ⟨t, rfl⟩) fun _ _ => .int _
theorem Txt.raise_Bare {X : Cx} {W : WX} {m : Str} {j : Nat} {p p2 pos pos2 : Pos} (T : Txt X.w X.K X.mg) (hc : X.calm = true) (tk : Takes X W) (hg : Gl X "Bare") : DS X W (.Raise (some (.Call (.Name "Bare" p) [.Constant (.str m) j p2] [] pos)) none pos2) (sRaise0 "Bare") := by
  obtain ⟨C, h1, h2, h3, h4, h5, h6⟩ := T.r_Bare
  exact ds_raise0 hc tk PySem.F.excBase_RuntimeError h3 h1 h4 (raises_own h5 h6) h2 hg
theorem Txt.raise_Full {X : Cx} {W : WX} {m : Str} {j : Nat} {p p2 pos pos2 : Pos} (T : Txt X.w X.K X.mg) (hc : X.calm = true) (tk : Takes X W) (hg : Gl X "Full") : DS X W (.Raise (some (.Call (.Name "Full" p) [.Constant (.str m) j p2] [] pos)) none pos2) (sRaise0 "Full") := by
  obtain ⟨C, h1, h2, h3, h4, h5, h6⟩ := T.r_Full
  exact ds_raise0 hc tk PySem.F.excBase_OverflowError h3 h1 h4 (raises_own h5 h6) h2 hg
theorem Txt.raise_NoWishes {X : Cx} {W : WX} {m : Str} {j : Nat} {p p2 pos pos2 : Pos} (T : Txt X.w X.K X.mg) (hc : X.calm = true) (tk : Takes X W) (hg : Gl X "NoWishes") : DS X W (.Raise (some (.Call (.Name "NoWishes" p) [.Constant (.str m) j p2] [] pos)) none pos2) (sRaise0 "NoWishes") := by
  obtain ⟨C, h1, h2, h3, h4, h5, h6⟩ := T.r_NoWishes
  exact ds_raise0 hc tk PySem.F.excBase_ValueError h3 h1 h4 (raises_own h5 h6) h2 hg
section
variable {P : Program} {w : World} {K : PySem.W.Frag} {mg : Str → Option Value} {base : Heap}
theorem sci_NoNumber : FnScope ["self", "thing"] ["self", "thing"] (defScope i_NoNumber) := ⟨rfl, rfl, rfl, by decide +kernel, rfl, by decide +kernel, by decide +kernel⟩
theorem er_NoNumber (T : Txt w K mg) : ErK P w K mg base "NoNumber" ["self", "thing"] (fun C => spI1 C "thing") := by
  obtain ⟨C, CB, fI, fd, gC, hk, O, iC, tI, n0, B, F, hb⟩ := T.r_NoNumber
  exact ⟨C, fI, fd, gC, hk, O, iC, tI, init1_ok (B := "WeighError") (CB := CB) (t := tC .non) F sci_NoNumber O n0 (fun cdv A outer s H E => ⟨_, pss_cons (ps_expr (pe_baseInit (by rfl) B.gB B.sp B.rd B.fc (pa_cons (pv 0) (pa_cons pe_str pa_nil)))) (pss_one (ps_ost (pv 0) (pv 1)))⟩), hb⟩
theorem sci_NoProgram : FnScope ["self", "part", "number"] ["self", "part", "number"] (defScope i_NoProgram) := ⟨rfl, rfl, rfl, by decide +kernel, rfl, by decide +kernel, by decide +kernel⟩
theorem er_NoProgram (T : Txt w K mg) : ErK P w K mg base "NoProgram" ["self", "part", "number"] (fun C => spI2 C "part" "number") := by
  obtain ⟨C, CB, fI, fd, gC, hk, O, iC, tI, n0, n1, B, F, hb⟩ := T.r_NoProgram
  exact ⟨C, fI, fd, gC, hk, O, iC, tI, init2_ok (B := "WeighError") (CB := CB) (t := tC .non) F sci_NoProgram O n0 n1 (fun cdv A outer s H E => ⟨_, pss_cons (ps_expr (pe_baseInit (by rfl) B.gB B.sp B.rd B.fc (pa_cons (pv 0) (pa_cons pe_str pa_nil)))) (pss_cons (ps_ost (pv 0) (pv 1)) (pss_one (ps_ost (pv 0) (pv 2))))⟩), hb⟩
theorem sci_NoRow : FnScope ["self", "row"] ["self", "row"] (defScope i_NoRow) := ⟨rfl, rfl, rfl, by decide +kernel, rfl, by decide +kernel, by decide +kernel⟩
theorem er_NoRow (T : Txt w K mg) : ErR "IndexError.__new__" [.type "IndexError", .type "LookupError", .type "Exception", .type "BaseException", .type "object"] P w K mg base "NoRow" "row" := by
  obtain ⟨C, fI, fd, gC, hk, O, iC, tI, nf, F, hb⟩ := T.r_NoRow
  exact ⟨C, fI, fd, gC, hk, O, iC, tI, initR_ok F sci_NoRow O nf (fun cdv A outer s H E => ⟨_, pss_cons (ps_expr (pe_rtinit root_IndexError (by rfl) T.z_IndexError PyProof.Rows.Boot.«IndexError» (by decide +kernel) (by decide +kernel) T.w_IndexError (pa_cons (pv 0) (pa_cons pe_str pa_nil)) (by decide) (by decide))) (pss_one (ps_rto root_IndexError (pv 0) (pv 1)))⟩), hb⟩
theorem sc_is_name : FnScope ["thing", "longest", "sign"] ["thing", "longest"] (defScope s_is_name) := ⟨rfl, rfl, rfl, by decide +kernel, rfl, by decide +kernel, by decide +kernel⟩
set_option maxHeartbeats 1000000 in
theorem ok_is_name (T : Txt w K mg) : HasD P w K mg base 1 "is_name" s_is_name ["thing", "longest"] [] [("longest", (V.int 6))] f_is_name :=
  has_ofD (N := ["thing", "longest", "sign"]) (m := d_is_name) T.d_is_name sc_is_name fun f cdv A outer s H E hr hg0 =>
    have hu1 : (A.deeper (PyProof.Rows.envOfC "is_name" (defScope s_is_name) s.heap.objs.size f cdv)).units + 64 < cLine := hr.units
    have hu2 : (A.deeper (PyProof.Rows.envOfC "is_name" (defScope s_is_name) s.heap.objs.size f cdv)).units + 66 < cLine := by have := hr.un; omega
    (dss_one (ds_ret (de_and (de_callB call_isi act_isi (by rfl) T.z_isinstance (by decide +kernel) (da_cons (de_var 0) (da_cons (de_ty (by rfl) T.z_str (by decide +kernel)) da_nil))) (de_and (de_chain op_le op_le act_le act_le de_int (de_callB call_len act_len (by rfl) T.z_len PySem.boot_len (da_cons (de_var 0) da_nil)) (de_var 1)) (de_one (de_callB (cr_all rfl) act_all (by rfl) T.z_all (by decide +kernel) (da_cons (de_lc [("sign", 2)] rfl sc_is_name.nd (di_str (de_var 0)) (blkOk_by (N := ["thing", "longest", "sign"]) (sc := defScope s_is_name) (by decide +kernel)) (fun _ _ _ _ _ => (dg_name 2 sc_is_name.nd)) (fun _ _ _ _ _ => dts_nil) (fun _ _ _ _ _ => (de_cmp opr_in act_in (de_var 2) (T.c_LETTERS (by rfl)) (by rfl)))) da_nil)))))))
theorem sc_first_no_name : FnScope ["names", "number", "name"] ["names"] (defScope s_first_no_name) := ⟨rfl, rfl, rfl, by decide +kernel, rfl, by decide +kernel, by decide +kernel⟩
set_option maxHeartbeats 1000000 in
theorem ok_first_no_name (T : Txt w K mg) (h_is_name : HasD P w K mg base 1 "is_name" s_is_name ["thing", "longest"] [] [("longest", (V.int 6))] f_is_name) : Has P w K mg base 2 "first_no_name" s_first_no_name ["names"] f_first_no_name :=
  has_of (N := ["names", "number", "name"]) (m := d_first_no_name) T.d_first_no_name sc_first_no_name fun f cdv A outer s H E hr hg0 =>
    have hu1 : (A.deeper (PyProof.Rows.envOfC "first_no_name" (defScope s_first_no_name) s.heap.objs.size f cdv)).units + 64 < cLine := hr.units
    have hu2 : (A.deeper (PyProof.Rows.envOfC "first_no_name" (defScope s_first_no_name) s.heap.objs.size f cdv)).units + 66 < cLine := by have := hr.un; omega
    (dss_cons (ds_for (passes_of rfl) rfl (di_enum (by rfl) T.z_enumerate (da_cons (de_var 0) da_nil)) (dg_tup rfl (dgs_cons (dg_name 1 sc_first_no_name.nd) (dgs_cons (dg_name 2 sc_first_no_name.nd) dgs_nil))) (dss_one (ds_if (PW.pt (dw_or (dt_not (dt_val (de_fnD (ks := []) (n := 1) h_is_name [0, 1] (fun F => kbd_k [("longest", (V.int 6))] F (fun h => nomatch h) (by simp) (fun _ _ _ _ _ _ us ws mv hu hw hm => match us, ws, mv, hu, hw, hm with | [_], [], [_], _, _, _ => ⟨_, _, _, _, _, _, rfl, rfl, rfl⟩)) (fun _ _ => (.cons (.int _) .nil)) hr (by first | decide | omega) hg0 (takes_of rfl rfl rfl rfl) (by rfl) (da_cons (de_var 2) da_nil) dk_nil (len_cons len_nil) len_nil))) (dw_or1 (dt_cmp opr_in act_in (de_var 2) (de_slice slr_all act_sl (de_var 0) do_none (do_some (de_var 1))) (by rfl))))) (dss_one (ds_ret (de_var 1))) dss_nil))) (dss_one (ds_ret de_non)))
theorem sc_look_at_names : FnScope ["part", "names", "most", "number"] ["part", "names", "most"] (defScope s_look_at_names) := ⟨rfl, rfl, rfl, by decide +kernel, rfl, by decide +kernel, by decide +kernel⟩
set_option maxHeartbeats 1000000 in
theorem ok_look_at_names (T : Txt w K mg) (h_first_no_name : Has P w K mg base 2 "first_no_name" s_first_no_name ["names"] f_first_no_name) (q_NoProgram : ErK P w K mg base "NoProgram" ["self", "part", "number"] (fun C => spI2 C "part" "number")) : HasD P w K mg base 3 "look_at_names" s_look_at_names ["part", "names", "most"] [] [] f_look_at_names :=
  has_ofD (N := ["part", "names", "most", "number"]) (m := d_look_at_names) T.d_look_at_names sc_look_at_names fun f cdv A outer s H E hr hg0 =>
    have hu1 : (A.deeper (PyProof.Rows.envOfC "look_at_names" (defScope s_look_at_names) s.heap.objs.size f cdv)).units + 64 < cLine := hr.units
    have hu2 : (A.deeper (PyProof.Rows.envOfC "look_at_names" (defScope s_look_at_names) s.heap.objs.size f cdv)).units + 66 < cLine := by have := hr.un; omega
    (dss_cons (ds_if (PW.pt (dw_or (dt_not (dt_val (de_callB call_isi act_isi (by rfl) T.z_isinstance (by decide +kernel) (da_cons (de_var 1) (da_cons (de_ty (by rfl) T.z_list (by decide +kernel)) da_nil))))) (dw_or1 (dt_not (dt_chain op_le op_le act_le act_le de_int (de_callB call_len act_len (by rfl) T.z_len PySem.boot_len (da_cons (de_var 1) da_nil)) (de_var 2)))))) (dss_one (ds_raise2 rfl (takes_of rfl rfl rfl rfl) q_NoProgram hr (by first | decide | omega) (by rfl) (da_cons (de_var 0) (da_cons de_non da_nil)))) dss_nil) (dss_cons (ds_set 3 sc_look_at_names.nd (de_fn h_first_no_name hr (by first | decide | omega) hg0 (takes_of rfl rfl rfl rfl) (by rfl) (da_cons (de_var 1) da_nil))) (dss_one (ds_if (dt_cmp op_notN act_notN (de_var 3) de_non (nomark _)) (dss_one (ds_raise2 rfl (takes_of rfl rfl rfl rfl) q_NoProgram hr (by first | decide | omega) (by rfl) (da_cons (de_var 0) (da_cons (de_var 3) da_nil)))) dss_nil))))
theorem sc_is_whole : FnScope ["thing"] ["thing"] (defScope s_is_whole) := ⟨rfl, rfl, rfl, by decide +kernel, rfl, by decide +kernel, by decide +kernel⟩
set_option maxHeartbeats 1000000 in
theorem ok_is_whole (T : Txt w K mg) : Has P w K mg base 1 "is_whole" s_is_whole ["thing"] f_is_whole :=
  has_of (N := ["thing"]) (m := d_is_whole) T.d_is_whole sc_is_whole fun f cdv A outer s H E hr hg0 =>
    have hu1 : (A.deeper (PyProof.Rows.envOfC "is_whole" (defScope s_is_whole) s.heap.objs.size f cdv)).units + 64 < cLine := hr.units
    have hu2 : (A.deeper (PyProof.Rows.envOfC "is_whole" (defScope s_is_whole) s.heap.objs.size f cdv)).units + 66 < cLine := by have := hr.un; omega
    (dss_one (ds_ret (de_and (de_callB call_isi act_isi (by rfl) T.z_isinstance (by decide +kernel) (da_cons (de_var 0) (da_cons (de_ty (by rfl) T.z_int (by decide +kernel)) da_nil))) (de_one (de_not (de_callB call_isi act_isi (by rfl) T.z_isinstance (by decide +kernel) (da_cons (de_var 0) (da_cons (de_ty (by rfl) T.z_bool (by decide +kernel)) da_nil))))))))
theorem sc_look_at_many : FnScope ["many"] ["many"] (defScope s_look_at_many) := ⟨rfl, rfl, rfl, by decide +kernel, rfl, by decide +kernel, by decide +kernel⟩
set_option maxHeartbeats 1000000 in
theorem ok_look_at_many (T : Txt w K mg) (h_is_whole : Has P w K mg base 1 "is_whole" s_is_whole ["thing"] f_is_whole) (q_NoNumber : ErK P w K mg base "NoNumber" ["self", "thing"] (fun C => spI1 C "thing")) : Has P w K mg base 3 "look_at_many" s_look_at_many ["many"] f_look_at_many :=
  has_of (N := ["many"]) (m := d_look_at_many) T.d_look_at_many sc_look_at_many fun f cdv A outer s H E hr hg0 =>
    have hu1 : (A.deeper (PyProof.Rows.envOfC "look_at_many" (defScope s_look_at_many) s.heap.objs.size f cdv)).units + 64 < cLine := hr.units
    have hu2 : (A.deeper (PyProof.Rows.envOfC "look_at_many" (defScope s_look_at_many) s.heap.objs.size f cdv)).units + 66 < cLine := by have := hr.un; omega
    (dss_one (ds_if (PW.pt (dw_or (dt_not (dt_val (de_fn h_is_whole hr (by first | decide | omega) hg0 (takes_of rfl rfl rfl rfl) (by rfl) (da_cons (de_var 0) da_nil)))) (dw_or1 (dt_not (dt_chain op_le op_le act_le act_le de_int (de_var 0) (T.c_MOST_NUMBERS_wishes (by rfl))))))) (dss_one (ds_raise1 rfl (takes_of rfl rfl rfl rfl) q_NoNumber hr (by first | decide | omega) (by rfl) (da_cons (de_var 0) da_nil))) dss_nil))
theorem sc_is_line : FnScope ["many", "thing", "one"] ["many", "thing"] (defScope s_is_line) := ⟨rfl, rfl, rfl, by decide +kernel, rfl, by decide +kernel, by decide +kernel⟩
set_option maxHeartbeats 1000000 in
theorem ok_is_line (T : Txt w K mg) (h_is_whole : Has P w K mg base 1 "is_whole" s_is_whole ["thing"] f_is_whole) (h_look_at_many : Has P w K mg base 3 "look_at_many" s_look_at_many ["many"] f_look_at_many) : Has P w K mg base 4 "is_line" s_is_line ["many", "thing"] f_is_line :=
  has_of (N := ["many", "thing", "one"]) (m := d_is_line) T.d_is_line sc_is_line fun f cdv A outer s H E hr hg0 =>
    have hu1 : (A.deeper (PyProof.Rows.envOfC "is_line" (defScope s_is_line) s.heap.objs.size f cdv)).units + 64 < cLine := hr.units
    have hu2 : (A.deeper (PyProof.Rows.envOfC "is_line" (defScope s_is_line) s.heap.objs.size f cdv)).units + 66 < cLine := by have := hr.un; omega
    (dss_cons (ds_expr (de_fn h_look_at_many hr (by first | decide | omega) hg0 (takes_of rfl rfl rfl rfl) (by rfl) (da_cons (de_var 0) da_nil))) (dss_one (ds_ret (de_and (de_callB call_isi act_isi (by rfl) T.z_isinstance (by decide +kernel) (da_cons (de_var 1) (da_cons (de_ty (by rfl) T.z_list (by decide +kernel)) da_nil))) (de_and (de_cmp (opr_eq hu1) act_eq (de_callB call_len act_len (by rfl) T.z_len PySem.boot_len (da_cons (de_var 1) da_nil)) (de_bin opr_add act_add (de_var 0) de_int) (nomark _)) (de_one (de_callB (cr_all rfl) act_all (by rfl) T.z_all (by decide +kernel) (da_cons (de_lc [("one", 2)] rfl sc_is_line.nd (di_list (de_var 1)) (blkOk_by (N := ["many", "thing", "one"]) (sc := defScope s_is_line) (by decide +kernel)) (fun _ _ _ _ _ => (dg_name 2 sc_is_line.nd)) (fun _ _ _ _ _ => dts_nil) (fun _ _ _ _ _ => (de_fn h_is_whole hr (by first | decide | omega) hg0 takes_no (by rfl) (da_cons (de_var 2) da_nil)))) da_nil))))))))
theorem sc_is_wish : FnScope ["many", "thing"] ["many", "thing"] (defScope s_is_wish) := ⟨rfl, rfl, rfl, by decide +kernel, rfl, by decide +kernel, by decide +kernel⟩
set_option maxHeartbeats 1000000 in
theorem ok_is_wish (T : Txt w K mg) (h_look_at_many : Has P w K mg base 3 "look_at_many" s_look_at_many ["many"] f_look_at_many) (h_is_line : Has P w K mg base 4 "is_line" s_is_line ["many", "thing"] f_is_line) : Has P w K mg base 5 "is_wish" s_is_wish ["many", "thing"] f_is_wish :=
  has_of (N := ["many", "thing"]) (m := d_is_wish) T.d_is_wish sc_is_wish fun f cdv A outer s H E hr hg0 =>
    have hu1 : (A.deeper (PyProof.Rows.envOfC "is_wish" (defScope s_is_wish) s.heap.objs.size f cdv)).units + 64 < cLine := hr.units
    have hu2 : (A.deeper (PyProof.Rows.envOfC "is_wish" (defScope s_is_wish) s.heap.objs.size f cdv)).units + 66 < cLine := by have := hr.un; omega
    (dss_cons (ds_expr (de_fn h_look_at_many hr (by first | decide | omega) hg0 (takes_of rfl rfl rfl rfl) (by rfl) (da_cons (de_var 0) da_nil))) (dss_cons (ds_if (PW.pt (dw_or (dt_not (dt_val (de_callB call_isi act_isi (by rfl) T.z_isinstance (by decide +kernel) (da_cons (de_var 1) (da_cons (de_ty (by rfl) T.z_tuple (by decide +kernel)) da_nil))))) (dw_or (dt_cmp (opr_ne hu1) act_ne (de_callB call_len act_len (by rfl) T.z_len PySem.boot_len (da_cons (de_var 1) da_nil)) de_int (nomark _)) (dw_or1 (dt_not (dt_val (de_callB call_isi act_isi (by rfl) T.z_isinstance (by decide +kernel) (da_cons (de_ix ix_seq act_ix (de_var 1) de_int) (da_cons (de_ty (by rfl) T.z_str (by decide +kernel)) da_nil))))))))) (dss_one (ds_ret de_bl)) dss_nil) (dss_one (ds_ret (de_and (de_cmp opr_in act_in (de_ix ix_seq act_ix (de_var 1) de_int) (de_tup (da_cons (T.c_LEAST (by rfl)) (da_cons (T.c_JUST (by rfl)) da_nil))) (by rfl)) (de_one (de_fn h_is_line hr (by first | decide | omega) hg0 (takes_of rfl rfl rfl rfl) (by rfl) (da_cons (de_var 0) (da_cons (de_ix ix_seq act_ix (de_var 1) de_int) da_nil)))))))))
theorem sc_are_wishes : FnScope ["many", "thing", "most", "wish"] ["many", "thing", "most"] (defScope s_are_wishes) := ⟨rfl, rfl, rfl, by decide +kernel, rfl, by decide +kernel, by decide +kernel⟩
set_option maxHeartbeats 1000000 in
theorem ok_are_wishes (T : Txt w K mg) (h_is_wish : Has P w K mg base 5 "is_wish" s_is_wish ["many", "thing"] f_is_wish) : HasD P w K mg base 6 "are_wishes" s_are_wishes ["many", "thing", "most"] [] [("most", (V.int 12))] f_are_wishes :=
  has_ofD (N := ["many", "thing", "most", "wish"]) (m := d_are_wishes) T.d_are_wishes sc_are_wishes fun f cdv A outer s H E hr hg0 =>
    have hu1 : (A.deeper (PyProof.Rows.envOfC "are_wishes" (defScope s_are_wishes) s.heap.objs.size f cdv)).units + 64 < cLine := hr.units
    have hu2 : (A.deeper (PyProof.Rows.envOfC "are_wishes" (defScope s_are_wishes) s.heap.objs.size f cdv)).units + 66 < cLine := by have := hr.un; omega
    (dss_one (ds_ret (de_and (de_callB call_isi act_isi (by rfl) T.z_isinstance (by decide +kernel) (da_cons (de_var 1) (da_cons (de_ty (by rfl) T.z_list (by decide +kernel)) da_nil))) (de_and (de_cmp op_le act_le (de_callB call_len act_len (by rfl) T.z_len PySem.boot_len (da_cons (de_var 1) da_nil)) (de_var 2) (nomark _)) (de_one (de_callB (cr_all rfl) act_all (by rfl) T.z_all (by decide +kernel) (da_cons (de_lc [("wish", 3)] rfl sc_are_wishes.nd (di_list (de_var 1)) (blkOk_by (N := ["many", "thing", "most", "wish"]) (sc := defScope s_are_wishes) (by decide +kernel)) (fun _ _ _ _ _ => (dg_name 3 sc_are_wishes.nd)) (fun _ _ _ _ _ => dts_nil) (fun _ _ _ _ _ => (de_fn h_is_wish hr (by first | decide | omega) hg0 takes_no (by rfl) (da_cons (de_var 0) (da_cons (de_var 3) da_nil))))) da_nil)))))))
theorem sc_is_number_of : FnScope ["thing", "many"] ["thing", "many"] (defScope s_is_number_of) := ⟨rfl, rfl, rfl, by decide +kernel, rfl, by decide +kernel, by decide +kernel⟩
set_option maxHeartbeats 1000000 in
theorem ok_is_number_of (T : Txt w K mg) (h_is_whole : Has P w K mg base 1 "is_whole" s_is_whole ["thing"] f_is_whole) : Has P w K mg base 2 "is_number_of" s_is_number_of ["thing", "many"] f_is_number_of :=
  has_of (N := ["thing", "many"]) (m := d_is_number_of) T.d_is_number_of sc_is_number_of fun f cdv A outer s H E hr hg0 =>
    have hu1 : (A.deeper (PyProof.Rows.envOfC "is_number_of" (defScope s_is_number_of) s.heap.objs.size f cdv)).units + 64 < cLine := hr.units
    have hu2 : (A.deeper (PyProof.Rows.envOfC "is_number_of" (defScope s_is_number_of) s.heap.objs.size f cdv)).units + 66 < cLine := by have := hr.un; omega
    (dss_one (ds_ret (de_and (de_fn h_is_whole hr (by first | decide | omega) hg0 (takes_of rfl rfl rfl rfl) (by rfl) (da_cons (de_var 0) da_nil)) (de_one (de_chain op_le op_lt act_le act_lt de_int (de_var 0) (de_var 1))))))
theorem sc_is_row : FnScope ["numbers", "places", "thing"] ["numbers", "places", "thing"] (defScope s_is_row) := ⟨rfl, rfl, rfl, by decide +kernel, rfl, by decide +kernel, by decide +kernel⟩
set_option maxHeartbeats 1000000 in
theorem ok_is_row (T : Txt w K mg) (h_are_wishes : HasD P w K mg base 6 "are_wishes" s_are_wishes ["many", "thing", "most"] [] [("most", (V.int 12))] f_are_wishes) (h_is_number_of : Has P w K mg base 2 "is_number_of" s_is_number_of ["thing", "many"] f_is_number_of) : Has P w K mg base 7 "is_row" s_is_row ["numbers", "places", "thing"] f_is_row :=
  has_of (N := ["numbers", "places", "thing"]) (m := d_is_row) T.d_is_row sc_is_row fun f cdv A outer s H E hr hg0 =>
    have hu1 : (A.deeper (PyProof.Rows.envOfC "is_row" (defScope s_is_row) s.heap.objs.size f cdv)).units + 64 < cLine := hr.units
    have hu2 : (A.deeper (PyProof.Rows.envOfC "is_row" (defScope s_is_row) s.heap.objs.size f cdv)).units + 66 < cLine := by have := hr.un; omega
    (dss_cons (ds_if (PW.pt (dw_or (dt_not (dt_val (de_callB call_isi act_isi (by rfl) T.z_isinstance (by decide +kernel) (da_cons (de_var 2) (da_cons (de_ty (by rfl) T.z_tuple (by decide +kernel)) da_nil))))) (dw_or1 (dt_cmp (opr_ne hu1) act_ne (de_callB call_len act_len (by rfl) T.z_len PySem.boot_len (da_cons (de_var 2) da_nil)) de_int (nomark _))))) (dss_one (ds_ret de_bl)) dss_nil) (dss_cons (ds_if (PW.pt (dw_or (dt_not (dt_val (de_fn h_is_number_of hr (by first | decide | omega) hg0 (takes_of rfl rfl rfl rfl) (by rfl) (da_cons (de_ix ix_seq act_ix (de_var 2) de_int) (da_cons (de_var 1) da_nil))))) (dw_or1 (dt_not (dt_val (de_fn h_is_number_of hr (by first | decide | omega) hg0 (takes_of rfl rfl rfl rfl) (by rfl) (da_cons (de_ix ix_seq act_ix (de_var 2) de_int) (da_cons (de_var 1) da_nil)))))))) (dss_one (ds_ret de_bl)) dss_nil) (dss_one (ds_ret (de_fnD (ks := []) (n := 2) h_are_wishes [0, 1, 2] (fun F => kbd_k [("most", (V.int 12))] F (fun h => nomatch h) (by simp) (fun _ _ _ _ _ _ us ws mv hu hw hm => match us, ws, mv, hu, hw, hm with | [_, _], [], [_], _, _, _ => ⟨_, _, _, _, _, _, rfl, rfl, rfl⟩)) (fun _ _ => (.cons (.int _) .nil)) hr (by first | decide | omega) hg0 (takes_of rfl rfl rfl rfl) (by rfl) (da_cons (de_bin opr_mul act_mul de_int (de_var 0)) (da_cons (de_ix ix_seq act_ix (de_var 2) de_int) da_nil)) dk_nil (len_cons (len_cons len_nil)) len_nil)))))
theorem sc_look_at : FnScope ["thing", "names", "places", "rows", "number", "row"] ["thing"] (defScope s_look_at) := ⟨rfl, rfl, rfl, by decide +kernel, rfl, by decide +kernel, by decide +kernel⟩
set_option maxHeartbeats 1000000 in
theorem ok_look_at (T : Txt w K mg) (h_look_at_names : HasD P w K mg base 3 "look_at_names" s_look_at_names ["part", "names", "most"] [] [] f_look_at_names) (h_is_row : Has P w K mg base 7 "is_row" s_is_row ["numbers", "places", "thing"] f_is_row) (q_NoProgram : ErK P w K mg base "NoProgram" ["self", "part", "number"] (fun C => spI2 C "part" "number")) : Has P w K mg base 8 "look_at" s_look_at ["thing"] f_look_at :=
  has_of (N := ["thing", "names", "places", "rows", "number", "row"]) (m := d_look_at) T.d_look_at sc_look_at fun f cdv A outer s H E hr hg0 =>
    have hu1 : (A.deeper (PyProof.Rows.envOfC "look_at" (defScope s_look_at) s.heap.objs.size f cdv)).units + 64 < cLine := hr.units
    have hu2 : (A.deeper (PyProof.Rows.envOfC "look_at" (defScope s_look_at) s.heap.objs.size f cdv)).units + 66 < cLine := by have := hr.un; omega
    (dss_cons (ds_if (PW.pt (dw_or (dt_not (dt_val (de_callB call_isi act_isi (by rfl) T.z_isinstance (by decide +kernel) (da_cons (de_var 0) (da_cons (de_ty (by rfl) T.z_tuple (by decide +kernel)) da_nil))))) (dw_or1 (dt_cmp (opr_ne hu1) act_ne (de_callB call_len act_len (by rfl) T.z_len PySem.boot_len (da_cons (de_var 0) da_nil)) de_int (nomark _))))) (dss_one (ds_raise2 rfl (takes_of rfl rfl rfl rfl) q_NoProgram hr (by first | decide | omega) (by rfl) (da_cons de_non (da_cons de_non da_nil)))) dss_nil) (dss_cons (ds_asg (de_var 0) (dg_tup rfl (dgs_cons (dg_name 1 sc_look_at.nd) (dgs_cons (dg_name 2 sc_look_at.nd) (dgs_cons (dg_name 3 sc_look_at.nd) dgs_nil))))) (dss_cons (ds_expr (de_fnD (ks := ["most"]) (n := 2) h_look_at_names [0, 1, 2] (fun F => kbd_n F (fun _ _ _ _ _ _ us ws hu hw => match us, ws, hu, hw with | [_, _], [_], _, _ => rfl)) (fun _ _ => .nil) hr (by first | decide | omega) hg0 (takes_of rfl rfl rfl rfl) (by rfl) (da_cons de_str (da_cons (de_var 1) da_nil)) (dk_cons (T.c_MOST_NUMBERS_programs (by rfl)) dk_nil) (len_cons (len_cons len_nil)) (len_cons len_nil))) (dss_cons (ds_expr (de_fnD (ks := ["most"]) (n := 2) h_look_at_names [0, 1, 2] (fun F => kbd_n F (fun _ _ _ _ _ _ us ws hu hw => match us, ws, hu, hw with | [_, _], [_], _, _ => rfl)) (fun _ _ => .nil) hr (by first | decide | omega) hg0 (takes_of rfl rfl rfl rfl) (by rfl) (da_cons de_str (da_cons (de_var 2) da_nil)) (dk_cons (T.c_MOST_PLACES (by rfl)) dk_nil) (len_cons (len_cons len_nil)) (len_cons len_nil))) (dss_cons (ds_if (PW.pt (dw_or (dt_not (dt_val (de_callB call_isi act_isi (by rfl) T.z_isinstance (by decide +kernel) (da_cons (de_var 3) (da_cons (de_ty (by rfl) T.z_list (by decide +kernel)) da_nil))))) (dw_or1 (dt_cmp op_gt act_gt (de_callB call_len act_len (by rfl) T.z_len PySem.boot_len (da_cons (de_var 3) da_nil)) (T.c_MOST_ROWS (by rfl)) (nomark _))))) (dss_one (ds_raise2 rfl (takes_of rfl rfl rfl rfl) q_NoProgram hr (by first | decide | omega) (by rfl) (da_cons de_str (da_cons de_non da_nil)))) dss_nil) (dss_one (ds_for (passes_of rfl) rfl (di_enum (by rfl) T.z_enumerate (da_cons (de_var 3) da_nil)) (dg_tup rfl (dgs_cons (dg_name 4 sc_look_at.nd) (dgs_cons (dg_name 5 sc_look_at.nd) dgs_nil))) (dss_one (ds_if (dt_not (dt_val (de_fn h_is_row hr (by first | decide | omega) hg0 (takes_of rfl rfl rfl rfl) (by rfl) (da_cons (de_callB call_len act_len (by rfl) T.z_len PySem.boot_len (da_cons (de_var 1) da_nil)) (da_cons (de_callB call_len act_len (by rfl) T.z_len PySem.boot_len (da_cons (de_var 2) da_nil)) (da_cons (de_var 5) da_nil)))))) (dss_one (ds_raise2 rfl (takes_of rfl rfl rfl rfl) q_NoProgram hr (by first | decide | omega) (by rfl) (da_cons de_str (da_cons (de_var 4) da_nil)))) dss_nil)))))))))
theorem sc_copied_wishes : FnScope ["wishes", "word", "line"] ["wishes"] (defScope s_copied_wishes) := ⟨rfl, rfl, rfl, by decide +kernel, rfl, by decide +kernel, by decide +kernel⟩
set_option maxHeartbeats 1000000 in
theorem ok_copied_wishes (T : Txt w K mg) : Has P w K mg base 1 "copied_wishes" s_copied_wishes ["wishes"] f_copied_wishes :=
  has_of (N := ["wishes", "word", "line"]) (m := d_copied_wishes) T.d_copied_wishes sc_copied_wishes fun f cdv A outer s H E hr hg0 =>
    have hu1 : (A.deeper (PyProof.Rows.envOfC "copied_wishes" (defScope s_copied_wishes) s.heap.objs.size f cdv)).units + 64 < cLine := hr.units
    have hu2 : (A.deeper (PyProof.Rows.envOfC "copied_wishes" (defScope s_copied_wishes) s.heap.objs.size f cdv)).units + 66 < cLine := by have := hr.un; omega
    (dss_one (ds_ret (de_lcC [("word", 1), ("line", 2)] rfl sc_copied_wishes.nd (di_list (de_var 0)) (blkOk_by (N := ["wishes", "word", "line"]) (sc := defScope s_copied_wishes) (by decide +kernel)) (fun _ _ _ _ _ => (dg_tup rfl (dgs_cons (dg_name 1 sc_copied_wishes.nd) (dgs_cons (dg_name 2 sc_copied_wishes.nd) dgs_nil)))) (fun _ _ _ _ _ => dts_nil) (fun _ _ _ _ _ => (de_tup (da_cons (de_var 1) (da_cons (de_callTy call_list_of act_listC (by rfl) T.z_list (by decide +kernel) (da_cons (de_var 2) da_nil)) da_nil)))))))
theorem sc_copied_row : FnScope ["row"] ["row"] (defScope s_copied_row) := ⟨rfl, rfl, rfl, by decide +kernel, rfl, by decide +kernel, by decide +kernel⟩
set_option maxHeartbeats 1000000 in
theorem ok_copied_row (T : Txt w K mg) (h_copied_wishes : Has P w K mg base 1 "copied_wishes" s_copied_wishes ["wishes"] f_copied_wishes) : Has P w K mg base 2 "copied_row" s_copied_row ["row"] f_copied_row :=
  has_of (N := ["row"]) (m := d_copied_row) T.d_copied_row sc_copied_row fun f cdv A outer s H E hr hg0 =>
    have hu1 : (A.deeper (PyProof.Rows.envOfC "copied_row" (defScope s_copied_row) s.heap.objs.size f cdv)).units + 64 < cLine := hr.units
    have hu2 : (A.deeper (PyProof.Rows.envOfC "copied_row" (defScope s_copied_row) s.heap.objs.size f cdv)).units + 66 < cLine := by have := hr.un; omega
    (dss_one (ds_ret (de_tup (da_cons (de_ix ix_seq act_ix (de_var 0) de_int) (da_cons (de_ix ix_seq act_ix (de_var 0) de_int) (da_cons (de_fn h_copied_wishes hr (by first | decide | omega) hg0 (takes_of rfl rfl rfl rfl) (by rfl) (da_cons (de_ix ix_seq act_ix (de_var 0) de_int) da_nil)) da_nil))))))
theorem sc_copied : FnScope ["program", "names", "places", "rows", "row"] ["program"] (defScope s_copied) := ⟨rfl, rfl, rfl, by decide +kernel, rfl, by decide +kernel, by decide +kernel⟩
set_option maxHeartbeats 1000000 in
theorem ok_copied (T : Txt w K mg) (h_copied_row : Has P w K mg base 2 "copied_row" s_copied_row ["row"] f_copied_row) : Has P w K mg base 3 "copied" s_copied ["program"] f_copied :=
  has_of (N := ["program", "names", "places", "rows", "row"]) (m := d_copied) T.d_copied sc_copied fun f cdv A outer s H E hr hg0 =>
    have hu1 : (A.deeper (PyProof.Rows.envOfC "copied" (defScope s_copied) s.heap.objs.size f cdv)).units + 64 < cLine := hr.units
    have hu2 : (A.deeper (PyProof.Rows.envOfC "copied" (defScope s_copied) s.heap.objs.size f cdv)).units + 66 < cLine := by have := hr.un; omega
    (dss_cons (ds_asg (de_var 0) (dg_tup rfl (dgs_cons (dg_name 1 sc_copied.nd) (dgs_cons (dg_name 2 sc_copied.nd) (dgs_cons (dg_name 3 sc_copied.nd) dgs_nil))))) (dss_one (ds_ret (de_tup (da_cons (de_callTy call_list_of act_listC (by rfl) T.z_list (by decide +kernel) (da_cons (de_var 1) da_nil)) (da_cons (de_callTy call_list_of act_listC (by rfl) T.z_list (by decide +kernel) (da_cons (de_var 2) da_nil)) (da_cons (de_lcC [("row", 4)] rfl sc_copied.nd (di_list (de_var 3)) (blkOk_by (N := ["program", "names", "places", "rows", "row"]) (sc := defScope s_copied) (by decide +kernel)) (fun _ _ _ _ _ => (dg_name 4 sc_copied.nd)) (fun _ _ _ _ _ => dts_nil) (fun _ _ _ _ _ => (de_fn h_copied_row hr (by first | decide | omega) hg0 takes_no (by rfl) (da_cons (de_var 4) da_nil)))) da_nil)))))))
theorem sc_Bench_m___init__ : FnScope ["self", "program"] ["self", "program"] (defScope s_Bench_m___init__) := ⟨rfl, rfl, rfl, by decide +kernel, rfl, by decide +kernel, by decide +kernel⟩
set_option maxHeartbeats 1000000 in
theorem ok_Bench_m___init__ (T : Txt w K mg) (h_look_at : Has P w K mg base 8 "look_at" s_look_at ["thing"] f_look_at) (h_copied : Has P w K mg base 3 "copied" s_copied ["program"] f_copied) : MakeDD P w K mg base 9 "Bench" "Bench.__init__" s_Bench_m___init__ ["self", "program"] [] [] f_Bench_m___init__ :=
  make_ofD (N := ["self", "program"]) (m := d_Bench_m___init__) T.d_Bench_m___init__ sc_Bench_m___init__ fun f cdv A outer s H E hr hg0 =>
    have hu1 : (A.deeper (PyProof.Rows.envOfC "Bench.__init__" (defScope s_Bench_m___init__) s.heap.objs.size f cdv)).units + 64 < cLine := hr.units
    have hu2 : (A.deeper (PyProof.Rows.envOfC "Bench.__init__" (defScope s_Bench_m___init__) s.heap.objs.size f cdv)).units + 66 < cLine := by have := hr.un; omega
    (dss_cons (ds_expr (de_bor (de_fn h_look_at hr (by first | decide | omega) hg0 (takes_of rfl rfl rfl rfl) (by rfl) (da_cons (de_var 1) da_nil)))) (dss_cons (ds_fldI T.tO (de_var 0) (de_frzDp (de_fn h_copied hr (by first | decide | omega) hg0 (takes_of rfl rfl rfl rfl) (by rfl) (da_cons (de_var 1) da_nil)))) (dss_cons (ds_fldI T.tO (de_var 0) (de_tup da_nil)) (dss_one (ds_fldI T.tO (de_var 0) de_non)))))
theorem sc__law_pool : FnScope ["_law_script", "_law_k", "_law_cell", "_law_amount", "_law_mixed"] ["_law_script", "_law_k"] (defScope s__law_pool) := ⟨rfl, rfl, rfl, by decide +kernel, rfl, by decide +kernel, by decide +kernel⟩
set_option maxHeartbeats 1000000 in
theorem ok__law_pool (T : Txt w K mg) : Has P w K mg base 1 "_law_pool" s__law_pool ["_law_script", "_law_k"] f__law_pool :=
  has_of (N := ["_law_script", "_law_k", "_law_cell", "_law_amount", "_law_mixed"]) (m := d__law_pool) T.d__law_pool sc__law_pool fun f cdv A outer s H E hr hg0 =>
    have hu1 : (A.deeper (PyProof.Rows.envOfC "_law_pool" (defScope s__law_pool) s.heap.objs.size f cdv)).units + 64 < cLine := hr.units
    have hu2 : (A.deeper (PyProof.Rows.envOfC "_law_pool" (defScope s__law_pool) s.heap.objs.size f cdv)).units + 66 < cLine := by have := hr.un; omega
    (dss_cons (ds_set 2 sc__law_pool.nd de_int) (dss_cons (ds_if (dt_cmp op_lt act_lt (de_var 1) (de_callB call_len act_len (by rfl) T.z_len PySem.boot_len (da_cons (de_var 0) da_nil)) (nomark _)) (dss_one (ds_set 2 sc__law_pool.nd (de_ix ix_seq act_ix (de_var 0) (de_var 1)))) dss_nil) (dss_cons (ds_set 3 sc__law_pool.nd (de_callB (call_max2 rfl) act_max2 (by rfl) T.z_max (by decide +kernel) (da_cons (de_var 2) (da_cons (de_bin op_sub act_sub (de_un un_neg act_neg de_int) (de_var 2)) da_nil)))) (dss_cons (ds_set 4 sc__law_pool.nd (de_bin op_modN act_mod (de_bin opr_mul act_mul (de_bin opr_add act_add (de_bin opr_add act_add (de_bin opr_add act_add (de_bin op_modN act_mod (de_var 3) de_int) (de_bin opr_mul act_mul (de_bin opr_mul act_mul de_int (de_var 1)) (de_var 1))) (de_bin opr_mul act_mul de_int (de_var 1))) de_int) de_int) de_int)) (dss_one (ds_ret (de_lstC (da_cons (de_bin opr_mul act_mul (de_var 3) (de_callTy call_int1 act_int (by rfl) T.z_int (by decide +kernel) (da_cons (de_cmp op_ge act_ge (de_var 3) (de_bin op_pow act_pow de_int de_int) (nomark _)) da_nil))) (da_cons (de_var 4) da_nil)))))))))
theorem sc__law_take : FnScope ["_law_pool_here", "_law_wide", "_law_found"] ["_law_pool_here", "_law_wide"] (defScope s__law_take) := ⟨rfl, rfl, rfl, by decide +kernel, rfl, by decide +kernel, by decide +kernel⟩
set_option maxHeartbeats 1000000 in
theorem ok__law_take (T : Txt w K mg) : Has P w K mg base 1 "_law_take" s__law_take ["_law_pool_here", "_law_wide"] f__law_take :=
  has_of (N := ["_law_pool_here", "_law_wide", "_law_found"]) (m := d__law_take) T.d__law_take sc__law_take fun f cdv A outer s H E hr hg0 =>
    have hu1 : (A.deeper (PyProof.Rows.envOfC "_law_take" (defScope s__law_take) s.heap.objs.size f cdv)).units + 64 < cLine := hr.units
    have hu2 : (A.deeper (PyProof.Rows.envOfC "_law_take" (defScope s__law_take) s.heap.objs.size f cdv)).units + 66 < cLine := by have := hr.un; omega
    (dss_cons (ds_if (dt_cmp op_gt act_gt (de_ix ix_seq act_ix (de_var 0) de_int) de_int (nomark _)) (dss_cons (ds_set 2 sc__law_take.nd (de_bin op_modN act_mod (de_ix ix_seq act_ix (de_var 0) de_int) (de_var 1))) (dss_cons (ds_sub set_list act_setD (de_bin opr_fdiv act_fdiv (de_ix ix_seq act_ix (de_var 0) de_int) (de_var 1)) (de_var 0) de_int (pg_sub (de_var 0) de_int set_list)) (dss_one (ds_ret (de_var 2))))) dss_nil) (dss_cons (ds_sub set_list act_setD (de_bin op_modN act_mod (de_bin opr_add act_add (de_bin opr_mul act_mul (de_ix ix_seq act_ix (de_var 0) de_int) de_int) de_int) de_int) (de_var 0) de_int (pg_sub (de_var 0) de_int set_list)) (dss_one (ds_ret (de_bin op_modN act_mod (de_bin opr_fdiv act_fdiv (de_bin op_modN act_mod (de_bin opr_mul act_mul (de_ix ix_seq act_ix (de_var 0) de_int) (de_ix ix_seq act_ix (de_var 0) de_int)) de_int) de_int) (de_var 1))))))
theorem sc__law_free_row : FnScope ["_law_pool_here", "_law_size", "_law_places", "_law_some", "_law_turn", "_law_line", "_law_k"] ["_law_pool_here", "_law_size", "_law_places"] (defScope s__law_free_row) := ⟨rfl, rfl, rfl, by decide +kernel, rfl, by decide +kernel, by decide +kernel⟩
set_option maxHeartbeats 1000000 in
theorem ok__law_free_row (T : Txt w K mg) (h__law_take : Has P w K mg base 1 "_law_take" s__law_take ["_law_pool_here", "_law_wide"] f__law_take) : Has P w K mg base 2 "_law_free_row" s__law_free_row ["_law_pool_here", "_law_size", "_law_places"] f__law_free_row :=
  has_of (N := ["_law_pool_here", "_law_size", "_law_places", "_law_some", "_law_turn", "_law_line", "_law_k"]) (m := d__law_free_row) T.d__law_free_row sc__law_free_row fun f cdv A outer s H E hr hg0 =>
    have hu1 : (A.deeper (PyProof.Rows.envOfC "_law_free_row" (defScope s__law_free_row) s.heap.objs.size f cdv)).units + 64 < cLine := hr.units
    have hu2 : (A.deeper (PyProof.Rows.envOfC "_law_free_row" (defScope s__law_free_row) s.heap.objs.size f cdv)).units + 66 < cLine := by have := hr.un; omega
    (dss_cons (ds_set 3 sc__law_free_row.nd (de_lstC da_nil)) (dss_cons (ds_for (passes_of rfl) rfl (di_rng1 (by rfl) T.z_range (da_cons (de_fn h__law_take hr (by first | decide | omega) hg0 (takes_of rfl rfl rfl rfl) (by rfl) (da_cons (de_var 0) (da_cons de_int da_nil))) da_nil)) (dg_name 4 sc__law_free_row.nd) (dss_cons (ds_setLc 5 [("_law_k", 6)] rfl sc__law_free_row.nd (di_rng1 (by rfl) T.z_range (da_cons (de_bin opr_add act_add (de_bin opr_mul act_mul de_int (de_var 1)) de_int) da_nil)) (blkOk_by (N := ["_law_pool_here", "_law_size", "_law_places", "_law_some", "_law_turn", "_law_line", "_law_k"]) (sc := defScope s__law_free_row) (by decide +kernel)) (fun _ _ _ _ _ => (dg_name 6 sc__law_free_row.nd)) (fun _ _ _ _ _ => dts_nil) (fun _ _ _ _ _ => (de_bin op_sub act_sub (de_fn h__law_take hr (by first | decide | omega) hg0 takes_no (by rfl) (da_cons (de_var 0) (da_cons de_int da_nil))) de_int))) (dss_one (ds_expr (de_bm PySem.F.plainAttrs_list PySem.F.slot_list_append PySem.F.type_list_append mt_append act_append ty_list (de_var 3) (da_cons (de_tup (da_cons (de_ix ix_seq act_ix (de_lst (da_cons de_str (da_cons de_str da_nil))) (de_fn h__law_take hr (by first | decide | omega) hg0 (takes_of rfl rfl rfl rfl) (by rfl) (da_cons (de_var 0) (da_cons de_int da_nil)))) (da_cons (de_var 5) da_nil))) da_nil)))))) (dss_one (ds_ret (de_tup (da_cons (de_fn h__law_take hr (by first | decide | omega) hg0 (takes_of rfl rfl rfl rfl) (by rfl) (da_cons (de_var 0) (da_cons (de_var 2) da_nil))) (da_cons (de_fn h__law_take hr (by first | decide | omega) hg0 (takes_of rfl rfl rfl rfl) (by rfl) (da_cons (de_var 0) (da_cons (de_var 2) da_nil))) (da_cons (de_frz (de_var 3)) da_nil))))))))
theorem sc__law_copy : FnScope ["_law_row", "_law_word", "_law_line"] ["_law_row"] (defScope s__law_copy) := ⟨rfl, rfl, rfl, by decide +kernel, rfl, by decide +kernel, by decide +kernel⟩
set_option maxHeartbeats 1000000 in
theorem ok__law_copy (T : Txt w K mg) : Has P w K mg base 1 "_law_copy" s__law_copy ["_law_row"] f__law_copy :=
  has_of (N := ["_law_row", "_law_word", "_law_line"]) (m := d__law_copy) T.d__law_copy sc__law_copy fun f cdv A outer s H E hr hg0 =>
    have hu1 : (A.deeper (PyProof.Rows.envOfC "_law_copy" (defScope s__law_copy) s.heap.objs.size f cdv)).units + 64 < cLine := hr.units
    have hu2 : (A.deeper (PyProof.Rows.envOfC "_law_copy" (defScope s__law_copy) s.heap.objs.size f cdv)).units + 66 < cLine := by have := hr.un; omega
    (dss_one (ds_ret (de_tup (da_cons (de_ix ix_seq act_ix (de_var 0) de_int) (da_cons (de_ix ix_seq act_ix (de_var 0) de_int) (da_cons (de_lcC [("_law_word", 1), ("_law_line", 2)] rfl sc__law_copy.nd (di_list (de_ix ix_seq act_ix (de_var 0) de_int)) (blkOk_by (N := ["_law_row", "_law_word", "_law_line"]) (sc := defScope s__law_copy) (by decide +kernel)) (fun _ _ _ _ _ => (dg_tup rfl (dgs_cons (dg_name 1 sc__law_copy.nd) (dgs_cons (dg_name 2 sc__law_copy.nd) dgs_nil)))) (fun _ _ _ _ _ => dts_nil) (fun _ _ _ _ _ => (de_tup (da_cons (de_var 1) (da_cons (de_callTy call_list_of act_listC (by rfl) T.z_list (by decide +kernel) (da_cons (de_var 2) da_nil)) da_nil))))) da_nil))))))
theorem sc_Bench_m_program : FnScope ["self"] ["self"] (defScope s_Bench_m_program) := ⟨rfl, rfl, rfl, by decide +kernel, rfl, by decide +kernel, by decide +kernel⟩
set_option maxHeartbeats 1000000 in
theorem ok_Bench_m_program (T : Txt w K mg) (h_copied : Has P w K mg base 3 "copied" s_copied ["program"] f_copied) : MethD P w K mg base 4 "Bench" "program" ["self"] f_Bench_m_program :=
  meth_of (N := ["self"]) (m := d_Bench_m_program) T.d_Bench_m_program sc_Bench_m_program fun f cdv A outer s H E hr hg0 =>
    have hu1 : (A.deeper (PyProof.Rows.envOfC "Bench.program" (defScope s_Bench_m_program) s.heap.objs.size f cdv)).units + 64 < cLine := hr.units
    have hu2 : (A.deeper (PyProof.Rows.envOfC "Bench.program" (defScope s_Bench_m_program) s.heap.objs.size f cdv)).units + 66 < cLine := by have := hr.un; omega
    (dss_one (ds_ret (de_fn h_copied hr (by first | decide | omega) hg0 (takes_of rfl rfl rfl rfl) (by rfl) (da_cons (de_fldI T.tO (de_var 0)) da_nil))))
theorem sc_Bench_m_deeds : FnScope ["self"] ["self"] (defScope s_Bench_m_deeds) := ⟨rfl, rfl, rfl, by decide +kernel, rfl, by decide +kernel, by decide +kernel⟩
set_option maxHeartbeats 1000000 in
theorem ok_Bench_m_deeds (T : Txt w K mg) : MethD P w K mg base 1 "Bench" "deeds" ["self"] f_Bench_m_deeds :=
  meth_of (N := ["self"]) (m := d_Bench_m_deeds) T.d_Bench_m_deeds sc_Bench_m_deeds fun f cdv A outer s H E hr hg0 =>
    have hu1 : (A.deeper (PyProof.Rows.envOfC "Bench.deeds" (defScope s_Bench_m_deeds) s.heap.objs.size f cdv)).units + 64 < cLine := hr.units
    have hu2 : (A.deeper (PyProof.Rows.envOfC "Bench.deeds" (defScope s_Bench_m_deeds) s.heap.objs.size f cdv)).units + 66 < cLine := by have := hr.un; omega
    (dss_one (ds_ret (de_callB call_len act_len (by rfl) T.z_len PySem.boot_len (da_cons (de_fldI T.tO (de_var 0)) da_nil))))
theorem sc_Bench_m_keeps : FnScope ["self"] ["self"] (defScope s_Bench_m_keeps) := ⟨rfl, rfl, rfl, by decide +kernel, rfl, by decide +kernel, by decide +kernel⟩
set_option maxHeartbeats 1000000 in
theorem ok_Bench_m_keeps (T : Txt w K mg) : MethD P w K mg base 1 "Bench" "keeps" ["self"] f_Bench_m_keeps :=
  meth_of (N := ["self"]) (m := d_Bench_m_keeps) T.d_Bench_m_keeps sc_Bench_m_keeps fun f cdv A outer s H E hr hg0 =>
    have hu1 : (A.deeper (PyProof.Rows.envOfC "Bench.keeps" (defScope s_Bench_m_keeps) s.heap.objs.size f cdv)).units + 64 < cLine := hr.units
    have hu2 : (A.deeper (PyProof.Rows.envOfC "Bench.keeps" (defScope s_Bench_m_keeps) s.heap.objs.size f cdv)).units + 66 < cLine := by have := hr.un; omega
    (dss_one (ds_ret (de_cmp op_notN act_notN (de_fldI T.tO (de_var 0)) de_non (nomark _))))
theorem sc_Bench_m___len__ : FnScope ["self"] ["self"] (defScope s_Bench_m___len__) := ⟨rfl, rfl, rfl, by decide +kernel, rfl, by decide +kernel, by decide +kernel⟩
set_option maxHeartbeats 1000000 in
theorem ok_Bench_m___len__ (T : Txt w K mg) : MethD P w K mg base 1 "Bench" "__len__" ["self"] f_Bench_m___len__ :=
  meth_of (N := ["self"]) (m := d_Bench_m___len__) T.d_Bench_m___len__ sc_Bench_m___len__ fun f cdv A outer s H E hr hg0 =>
    have hu1 : (A.deeper (PyProof.Rows.envOfC "Bench.__len__" (defScope s_Bench_m___len__) s.heap.objs.size f cdv)).units + 64 < cLine := hr.units
    have hu2 : (A.deeper (PyProof.Rows.envOfC "Bench.__len__" (defScope s_Bench_m___len__) s.heap.objs.size f cdv)).units + 66 < cLine := by have := hr.un; omega
    (dss_one (ds_ret (de_callB call_len act_len (by rfl) T.z_len PySem.boot_len (da_cons (de_ix ix_seq act_ix (de_fldI T.tO (de_var 0)) de_int) da_nil))))
theorem sc__law_shows : FnScope ["_law_desk", "_law_seat", "_law_turn", "_law_heads", "_law_rows", "_law_past", "_law_told", "_law_row"] ["_law_desk", "_law_seat"] (defScope s__law_shows) := ⟨rfl, rfl, rfl, by decide +kernel, rfl, by decide +kernel, by decide +kernel⟩
set_option maxHeartbeats 1000000 in
theorem ok__law_shows (T : Txt w K mg) (h_Bench_m_program : MethD P w K mg base 4 "Bench" "program" ["self"] f_Bench_m_program) (h_Bench_m_deeds : MethD P w K mg base 1 "Bench" "deeds" ["self"] f_Bench_m_deeds) (h_Bench_m_keeps : MethD P w K mg base 1 "Bench" "keeps" ["self"] f_Bench_m_keeps) (h_Bench_m___len__ : MethD P w K mg base 1 "Bench" "__len__" ["self"] f_Bench_m___len__) : Has P w K mg base 5 "_law_shows" s__law_shows ["_law_desk", "_law_seat"] f__law_shows :=
  has_of (N := ["_law_desk", "_law_seat", "_law_turn", "_law_heads", "_law_rows", "_law_past", "_law_told", "_law_row"]) (m := d__law_shows) T.d__law_shows sc__law_shows fun f cdv A outer s H E hr hg0 =>
    have hu1 : (A.deeper (PyProof.Rows.envOfC "_law_shows" (defScope s__law_shows) s.heap.objs.size f cdv)).units + 64 < cLine := hr.units
    have hu2 : (A.deeper (PyProof.Rows.envOfC "_law_shows" (defScope s__law_shows) s.heap.objs.size f cdv)).units + 66 < cLine := by have := hr.un; omega
    (dss_cons (ds_asgL (de_var 1) rfl (dgs_cons (dg_name 3 sc__law_shows.nd) (dgs_cons (dg_name 4 sc__law_shows.nd) (dgs_cons (dg_name 5 sc__law_shows.nd) dgs_nil)))) (dss_cons (ds_for (passes_of rfl) rfl (di_rng1 (by rfl) T.z_range (da_cons de_int da_nil)) (dg_name 2 sc__law_shows.nd) (dss_cons (ds_set 6 sc__law_shows.nd (de_meth0 h_Bench_m_program hr (by first | decide | omega) hg0 (takes_of rfl rfl rfl rfl) (de_var 0))) (dss_cons (ds_if (PW.pt (dw_or (dt_cmp (opr_ne hu1) act_neDp (de_callB (call_reprA hg0 hu2) act_reprD (by rfl) T.z_repr (by decide +kernel) (da_cons (de_var 6) da_nil)) (de_callB (call_reprA hg0 hu2) act_reprD (by rfl) T.z_repr (by decide +kernel) (da_cons (de_tup (da_cons (de_ix ix_seq act_ix (de_var 3) de_int) (da_cons (de_ix ix_seq act_ix (de_var 3) de_int) (da_cons (de_var 4) da_nil)))) da_nil)) (nomark _)) (dw_or1 (dt_not (dt_val (de_callB call_isi act_isi (by rfl) T.z_isinstance (by decide +kernel) (da_cons (de_var 6) (da_cons (de_ty (by rfl) T.z_tuple (by decide +kernel)) da_nil)))))))) (dss_one (ds_ret de_bl)) dss_nil) (dss_cons (ds_expr (de_bm PySem.F.plainAttrs_list PySem.F.slot_list_append PySem.F.type_list_append mt_append act_append ty_list (de_ix ix_seq act_ix (de_var 6) de_int) (da_cons de_str da_nil))) (dss_cons (ds_expr (de_bm0 PySem.F.plainAttrs_list PySem.F.slot_list_clear PySem.F.type_list_clear mt_clear act_clear ty_list (de_ix ix_seq act_ix (de_var 6) de_int))) (dss_cons (ds_for (passes_of rfl) rfl (di_list (de_ix ix_seq act_ix (de_var 6) de_int)) (dg_name 7 sc__law_shows.nd) (dss_one (ds_expr (de_bm PySem.F.plainAttrs_list PySem.F.slot_list_append PySem.F.type_list_append mt_append act_append ty_list (de_ix ix_seq act_ix (de_var 7) de_int) (da_cons de_non da_nil))))) (dss_one (ds_expr (de_bm0 PySem.F.plainAttrs_list PySem.F.slot_list_clear PySem.F.type_list_clear mt_clear act_clear ty_list (de_ix ix_seq act_ix (de_var 6) de_int)))))))))) (dss_one (ds_ret (de_and (de_cmp (opr_eq hu1) act_eqDp (de_meth0 h_Bench_m_deeds hr (by first | decide | omega) hg0 (takes_of rfl rfl rfl rfl) (de_var 0)) (de_callB call_len act_len (by rfl) T.z_len PySem.boot_len (da_cons (de_var 5) da_nil)) (nomark _)) (de_and (de_cmp (opr_eq hu1) act_eqDp (de_lenO h_Bench_m___len__ hr (by first | decide | omega) hg0 (by rfl) T.z_len (de_var 0)) (de_callB call_len act_len (by rfl) T.z_len PySem.boot_len (da_cons (de_var 4) da_nil)) (nomark _)) (de_one (de_cmp (opr_eq hu1) act_eqDp (de_callB (call_reprA hg0 hu2) act_reprD (by rfl) T.z_repr (by decide +kernel) (da_cons (de_meth0 h_Bench_m_keeps hr (by first | decide | omega) hg0 (takes_of rfl rfl rfl rfl) (de_var 0)) da_nil)) de_str (nomark _)))))))))
theorem sc_Bench_m_done : FnScope ["self", "rows", "paper", "names", "places", "before"] ["self", "rows", "paper"] (defScope s_Bench_m_done) := ⟨rfl, rfl, rfl, by decide +kernel, rfl, by decide +kernel, by decide +kernel⟩
set_option maxHeartbeats 1000000 in
theorem ok_Bench_m_done (T : Txt w K mg) : MethD P w K mg base 1 "Bench" "done" ["self", "rows", "paper"] f_Bench_m_done :=
  meth_of (N := ["self", "rows", "paper", "names", "places", "before"]) (m := d_Bench_m_done) T.d_Bench_m_done sc_Bench_m_done fun f cdv A outer s H E hr hg0 =>
    have hu1 : (A.deeper (PyProof.Rows.envOfC "Bench.done" (defScope s_Bench_m_done) s.heap.objs.size f cdv)).units + 64 < cLine := hr.units
    have hu2 : (A.deeper (PyProof.Rows.envOfC "Bench.done" (defScope s_Bench_m_done) s.heap.objs.size f cdv)).units + 66 < cLine := by have := hr.un; omega
    (dss_cons (ds_asg (de_fldI T.tO (de_var 0)) (dg_tup rfl (dgs_cons (dg_name 3 sc_Bench_m_done.nd) (dgs_cons (dg_name 4 sc_Bench_m_done.nd) (dgs_cons (dg_name 5 sc_Bench_m_done.nd) dgs_nil))))) (dss_cons (ds_fldI T.tO (de_var 0) (de_bin opr_addU act_addU (de_fldI T.tO (de_var 0)) (de_tup (da_cons (de_fldI T.tO (de_var 0)) da_nil)))) (dss_cons (ds_fldI T.tO (de_var 0) (de_tup (da_cons (de_var 3) (da_cons (de_var 4) (da_cons (de_var 1) da_nil))))) (dss_one (ds_fldI T.tO (de_var 0) (de_var 2))))))
theorem sc_Bench_m_has_left : FnScope ["self"] ["self"] (defScope s_Bench_m_has_left) := ⟨rfl, rfl, rfl, by decide +kernel, rfl, by decide +kernel, by decide +kernel⟩
set_option maxHeartbeats 1000000 in
theorem ok_Bench_m_has_left (T : Txt w K mg) : MethD P w K mg base 1 "Bench" "has_left" ["self"] f_Bench_m_has_left :=
  meth_of (N := ["self"]) (m := d_Bench_m_has_left) T.d_Bench_m_has_left sc_Bench_m_has_left fun f cdv A outer s H E hr hg0 =>
    have hu1 : (A.deeper (PyProof.Rows.envOfC "Bench.has_left" (defScope s_Bench_m_has_left) s.heap.objs.size f cdv)).units + 64 < cLine := hr.units
    have hu2 : (A.deeper (PyProof.Rows.envOfC "Bench.has_left" (defScope s_Bench_m_has_left) s.heap.objs.size f cdv)).units + 66 < cLine := by have := hr.un; omega
    (dss_one (ds_ret (de_and (de_cmp op_notN act_notN (de_fldI T.tO (de_var 0)) de_non (nomark _)) (de_one (de_cmp (opr_eq hu1) act_eq (de_ix ix_seq act_ix (de_fldI T.tO (de_var 0)) de_int) de_str (nomark _))))))
theorem sc_Bench_m_put : FnScope ["self", "row", "names", "places", "rows"] ["self", "row"] (defScope s_Bench_m_put) := ⟨rfl, rfl, rfl, by decide +kernel, rfl, by decide +kernel, by decide +kernel⟩
set_option maxHeartbeats 1000000 in
theorem ok_Bench_m_put (T : Txt w K mg) (h_is_row : Has P w K mg base 7 "is_row" s_is_row ["numbers", "places", "thing"] f_is_row) (h_copied_row : Has P w K mg base 2 "copied_row" s_copied_row ["row"] f_copied_row) (h_Bench_m_done : MethD P w K mg base 1 "Bench" "done" ["self", "rows", "paper"] f_Bench_m_done) (h_Bench_m_has_left : MethD P w K mg base 1 "Bench" "has_left" ["self"] f_Bench_m_has_left) (q_NoRow : ErR "IndexError.__new__" [.type "IndexError", .type "LookupError", .type "Exception", .type "BaseException", .type "object"] P w K mg base "NoRow" "row") : MethD P w K mg base 8 "Bench" "put" ["self", "row"] f_Bench_m_put :=
  meth_of (N := ["self", "row", "names", "places", "rows"]) (m := d_Bench_m_put) T.d_Bench_m_put sc_Bench_m_put fun f cdv A outer s H E hr hg0 =>
    have hu1 : (A.deeper (PyProof.Rows.envOfC "Bench.put" (defScope s_Bench_m_put) s.heap.objs.size f cdv)).units + 64 < cLine := hr.units
    have hu2 : (A.deeper (PyProof.Rows.envOfC "Bench.put" (defScope s_Bench_m_put) s.heap.objs.size f cdv)).units + 66 < cLine := by have := hr.un; omega
    (dss_cons (ds_asg (de_fldI T.tO (de_var 0)) (dg_tup rfl (dgs_cons (dg_name 2 sc_Bench_m_put.nd) (dgs_cons (dg_name 3 sc_Bench_m_put.nd) (dgs_cons (dg_name 4 sc_Bench_m_put.nd) dgs_nil))))) (dss_cons (ds_if (dt_not (dt_val (de_bor (de_fn h_is_row hr (by first | decide | omega) hg0 (takes_of rfl rfl rfl rfl) (by rfl) (da_cons (de_callB call_len act_len (by rfl) T.z_len PySem.boot_len (da_cons (de_var 2) da_nil)) (da_cons (de_callB call_len act_len (by rfl) T.z_len PySem.boot_len (da_cons (de_var 3) da_nil)) (da_cons (de_var 1) da_nil))))))) (dss_one (ds_raiseR root_IndexError rfl (takes_of rfl rfl rfl rfl) q_NoRow hr (by first | decide | omega) (by rfl) (da_cons de_non da_nil))) dss_nil) (dss_cons (ds_if (dt_cmp (opr_eq hu1) act_eq (de_callB call_len act_len (by rfl) T.z_len PySem.boot_len (da_cons (de_var 4) da_nil)) (T.c_MOST_ROWS (by rfl)) (nomark _)) (dss_one (T.raise_Full rfl (takes_of rfl rfl rfl rfl) (by rfl))) dss_nil) (dss_cons (ds_expr (de_meth h_Bench_m_done hr (by first | decide | omega) hg0 (takes_of rfl rfl rfl rfl) (de_var 0) (da_cons (de_bin opr_add act_add (de_var 4) (de_lst (da_cons (de_frzDp (de_fn h_copied_row hr (by first | decide | omega) hg0 (takes_of rfl rfl rfl rfl) (by rfl) (da_cons (de_var 1) da_nil))) da_nil))) (da_cons (de_if (dt_val (de_meth0 h_Bench_m_has_left hr (by first | decide | omega) hg0 (takes_of rfl rfl rfl rfl) (de_var 0))) (de_fldI T.tO (de_var 0)) de_non) da_nil)))) (dss_one (ds_ret (de_callB call_len act_len (by rfl) T.z_len PySem.boot_len (da_cons (de_var 4) da_nil))))))))
theorem sc__law_put : FnScope ["_law_desk", "_law_seat", "_law_row", "_law_handed", "_law_found", "_law_heads", "_law_rows", "_law_past", "_law_word", "_law_line"] ["_law_desk", "_law_seat", "_law_row"] (defScope s__law_put) := ⟨rfl, rfl, rfl, by decide +kernel, rfl, by decide +kernel, by decide +kernel⟩
set_option maxHeartbeats 1000000 in
theorem ok__law_put (T : Txt w K mg) (h__law_copy : Has P w K mg base 1 "_law_copy" s__law_copy ["_law_row"] f__law_copy) (h_Bench_m_put : MethD P w K mg base 8 "Bench" "put" ["self", "row"] f_Bench_m_put) : Has P w K mg base 9 "_law_put" s__law_put ["_law_desk", "_law_seat", "_law_row"] f__law_put :=
  has_of (N := ["_law_desk", "_law_seat", "_law_row", "_law_handed", "_law_found", "_law_heads", "_law_rows", "_law_past", "_law_word", "_law_line"]) (m := d__law_put) T.d__law_put sc__law_put fun f cdv A outer s H E hr hg0 =>
    have hu1 : (A.deeper (PyProof.Rows.envOfC "_law_put" (defScope s__law_put) s.heap.objs.size f cdv)).units + 64 < cLine := hr.units
    have hu2 : (A.deeper (PyProof.Rows.envOfC "_law_put" (defScope s__law_put) s.heap.objs.size f cdv)).units + 66 < cLine := by have := hr.un; omega
    (dss_cons (ds_asgL (de_var 1) rfl (dgs_cons (dg_name 5 sc__law_put.nd) (dgs_cons (dg_name 6 sc__law_put.nd) (dgs_cons (dg_name 7 sc__law_put.nd) dgs_nil)))) (dss_cons (ds_set 3 sc__law_put.nd (de_fn h__law_copy hr (by first | decide | omega) hg0 (takes_of rfl rfl rfl rfl) (by rfl) (da_cons (de_var 2) da_nil))) (dss_cons (ds_set 4 sc__law_put.nd de_non) (dss_cons (by obtain ⟨C0_, g0_, t0_⟩ := T.t_Full; exact (ds_tryN rfl rfl sc__law_put.nd (takes_of rfl rfl rfl rfl) rfl (fun W pn xe tkb0 _ => (dss_one (ds_set 4 sc__law_put.nd (de_meth h_Bench_m_put hr (by first | decide | omega) hg0 tkb0 (de_var 0) (da_cons (de_var 3) da_nil))))) ⟨rfl, by decide, .inl g0_⟩ t0_ (fun a pn => (dss_one (ds_set 4 sc__law_put.nd de_str))))) (dss_cons (ds_if (dt_cmp (opr_ne hu1) act_neDp (de_callB (call_reprA hg0 hu2) act_reprD (by rfl) T.z_repr (by decide +kernel) (da_cons (de_var 3) da_nil)) (de_callB (call_reprA hg0 hu2) act_reprD (by rfl) T.z_repr (by decide +kernel) (da_cons (de_var 2) da_nil)) (nomark _)) (dss_one (ds_ret de_non)) dss_nil) (dss_cons (ds_for (passes_of rfl) rfl (di_list (de_ix ix_seq act_ix (de_var 3) de_int)) (dg_tup rfl (dgs_cons (dg_name 8 sc__law_put.nd) (dgs_cons (dg_name 9 sc__law_put.nd) dgs_nil))) (dss_one (ds_sub set_list act_setD (de_bin opr_addU act_addU (de_ix ix_seq act_ix (de_var 9) de_int) de_int) (de_var 9) de_int (pg_sub (de_var 9) de_int set_list)))) (dss_cons (ds_expr (de_bm0 PySem.F.plainAttrs_list PySem.F.slot_list_clear PySem.F.type_list_clear mt_clear act_clear ty_list (de_ix ix_seq act_ix (de_var 3) de_int))) (dss_cons (ds_if (dt_cmp (opr_eq hu1) act_eqDp (de_callB call_len act_len (by rfl) T.z_len PySem.boot_len (da_cons (de_var 6) da_nil)) de_int (nomark _)) (dss_one (ds_ret (de_ix ix_seq act_ix (de_lst (da_cons de_non (da_cons (de_var 1) da_nil))) (de_callTy call_int1 act_int (by rfl) T.z_int (by decide +kernel) (da_cons (de_cmp (opr_eq hu1) act_eqDp (de_var 4) de_str (nomark _)) da_nil))))) dss_nil) (dss_one (ds_ret (de_ix ix_seq act_ix (de_lst (da_cons de_non (da_cons (de_lst (da_cons (de_var 5) (da_cons (de_bin opr_addU act_addU (de_var 6) (de_lst (da_cons (de_var 2) da_nil))) (da_cons (de_bin opr_addU act_addU (de_var 7) (de_lst (da_cons (de_var 6) da_nil))) da_nil)))) da_nil))) (de_callTy call_int1 act_int (by rfl) T.z_int (by decide +kernel) (da_cons (de_cmp (opr_eq hu1) act_eqDp (de_callB (call_reprA hg0 hu2) act_reprD (by rfl) T.z_repr (by decide +kernel) (da_cons (de_var 4) da_nil)) (de_callB (call_reprA hg0 hu2) act_reprD (by rfl) T.z_repr (by decide +kernel) (da_cons (de_callB call_len act_len (by rfl) T.z_len PySem.boot_len (da_cons (de_var 6) da_nil)) da_nil)) (nomark _)) da_nil)))))))))))))
theorem sc_Bench_m_look_at_number : FnScope ["self", "number"] ["self", "number"] (defScope s_Bench_m_look_at_number) := ⟨rfl, rfl, rfl, by decide +kernel, rfl, by decide +kernel, by decide +kernel⟩
set_option maxHeartbeats 1000000 in
theorem ok_Bench_m_look_at_number (T : Txt w K mg) (h_is_number_of : Has P w K mg base 2 "is_number_of" s_is_number_of ["thing", "many"] f_is_number_of) (h_Bench_m___len__ : MethD P w K mg base 1 "Bench" "__len__" ["self"] f_Bench_m___len__) (q_NoRow : ErR "IndexError.__new__" [.type "IndexError", .type "LookupError", .type "Exception", .type "BaseException", .type "object"] P w K mg base "NoRow" "row") : MethD P w K mg base 3 "Bench" "look_at_number" ["self", "number"] f_Bench_m_look_at_number :=
  meth_of (N := ["self", "number"]) (m := d_Bench_m_look_at_number) T.d_Bench_m_look_at_number sc_Bench_m_look_at_number fun f cdv A outer s H E hr hg0 =>
    have hu1 : (A.deeper (PyProof.Rows.envOfC "Bench.look_at_number" (defScope s_Bench_m_look_at_number) s.heap.objs.size f cdv)).units + 64 < cLine := hr.units
    have hu2 : (A.deeper (PyProof.Rows.envOfC "Bench.look_at_number" (defScope s_Bench_m_look_at_number) s.heap.objs.size f cdv)).units + 66 < cLine := by have := hr.un; omega
    (dss_one (ds_if (dt_not (dt_val (de_fn h_is_number_of hr (by first | decide | omega) hg0 (takes_of rfl rfl rfl rfl) (by rfl) (da_cons (de_var 1) (da_cons (de_lenO h_Bench_m___len__ hr (by first | decide | omega) hg0 (by rfl) T.z_len (de_var 0)) da_nil))))) (dss_one (ds_raiseR root_IndexError rfl (takes_of rfl rfl rfl rfl) q_NoRow hr (by first | decide | omega) (by rfl) (da_cons (de_var 1) da_nil))) dss_nil))
theorem sc_Bench_m_paper_without : FnScope ["self", "number", "word", "first", "second", "row", "lines", "entries"] ["self", "number"] (defScope s_Bench_m_paper_without) := ⟨rfl, rfl, rfl, by decide +kernel, rfl, by decide +kernel, by decide +kernel⟩
set_option maxHeartbeats 1000000 in
theorem ok_Bench_m_paper_without (T : Txt w K mg) : MethD P w K mg base 1 "Bench" "paper_without" ["self", "number"] f_Bench_m_paper_without :=
  meth_of (N := ["self", "number", "word", "first", "second", "row", "lines", "entries"]) (m := d_Bench_m_paper_without) T.d_Bench_m_paper_without sc_Bench_m_paper_without fun f cdv A outer s H E hr hg0 =>
    have hu1 : (A.deeper (PyProof.Rows.envOfC "Bench.paper_without" (defScope s_Bench_m_paper_without) s.heap.objs.size f cdv)).units + 64 < cLine := hr.units
    have hu2 : (A.deeper (PyProof.Rows.envOfC "Bench.paper_without" (defScope s_Bench_m_paper_without) s.heap.objs.size f cdv)).units + 66 < cLine := by have := hr.un; omega
    (dss_cons (ds_if (dt_cmp op_isN act_isN (de_fldI T.tO (de_var 0)) de_non (nomark _)) (dss_one (ds_ret de_non)) dss_nil) dss_never)
theorem sc_Bench_m_take : FnScope ["self", "number", "rows"] ["self", "number"] (defScope s_Bench_m_take) := ⟨rfl, rfl, rfl, by decide +kernel, rfl, by decide +kernel, by decide +kernel⟩
set_option maxHeartbeats 1000000 in
theorem ok_Bench_m_take (T : Txt w K mg) (h_copied_row : Has P w K mg base 2 "copied_row" s_copied_row ["row"] f_copied_row) (h_Bench_m_done : MethD P w K mg base 1 "Bench" "done" ["self", "rows", "paper"] f_Bench_m_done) (h_Bench_m_look_at_number : MethD P w K mg base 3 "Bench" "look_at_number" ["self", "number"] f_Bench_m_look_at_number) (h_Bench_m_paper_without : MethD P w K mg base 1 "Bench" "paper_without" ["self", "number"] f_Bench_m_paper_without) : MethDD P w K mg base 4 "Bench" "take" "Bench.take" s_Bench_m_take ["self", "number"] [] [] f_Bench_m_take :=
  meth_ofD (N := ["self", "number", "rows"]) (m := d_Bench_m_take) T.d_Bench_m_take sc_Bench_m_take fun f cdv A outer s H E hr hg0 =>
    have hu1 : (A.deeper (PyProof.Rows.envOfC "Bench.take" (defScope s_Bench_m_take) s.heap.objs.size f cdv)).units + 64 < cLine := hr.units
    have hu2 : (A.deeper (PyProof.Rows.envOfC "Bench.take" (defScope s_Bench_m_take) s.heap.objs.size f cdv)).units + 66 < cLine := by have := hr.un; omega
    (dss_cons (ds_expr (de_meth h_Bench_m_look_at_number hr (by first | decide | omega) hg0 (takes_of rfl rfl rfl rfl) (de_var 0) (da_cons (de_var 1) da_nil))) (dss_cons (ds_set 2 sc_Bench_m_take.nd (de_ix ix_seq act_ix (de_fldI T.tO (de_var 0)) de_int)) (dss_cons (ds_expr (de_meth h_Bench_m_done hr (by first | decide | omega) hg0 (takes_of rfl rfl rfl rfl) (de_var 0) (da_cons (de_bin opr_add act_add (de_slice slr_all act_sl (de_var 2) do_none (do_some (de_var 1))) (de_slice slr_all act_sl (de_var 2) (do_some (de_bin opr_add act_add (de_var 1) de_int)) do_none)) (da_cons (de_meth h_Bench_m_paper_without hr (by first | decide | omega) hg0 (takes_of rfl rfl rfl rfl) (de_var 0) (da_cons (de_var 1) da_nil)) da_nil)))) (dss_one (ds_ret (de_fn h_copied_row hr (by first | decide | omega) hg0 (takes_of rfl rfl rfl rfl) (by rfl) (da_cons (de_ix ix_seq act_ix (de_var 2) (de_var 1)) da_nil)))))))
theorem sc__law_taken : FnScope ["_law_pool_here", "_law_desk", "_law_seat", "_law_at", "_law_found", "_law_heads", "_law_rows", "_law_past"] ["_law_pool_here", "_law_desk", "_law_seat"] (defScope s__law_taken) := ⟨rfl, rfl, rfl, by decide +kernel, rfl, by decide +kernel, by decide +kernel⟩
set_option maxHeartbeats 1000000 in
theorem ok__law_taken (T : Txt w K mg) (h__law_take : Has P w K mg base 1 "_law_take" s__law_take ["_law_pool_here", "_law_wide"] f__law_take) (h_Bench_m_take : MethDD P w K mg base 4 "Bench" "take" "Bench.take" s_Bench_m_take ["self", "number"] [] [] f_Bench_m_take) : Has P w K mg base 5 "_law_taken" s__law_taken ["_law_pool_here", "_law_desk", "_law_seat"] f__law_taken :=
  has_of (N := ["_law_pool_here", "_law_desk", "_law_seat", "_law_at", "_law_found", "_law_heads", "_law_rows", "_law_past"]) (m := d__law_taken) T.d__law_taken sc__law_taken fun f cdv A outer s H E hr hg0 =>
    have hu1 : (A.deeper (PyProof.Rows.envOfC "_law_taken" (defScope s__law_taken) s.heap.objs.size f cdv)).units + 64 < cLine := hr.units
    have hu2 : (A.deeper (PyProof.Rows.envOfC "_law_taken" (defScope s__law_taken) s.heap.objs.size f cdv)).units + 66 < cLine := by have := hr.un; omega
    (dss_cons (ds_asgL (de_var 2) rfl (dgs_cons (dg_name 5 sc__law_taken.nd) (dgs_cons (dg_name 6 sc__law_taken.nd) (dgs_cons (dg_name 7 sc__law_taken.nd) dgs_nil)))) (dss_cons (ds_set 3 sc__law_taken.nd (de_fn h__law_take hr (by first | decide | omega) hg0 (takes_of rfl rfl rfl rfl) (by rfl) (da_cons (de_var 0) (da_cons (de_callB call_len act_len (by rfl) T.z_len PySem.boot_len (da_cons (de_var 6) da_nil)) da_nil)))) (dss_cons (ds_set 4 sc__law_taken.nd (de_methK0 (ks := ["number"]) (ix := [0, 1]) (dd := []) (zd := []) h_Bench_m_take (fun F => kbq_n F (fun _ _ _ _ _ _ us ws hu hw => match us, ws, hu, hw with | [_], [_], _, _ => rfl)) (fun _ _ => .nil) hr (by first | decide | omega) hg0 (takes_of rfl rfl rfl rfl) (de_var 1) (dk_cons (de_var 3) dk_nil) (len_cons len_nil))) (dss_cons (ds_if (dt_cmp (opr_ne hu1) act_neDp (de_callB (call_reprA hg0 hu2) act_reprD (by rfl) T.z_repr (by decide +kernel) (da_cons (de_var 4) da_nil)) (de_callB (call_reprA hg0 hu2) act_reprD (by rfl) T.z_repr (by decide +kernel) (da_cons (de_ix ix_seq act_ix (de_var 6) (de_var 3)) da_nil)) (nomark _)) (dss_one (ds_ret de_non)) dss_nil) (dss_cons (ds_expr (de_bm PySem.F.plainAttrs_list PySem.F.slot_list_append PySem.F.type_list_append mt_append act_append ty_list (de_ix ix_seq act_ix (de_var 4) de_int) (da_cons de_non da_nil))) (dss_one (ds_ret (de_lst (da_cons (de_var 5) (da_cons (de_bin opr_add act_add (de_slice slr_all act_sl (de_var 6) do_none (do_some (de_var 3))) (de_slice slr_all act_sl (de_var 6) (do_some (de_bin opr_add act_add (de_var 3) de_int)) do_none)) (da_cons (de_bin opr_add act_add (de_var 7) (de_lst (da_cons (de_var 6) da_nil))) da_nil)))))))))))
theorem sc_Bench_m_change : FnScope ["self", "number", "wishes", "later", "stays", "names", "places", "rows", "start", "to", "before"] ["self", "number", "wishes"] (defScope s_Bench_m_change) := ⟨rfl, rfl, rfl, by decide +kernel, rfl, by decide +kernel, by decide +kernel⟩
set_option maxHeartbeats 1000000 in
theorem ok_Bench_m_change (T : Txt w K mg) (h_are_wishes : HasD P w K mg base 6 "are_wishes" s_are_wishes ["many", "thing", "most"] [] [("most", (V.int 12))] f_are_wishes) (h_copied_wishes : Has P w K mg base 1 "copied_wishes" s_copied_wishes ["wishes"] f_copied_wishes) (h_Bench_m_done : MethD P w K mg base 1 "Bench" "done" ["self", "rows", "paper"] f_Bench_m_done) (h_Bench_m_has_left : MethD P w K mg base 1 "Bench" "has_left" ["self"] f_Bench_m_has_left) (h_Bench_m_look_at_number : MethD P w K mg base 3 "Bench" "look_at_number" ["self", "number"] f_Bench_m_look_at_number) : MethDD P w K mg base 7 "Bench" "change" "Bench.change" s_Bench_m_change ["self", "number", "wishes"] [] [] f_Bench_m_change :=
  meth_ofD (N := ["self", "number", "wishes", "later", "stays", "names", "places", "rows", "start", "to", "before"]) (m := d_Bench_m_change) T.d_Bench_m_change sc_Bench_m_change fun f cdv A outer s H E hr hg0 =>
    have hu1 : (A.deeper (PyProof.Rows.envOfC "Bench.change" (defScope s_Bench_m_change) s.heap.objs.size f cdv)).units + 64 < cLine := hr.units
    have hu2 : (A.deeper (PyProof.Rows.envOfC "Bench.change" (defScope s_Bench_m_change) s.heap.objs.size f cdv)).units + 66 < cLine := by have := hr.un; omega
    (dss_cons (ds_expr (de_meth h_Bench_m_look_at_number hr (by first | decide | omega) hg0 (takes_of rfl rfl rfl rfl) (de_var 0) (da_cons (de_var 1) da_nil))) (dss_cons (ds_asg (de_fldI T.tO (de_var 0)) (dg_tup rfl (dgs_cons (dg_name 5 sc_Bench_m_change.nd) (dgs_cons (dg_name 6 sc_Bench_m_change.nd) (dgs_cons (dg_name 7 sc_Bench_m_change.nd) dgs_nil))))) (dss_cons (ds_if (dt_not (dt_val (de_bor (de_fnD (ks := []) (n := 2) h_are_wishes [0, 1, 2] (fun F => kbd_k [("most", (V.int 12))] F (fun h => nomatch h) (by simp) (fun _ _ _ _ _ _ us ws mv hu hw hm => match us, ws, mv, hu, hw, hm with | [_, _], [], [_], _, _, _ => ⟨_, _, _, _, _, _, rfl, rfl, rfl⟩)) (fun _ _ => (.cons (.int _) .nil)) hr (by first | decide | omega) hg0 (takes_of rfl rfl rfl rfl) (by rfl) (da_cons (de_bin opr_mul act_mul de_int (de_callB call_len act_len (by rfl) T.z_len PySem.boot_len (da_cons (de_var 5) da_nil))) (da_cons (de_var 2) da_nil)) dk_nil (len_cons (len_cons len_nil)) len_nil)))) (dss_one (T.raise_NoWishes rfl (takes_of rfl rfl rfl rfl) (by rfl))) dss_nil) (dss_cons (ds_asg (de_ix ix_seq act_ix (de_var 7) (de_var 1)) (dg_tup rfl (dgs_cons (dg_name 8 sc_Bench_m_change.nd) (dgs_cons (dg_name 9 sc_Bench_m_change.nd) (dgs_cons (dg_name 10 sc_Bench_m_change.nd) dgs_nil))))) (dss_cons (ds_set 3 sc_Bench_m_change.nd (de_bin opr_add act_add (de_bin opr_add act_add (de_slice slr_all act_sl (de_var 7) do_none (do_some (de_var 1))) (de_lst (da_cons (de_tup (da_cons (de_var 8) (da_cons (de_var 9) (da_cons (de_frzDp (de_fn h_copied_wishes hr (by first | decide | omega) hg0 (takes_of rfl rfl rfl rfl) (by rfl) (da_cons (de_var 2) da_nil))) da_nil)))) da_nil))) (de_slice slr_all act_sl (de_var 7) (do_some (de_bin opr_add act_add (de_var 1) de_int)) do_none))) (dss_cons (ds_set 4 sc_Bench_m_change.nd (de_and (de_meth0 h_Bench_m_has_left hr (by first | decide | omega) hg0 (takes_of rfl rfl rfl rfl) (de_var 0)) (de_one (de_cmp opr_notIn act_notIn (de_var 1) (de_ix ix_seq act_ix (de_ix ix_seq act_ix (de_fldI T.tO (de_var 0)) de_int) de_int) (by rfl))))) (dss_one (ds_expr (de_meth h_Bench_m_done hr (by first | decide | omega) hg0 (takes_of rfl rfl rfl rfl) (de_var 0) (da_cons (de_var 3) (da_cons (de_if (dt_tru (de_var 4)) (de_fldI T.tO (de_var 0)) de_non) da_nil)))))))))))
theorem sc__law_changed : FnScope ["_law_pool_here", "_law_desk", "_law_seat", "_law_at", "_law_more", "_law_handed", "_law_heads", "_law_rows", "_law_past", "_law_word", "_law_line", "_law_here", "_law_there", "_law_before"] ["_law_pool_here", "_law_desk", "_law_seat"] (defScope s__law_changed) := ⟨rfl, rfl, rfl, by decide +kernel, rfl, by decide +kernel, by decide +kernel⟩
set_option maxHeartbeats 1000000 in
theorem ok__law_changed (T : Txt w K mg) (h__law_take : Has P w K mg base 1 "_law_take" s__law_take ["_law_pool_here", "_law_wide"] f__law_take) (h__law_free_row : Has P w K mg base 2 "_law_free_row" s__law_free_row ["_law_pool_here", "_law_size", "_law_places"] f__law_free_row) (h_Bench_m_change : MethDD P w K mg base 7 "Bench" "change" "Bench.change" s_Bench_m_change ["self", "number", "wishes"] [] [] f_Bench_m_change) : Has P w K mg base 8 "_law_changed" s__law_changed ["_law_pool_here", "_law_desk", "_law_seat"] f__law_changed :=
  has_of (N := ["_law_pool_here", "_law_desk", "_law_seat", "_law_at", "_law_more", "_law_handed", "_law_heads", "_law_rows", "_law_past", "_law_word", "_law_line", "_law_here", "_law_there", "_law_before"]) (m := d__law_changed) T.d__law_changed sc__law_changed fun f cdv A outer s H E hr hg0 =>
    have hu1 : (A.deeper (PyProof.Rows.envOfC "_law_changed" (defScope s__law_changed) s.heap.objs.size f cdv)).units + 64 < cLine := hr.units
    have hu2 : (A.deeper (PyProof.Rows.envOfC "_law_changed" (defScope s__law_changed) s.heap.objs.size f cdv)).units + 66 < cLine := by have := hr.un; omega
    (dss_cons (ds_asgL (de_var 2) rfl (dgs_cons (dg_name 6 sc__law_changed.nd) (dgs_cons (dg_name 7 sc__law_changed.nd) (dgs_cons (dg_name 8 sc__law_changed.nd) dgs_nil)))) (dss_cons (ds_set 3 sc__law_changed.nd (de_fn h__law_take hr (by first | decide | omega) hg0 (takes_of rfl rfl rfl rfl) (by rfl) (da_cons (de_var 0) (da_cons (de_callB call_len act_len (by rfl) T.z_len PySem.boot_len (da_cons (de_var 7) da_nil)) da_nil)))) (dss_cons (ds_set 4 sc__law_changed.nd (de_ix ix_seq act_ix (de_fn h__law_free_row hr (by first | decide | omega) hg0 (takes_of rfl rfl rfl rfl) (by rfl) (da_cons (de_var 0) (da_cons (de_callB call_len act_len (by rfl) T.z_len PySem.boot_len (da_cons (de_ix ix_seq act_ix (de_var 6) de_int) da_nil)) (da_cons (de_callB call_len act_len (by rfl) T.z_len PySem.boot_len (da_cons (de_ix ix_seq act_ix (de_var 6) de_int) da_nil)) da_nil)))) de_int)) (dss_cons (ds_setLcC 5 [("_law_word", 9), ("_law_line", 10)] rfl sc__law_changed.nd (di_list (de_var 4)) (blkOk_by (N := ["_law_pool_here", "_law_desk", "_law_seat", "_law_at", "_law_more", "_law_handed", "_law_heads", "_law_rows", "_law_past", "_law_word", "_law_line", "_law_here", "_law_there", "_law_before"]) (sc := defScope s__law_changed) (by decide +kernel)) (fun _ _ _ _ _ => (dg_tup rfl (dgs_cons (dg_name 9 sc__law_changed.nd) (dgs_cons (dg_name 10 sc__law_changed.nd) dgs_nil)))) (fun _ _ _ _ _ => dts_nil) (fun _ _ _ _ _ => (de_tup (da_cons (de_var 9) (da_cons (de_callTy call_list_of act_listC (by rfl) T.z_list (by decide +kernel) (da_cons (de_var 10) da_nil)) da_nil))))) (dss_cons (ds_if (PW.pt (dw_or (dt_cmp op_notN act_notN (de_methK0 (ks := ["wishes", "number"]) (ix := [0, 2, 1]) (dd := []) (zd := []) h_Bench_m_change (fun F => kbq_n F (fun _ _ _ _ _ _ us ws hu hw => match us, ws, hu, hw with | [_], [_, _], _, _ => rfl)) (fun _ _ => .nil) hr (by first | decide | omega) hg0 (takes_of rfl rfl rfl rfl) (de_var 1) (dk_cons (de_var 5) (dk_cons (de_var 3) dk_nil)) (len_cons (len_cons len_nil))) de_non (nomark _)) (dw_or1 (dt_cmp (opr_ne hu1) act_neDp (de_callB (call_reprA hg0 hu2) act_reprD (by rfl) T.z_repr (by decide +kernel) (da_cons (de_var 5) da_nil)) (de_callB (call_reprA hg0 hu2) act_reprD (by rfl) T.z_repr (by decide +kernel) (da_cons (de_var 4) da_nil)) (nomark _))))) (dss_one (ds_ret de_non)) dss_nil) (dss_cons (ds_expr (de_bm PySem.F.plainAttrs_list PySem.F.slot_list_append PySem.F.type_list_append mt_append act_append ty_list (de_var 5) (da_cons de_non da_nil))) (dss_cons (ds_for (passes_of rfl) rfl (di_list (de_slice slr_all act_sl (de_var 5) do_none (do_some (de_un un_neg act_neg de_int)))) (dg_tup rfl (dgs_cons (dg_name 9 sc__law_changed.nd) (dgs_cons (dg_name 10 sc__law_changed.nd) dgs_nil))) (dss_one (ds_expr (de_bm0 PySem.F.plainAttrs_list PySem.F.slot_list_clear PySem.F.type_list_clear mt_clear act_clear ty_list (de_var 10))))) (dss_cons (ds_asg (de_ix ix_seq act_ix (de_var 7) (de_var 3)) (dg_tup rfl (dgs_cons (dg_name 11 sc__law_changed.nd) (dgs_cons (dg_name 12 sc__law_changed.nd) (dgs_cons (dg_name 13 sc__law_changed.nd) dgs_nil))))) (dss_one (ds_ret (de_lst (da_cons (de_var 6) (da_cons (de_bin opr_add act_add (de_bin opr_add act_add (de_slice slr_all act_sl (de_var 7) do_none (do_some (de_var 3))) (de_lst (da_cons (de_tup (da_cons (de_var 11) (da_cons (de_var 12) (da_cons (de_var 4) da_nil)))) da_nil))) (de_slice slr_all act_sl (de_var 7) (do_some (de_bin opr_add act_add (de_var 3) de_int)) do_none)) (da_cons (de_bin opr_add act_add (de_var 8) (de_lst (da_cons (de_var 7) da_nil))) da_nil))))))))))))))
theorem sc_Bench_m_undo : FnScope ["self", "last", "before"] ["self"] (defScope s_Bench_m_undo) := ⟨rfl, rfl, rfl, by decide +kernel, rfl, by decide +kernel, by decide +kernel⟩
set_option maxHeartbeats 1000000 in
theorem ok_Bench_m_undo (T : Txt w K mg) : MethD P w K mg base 3 "Bench" "undo" ["self"] f_Bench_m_undo :=
  meth_of (N := ["self", "last", "before"]) (m := d_Bench_m_undo) T.d_Bench_m_undo sc_Bench_m_undo fun f cdv A outer s H E hr hg0 =>
    have hu1 : (A.deeper (PyProof.Rows.envOfC "Bench.undo" (defScope s_Bench_m_undo) s.heap.objs.size f cdv)).units + 64 < cLine := hr.units
    have hu2 : (A.deeper (PyProof.Rows.envOfC "Bench.undo" (defScope s_Bench_m_undo) s.heap.objs.size f cdv)).units + 66 < cLine := by have := hr.un; omega
    (dss_cons (ds_if (dt_cmp (opr_eq hu1) act_eq (de_fldI T.tO (de_var 0)) (de_tup da_nil) (nomark _)) (dss_one (T.raise_Bare rfl (takes_of rfl rfl rfl rfl) (by rfl))) dss_nil) (dss_cons (ds_starF (de_fldI T.tO (de_var 0)) (dg_name 2 sc_Bench_m_undo.nd) (dg_name 1 sc_Bench_m_undo.nd) rfl) (dss_cons (ds_fldI T.tO (de_var 0) (de_callTy call_tuple_of act_tuple (by rfl) T.z_tuple (by decide +kernel) (da_cons (de_var 2) da_nil))) (dss_cons (ds_fldI T.tO (de_var 0) (de_var 1)) (dss_one (ds_fldI T.tO (de_var 0) de_non))))))
theorem sc__law_undone : FnScope ["_law_desk", "_law_seat", "_law_found", "_law_heads", "_law_rows", "_law_past"] ["_law_desk", "_law_seat"] (defScope s__law_undone) := ⟨rfl, rfl, rfl, by decide +kernel, rfl, by decide +kernel, by decide +kernel⟩
set_option maxHeartbeats 1000000 in
theorem ok__law_undone (T : Txt w K mg) (h_Bench_m_undo : MethD P w K mg base 3 "Bench" "undo" ["self"] f_Bench_m_undo) : Has P w K mg base 4 "_law_undone" s__law_undone ["_law_desk", "_law_seat"] f__law_undone :=
  has_of (N := ["_law_desk", "_law_seat", "_law_found", "_law_heads", "_law_rows", "_law_past"]) (m := d__law_undone) T.d__law_undone sc__law_undone fun f cdv A outer s H E hr hg0 =>
    have hu1 : (A.deeper (PyProof.Rows.envOfC "_law_undone" (defScope s__law_undone) s.heap.objs.size f cdv)).units + 64 < cLine := hr.units
    have hu2 : (A.deeper (PyProof.Rows.envOfC "_law_undone" (defScope s__law_undone) s.heap.objs.size f cdv)).units + 66 < cLine := by have := hr.un; omega
    (dss_cons (ds_asgL (de_var 1) rfl (dgs_cons (dg_name 3 sc__law_undone.nd) (dgs_cons (dg_name 4 sc__law_undone.nd) (dgs_cons (dg_name 5 sc__law_undone.nd) dgs_nil)))) (dss_cons (ds_set 2 sc__law_undone.nd de_non) (dss_cons (by obtain ⟨C0_, g0_, t0_⟩ := T.t_Bare; exact (ds_tryN rfl rfl sc__law_undone.nd (takes_of rfl rfl rfl rfl) rfl (fun W pn xe tkb0 _ => (dss_one (ds_set 2 sc__law_undone.nd (de_meth0 h_Bench_m_undo hr (by first | decide | omega) hg0 tkb0 (de_var 0))))) ⟨rfl, by decide, .inl g0_⟩ t0_ (fun a pn => (dss_one (ds_set 2 sc__law_undone.nd de_str))))) (dss_cons (ds_if (dt_cmp (opr_eqZ hu1) act_eqZ (de_var 5) (de_lst da_nil) (nomark _)) (dss_one (ds_ret (de_ix ix_seq act_ix (de_lst (da_cons de_non (da_cons (de_var 1) da_nil))) (de_callTy call_int1 act_int (by rfl) T.z_int (by decide +kernel) (da_cons (de_cmp (opr_eq hu1) act_eq (de_var 2) de_str (nomark _)) da_nil))))) dss_nil) (dss_one (ds_ret (de_ix ix_seq act_ix (de_lst (da_cons de_non (da_cons (de_lst (da_cons (de_var 3) (da_cons (de_ix ix_seq act_ix (de_var 5) (de_un un_neg act_neg de_int)) (da_cons (de_slice slr_all act_sl (de_var 5) do_none (do_some (de_un un_neg act_neg de_int))) da_nil)))) da_nil))) (de_callTy call_int1 act_int (by rfl) T.z_int (by decide +kernel) (da_cons (de_cmp op_isN act_isN (de_var 2) de_non (nomark _)) da_nil)))))))))
theorem sc_law : FnScope ["_law_script", "_law_pool_here", "_law_heads", "_law_rows", "_law_handed", "_law_desk", "_law_seat", "_law_k", "_law_turn", "_law_way", "_law_row"] ["_law_script"] (defScope s_law) := ⟨rfl, rfl, rfl, by decide +kernel, rfl, by decide +kernel, by decide +kernel⟩
set_option maxHeartbeats 1000000 in
theorem ok_law (T : Txt w K mg) (h_Bench_m___init__ : MakeDD P w K mg base 9 "Bench" "Bench.__init__" s_Bench_m___init__ ["self", "program"] [] [] f_Bench_m___init__) (h__law_pool : Has P w K mg base 1 "_law_pool" s__law_pool ["_law_script", "_law_k"] f__law_pool) (h__law_take : Has P w K mg base 1 "_law_take" s__law_take ["_law_pool_here", "_law_wide"] f__law_take) (h__law_free_row : Has P w K mg base 2 "_law_free_row" s__law_free_row ["_law_pool_here", "_law_size", "_law_places"] f__law_free_row) (h__law_copy : Has P w K mg base 1 "_law_copy" s__law_copy ["_law_row"] f__law_copy) (h__law_shows : Has P w K mg base 5 "_law_shows" s__law_shows ["_law_desk", "_law_seat"] f__law_shows) (h__law_put : Has P w K mg base 9 "_law_put" s__law_put ["_law_desk", "_law_seat", "_law_row"] f__law_put) (h__law_taken : Has P w K mg base 5 "_law_taken" s__law_taken ["_law_pool_here", "_law_desk", "_law_seat"] f__law_taken) (h__law_changed : Has P w K mg base 8 "_law_changed" s__law_changed ["_law_pool_here", "_law_desk", "_law_seat"] f__law_changed) (h__law_undone : Has P w K mg base 4 "_law_undone" s__law_undone ["_law_desk", "_law_seat"] f__law_undone) : Has P w K mg base 11 "law" s_law ["_law_script"] f_law :=
  has_of (N := ["_law_script", "_law_pool_here", "_law_heads", "_law_rows", "_law_handed", "_law_desk", "_law_seat", "_law_k", "_law_turn", "_law_way", "_law_row"]) (m := d_law) T.d_law sc_law fun f cdv A outer s H E hr hg0 =>
    have hu1 : (A.deeper (PyProof.Rows.envOfC "law" (defScope s_law) s.heap.objs.size f cdv)).units + 64 < cLine := hr.units
    have hu2 : (A.deeper (PyProof.Rows.envOfC "law" (defScope s_law) s.heap.objs.size f cdv)).units + 66 < cLine := by have := hr.un; omega
    (dss_cons (ds_set 1 sc_law.nd (de_fn h__law_pool hr (by first | decide | omega) hg0 (takes_of rfl rfl rfl rfl) (by rfl) (da_cons (de_var 0) (da_cons de_int da_nil)))) (dss_cons (ds_set 2 sc_law.nd (de_tup (da_cons (de_slice slr_all act_sl (de_lst (da_cons de_str (da_cons de_str da_nil))) do_none (do_some (de_bin opr_add act_add de_int (de_fn h__law_take hr (by first | decide | omega) hg0 (takes_of rfl rfl rfl rfl) (by rfl) (da_cons (de_var 1) (da_cons de_int da_nil)))))) (da_cons (de_slice slr_all act_sl (de_lst (da_cons de_str (da_cons de_str (da_cons de_str da_nil)))) do_none (do_some (de_bin opr_add act_add de_int (de_fn h__law_take hr (by first | decide | omega) hg0 (takes_of rfl rfl rfl rfl) (by rfl) (da_cons (de_var 1) (da_cons de_int da_nil)))))) da_nil)))) (dss_cons (ds_setLc 3 [("_law_turn", 8)] rfl sc_law.nd (di_rng1 (by rfl) T.z_range (da_cons (de_fn h__law_take hr (by first | decide | omega) hg0 (takes_of rfl rfl rfl rfl) (by rfl) (da_cons (de_var 1) (da_cons de_int da_nil))) da_nil)) (blkOk_by (N := ["_law_script", "_law_pool_here", "_law_heads", "_law_rows", "_law_handed", "_law_desk", "_law_seat", "_law_k", "_law_turn", "_law_way", "_law_row"]) (sc := defScope s_law) (by decide +kernel)) (fun _ _ _ _ _ => (dg_name 8 sc_law.nd)) (fun _ _ _ _ _ => dts_nil) (fun _ _ _ _ _ => (de_fn h__law_free_row hr (by first | decide | omega) hg0 takes_no (by rfl) (da_cons (de_var 1) (da_cons (de_callB call_len act_len (by rfl) T.z_len PySem.boot_len (da_cons (de_ix ix_seq act_ix (de_var 2) de_int) da_nil)) (da_cons (de_callB call_len act_len (by rfl) T.z_len PySem.boot_len (da_cons (de_ix ix_seq act_ix (de_var 2) de_int) da_nil)) da_nil)))))) (dss_cons (ds_set 4 sc_law.nd (de_tup (da_cons (de_callTy call_list_of act_listC (by rfl) T.z_list (by decide +kernel) (da_cons (de_ix ix_seq act_ix (de_var 2) de_int) da_nil)) (da_cons (de_callTy call_list_of act_list (by rfl) T.z_list (by decide +kernel) (da_cons (de_ix ix_seq act_ix (de_var 2) de_int) da_nil)) (da_cons (de_lcC [("_law_row", 10)] rfl sc_law.nd (di_list (de_var 3)) (blkOk_by (N := ["_law_script", "_law_pool_here", "_law_heads", "_law_rows", "_law_handed", "_law_desk", "_law_seat", "_law_k", "_law_turn", "_law_way", "_law_row"]) (sc := defScope s_law) (by decide +kernel)) (fun _ _ _ _ _ => (dg_name 10 sc_law.nd)) (fun _ _ _ _ _ => dts_nil) (fun _ _ _ _ _ => (de_fn h__law_copy hr (by first | decide | omega) hg0 takes_no (by rfl) (da_cons (de_var 10) da_nil)))) da_nil))))) (dss_cons (ds_set 5 sc_law.nd (de_makeK0 (ks := ["program"]) (ix := [0, 1]) (dd := []) (zd := []) h_Bench_m___init__ (fun F => kbq_n F (fun _ _ _ _ _ _ us ws hu hw => match us, ws, hu, hw with | [_], [_], _, _ => rfl)) (fun _ _ => .nil) hr (by first | decide | omega) hg0 (takes_of rfl rfl rfl rfl) (by rfl) (dk_cons (de_var 4) dk_nil) (len_cons len_nil))) (dss_cons (ds_set 6 sc_law.nd (de_lst (da_cons (de_var 2) (da_cons (de_var 3) (da_cons (de_lst da_nil) da_nil))))) (dss_cons (ds_expr (de_bm PySem.F.plainAttrs_list PySem.F.slot_list_append PySem.F.type_list_append mt_append act_append ty_list (de_ix ix_seq act_ix (de_var 4) de_int) (da_cons de_non da_nil))) (dss_cons (ds_expr (de_bm0 PySem.F.plainAttrs_list PySem.F.slot_list_clear PySem.F.type_list_clear mt_clear act_clear ty_list (de_ix ix_seq act_ix (de_var 4) de_int))) (dss_cons (ds_if (dt_not (dt_val (de_fn h__law_shows hr (by first | decide | omega) hg0 (takes_of rfl rfl rfl rfl) (by rfl) (da_cons (de_var 5) (da_cons (de_var 6) da_nil))))) (dss_one (ds_ret de_bl)) dss_nil) (dss_cons (ds_for (passes_of rfl) rfl (di_rng2 (by rfl) T.z_range (da_cons de_int (da_cons (de_callB (call_max2 rfl) act_max2 (by rfl) T.z_max (by decide +kernel) (da_cons de_int (da_cons (de_callB (call_min2 rfl) act_min2 (by rfl) T.z_min (by decide +kernel) (da_cons (de_callB call_len act_len (by rfl) T.z_len PySem.boot_len (da_cons (de_var 0) da_nil)) (da_cons de_int da_nil))) da_nil))) da_nil))) (dg_name 7 sc_law.nd) (dss_cons (ds_set 1 sc_law.nd (de_fn h__law_pool hr (by first | decide | omega) hg0 (takes_of rfl rfl rfl rfl) (by rfl) (da_cons (de_var 0) (da_cons (de_var 7) da_nil)))) (dss_cons (ds_set 9 sc_law.nd (de_fn h__law_take hr (by first | decide | omega) hg0 (takes_of rfl rfl rfl rfl) (by rfl) (da_cons (de_var 1) (da_cons de_int da_nil)))) (dss_cons (ds_if (dt_cmp op_lt act_lt (de_var 9) de_int (nomark _)) (dss_one (ds_set 6 sc_law.nd (de_fn h__law_put hr (by first | decide | omega) hg0 (takes_of rfl rfl rfl rfl) (by rfl) (da_cons (de_var 5) (da_cons (de_var 6) (da_cons (de_fn h__law_free_row hr (by first | decide | omega) hg0 (takes_of rfl rfl rfl rfl) (by rfl) (da_cons (de_var 1) (da_cons (de_callB call_len act_len (by rfl) T.z_len PySem.boot_len (da_cons (de_ix ix_seq act_ix (de_var 2) de_int) da_nil)) (da_cons (de_callB call_len act_len (by rfl) T.z_len PySem.boot_len (da_cons (de_ix ix_seq act_ix (de_var 2) de_int) da_nil)) da_nil)))) da_nil)))))) (dss_one (ds_if (PW.pt (dw_and (dt_cmp op_lt act_lt (de_var 9) de_int (nomark _)) (dw_and1 (dt_cmp (opr_neZ hu1) act_neZ (de_ix ix_seq act_ix (de_var 6) de_int) (de_lst da_nil) (nomark _))))) (dss_one (ds_set 6 sc_law.nd (de_fn h__law_taken hr (by first | decide | omega) hg0 (takes_of rfl rfl rfl rfl) (by rfl) (da_cons (de_var 1) (da_cons (de_var 5) (da_cons (de_var 6) da_nil)))))) (dss_one (ds_if (PW.pt (dw_and (dt_cmp op_lt act_lt (de_var 9) de_int (nomark _)) (dw_and1 (dt_cmp (opr_neZ hu1) act_neZ (de_ix ix_seq act_ix (de_var 6) de_int) (de_lst da_nil) (nomark _))))) (dss_one (ds_set 6 sc_law.nd (de_fn h__law_changed hr (by first | decide | omega) hg0 (takes_of rfl rfl rfl rfl) (by rfl) (da_cons (de_var 1) (da_cons (de_var 5) (da_cons (de_var 6) da_nil)))))) (dss_one (ds_set 6 sc_law.nd (de_fn h__law_undone hr (by first | decide | omega) hg0 (takes_of rfl rfl rfl rfl) (by rfl) (da_cons (de_var 5) (da_cons (de_var 6) da_nil)))))))))) (dss_one (ds_if (PW.pt (dw_or (dt_cmp op_isN act_isN (de_var 6) de_non (nomark _)) (dw_or1 (dt_not (dt_val (de_fn h__law_shows hr (by first | decide | omega) hg0 (takes_of rfl rfl rfl rfl) (by rfl) (da_cons (de_var 5) (da_cons (de_var 6) da_nil)))))))) (dss_one (ds_ret de_bl)) dss_nil)))))) (dss_cons (ds_for (passes_of rfl) rfl (di_rng1 (by rfl) T.z_range (da_cons (de_bin op_sub act_sub de_int (de_callB call_len act_len (by rfl) T.z_len PySem.boot_len (da_cons (de_ix ix_seq act_ix (de_var 6) de_int) da_nil))) da_nil)) (dg_name 8 sc_law.nd) (dss_cons (ds_set 6 sc_law.nd (de_fn h__law_put hr (by first | decide | omega) hg0 (takes_of rfl rfl rfl rfl) (by rfl) (da_cons (de_var 5) (da_cons (de_var 6) (da_cons (de_fn h__law_free_row hr (by first | decide | omega) hg0 (takes_of rfl rfl rfl rfl) (by rfl) (da_cons (de_var 1) (da_cons (de_callB call_len act_len (by rfl) T.z_len PySem.boot_len (da_cons (de_ix ix_seq act_ix (de_var 2) de_int) da_nil)) (da_cons (de_callB call_len act_len (by rfl) T.z_len PySem.boot_len (da_cons (de_ix ix_seq act_ix (de_var 2) de_int) da_nil)) da_nil)))) da_nil))))) (dss_one (ds_if (dt_cmp op_isN act_isN (de_var 6) de_non (nomark _)) (dss_one (ds_ret de_bl)) dss_nil)))) (dss_cons (ds_if (PW.pt (dw_or (dt_cmp (opr_ne hu1) act_ne (de_fn h__law_put hr (by first | decide | omega) hg0 (takes_of rfl rfl rfl rfl) (by rfl) (da_cons (de_var 5) (da_cons (de_var 6) (da_cons (de_tup (da_cons de_int (da_cons de_int (da_cons (de_lst da_nil) da_nil)))) da_nil)))) (de_var 6) (nomark _)) (dw_or1 (dt_not (dt_val (de_fn h__law_shows hr (by first | decide | omega) hg0 (takes_of rfl rfl rfl rfl) (by rfl) (da_cons (de_var 5) (da_cons (de_var 6) da_nil)))))))) (dss_one (ds_ret de_bl)) dss_nil) (dss_cons (ds_while (passes_of rfl) (dt_cmp (opr_neZ hu1) act_neZ (de_ix ix_seq act_ix (de_var 6) de_int) (de_lst da_nil) (nomark _)) (dss_cons (ds_set 6 sc_law.nd (de_fn h__law_undone hr (by first | decide | omega) hg0 (takes_of rfl rfl rfl rfl) (by rfl) (da_cons (de_var 5) (da_cons (de_var 6) da_nil)))) (dss_one (ds_if (PW.pt (dw_or (dt_cmp op_isN act_isN (de_var 6) de_non (nomark _)) (dw_or1 (dt_not (dt_val (de_fn h__law_shows hr (by first | decide | omega) hg0 (takes_of rfl rfl rfl rfl) (by rfl) (da_cons (de_var 5) (da_cons (de_var 6) da_nil)))))))) (dss_one (ds_ret de_bl)) dss_nil)))) (dss_one (ds_ret (de_and (de_cmp (opr_eq hu1) act_eq (de_fn h__law_undone hr (by first | decide | omega) hg0 (takes_of rfl rfl rfl rfl) (by rfl) (da_cons (de_var 5) (da_cons (de_var 6) da_nil))) (de_var 6) (nomark _)) (de_one (de_fn h__law_shows hr (by first | decide | omega) hg0 (takes_of rfl rfl rfl rfl) (by rfl) (da_cons (de_var 5) (da_cons (de_var 6) da_nil))))))))))))))))))))
theorem all_ok (T : Txt w K mg) : Has P w K mg base 11 "law" s_law ["_law_script"] f_law :=
  have q_NoNumber := er_NoNumber (P := P) (w := w) (base := base) T
  have q_NoProgram := er_NoProgram (P := P) (w := w) (base := base) T
  have q_NoRow := er_NoRow (P := P) (w := w) (base := base) T
  have h_is_name := ok_is_name (P := P) (w := w) (base := base) T
  have h_first_no_name := ok_first_no_name (P := P) (w := w) (base := base) T h_is_name
  have h_look_at_names := ok_look_at_names (P := P) (w := w) (base := base) T h_first_no_name q_NoProgram
  have h_is_whole := ok_is_whole (P := P) (w := w) (base := base) T
  have h_look_at_many := ok_look_at_many (P := P) (w := w) (base := base) T h_is_whole q_NoNumber
  have h_is_line := ok_is_line (P := P) (w := w) (base := base) T h_is_whole h_look_at_many
  have h_is_wish := ok_is_wish (P := P) (w := w) (base := base) T h_look_at_many h_is_line
  have h_are_wishes := ok_are_wishes (P := P) (w := w) (base := base) T h_is_wish
  have h_is_number_of := ok_is_number_of (P := P) (w := w) (base := base) T h_is_whole
  have h_is_row := ok_is_row (P := P) (w := w) (base := base) T h_are_wishes h_is_number_of
  have h_look_at := ok_look_at (P := P) (w := w) (base := base) T h_look_at_names h_is_row q_NoProgram
  have h_copied_wishes := ok_copied_wishes (P := P) (w := w) (base := base) T
  have h_copied_row := ok_copied_row (P := P) (w := w) (base := base) T h_copied_wishes
  have h_copied := ok_copied (P := P) (w := w) (base := base) T h_copied_row
  have h_Bench_m___init__ := ok_Bench_m___init__ (P := P) (w := w) (base := base) T h_look_at h_copied
  have h__law_pool := ok__law_pool (P := P) (w := w) (base := base) T
  have h__law_take := ok__law_take (P := P) (w := w) (base := base) T
  have h__law_free_row := ok__law_free_row (P := P) (w := w) (base := base) T h__law_take
  have h__law_copy := ok__law_copy (P := P) (w := w) (base := base) T
  have h_Bench_m_program := ok_Bench_m_program (P := P) (w := w) (base := base) T h_copied
  have h_Bench_m_deeds := ok_Bench_m_deeds (P := P) (w := w) (base := base) T
  have h_Bench_m_keeps := ok_Bench_m_keeps (P := P) (w := w) (base := base) T
  have h_Bench_m___len__ := ok_Bench_m___len__ (P := P) (w := w) (base := base) T
  have h__law_shows := ok__law_shows (P := P) (w := w) (base := base) T h_Bench_m_program h_Bench_m_deeds h_Bench_m_keeps h_Bench_m___len__
  have h_Bench_m_done := ok_Bench_m_done (P := P) (w := w) (base := base) T
  have h_Bench_m_has_left := ok_Bench_m_has_left (P := P) (w := w) (base := base) T
  have h_Bench_m_put := ok_Bench_m_put (P := P) (w := w) (base := base) T h_is_row h_copied_row h_Bench_m_done h_Bench_m_has_left q_NoRow
  have h__law_put := ok__law_put (P := P) (w := w) (base := base) T h__law_copy h_Bench_m_put
  have h_Bench_m_look_at_number := ok_Bench_m_look_at_number (P := P) (w := w) (base := base) T h_is_number_of h_Bench_m___len__ q_NoRow
  have h_Bench_m_paper_without := ok_Bench_m_paper_without (P := P) (w := w) (base := base) T
  have h_Bench_m_take := ok_Bench_m_take (P := P) (w := w) (base := base) T h_copied_row h_Bench_m_done h_Bench_m_look_at_number h_Bench_m_paper_without
  have h__law_taken := ok__law_taken (P := P) (w := w) (base := base) T h__law_take h_Bench_m_take
  have h_Bench_m_change := ok_Bench_m_change (P := P) (w := w) (base := base) T h_are_wishes h_copied_wishes h_Bench_m_done h_Bench_m_has_left h_Bench_m_look_at_number
  have h__law_changed := ok__law_changed (P := P) (w := w) (base := base) T h__law_take h__law_free_row h_Bench_m_change
  have h_Bench_m_undo := ok_Bench_m_undo (P := P) (w := w) (base := base) T
  have h__law_undone := ok__law_undone (P := P) (w := w) (base := base) T h_Bench_m_undo
  ok_law T h_Bench_m___init__ h__law_pool h__law_take h__law_free_row h__law_copy h__law_shows h__law_put h__law_taken h__law_changed h__law_undone
end
set_option maxHeartbeats 4000000 in
theorem all_mk {l : PySem.W.OpenLaw} {w : World} {K : PySem.W.Frag} {h : Heap} {mg : Str → Option Value} {fa : Addr} (X : K.In h) (G : h.Ns mainGlobals mg) (hfa : mg "law" = some (.ref fa))
    {O_Bench : Addr}
    {f0 : Addr} {od0 an0 : Option Addr} {sl0 : Array (Option Value)} {oc0 dc0 pm0 cd0 ct0 : Value}
    {kD0 : Addr} {kt0_0 : Tok}
    {f1 : Addr} {od1 an1 : Option Addr} {sl1 : Array (Option Value)} {oc1 kV1 dc1 pm1 cd1 ct1 : Value}
    {f2 : Addr} {od2 an2 : Option Addr} {sl2 : Array (Option Value)} {oc2 kV2 dc2 pm2 cd2 ct2 : Value}
    {f3 : Addr} {od3 an3 : Option Addr} {sl3 : Array (Option Value)} {oc3 kV3 dc3 pm3 cd3 ct3 : Value}
    {f4 : Addr} {od4 an4 : Option Addr} {sl4 : Array (Option Value)} {oc4 kV4 dc4 pm4 cd4 ct4 : Value}
    {f5 : Addr} {od5 an5 : Option Addr} {sl5 : Array (Option Value)} {oc5 kV5 dc5 pm5 cd5 ct5 : Value}
    {f6 : Addr} {od6 an6 : Option Addr} {sl6 : Array (Option Value)} {oc6 kV6 dc6 pm6 cd6 ct6 : Value}
    {f7 : Addr} {od7 an7 : Option Addr} {sl7 : Array (Option Value)} {oc7 dc7 pm7 cd7 ct7 : Value}
    {kD7 : Addr} {kt7_0 : Tok}
    {f8 : Addr} {od8 an8 : Option Addr} {sl8 : Array (Option Value)} {oc8 kV8 dc8 pm8 cd8 ct8 : Value}
    {f9 : Addr} {od9 an9 : Option Addr} {sl9 : Array (Option Value)} {oc9 kV9 dc9 pm9 cd9 ct9 : Value}
    {f10 : Addr} {od10 an10 : Option Addr} {sl10 : Array (Option Value)} {oc10 kV10 dc10 pm10 cd10 ct10 : Value}
    {f11 : Addr} {od11 an11 : Option Addr} {sl11 : Array (Option Value)} {oc11 kV11 dc11 pm11 cd11 ct11 : Value}
    {f12 : Addr} {od12 an12 : Option Addr} {sl12 : Array (Option Value)} {oc12 kV12 dc12 pm12 cd12 ct12 : Value}
    {f13 : Addr} {od13 an13 : Option Addr} {sl13 : Array (Option Value)} {oc13 kV13 dc13 pm13 cd13 ct13 : Value}
    {f14 : Addr} {od14 an14 : Option Addr} {sl14 : Array (Option Value)} {oc14 kV14 dc14 pm14 cd14 ct14 : Value}
    {f15 : Addr} {od15 an15 : Option Addr} {sl15 : Array (Option Value)} {oc15 kV15 dc15 pm15 cd15 ct15 : Value}
    {f16 : Addr} {od16 an16 : Option Addr} {sl16 : Array (Option Value)} {oc16 kV16 dc16 pm16 cd16 ct16 : Value}
    {f17 : Addr} {od17 an17 : Option Addr} {sl17 : Array (Option Value)} {oc17 kV17 dc17 pm17 cd17 ct17 : Value}
    {f18 : Addr} {od18 an18 : Option Addr} {sl18 : Array (Option Value)} {oc18 kV18 dc18 pm18 cd18 ct18 : Value}
    {f19 : Addr} {od19 an19 : Option Addr} {sl19 : Array (Option Value)} {oc19 kV19 dc19 pm19 cd19 ct19 : Value}
    {f20 : Addr} {od20 an20 : Option Addr} {sl20 : Array (Option Value)} {oc20 kV20 dc20 pm20 cd20 ct20 : Value}
    {f21 : Addr} {od21 an21 : Option Addr} {sl21 : Array (Option Value)} {oc21 kV21 dc21 pm21 cd21 ct21 : Value}
    {f22 : Addr} {od22 an22 : Option Addr} {sl22 : Array (Option Value)} {oc22 kV22 dc22 pm22 cd22 ct22 : Value}
    {f23 : Addr} {od23 an23 : Option Addr} {sl23 : Array (Option Value)} {oc23 kV23 dc23 pm23 cd23 ct23 : Value}
    {f24 : Addr} {od24 an24 : Option Addr} {sl24 : Array (Option Value)} {oc24 kV24 dc24 pm24 cd24 ct24 : Value}
    {f25 : Addr} {od25 an25 : Option Addr} {sl25 : Array (Option Value)} {oc25 kV25 dc25 pm25 cd25 ct25 : Value}
    {f26 : Addr} {od26 an26 : Option Addr} {sl26 : Array (Option Value)} {oc26 kV26 dc26 pm26 cd26 ct26 : Value}
    {f27 : Addr} {od27 an27 : Option Addr} {sl27 : Array (Option Value)} {oc27 kV27 dc27 pm27 cd27 ct27 : Value}
    {f28 : Addr} {od28 an28 : Option Addr} {sl28 : Array (Option Value)} {oc28 kV28 dc28 pm28 cd28 ct28 : Value}
    {f29 : Addr} {od29 an29 : Option Addr} {sl29 : Array (Option Value)} {oc29 kV29 dc29 pm29 cd29 ct29 : Value}
    {f30 : Addr} {od30 an30 : Option Addr} {sl30 : Array (Option Value)} {oc30 kV30 dc30 pm30 cd30 ct30 : Value}
    {f31 : Addr} {od31 an31 : Option Addr} {sl31 : Array (Option Value)} {oc31 kV31 dc31 pm31 cd31 ct31 : Value}
    {f32 : Addr} {od32 an32 : Option Addr} {sl32 : Array (Option Value)} {oc32 kV32 dc32 pm32 cd32 ct32 : Value}
    {f33 : Addr} {od33 an33 : Option Addr} {sl33 : Array (Option Value)} {oc33 kV33 dc33 pm33 cd33 ct33 : Value}
    {f34 : Addr} {od34 an34 : Option Addr} {sl34 : Array (Option Value)} {oc34 kV34 dc34 pm34 cd34 ct34 : Value}
    {f35 : Addr} {od35 an35 : Option Addr} {sl35 : Array (Option Value)} {oc35 kV35 dc35 pm35 cd35 ct35 : Value}
    {f36 : Addr} {od36 an36 : Option Addr} {sl36 : Array (Option Value)} {oc36 kV36 dc36 pm36 cd36 ct36 : Value}
    {t0 : Tok}
    {t1 : Tok}
    {t2 : Tok}
    {t3 : Tok}
    {t4 : Tok}
    {t5 : Tok}
    {t6 : Tok}
    {C_Bare : Addr} {C_Full : Addr} {C_NoNumber : Addr} {C_NoProgram : Addr} {C_NoRow : Addr} {C_NoWishes : Addr} {C_WeighError : Addr}
    {nm_NoNumber q_NoNumber : Str} {N_NoNumber fI_NoNumber : Addr} {bs_NoNumber bm_NoNumber : List Value} {sn_NoNumber : List Str} {sub_NoNumber : List Value} {ab_NoNumber : Bool} {col_NoNumber : Option Bool} {dd_NoNumber odI_NoNumber anI_NoNumber : Option Addr} {m0_NoNumber m1_NoNumber m2_NoNumber m3_NoNumber m5_NoNumber : Option Value} {slI_NoNumber : Array (Option Value)} {ocI_NoNumber kVI_NoNumber dcI_NoNumber pmI_NoNumber cdI_NoNumber ctI_NoNumber : Value}
    {nm_NoProgram q_NoProgram : Str} {N_NoProgram fI_NoProgram : Addr} {bs_NoProgram bm_NoProgram : List Value} {sn_NoProgram : List Str} {sub_NoProgram : List Value} {ab_NoProgram : Bool} {col_NoProgram : Option Bool} {dd_NoProgram odI_NoProgram anI_NoProgram : Option Addr} {m0_NoProgram m1_NoProgram m2_NoProgram m3_NoProgram m5_NoProgram : Option Value} {slI_NoProgram : Array (Option Value)} {ocI_NoProgram kVI_NoProgram dcI_NoProgram pmI_NoProgram cdI_NoProgram ctI_NoProgram : Value}
    {nm_NoRow q_NoRow : Str} {N_NoRow fI_NoRow : Addr} {bs_NoRow : List Value} {sn_NoRow : List Str} {sub_NoRow : List Value} {ab_NoRow : Bool} {col_NoRow : Option Bool} {dd_NoRow odI_NoRow anI_NoRow : Option Addr} {m0_NoRow m1_NoRow m2_NoRow m3_NoRow m5_NoRow : Option Value} {slI_NoRow : Array (Option Value)} {ocI_NoRow kVI_NoRow dcI_NoRow pmI_NoRow cdI_NoRow ctI_NoRow : Value}
    (oG_Bench : PySem.W.nsIn K mainGlobals "Bench" = some (some (.ref O_Bench)))
    (oP_Bench : PySem.W.plainGet K O_Bench Str.empty = true)
    (oD_Bench : PySem.W.hasDictIn K O_Bench = true)
    (oO_Bench : PySem.W.plainOver K O_Bench = true)
    (oS_Bench : PySem.W.findIn K (.ref O_Bench) "__setattr__" = some (some (.builtin "object.__setattr__")))
    (oM_Bench : PySem.W.makesIn K O_Bench = true)
    (oK_Bench : PySem.W.keepIn K (.ref O_Bench) = true)
    (oN_Bench_own_paper : PySem.W.findIn K (.ref O_Bench) "own_paper" = some none)
    (oN_Bench_own_past : PySem.W.findIn K (.ref O_Bench) "own_past" = some none)
    (oN_Bench_own_program : PySem.W.findIn K (.ref O_Bench) "own_program" = some none)
    (a0 : PySem.W.nsIn K mainGlobals "is_name" = some (some (.ref f0)))
    (l0 : K.lookup f0 = some ⟨oc0, od0, .func (PySem.W.fnOf "is_name" "is_name" (defArgs s_is_name) (defBody s_is_name) (defScope s_is_name) .none (.ref kD0) dc0 pm0 an0 cd0 ct0), sl0⟩)
    (kL0_0 : PySem.W.nsIn K kD0 "longest" = some (some (.int 6 kt0_0)))
    (c0 : PySem.W.codeIn K cd0 "is_name" = true)
    (k0 : PySem.W.keepIn K (.ref f0) = true)
    (a1 : PySem.W.nsIn K mainGlobals "first_no_name" = some (some (.ref f1)))
    (l1 : K.lookup f1 = some ⟨oc1, od1, .func (PySem.W.fnOf "first_no_name" "first_no_name" (defArgs s_first_no_name) (defBody s_first_no_name) (defScope s_first_no_name) .none kV1 dc1 pm1 an1 cd1 ct1), sl1⟩)
    (c1 : PySem.W.codeIn K cd1 "first_no_name" = true)
    (k1 : PySem.W.keepIn K (.ref f1) = true)
    (a2 : PySem.W.nsIn K mainGlobals "look_at_names" = some (some (.ref f2)))
    (l2 : K.lookup f2 = some ⟨oc2, od2, .func (PySem.W.fnOf "look_at_names" "look_at_names" (defArgs s_look_at_names) (defBody s_look_at_names) (defScope s_look_at_names) .none kV2 dc2 pm2 an2 cd2 ct2), sl2⟩)
    (c2 : PySem.W.codeIn K cd2 "look_at_names" = true)
    (k2 : PySem.W.keepIn K (.ref f2) = true)
    (a3 : PySem.W.nsIn K mainGlobals "is_whole" = some (some (.ref f3)))
    (l3 : K.lookup f3 = some ⟨oc3, od3, .func (PySem.W.fnOf "is_whole" "is_whole" (defArgs s_is_whole) (defBody s_is_whole) (defScope s_is_whole) .none kV3 dc3 pm3 an3 cd3 ct3), sl3⟩)
    (c3 : PySem.W.codeIn K cd3 "is_whole" = true)
    (k3 : PySem.W.keepIn K (.ref f3) = true)
    (a4 : PySem.W.nsIn K mainGlobals "look_at_many" = some (some (.ref f4)))
    (l4 : K.lookup f4 = some ⟨oc4, od4, .func (PySem.W.fnOf "look_at_many" "look_at_many" (defArgs s_look_at_many) (defBody s_look_at_many) (defScope s_look_at_many) .none kV4 dc4 pm4 an4 cd4 ct4), sl4⟩)
    (c4 : PySem.W.codeIn K cd4 "look_at_many" = true)
    (k4 : PySem.W.keepIn K (.ref f4) = true)
    (a5 : PySem.W.nsIn K mainGlobals "is_line" = some (some (.ref f5)))
    (l5 : K.lookup f5 = some ⟨oc5, od5, .func (PySem.W.fnOf "is_line" "is_line" (defArgs s_is_line) (defBody s_is_line) (defScope s_is_line) .none kV5 dc5 pm5 an5 cd5 ct5), sl5⟩)
    (c5 : PySem.W.codeIn K cd5 "is_line" = true)
    (k5 : PySem.W.keepIn K (.ref f5) = true)
    (a6 : PySem.W.nsIn K mainGlobals "is_wish" = some (some (.ref f6)))
    (l6 : K.lookup f6 = some ⟨oc6, od6, .func (PySem.W.fnOf "is_wish" "is_wish" (defArgs s_is_wish) (defBody s_is_wish) (defScope s_is_wish) .none kV6 dc6 pm6 an6 cd6 ct6), sl6⟩)
    (c6 : PySem.W.codeIn K cd6 "is_wish" = true)
    (k6 : PySem.W.keepIn K (.ref f6) = true)
    (a7 : PySem.W.nsIn K mainGlobals "are_wishes" = some (some (.ref f7)))
    (l7 : K.lookup f7 = some ⟨oc7, od7, .func (PySem.W.fnOf "are_wishes" "are_wishes" (defArgs s_are_wishes) (defBody s_are_wishes) (defScope s_are_wishes) .none (.ref kD7) dc7 pm7 an7 cd7 ct7), sl7⟩)
    (kL7_0 : PySem.W.nsIn K kD7 "most" = some (some (.int 12 kt7_0)))
    (c7 : PySem.W.codeIn K cd7 "are_wishes" = true)
    (k7 : PySem.W.keepIn K (.ref f7) = true)
    (a8 : PySem.W.nsIn K mainGlobals "is_number_of" = some (some (.ref f8)))
    (l8 : K.lookup f8 = some ⟨oc8, od8, .func (PySem.W.fnOf "is_number_of" "is_number_of" (defArgs s_is_number_of) (defBody s_is_number_of) (defScope s_is_number_of) .none kV8 dc8 pm8 an8 cd8 ct8), sl8⟩)
    (c8 : PySem.W.codeIn K cd8 "is_number_of" = true)
    (k8 : PySem.W.keepIn K (.ref f8) = true)
    (a9 : PySem.W.nsIn K mainGlobals "is_row" = some (some (.ref f9)))
    (l9 : K.lookup f9 = some ⟨oc9, od9, .func (PySem.W.fnOf "is_row" "is_row" (defArgs s_is_row) (defBody s_is_row) (defScope s_is_row) .none kV9 dc9 pm9 an9 cd9 ct9), sl9⟩)
    (c9 : PySem.W.codeIn K cd9 "is_row" = true)
    (k9 : PySem.W.keepIn K (.ref f9) = true)
    (a10 : PySem.W.nsIn K mainGlobals "look_at" = some (some (.ref f10)))
    (l10 : K.lookup f10 = some ⟨oc10, od10, .func (PySem.W.fnOf "look_at" "look_at" (defArgs s_look_at) (defBody s_look_at) (defScope s_look_at) .none kV10 dc10 pm10 an10 cd10 ct10), sl10⟩)
    (c10 : PySem.W.codeIn K cd10 "look_at" = true)
    (k10 : PySem.W.keepIn K (.ref f10) = true)
    (a11 : PySem.W.nsIn K mainGlobals "copied_wishes" = some (some (.ref f11)))
    (l11 : K.lookup f11 = some ⟨oc11, od11, .func (PySem.W.fnOf "copied_wishes" "copied_wishes" (defArgs s_copied_wishes) (defBody s_copied_wishes) (defScope s_copied_wishes) .none kV11 dc11 pm11 an11 cd11 ct11), sl11⟩)
    (c11 : PySem.W.codeIn K cd11 "copied_wishes" = true)
    (k11 : PySem.W.keepIn K (.ref f11) = true)
    (a12 : PySem.W.nsIn K mainGlobals "copied_row" = some (some (.ref f12)))
    (l12 : K.lookup f12 = some ⟨oc12, od12, .func (PySem.W.fnOf "copied_row" "copied_row" (defArgs s_copied_row) (defBody s_copied_row) (defScope s_copied_row) .none kV12 dc12 pm12 an12 cd12 ct12), sl12⟩)
    (c12 : PySem.W.codeIn K cd12 "copied_row" = true)
    (k12 : PySem.W.keepIn K (.ref f12) = true)
    (a13 : PySem.W.nsIn K mainGlobals "copied" = some (some (.ref f13)))
    (l13 : K.lookup f13 = some ⟨oc13, od13, .func (PySem.W.fnOf "copied" "copied" (defArgs s_copied) (defBody s_copied) (defScope s_copied) .none kV13 dc13 pm13 an13 cd13 ct13), sl13⟩)
    (c13 : PySem.W.codeIn K cd13 "copied" = true)
    (k13 : PySem.W.keepIn K (.ref f13) = true)
    (a14 : PySem.W.findIn K (.ref O_Bench) "__init__" = some (some (.ref f14)))
    (i14 : PySem.W.isFn K (.ref f14) = true)
    (l14 : K.lookup f14 = some ⟨oc14, od14, .func (PySem.W.fnOf "__init__" "Bench.__init__" (defArgs s_Bench_m___init__) (defBody s_Bench_m___init__) (defScope s_Bench_m___init__) .none kV14 dc14 pm14 an14 cd14 ct14), sl14⟩)
    (c14 : PySem.W.codeIn K cd14 "Bench.__init__" = true)
    (k14 : PySem.W.keepIn K (.ref f14) = true)
    (a15 : PySem.W.nsIn K mainGlobals "_law_pool" = some (some (.ref f15)))
    (l15 : K.lookup f15 = some ⟨oc15, od15, .func (PySem.W.fnOf "_law_pool" "_law_pool" (defArgs s__law_pool) (defBody s__law_pool) (defScope s__law_pool) .none kV15 dc15 pm15 an15 cd15 ct15), sl15⟩)
    (c15 : PySem.W.codeIn K cd15 "_law_pool" = true)
    (k15 : PySem.W.keepIn K (.ref f15) = true)
    (a16 : PySem.W.nsIn K mainGlobals "_law_take" = some (some (.ref f16)))
    (l16 : K.lookup f16 = some ⟨oc16, od16, .func (PySem.W.fnOf "_law_take" "_law_take" (defArgs s__law_take) (defBody s__law_take) (defScope s__law_take) .none kV16 dc16 pm16 an16 cd16 ct16), sl16⟩)
    (c16 : PySem.W.codeIn K cd16 "_law_take" = true)
    (k16 : PySem.W.keepIn K (.ref f16) = true)
    (a17 : PySem.W.nsIn K mainGlobals "_law_free_row" = some (some (.ref f17)))
    (l17 : K.lookup f17 = some ⟨oc17, od17, .func (PySem.W.fnOf "_law_free_row" "_law_free_row" (defArgs s__law_free_row) (defBody s__law_free_row) (defScope s__law_free_row) .none kV17 dc17 pm17 an17 cd17 ct17), sl17⟩)
    (c17 : PySem.W.codeIn K cd17 "_law_free_row" = true)
    (k17 : PySem.W.keepIn K (.ref f17) = true)
    (a18 : PySem.W.nsIn K mainGlobals "_law_copy" = some (some (.ref f18)))
    (l18 : K.lookup f18 = some ⟨oc18, od18, .func (PySem.W.fnOf "_law_copy" "_law_copy" (defArgs s__law_copy) (defBody s__law_copy) (defScope s__law_copy) .none kV18 dc18 pm18 an18 cd18 ct18), sl18⟩)
    (c18 : PySem.W.codeIn K cd18 "_law_copy" = true)
    (k18 : PySem.W.keepIn K (.ref f18) = true)
    (a19 : PySem.W.findIn K (.ref O_Bench) "program" = some (some (.ref f19)))
    (i19 : PySem.W.isFn K (.ref f19) = true)
    (l19 : K.lookup f19 = some ⟨oc19, od19, .func (PySem.W.fnOf "program" "Bench.program" (defArgs s_Bench_m_program) (defBody s_Bench_m_program) (defScope s_Bench_m_program) .none kV19 dc19 pm19 an19 cd19 ct19), sl19⟩)
    (c19 : PySem.W.codeIn K cd19 "Bench.program" = true)
    (k19 : PySem.W.keepIn K (.ref f19) = true)
    (a20 : PySem.W.findIn K (.ref O_Bench) "deeds" = some (some (.ref f20)))
    (i20 : PySem.W.isFn K (.ref f20) = true)
    (l20 : K.lookup f20 = some ⟨oc20, od20, .func (PySem.W.fnOf "deeds" "Bench.deeds" (defArgs s_Bench_m_deeds) (defBody s_Bench_m_deeds) (defScope s_Bench_m_deeds) .none kV20 dc20 pm20 an20 cd20 ct20), sl20⟩)
    (c20 : PySem.W.codeIn K cd20 "Bench.deeds" = true)
    (k20 : PySem.W.keepIn K (.ref f20) = true)
    (a21 : PySem.W.findIn K (.ref O_Bench) "keeps" = some (some (.ref f21)))
    (i21 : PySem.W.isFn K (.ref f21) = true)
    (l21 : K.lookup f21 = some ⟨oc21, od21, .func (PySem.W.fnOf "keeps" "Bench.keeps" (defArgs s_Bench_m_keeps) (defBody s_Bench_m_keeps) (defScope s_Bench_m_keeps) .none kV21 dc21 pm21 an21 cd21 ct21), sl21⟩)
    (c21 : PySem.W.codeIn K cd21 "Bench.keeps" = true)
    (k21 : PySem.W.keepIn K (.ref f21) = true)
    (a22 : PySem.W.findIn K (.ref O_Bench) "__len__" = some (some (.ref f22)))
    (i22 : PySem.W.isFn K (.ref f22) = true)
    (l22 : K.lookup f22 = some ⟨oc22, od22, .func (PySem.W.fnOf "__len__" "Bench.__len__" (defArgs s_Bench_m___len__) (defBody s_Bench_m___len__) (defScope s_Bench_m___len__) .none kV22 dc22 pm22 an22 cd22 ct22), sl22⟩)
    (c22 : PySem.W.codeIn K cd22 "Bench.__len__" = true)
    (k22 : PySem.W.keepIn K (.ref f22) = true)
    (a23 : PySem.W.nsIn K mainGlobals "_law_shows" = some (some (.ref f23)))
    (l23 : K.lookup f23 = some ⟨oc23, od23, .func (PySem.W.fnOf "_law_shows" "_law_shows" (defArgs s__law_shows) (defBody s__law_shows) (defScope s__law_shows) .none kV23 dc23 pm23 an23 cd23 ct23), sl23⟩)
    (c23 : PySem.W.codeIn K cd23 "_law_shows" = true)
    (k23 : PySem.W.keepIn K (.ref f23) = true)
    (a24 : PySem.W.findIn K (.ref O_Bench) "done" = some (some (.ref f24)))
    (i24 : PySem.W.isFn K (.ref f24) = true)
    (l24 : K.lookup f24 = some ⟨oc24, od24, .func (PySem.W.fnOf "done" "Bench.done" (defArgs s_Bench_m_done) (defBody s_Bench_m_done) (defScope s_Bench_m_done) .none kV24 dc24 pm24 an24 cd24 ct24), sl24⟩)
    (c24 : PySem.W.codeIn K cd24 "Bench.done" = true)
    (k24 : PySem.W.keepIn K (.ref f24) = true)
    (a25 : PySem.W.findIn K (.ref O_Bench) "has_left" = some (some (.ref f25)))
    (i25 : PySem.W.isFn K (.ref f25) = true)
    (l25 : K.lookup f25 = some ⟨oc25, od25, .func (PySem.W.fnOf "has_left" "Bench.has_left" (defArgs s_Bench_m_has_left) (defBody s_Bench_m_has_left) (defScope s_Bench_m_has_left) .none kV25 dc25 pm25 an25 cd25 ct25), sl25⟩)
    (c25 : PySem.W.codeIn K cd25 "Bench.has_left" = true)
    (k25 : PySem.W.keepIn K (.ref f25) = true)
    (a26 : PySem.W.findIn K (.ref O_Bench) "put" = some (some (.ref f26)))
    (i26 : PySem.W.isFn K (.ref f26) = true)
    (l26 : K.lookup f26 = some ⟨oc26, od26, .func (PySem.W.fnOf "put" "Bench.put" (defArgs s_Bench_m_put) (defBody s_Bench_m_put) (defScope s_Bench_m_put) .none kV26 dc26 pm26 an26 cd26 ct26), sl26⟩)
    (c26 : PySem.W.codeIn K cd26 "Bench.put" = true)
    (k26 : PySem.W.keepIn K (.ref f26) = true)
    (a27 : PySem.W.nsIn K mainGlobals "_law_put" = some (some (.ref f27)))
    (l27 : K.lookup f27 = some ⟨oc27, od27, .func (PySem.W.fnOf "_law_put" "_law_put" (defArgs s__law_put) (defBody s__law_put) (defScope s__law_put) .none kV27 dc27 pm27 an27 cd27 ct27), sl27⟩)
    (c27 : PySem.W.codeIn K cd27 "_law_put" = true)
    (k27 : PySem.W.keepIn K (.ref f27) = true)
    (a28 : PySem.W.findIn K (.ref O_Bench) "look_at_number" = some (some (.ref f28)))
    (i28 : PySem.W.isFn K (.ref f28) = true)
    (l28 : K.lookup f28 = some ⟨oc28, od28, .func (PySem.W.fnOf "look_at_number" "Bench.look_at_number" (defArgs s_Bench_m_look_at_number) (defBody s_Bench_m_look_at_number) (defScope s_Bench_m_look_at_number) .none kV28 dc28 pm28 an28 cd28 ct28), sl28⟩)
    (c28 : PySem.W.codeIn K cd28 "Bench.look_at_number" = true)
    (k28 : PySem.W.keepIn K (.ref f28) = true)
    (a29 : PySem.W.findIn K (.ref O_Bench) "paper_without" = some (some (.ref f29)))
    (i29 : PySem.W.isFn K (.ref f29) = true)
    (l29 : K.lookup f29 = some ⟨oc29, od29, .func (PySem.W.fnOf "paper_without" "Bench.paper_without" (defArgs s_Bench_m_paper_without) (defBody s_Bench_m_paper_without) (defScope s_Bench_m_paper_without) .none kV29 dc29 pm29 an29 cd29 ct29), sl29⟩)
    (c29 : PySem.W.codeIn K cd29 "Bench.paper_without" = true)
    (k29 : PySem.W.keepIn K (.ref f29) = true)
    (a30 : PySem.W.findIn K (.ref O_Bench) "take" = some (some (.ref f30)))
    (i30 : PySem.W.isFn K (.ref f30) = true)
    (l30 : K.lookup f30 = some ⟨oc30, od30, .func (PySem.W.fnOf "take" "Bench.take" (defArgs s_Bench_m_take) (defBody s_Bench_m_take) (defScope s_Bench_m_take) .none kV30 dc30 pm30 an30 cd30 ct30), sl30⟩)
    (c30 : PySem.W.codeIn K cd30 "Bench.take" = true)
    (k30 : PySem.W.keepIn K (.ref f30) = true)
    (a31 : PySem.W.nsIn K mainGlobals "_law_taken" = some (some (.ref f31)))
    (l31 : K.lookup f31 = some ⟨oc31, od31, .func (PySem.W.fnOf "_law_taken" "_law_taken" (defArgs s__law_taken) (defBody s__law_taken) (defScope s__law_taken) .none kV31 dc31 pm31 an31 cd31 ct31), sl31⟩)
    (c31 : PySem.W.codeIn K cd31 "_law_taken" = true)
    (k31 : PySem.W.keepIn K (.ref f31) = true)
    (a32 : PySem.W.findIn K (.ref O_Bench) "change" = some (some (.ref f32)))
    (i32 : PySem.W.isFn K (.ref f32) = true)
    (l32 : K.lookup f32 = some ⟨oc32, od32, .func (PySem.W.fnOf "change" "Bench.change" (defArgs s_Bench_m_change) (defBody s_Bench_m_change) (defScope s_Bench_m_change) .none kV32 dc32 pm32 an32 cd32 ct32), sl32⟩)
    (c32 : PySem.W.codeIn K cd32 "Bench.change" = true)
    (k32 : PySem.W.keepIn K (.ref f32) = true)
    (a33 : PySem.W.nsIn K mainGlobals "_law_changed" = some (some (.ref f33)))
    (l33 : K.lookup f33 = some ⟨oc33, od33, .func (PySem.W.fnOf "_law_changed" "_law_changed" (defArgs s__law_changed) (defBody s__law_changed) (defScope s__law_changed) .none kV33 dc33 pm33 an33 cd33 ct33), sl33⟩)
    (c33 : PySem.W.codeIn K cd33 "_law_changed" = true)
    (k33 : PySem.W.keepIn K (.ref f33) = true)
    (a34 : PySem.W.findIn K (.ref O_Bench) "undo" = some (some (.ref f34)))
    (i34 : PySem.W.isFn K (.ref f34) = true)
    (l34 : K.lookup f34 = some ⟨oc34, od34, .func (PySem.W.fnOf "undo" "Bench.undo" (defArgs s_Bench_m_undo) (defBody s_Bench_m_undo) (defScope s_Bench_m_undo) .none kV34 dc34 pm34 an34 cd34 ct34), sl34⟩)
    (c34 : PySem.W.codeIn K cd34 "Bench.undo" = true)
    (k34 : PySem.W.keepIn K (.ref f34) = true)
    (a35 : PySem.W.nsIn K mainGlobals "_law_undone" = some (some (.ref f35)))
    (l35 : K.lookup f35 = some ⟨oc35, od35, .func (PySem.W.fnOf "_law_undone" "_law_undone" (defArgs s__law_undone) (defBody s__law_undone) (defScope s__law_undone) .none kV35 dc35 pm35 an35 cd35 ct35), sl35⟩)
    (c35 : PySem.W.codeIn K cd35 "_law_undone" = true)
    (k35 : PySem.W.keepIn K (.ref f35) = true)
    (a36 : PySem.W.nsIn K mainGlobals "law" = some (some (.ref f36)))
    (l36 : K.lookup f36 = some ⟨oc36, od36, .func (PySem.W.fnOf "law" "law" (defArgs s_law) (defBody s_law) (defScope s_law) .none kV36 dc36 pm36 an36 cd36 ct36), sl36⟩)
    (c36 : PySem.W.codeIn K cd36 "law" = true)
    (k36 : PySem.W.keepIn K (.ref f36) = true)
    (z_IndexError : PySem.W.nsIn K mainGlobals "IndexError" = some none)
    (z_all : PySem.W.nsIn K mainGlobals "all" = some none)
    (z_bool : PySem.W.nsIn K mainGlobals "bool" = some none)
    (z_enumerate : PySem.W.nsIn K mainGlobals "enumerate" = some none)
    (z_int : PySem.W.nsIn K mainGlobals "int" = some none)
    (z_isinstance : PySem.W.nsIn K mainGlobals "isinstance" = some none)
    (z_len : PySem.W.nsIn K mainGlobals "len" = some none)
    (z_list : PySem.W.nsIn K mainGlobals "list" = some none)
    (z_max : PySem.W.nsIn K mainGlobals "max" = some none)
    (z_min : PySem.W.nsIn K mainGlobals "min" = some none)
    (z_range : PySem.W.nsIn K mainGlobals "range" = some none)
    (z_repr : PySem.W.nsIn K mainGlobals "repr" = some none)
    (z_str : PySem.W.nsIn K mainGlobals "str" = some none)
    (z_tuple : PySem.W.nsIn K mainGlobals "tuple" = some none)
    (q0 : PySem.W.nsIn K mainGlobals "JUST" = some (some (.str "just" t0)))
    (q1 : PySem.W.nsIn K mainGlobals "LEAST" = some (some (.str "least" t1)))
    (q2 : PySem.W.nsIn K mainGlobals "LETTERS" = some (some (.str "abcdefghijklmnopqrstuvwxyz" t2)))
    (q3 : PySem.W.nsIn K mainGlobals "MOST_NUMBERS_programs" = some (some (.int 3 t3)))
    (q4 : PySem.W.nsIn K mainGlobals "MOST_NUMBERS_wishes" = some (some (.int 8 t4)))
    (q5 : PySem.W.nsIn K mainGlobals "MOST_PLACES" = some (some (.int 6 t5)))
    (q6 : PySem.W.nsIn K mainGlobals "MOST_ROWS" = some (some (.int 10 t6)))
    (aC_Bare : PySem.W.nsIn K mainGlobals "Bare" = some (some (.ref C_Bare)))
    (aC_Full : PySem.W.nsIn K mainGlobals "Full" = some (some (.ref C_Full)))
    (aC_NoNumber : PySem.W.nsIn K mainGlobals "NoNumber" = some (some (.ref C_NoNumber)))
    (aC_NoProgram : PySem.W.nsIn K mainGlobals "NoProgram" = some (some (.ref C_NoProgram)))
    (aC_NoRow : PySem.W.nsIn K mainGlobals "NoRow" = some (some (.ref C_NoRow)))
    (aC_NoWishes : PySem.W.nsIn K mainGlobals "NoWishes" = some (some (.ref C_NoWishes)))
    (aC_WeighError : PySem.W.nsIn K mainGlobals "WeighError" = some (some (.ref C_WeighError)))
    (gn : PySem.W.specialIn K (.builtin "object.__class__") "__get__" = some (some (.builtin "getset_descriptor.__get__")))
    (gt : PySem.W.takesIn K (.builtin "object.__class__") = some true)
    (eC_Bare : PySem.W.subIn K (.ref C_Bare) (.type "BaseException") = some true)
    (hd_Bare : PySem.W.hasDictIn K C_Bare = true)
    (tC_Bare : PySem.W.typeIn K (.ref C_Bare) = some (.type "type"))
    (cl_Bare : PySem.W.isClsIn K C_Bare = true)
    (eC_Full : PySem.W.subIn K (.ref C_Full) (.type "BaseException") = some true)
    (hd_Full : PySem.W.hasDictIn K C_Full = true)
    (tC_Full : PySem.W.typeIn K (.ref C_Full) = some (.type "type"))
    (cl_Full : PySem.W.isClsIn K C_Full = true)
    (eC_NoNumber : PySem.W.subIn K (.ref C_NoNumber) (.type "BaseException") = some true)
    (hd_NoNumber : PySem.W.hasDictIn K C_NoNumber = true)
    (tC_NoNumber : PySem.W.typeIn K (.ref C_NoNumber) = some (.type "type"))
    (cl_NoNumber : PySem.W.isClsIn K C_NoNumber = true)
    (eC_NoProgram : PySem.W.subIn K (.ref C_NoProgram) (.type "BaseException") = some true)
    (hd_NoProgram : PySem.W.hasDictIn K C_NoProgram = true)
    (tC_NoProgram : PySem.W.typeIn K (.ref C_NoProgram) = some (.type "type"))
    (cl_NoProgram : PySem.W.isClsIn K C_NoProgram = true)
    (eC_NoRow : PySem.W.subIn K (.ref C_NoRow) (.type "BaseException") = some true)
    (hd_NoRow : PySem.W.hasDictIn K C_NoRow = true)
    (tC_NoRow : PySem.W.typeIn K (.ref C_NoRow) = some (.type "type"))
    (cl_NoRow : PySem.W.isClsIn K C_NoRow = true)
    (eC_NoWishes : PySem.W.subIn K (.ref C_NoWishes) (.type "BaseException") = some true)
    (hd_NoWishes : PySem.W.hasDictIn K C_NoWishes = true)
    (tC_NoWishes : PySem.W.typeIn K (.ref C_NoWishes) = some (.type "type"))
    (cl_NoWishes : PySem.W.isClsIn K C_NoWishes = true)
    (ga_Bare : PySem.W.findIn K (.ref C_Bare) "__getattribute__" = some (some (.builtin "BaseException.__getattribute__")))
    (gg_Bare : PySem.W.findIn K (.ref C_Bare) "__getattr__" = some none)
    (ca_Bare : PySem.W.findIn K (.ref C_Bare) "__class__" = some (some (.builtin "object.__class__")))
    (mr_Bare : PySem.W.mroIn K C_Bare (.type "object") = some true)
    (kC_Bare : PySem.W.keepIn K (.ref C_Bare) = true)
    (xe_Bare : PySem.W.excIn K C_Bare [.type "RuntimeError", .type "Exception", .type "BaseException", .type "object"] "RuntimeError.__new__" = true)
    (ga_Full : PySem.W.findIn K (.ref C_Full) "__getattribute__" = some (some (.builtin "BaseException.__getattribute__")))
    (gg_Full : PySem.W.findIn K (.ref C_Full) "__getattr__" = some none)
    (ca_Full : PySem.W.findIn K (.ref C_Full) "__class__" = some (some (.builtin "object.__class__")))
    (mr_Full : PySem.W.mroIn K C_Full (.type "object") = some true)
    (kC_Full : PySem.W.keepIn K (.ref C_Full) = true)
    (xe_Full : PySem.W.excIn K C_Full [.type "OverflowError", .type "ArithmeticError", .type "Exception", .type "BaseException", .type "object"] "OverflowError.__new__" = true)
    (ga_NoNumber : PySem.W.findIn K (.ref C_NoNumber) "__getattribute__" = some (some (.builtin "BaseException.__getattribute__")))
    (gg_NoNumber : PySem.W.findIn K (.ref C_NoNumber) "__getattr__" = some none)
    (ca_NoNumber : PySem.W.findIn K (.ref C_NoNumber) "__class__" = some (some (.builtin "object.__class__")))
    (mr_NoNumber : PySem.W.mroIn K C_NoNumber (.type "object") = some true)
    (kC_NoNumber : PySem.W.keepIn K (.ref C_NoNumber) = true)
    (xL_NoNumber : K.lookup C_NoNumber = some (excClassObj nm_NoNumber q_NoNumber C_NoNumber N_NoNumber bs_NoNumber bm_NoNumber true sn_NoNumber sub_NoNumber ab_NoNumber col_NoNumber dd_NoNumber m0_NoNumber m1_NoNumber m2_NoNumber m3_NoNumber m5_NoNumber "ValueError.__new__"))
    (rv_NoNumber : PySem.HandSPX.refsVE bm_NoNumber = true)
    (sa_NoNumber : PySem.W.findIn K (.ref C_NoNumber) "__setattr__" = some (some (.builtin "object.__setattr__")))
    (i1_NoNumber : PySem.W.findIn K (.ref C_NoNumber) "__init__" = some (some (.ref fI_NoNumber)))
    (i2_NoNumber : PySem.W.typeIn K (.ref fI_NoNumber) = some (.type "function"))
    (i3_NoNumber : K.lookup fI_NoNumber = some ⟨ocI_NoNumber, odI_NoNumber, .func (PySem.W.fnOf "__init__" "NoNumber.__init__" (defArgs i_NoNumber) (defBody i_NoNumber) (defScope i_NoNumber) .none kVI_NoNumber dcI_NoNumber pmI_NoNumber anI_NoNumber cdI_NoNumber ctI_NoNumber), slI_NoNumber⟩)
    (i4_NoNumber : PySem.W.codeIn K cdI_NoNumber "NoNumber.__init__" = true)
    (i5_NoNumber : PySem.W.keepIn K (.ref fI_NoNumber) = true)
    (nf_NoNumber_thing : PySem.W.findIn K (.ref C_NoNumber) "thing" = some none)
    (ga_NoProgram : PySem.W.findIn K (.ref C_NoProgram) "__getattribute__" = some (some (.builtin "BaseException.__getattribute__")))
    (gg_NoProgram : PySem.W.findIn K (.ref C_NoProgram) "__getattr__" = some none)
    (ca_NoProgram : PySem.W.findIn K (.ref C_NoProgram) "__class__" = some (some (.builtin "object.__class__")))
    (mr_NoProgram : PySem.W.mroIn K C_NoProgram (.type "object") = some true)
    (kC_NoProgram : PySem.W.keepIn K (.ref C_NoProgram) = true)
    (xL_NoProgram : K.lookup C_NoProgram = some (excClassObj nm_NoProgram q_NoProgram C_NoProgram N_NoProgram bs_NoProgram bm_NoProgram true sn_NoProgram sub_NoProgram ab_NoProgram col_NoProgram dd_NoProgram m0_NoProgram m1_NoProgram m2_NoProgram m3_NoProgram m5_NoProgram "ValueError.__new__"))
    (rv_NoProgram : PySem.HandSPX.refsVE bm_NoProgram = true)
    (sa_NoProgram : PySem.W.findIn K (.ref C_NoProgram) "__setattr__" = some (some (.builtin "object.__setattr__")))
    (i1_NoProgram : PySem.W.findIn K (.ref C_NoProgram) "__init__" = some (some (.ref fI_NoProgram)))
    (i2_NoProgram : PySem.W.typeIn K (.ref fI_NoProgram) = some (.type "function"))
    (i3_NoProgram : K.lookup fI_NoProgram = some ⟨ocI_NoProgram, odI_NoProgram, .func (PySem.W.fnOf "__init__" "NoProgram.__init__" (defArgs i_NoProgram) (defBody i_NoProgram) (defScope i_NoProgram) .none kVI_NoProgram dcI_NoProgram pmI_NoProgram anI_NoProgram cdI_NoProgram ctI_NoProgram), slI_NoProgram⟩)
    (i4_NoProgram : PySem.W.codeIn K cdI_NoProgram "NoProgram.__init__" = true)
    (i5_NoProgram : PySem.W.keepIn K (.ref fI_NoProgram) = true)
    (nf_NoProgram_part : PySem.W.findIn K (.ref C_NoProgram) "part" = some none)
    (nf_NoProgram_number : PySem.W.findIn K (.ref C_NoProgram) "number" = some none)
    (ga_NoRow : PySem.W.findIn K (.ref C_NoRow) "__getattribute__" = some (some (.builtin "BaseException.__getattribute__")))
    (gg_NoRow : PySem.W.findIn K (.ref C_NoRow) "__getattr__" = some none)
    (ca_NoRow : PySem.W.findIn K (.ref C_NoRow) "__class__" = some (some (.builtin "object.__class__")))
    (mr_NoRow : PySem.W.mroIn K C_NoRow (.type "object") = some true)
    (kC_NoRow : PySem.W.keepIn K (.ref C_NoRow) = true)
    (xL_NoRow : K.lookup C_NoRow = some (excClassObj nm_NoRow q_NoRow C_NoRow N_NoRow bs_NoRow [.type "IndexError", .type "LookupError", .type "Exception", .type "BaseException", .type "object"] true sn_NoRow sub_NoRow ab_NoRow col_NoRow dd_NoRow m0_NoRow m1_NoRow m2_NoRow m3_NoRow m5_NoRow "IndexError.__new__"))
    (sa_NoRow : PySem.W.findIn K (.ref C_NoRow) "__setattr__" = some (some (.builtin "object.__setattr__")))
    (i1_NoRow : PySem.W.findIn K (.ref C_NoRow) "__init__" = some (some (.ref fI_NoRow)))
    (i2_NoRow : PySem.W.typeIn K (.ref fI_NoRow) = some (.type "function"))
    (i3_NoRow : K.lookup fI_NoRow = some ⟨ocI_NoRow, odI_NoRow, .func (PySem.W.fnOf "__init__" "NoRow.__init__" (defArgs i_NoRow) (defBody i_NoRow) (defScope i_NoRow) .none kVI_NoRow dcI_NoRow pmI_NoRow anI_NoRow cdI_NoRow ctI_NoRow), slI_NoRow⟩)
    (i4_NoRow : PySem.W.codeIn K cdI_NoRow "NoRow.__init__" = true)
    (i5_NoRow : PySem.W.keepIn K (.ref fI_NoRow) = true)
    (nf_NoRow_row : PySem.W.findIn K (.ref C_NoRow) "row" = some none)
    (ga_NoWishes : PySem.W.findIn K (.ref C_NoWishes) "__getattribute__" = some (some (.builtin "BaseException.__getattribute__")))
    (gg_NoWishes : PySem.W.findIn K (.ref C_NoWishes) "__getattr__" = some none)
    (ca_NoWishes : PySem.W.findIn K (.ref C_NoWishes) "__class__" = some (some (.builtin "object.__class__")))
    (mr_NoWishes : PySem.W.mroIn K C_NoWishes (.type "object") = some true)
    (kC_NoWishes : PySem.W.keepIn K (.ref C_NoWishes) = true)
    (xe_NoWishes : PySem.W.excIn K C_NoWishes [.type "ValueError", .type "Exception", .type "BaseException", .type "object"] "ValueError.__new__" = true)
    (bw_IndexError : PySem.W.findCls K (.type "IndexError") (.type "type") "__init__" = some (.val (.builtin "IndexError.__init__")))
    (bsp_WeighError : PySem.W.specialIn K (.ref C_WeighError) "__getattribute__" = some (some (.builtin "type.__getattribute__")))
    (brd_WeighError : PySem.W.readsIn K C_WeighError (.type "type") = true)
    (bfc_WeighError : PySem.W.findCls K (.ref C_WeighError) (.type "type") "__init__" = some (.val (.builtin "ValueError.__init__")))
    (sb_Bare_Bare : PySem.W.subIn K (.ref C_Bare) (.ref C_Bare) = some true)
    (sb_Bare_Full : PySem.W.subIn K (.ref C_Bare) (.ref C_Full) = some false)
    (ne_Bare_Full : (Value.ref C_Bare == Value.ref C_Full) = false)
    (sb_Full_Bare : PySem.W.subIn K (.ref C_Full) (.ref C_Bare) = some false)
    (ne_Full_Bare : (Value.ref C_Full == Value.ref C_Bare) = false)
    (sb_Full_Full : PySem.W.subIn K (.ref C_Full) (.ref C_Full) = some true)
    (sb_NoNumber_Bare : PySem.W.subIn K (.ref C_NoNumber) (.ref C_Bare) = some false)
    (ne_NoNumber_Bare : (Value.ref C_NoNumber == Value.ref C_Bare) = false)
    (sb_NoNumber_Full : PySem.W.subIn K (.ref C_NoNumber) (.ref C_Full) = some false)
    (ne_NoNumber_Full : (Value.ref C_NoNumber == Value.ref C_Full) = false)
    (sb_NoProgram_Bare : PySem.W.subIn K (.ref C_NoProgram) (.ref C_Bare) = some false)
    (ne_NoProgram_Bare : (Value.ref C_NoProgram == Value.ref C_Bare) = false)
    (sb_NoProgram_Full : PySem.W.subIn K (.ref C_NoProgram) (.ref C_Full) = some false)
    (ne_NoProgram_Full : (Value.ref C_NoProgram == Value.ref C_Full) = false)
    (sb_NoRow_Bare : PySem.W.subIn K (.ref C_NoRow) (.ref C_Bare) = some false)
    (ne_NoRow_Bare : (Value.ref C_NoRow == Value.ref C_Bare) = false)
    (sb_NoRow_Full : PySem.W.subIn K (.ref C_NoRow) (.ref C_Full) = some false)
    (ne_NoRow_Full : (Value.ref C_NoRow == Value.ref C_Full) = false)
    (sb_NoWishes_Bare : PySem.W.subIn K (.ref C_NoWishes) (.ref C_Bare) = some false)
    (ne_NoWishes_Bare : (Value.ref C_NoWishes == Value.ref C_Bare) = false)
    (sb_NoWishes_Full : PySem.W.subIn K (.ref C_NoWishes) (.ref C_Full) = some false)
    (ne_NoWishes_Full : (Value.ref C_NoWishes == Value.ref C_Full) = false) :
    ∃ fd : FuncData, (∀ (s : Shared) (v : Value), BindsTo s fd ⟨[v], []⟩ [("_law_script", v)]) ∧ ∀ base : Heap, K.In base → base.Ns mainGlobals mg → FnG l.prog w K mg base 11 fa fd ["_law_script"] f_law := by
  have T : Txt w K mg := by
    constructor
    · refine ⟨f0, _, funD_k (st := s_is_name) l0 c0 k0 ?_, PySem.W.mg_of X G a0⟩
      intro q hq
      simp only [List.mem_cons, List.not_mem_nil, or_false] at hq
      rcases hq with rfl
      · exact ⟨_, kL0_0, ⟨_, rfl⟩⟩
    · have F := fun_mk (st := s_first_no_name) l1 c1 k1
      exact ⟨f1, _, F, PySem.W.mg_of X G a1, F.binds fun _ _ _ _ _ _ us hl => match us, hl with | [_], _ => rfl⟩
    · exact ⟨f2, _, funD_n (st := s_look_at_names) l2 c2 k2, PySem.W.mg_of X G a2⟩
    · have F := fun_mk (st := s_is_whole) l3 c3 k3
      exact ⟨f3, _, F, PySem.W.mg_of X G a3, F.binds fun _ _ _ _ _ _ us hl => match us, hl with | [_], _ => rfl⟩
    · have F := fun_mk (st := s_look_at_many) l4 c4 k4
      exact ⟨f4, _, F, PySem.W.mg_of X G a4, F.binds fun _ _ _ _ _ _ us hl => match us, hl with | [_], _ => rfl⟩
    · have F := fun_mk (st := s_is_line) l5 c5 k5
      exact ⟨f5, _, F, PySem.W.mg_of X G a5, F.binds fun _ _ _ _ _ _ us hl => match us, hl with | [_, _], _ => rfl⟩
    · have F := fun_mk (st := s_is_wish) l6 c6 k6
      exact ⟨f6, _, F, PySem.W.mg_of X G a6, F.binds fun _ _ _ _ _ _ us hl => match us, hl with | [_, _], _ => rfl⟩
    · refine ⟨f7, _, funD_k (st := s_are_wishes) l7 c7 k7 ?_, PySem.W.mg_of X G a7⟩
      intro q hq
      simp only [List.mem_cons, List.not_mem_nil, or_false] at hq
      rcases hq with rfl
      · exact ⟨_, kL7_0, ⟨_, rfl⟩⟩
    · have F := fun_mk (st := s_is_number_of) l8 c8 k8
      exact ⟨f8, _, F, PySem.W.mg_of X G a8, F.binds fun _ _ _ _ _ _ us hl => match us, hl with | [_, _], _ => rfl⟩
    · have F := fun_mk (st := s_is_row) l9 c9 k9
      exact ⟨f9, _, F, PySem.W.mg_of X G a9, F.binds fun _ _ _ _ _ _ us hl => match us, hl with | [_, _, _], _ => rfl⟩
    · have F := fun_mk (st := s_look_at) l10 c10 k10
      exact ⟨f10, _, F, PySem.W.mg_of X G a10, F.binds fun _ _ _ _ _ _ us hl => match us, hl with | [_], _ => rfl⟩
    · have F := fun_mk (st := s_copied_wishes) l11 c11 k11
      exact ⟨f11, _, F, PySem.W.mg_of X G a11, F.binds fun _ _ _ _ _ _ us hl => match us, hl with | [_], _ => rfl⟩
    · have F := fun_mk (st := s_copied_row) l12 c12 k12
      exact ⟨f12, _, F, PySem.W.mg_of X G a12, F.binds fun _ _ _ _ _ _ us hl => match us, hl with | [_], _ => rfl⟩
    · have F := fun_mk (st := s_copied) l13 c13 k13
      exact ⟨f13, _, F, PySem.W.mg_of X G a13, F.binds fun _ _ _ _ _ _ us hl => match us, hl with | [_], _ => rfl⟩
    · refine ⟨O_Bench, f14, _, PySem.W.mg_of X G oG_Bench, oG_Bench, ⟨oM_Bench, a14, i14, oK_Bench⟩, funD_n (st := s_Bench_m___init__) l14 c14 k14⟩
    · have F := fun_mk (st := s__law_pool) l15 c15 k15
      exact ⟨f15, _, F, PySem.W.mg_of X G a15, F.binds fun _ _ _ _ _ _ us hl => match us, hl with | [_, _], _ => rfl⟩
    · have F := fun_mk (st := s__law_take) l16 c16 k16
      exact ⟨f16, _, F, PySem.W.mg_of X G a16, F.binds fun _ _ _ _ _ _ us hl => match us, hl with | [_, _], _ => rfl⟩
    · have F := fun_mk (st := s__law_free_row) l17 c17 k17
      exact ⟨f17, _, F, PySem.W.mg_of X G a17, F.binds fun _ _ _ _ _ _ us hl => match us, hl with | [_, _, _], _ => rfl⟩
    · have F := fun_mk (st := s__law_copy) l18 c18 k18
      exact ⟨f18, _, F, PySem.W.mg_of X G a18, F.binds fun _ _ _ _ _ _ us hl => match us, hl with | [_], _ => rfl⟩
    · have F := fun_mk (x := "program") (qual := "Bench.program") (st := s_Bench_m_program) l19 c19 k19
      exact ⟨O_Bench, f19, _, oG_Bench, ⟨oP_Bench, oD_Bench, oO_Bench, oS_Bench⟩, ⟨a19, i19, k19⟩, F, F.binds fun _ _ _ _ _ _ us hl => match us, hl with | [_], _ => rfl⟩
    · have F := fun_mk (x := "deeds") (qual := "Bench.deeds") (st := s_Bench_m_deeds) l20 c20 k20
      exact ⟨O_Bench, f20, _, oG_Bench, ⟨oP_Bench, oD_Bench, oO_Bench, oS_Bench⟩, ⟨a20, i20, k20⟩, F, F.binds fun _ _ _ _ _ _ us hl => match us, hl with | [_], _ => rfl⟩
    · have F := fun_mk (x := "keeps") (qual := "Bench.keeps") (st := s_Bench_m_keeps) l21 c21 k21
      exact ⟨O_Bench, f21, _, oG_Bench, ⟨oP_Bench, oD_Bench, oO_Bench, oS_Bench⟩, ⟨a21, i21, k21⟩, F, F.binds fun _ _ _ _ _ _ us hl => match us, hl with | [_], _ => rfl⟩
    · have F := fun_mk (x := "__len__") (qual := "Bench.__len__") (st := s_Bench_m___len__) l22 c22 k22
      exact ⟨O_Bench, f22, _, oG_Bench, ⟨oP_Bench, oD_Bench, oO_Bench, oS_Bench⟩, ⟨a22, i22, k22⟩, F, F.binds fun _ _ _ _ _ _ us hl => match us, hl with | [_], _ => rfl⟩
    · have F := fun_mk (st := s__law_shows) l23 c23 k23
      exact ⟨f23, _, F, PySem.W.mg_of X G a23, F.binds fun _ _ _ _ _ _ us hl => match us, hl with | [_, _], _ => rfl⟩
    · have F := fun_mk (x := "done") (qual := "Bench.done") (st := s_Bench_m_done) l24 c24 k24
      exact ⟨O_Bench, f24, _, oG_Bench, ⟨oP_Bench, oD_Bench, oO_Bench, oS_Bench⟩, ⟨a24, i24, k24⟩, F, F.binds fun _ _ _ _ _ _ us hl => match us, hl with | [_, _, _], _ => rfl⟩
    · have F := fun_mk (x := "has_left") (qual := "Bench.has_left") (st := s_Bench_m_has_left) l25 c25 k25
      exact ⟨O_Bench, f25, _, oG_Bench, ⟨oP_Bench, oD_Bench, oO_Bench, oS_Bench⟩, ⟨a25, i25, k25⟩, F, F.binds fun _ _ _ _ _ _ us hl => match us, hl with | [_], _ => rfl⟩
    · have F := fun_mk (x := "put") (qual := "Bench.put") (st := s_Bench_m_put) l26 c26 k26
      exact ⟨O_Bench, f26, _, oG_Bench, ⟨oP_Bench, oD_Bench, oO_Bench, oS_Bench⟩, ⟨a26, i26, k26⟩, F, F.binds fun _ _ _ _ _ _ us hl => match us, hl with | [_, _], _ => rfl⟩
    · have F := fun_mk (st := s__law_put) l27 c27 k27
      exact ⟨f27, _, F, PySem.W.mg_of X G a27, F.binds fun _ _ _ _ _ _ us hl => match us, hl with | [_, _, _], _ => rfl⟩
    · have F := fun_mk (x := "look_at_number") (qual := "Bench.look_at_number") (st := s_Bench_m_look_at_number) l28 c28 k28
      exact ⟨O_Bench, f28, _, oG_Bench, ⟨oP_Bench, oD_Bench, oO_Bench, oS_Bench⟩, ⟨a28, i28, k28⟩, F, F.binds fun _ _ _ _ _ _ us hl => match us, hl with | [_, _], _ => rfl⟩
    · have F := fun_mk (x := "paper_without") (qual := "Bench.paper_without") (st := s_Bench_m_paper_without) l29 c29 k29
      exact ⟨O_Bench, f29, _, oG_Bench, ⟨oP_Bench, oD_Bench, oO_Bench, oS_Bench⟩, ⟨a29, i29, k29⟩, F, F.binds fun _ _ _ _ _ _ us hl => match us, hl with | [_, _], _ => rfl⟩
    · refine ⟨O_Bench, f30, _, oG_Bench, ⟨oP_Bench, oD_Bench, oO_Bench, oS_Bench⟩, ⟨a30, i30, k30⟩, funD_n (st := s_Bench_m_take) l30 c30 k30⟩
    · have F := fun_mk (st := s__law_taken) l31 c31 k31
      exact ⟨f31, _, F, PySem.W.mg_of X G a31, F.binds fun _ _ _ _ _ _ us hl => match us, hl with | [_, _, _], _ => rfl⟩
    · refine ⟨O_Bench, f32, _, oG_Bench, ⟨oP_Bench, oD_Bench, oO_Bench, oS_Bench⟩, ⟨a32, i32, k32⟩, funD_n (st := s_Bench_m_change) l32 c32 k32⟩
    · have F := fun_mk (st := s__law_changed) l33 c33 k33
      exact ⟨f33, _, F, PySem.W.mg_of X G a33, F.binds fun _ _ _ _ _ _ us hl => match us, hl with | [_, _, _], _ => rfl⟩
    · have F := fun_mk (x := "undo") (qual := "Bench.undo") (st := s_Bench_m_undo) l34 c34 k34
      exact ⟨O_Bench, f34, _, oG_Bench, ⟨oP_Bench, oD_Bench, oO_Bench, oS_Bench⟩, ⟨a34, i34, k34⟩, F, F.binds fun _ _ _ _ _ _ us hl => match us, hl with | [_], _ => rfl⟩
    · have F := fun_mk (st := s__law_undone) l35 c35 k35
      exact ⟨f35, _, F, PySem.W.mg_of X G a35, F.binds fun _ _ _ _ _ _ us hl => match us, hl with | [_, _], _ => rfl⟩
    · have F := fun_mk (st := s_law) l36 c36 k36
      exact ⟨f36, _, F, PySem.W.mg_of X G a36, F.binds fun _ _ _ _ _ _ us hl => match us, hl with | [_], _ => rfl⟩
    · exact PySem.W.mg_none_of X G z_IndexError
    · exact PySem.W.mg_none_of X G z_all
    · exact PySem.W.mg_none_of X G z_bool
    · exact PySem.W.mg_none_of X G z_enumerate
    · exact PySem.W.mg_none_of X G z_int
    · exact PySem.W.mg_none_of X G z_isinstance
    · exact PySem.W.mg_none_of X G z_len
    · exact PySem.W.mg_none_of X G z_list
    · exact PySem.W.mg_none_of X G z_max
    · exact PySem.W.mg_none_of X G z_min
    · exact PySem.W.mg_none_of X G z_range
    · exact PySem.W.mg_none_of X G z_repr
    · exact PySem.W.mg_none_of X G z_str
    · exact PySem.W.mg_none_of X G z_tuple
    · exact ⟨_, PySem.W.mg_of X G q0⟩
    · exact ⟨_, PySem.W.mg_of X G q1⟩
    · exact ⟨_, PySem.W.mg_of X G q2⟩
    · exact ⟨_, PySem.W.mg_of X G q3⟩
    · exact ⟨_, PySem.W.mg_of X G q4⟩
    · exact ⟨_, PySem.W.mg_of X G q5⟩
    · exact ⟨_, PySem.W.mg_of X G q6⟩
    · exact tblO_mk (List.forall_mem_cons.mpr ⟨fun cls h => by rw [Value.ref.inj (clsK_eq h oG_Bench)]; exact ⟨⟨oP_Bench, oD_Bench, oO_Bench, oS_Bench⟩, oN_Bench_own_paper⟩, (List.forall_mem_cons.mpr ⟨fun cls h => by rw [Value.ref.inj (clsK_eq h oG_Bench)]; exact ⟨⟨oP_Bench, oD_Bench, oO_Bench, oS_Bench⟩, oN_Bench_own_past⟩, (List.forall_mem_cons.mpr ⟨fun cls h => by rw [Value.ref.inj (clsK_eq h oG_Bench)]; exact ⟨⟨oP_Bench, oD_Bench, oO_Bench, oS_Bench⟩, oN_Bench_own_program⟩, (fun _ h => (List.not_mem_nil h).elim)⟩)⟩)⟩)
    · exact ⟨C_Bare, PySem.W.mg_of X G aC_Bare, tblX_mk (List.forall_mem_cons.mpr ⟨fun cls h => by rw [clsK_eq h aC_Bare]; exact PySem.W.exm_ref eC_Bare hd_Bare tC_Bare sb_Bare_Bare, (List.forall_mem_cons.mpr ⟨fun cls h => by rw [clsK_eq h aC_Full]; exact PySem.W.exm_ref eC_Bare hd_Bare tC_Bare sb_Full_Bare, (List.forall_mem_cons.mpr ⟨fun cls h => by rw [clsK_eq h aC_NoNumber]; exact PySem.W.exm_ref eC_Bare hd_Bare tC_Bare sb_NoNumber_Bare, (List.forall_mem_cons.mpr ⟨fun cls h => by rw [clsK_eq h aC_NoProgram]; exact PySem.W.exm_ref eC_Bare hd_Bare tC_Bare sb_NoProgram_Bare, (List.forall_mem_cons.mpr ⟨fun cls h => by rw [clsK_eq h aC_NoRow]; exact PySem.W.exm_ref eC_Bare hd_Bare tC_Bare sb_NoRow_Bare, (List.forall_mem_cons.mpr ⟨fun cls h => by rw [clsK_eq h aC_NoWishes]; exact PySem.W.exm_ref eC_Bare hd_Bare tC_Bare sb_NoWishes_Bare, (fun _ h => (List.not_mem_nil h).elim)⟩)⟩)⟩)⟩)⟩)⟩)⟩
    · exact ⟨C_Full, PySem.W.mg_of X G aC_Full, tblX_mk (List.forall_mem_cons.mpr ⟨fun cls h => by rw [clsK_eq h aC_Bare]; exact PySem.W.exm_ref eC_Full hd_Full tC_Full sb_Bare_Full, (List.forall_mem_cons.mpr ⟨fun cls h => by rw [clsK_eq h aC_Full]; exact PySem.W.exm_ref eC_Full hd_Full tC_Full sb_Full_Full, (List.forall_mem_cons.mpr ⟨fun cls h => by rw [clsK_eq h aC_NoNumber]; exact PySem.W.exm_ref eC_Full hd_Full tC_Full sb_NoNumber_Full, (List.forall_mem_cons.mpr ⟨fun cls h => by rw [clsK_eq h aC_NoProgram]; exact PySem.W.exm_ref eC_Full hd_Full tC_Full sb_NoProgram_Full, (List.forall_mem_cons.mpr ⟨fun cls h => by rw [clsK_eq h aC_NoRow]; exact PySem.W.exm_ref eC_Full hd_Full tC_Full sb_NoRow_Full, (List.forall_mem_cons.mpr ⟨fun cls h => by rw [clsK_eq h aC_NoWishes]; exact PySem.W.exm_ref eC_Full hd_Full tC_Full sb_NoWishes_Full, (fun _ h => (List.not_mem_nil h).elim)⟩)⟩)⟩)⟩)⟩)⟩)⟩
    · exact bw_IndexError
    · exact ⟨tblC_mk (fun _ h => (List.not_mem_nil h).elim), tblT_mk (fun _ h => (List.not_mem_nil h).elim)⟩
    · exact tblF_mk (fun _ h => (List.not_mem_nil h).elim)
    · exact ⟨C_Bare, PySem.W.mg_of X G aC_Bare, aC_Bare, xe_Bare, kC_Bare, eC_Bare, tC_Bare⟩
    · exact ⟨C_Full, PySem.W.mg_of X G aC_Full, aC_Full, xe_Full, kC_Full, eC_Full, tC_Full⟩
    · have F := fun_mk (x := "__init__") (qual := "NoNumber.__init__") (st := i_NoNumber) i3_NoNumber i4_NoNumber i5_NoNumber
      exact ⟨C_NoNumber, C_WeighError, fI_NoNumber, _, PySem.W.mg_of X G aC_NoNumber, aC_NoNumber, ⟨⟨_, _, _, _, _, _, _, _, _, _, _, _, _, _, _, xL_NoNumber, rv_NoNumber⟩, sa_NoNumber, eC_NoNumber, tC_NoNumber, kC_NoNumber⟩, i1_NoNumber, i2_NoNumber, nf_NoNumber_thing, ⟨PySem.W.mg_of X G aC_WeighError, bsp_WeighError, brd_WeighError, bfc_WeighError⟩, F, F.binds fun _ _ _ _ _ _ us hl => match us, hl with | [_, _], _ => rfl⟩
    · have F := fun_mk (x := "__init__") (qual := "NoProgram.__init__") (st := i_NoProgram) i3_NoProgram i4_NoProgram i5_NoProgram
      exact ⟨C_NoProgram, C_WeighError, fI_NoProgram, _, PySem.W.mg_of X G aC_NoProgram, aC_NoProgram, ⟨⟨_, _, _, _, _, _, _, _, _, _, _, _, _, _, _, xL_NoProgram, rv_NoProgram⟩, sa_NoProgram, eC_NoProgram, tC_NoProgram, kC_NoProgram⟩, i1_NoProgram, i2_NoProgram, nf_NoProgram_part, nf_NoProgram_number, ⟨PySem.W.mg_of X G aC_WeighError, bsp_WeighError, brd_WeighError, bfc_WeighError⟩, F, F.binds fun _ _ _ _ _ _ us hl => match us, hl with | [_, _, _], _ => rfl⟩
    · have F := fun_mk (x := "__init__") (qual := "NoRow.__init__") (st := i_NoRow) i3_NoRow i4_NoRow i5_NoRow
      exact ⟨C_NoRow, fI_NoRow, _, PySem.W.mg_of X G aC_NoRow, aC_NoRow, ⟨⟨_, _, _, _, _, _, _, _, _, _, _, _, _, _, xL_NoRow⟩, sa_NoRow, eC_NoRow, tC_NoRow, kC_NoRow⟩, i1_NoRow, i2_NoRow, nf_NoRow_row, F, F.binds fun _ _ _ _ _ _ us hl => match us, hl with | [_, _], _ => rfl⟩
    · exact ⟨C_NoWishes, PySem.W.mg_of X G aC_NoWishes, aC_NoWishes, xe_NoWishes, kC_NoWishes, eC_NoWishes, tC_NoWishes⟩
  have e := hfa.symm.trans (PySem.W.mg_of X G a36)
  cases e
  have Fl := fun_mk (st := s_law) l36 c36 k36
  refine ⟨_, fun s v => .of_eq (show bindArgs (PySem.W.fnOf "law" "law" (defArgs s_law) (defBody s_law) (defScope s_law) .none kV36 dc36 pm36 an36 cd36 ct36) ⟨[v], []⟩ = _ from rfl), fun base _ _ => ?_⟩
  obtain ⟨f, fd, F, hm, Fu, _⟩ := (all_ok (P := l.prog) (w := w) (base := base) T).ex
  cases hfa.symm.trans hm
  obtain ⟨_, _, _, _, _, _, _, _, _, e1, lk, _⟩ := Fu.ex
  cases lk.symm.trans l36
  exact F
end
end Lw

set_option Elab.async false
set_option linter.all false
set_option maxRecDepth 100000
namespace Lw
open PySem PySem.Spec PyProof.Rows L2 DL
set_option maxHeartbeats 0 in
theorem hfacts {l : PySem.W.OpenLaw} {w : World} {K : PySem.W.Frag} {h : Heap} {mg : Str → Option Value} {fa : Addr} (X : K.In h) (G : h.Ns mainGlobals mg) (hfa : mg "law" = some (.ref fa)) (c : HX.SaysZ hfb hfn K) :
    ∃ fd : FuncData, (∀ (s : Shared) (v : Value), BindsTo s fd ⟨[v], []⟩ [("_law_script", v)]) ∧ ∀ base : Heap, K.In base → base.Ns mainGlobals mg → FnG l.prog w K mg base 11 fa fd ["_law_script"] f_law := by
  obtain ⟨oc_l0, od_l0, sl_l0, kV_l0, dc_l0, pm_l0, an_l0, cd_l0, ct_l0, l_l0, c_l0⟩ := c.def_ 0
  obtain ⟨t_kL0_0, h_kL0_0⟩ := HX.intB_ok (c.b 12 : HX.intB K (HX.kdA K (He.ga K "is_name")) "longest" (6) = true)
  obtain ⟨oc_l1, od_l1, sl_l1, kV_l1, dc_l1, pm_l1, an_l1, cd_l1, ct_l1, l_l1, c_l1⟩ := c.def_ 1
  obtain ⟨oc_l2, od_l2, sl_l2, kV_l2, dc_l2, pm_l2, an_l2, cd_l2, ct_l2, l_l2, c_l2⟩ := c.def_ 2
  obtain ⟨oc_l3, od_l3, sl_l3, kV_l3, dc_l3, pm_l3, an_l3, cd_l3, ct_l3, l_l3, c_l3⟩ := c.def_ 3
  obtain ⟨oc_l4, od_l4, sl_l4, kV_l4, dc_l4, pm_l4, an_l4, cd_l4, ct_l4, l_l4, c_l4⟩ := c.def_ 4
  obtain ⟨oc_l5, od_l5, sl_l5, kV_l5, dc_l5, pm_l5, an_l5, cd_l5, ct_l5, l_l5, c_l5⟩ := c.def_ 5
  obtain ⟨oc_l6, od_l6, sl_l6, kV_l6, dc_l6, pm_l6, an_l6, cd_l6, ct_l6, l_l6, c_l6⟩ := c.def_ 6
  obtain ⟨oc_l7, od_l7, sl_l7, kV_l7, dc_l7, pm_l7, an_l7, cd_l7, ct_l7, l_l7, c_l7⟩ := c.def_ 7
  obtain ⟨t_kL7_0, h_kL7_0⟩ := HX.intB_ok (c.b 28 : HX.intB K (HX.kdA K (He.ga K "are_wishes")) "most" (12) = true)
  obtain ⟨oc_l8, od_l8, sl_l8, kV_l8, dc_l8, pm_l8, an_l8, cd_l8, ct_l8, l_l8, c_l8⟩ := c.def_ 8
  obtain ⟨oc_l9, od_l9, sl_l9, kV_l9, dc_l9, pm_l9, an_l9, cd_l9, ct_l9, l_l9, c_l9⟩ := c.def_ 9
  obtain ⟨oc_l10, od_l10, sl_l10, kV_l10, dc_l10, pm_l10, an_l10, cd_l10, ct_l10, l_l10, c_l10⟩ := c.def_ 10
  obtain ⟨oc_l11, od_l11, sl_l11, kV_l11, dc_l11, pm_l11, an_l11, cd_l11, ct_l11, l_l11, c_l11⟩ := c.def_ 11
  obtain ⟨oc_l12, od_l12, sl_l12, kV_l12, dc_l12, pm_l12, an_l12, cd_l12, ct_l12, l_l12, c_l12⟩ := c.def_ 12
  obtain ⟨oc_l13, od_l13, sl_l13, kV_l13, dc_l13, pm_l13, an_l13, cd_l13, ct_l13, l_l13, c_l13⟩ := c.def_ 13
  obtain ⟨oc_l14, od_l14, sl_l14, kV_l14, dc_l14, pm_l14, an_l14, cd_l14, ct_l14, l_l14, c_l14⟩ := c.def_ 14
  obtain ⟨oc_l15, od_l15, sl_l15, kV_l15, dc_l15, pm_l15, an_l15, cd_l15, ct_l15, l_l15, c_l15⟩ := c.def_ 15
  obtain ⟨oc_l16, od_l16, sl_l16, kV_l16, dc_l16, pm_l16, an_l16, cd_l16, ct_l16, l_l16, c_l16⟩ := c.def_ 16
  obtain ⟨oc_l17, od_l17, sl_l17, kV_l17, dc_l17, pm_l17, an_l17, cd_l17, ct_l17, l_l17, c_l17⟩ := c.def_ 17
  obtain ⟨oc_l18, od_l18, sl_l18, kV_l18, dc_l18, pm_l18, an_l18, cd_l18, ct_l18, l_l18, c_l18⟩ := c.def_ 18
  obtain ⟨oc_l19, od_l19, sl_l19, kV_l19, dc_l19, pm_l19, an_l19, cd_l19, ct_l19, l_l19, c_l19⟩ := c.def_ 19
  obtain ⟨oc_l20, od_l20, sl_l20, kV_l20, dc_l20, pm_l20, an_l20, cd_l20, ct_l20, l_l20, c_l20⟩ := c.def_ 20
  obtain ⟨oc_l21, od_l21, sl_l21, kV_l21, dc_l21, pm_l21, an_l21, cd_l21, ct_l21, l_l21, c_l21⟩ := c.def_ 21
  obtain ⟨oc_l22, od_l22, sl_l22, kV_l22, dc_l22, pm_l22, an_l22, cd_l22, ct_l22, l_l22, c_l22⟩ := c.def_ 22
  obtain ⟨oc_l23, od_l23, sl_l23, kV_l23, dc_l23, pm_l23, an_l23, cd_l23, ct_l23, l_l23, c_l23⟩ := c.def_ 23
  obtain ⟨oc_l24, od_l24, sl_l24, kV_l24, dc_l24, pm_l24, an_l24, cd_l24, ct_l24, l_l24, c_l24⟩ := c.def_ 24
  obtain ⟨oc_l25, od_l25, sl_l25, kV_l25, dc_l25, pm_l25, an_l25, cd_l25, ct_l25, l_l25, c_l25⟩ := c.def_ 25
  obtain ⟨oc_l26, od_l26, sl_l26, kV_l26, dc_l26, pm_l26, an_l26, cd_l26, ct_l26, l_l26, c_l26⟩ := c.def_ 26
  obtain ⟨oc_l27, od_l27, sl_l27, kV_l27, dc_l27, pm_l27, an_l27, cd_l27, ct_l27, l_l27, c_l27⟩ := c.def_ 27
  obtain ⟨oc_l28, od_l28, sl_l28, kV_l28, dc_l28, pm_l28, an_l28, cd_l28, ct_l28, l_l28, c_l28⟩ := c.def_ 28
  obtain ⟨oc_l29, od_l29, sl_l29, kV_l29, dc_l29, pm_l29, an_l29, cd_l29, ct_l29, l_l29, c_l29⟩ := c.def_ 29
  obtain ⟨oc_l30, od_l30, sl_l30, kV_l30, dc_l30, pm_l30, an_l30, cd_l30, ct_l30, l_l30, c_l30⟩ := c.def_ 30
  obtain ⟨oc_l31, od_l31, sl_l31, kV_l31, dc_l31, pm_l31, an_l31, cd_l31, ct_l31, l_l31, c_l31⟩ := c.def_ 31
  obtain ⟨oc_l32, od_l32, sl_l32, kV_l32, dc_l32, pm_l32, an_l32, cd_l32, ct_l32, l_l32, c_l32⟩ := c.def_ 32
  obtain ⟨oc_l33, od_l33, sl_l33, kV_l33, dc_l33, pm_l33, an_l33, cd_l33, ct_l33, l_l33, c_l33⟩ := c.def_ 33
  obtain ⟨oc_l34, od_l34, sl_l34, kV_l34, dc_l34, pm_l34, an_l34, cd_l34, ct_l34, l_l34, c_l34⟩ := c.def_ 34
  obtain ⟨oc_l35, od_l35, sl_l35, kV_l35, dc_l35, pm_l35, an_l35, cd_l35, ct_l35, l_l35, c_l35⟩ := c.def_ 35
  obtain ⟨oc_l36, od_l36, sl_l36, kV_l36, dc_l36, pm_l36, an_l36, cd_l36, ct_l36, l_l36, c_l36⟩ := c.def_ 36
  obtain ⟨t_q0, h_q0⟩ := HX.strB_ok (c.b 115 : HX.strB K mainGlobals "JUST" "just" = true)
  obtain ⟨t_q1, h_q1⟩ := HX.strB_ok (c.b 116 : HX.strB K mainGlobals "LEAST" "least" = true)
  obtain ⟨t_q2, h_q2⟩ := HX.strB_ok (c.b 117 : HX.strB K mainGlobals "LETTERS" "abcdefghijklmnopqrstuvwxyz" = true)
  obtain ⟨t_q3, h_q3⟩ := HX.intB_ok (c.b 118 : HX.intB K mainGlobals "MOST_NUMBERS_programs" (3) = true)
  obtain ⟨t_q4, h_q4⟩ := HX.intB_ok (c.b 119 : HX.intB K mainGlobals "MOST_NUMBERS_wishes" (8) = true)
  obtain ⟨t_q5, h_q5⟩ := HX.intB_ok (c.b 120 : HX.intB K mainGlobals "MOST_PLACES" (6) = true)
  obtain ⟨t_q6, h_q6⟩ := HX.intB_ok (c.b 121 : HX.intB K mainGlobals "MOST_ROWS" (10) = true)
  obtain ⟨y0_xL_NoNumber, y1_xL_NoNumber, y2_xL_NoNumber, y3_xL_NoNumber, y4_xL_NoNumber, y5_xL_NoNumber, y6_xL_NoNumber, y7_xL_NoNumber, y8_xL_NoNumber, y9_xL_NoNumber, y10_xL_NoNumber, y11_xL_NoNumber, y12_xL_NoNumber, y13_xL_NoNumber, y14_xL_NoNumber, h_xL_NoNumber, v_xL_NoNumber⟩ := HX.xcl_any (c.b 172 : HX.xclB K (He.ga K "NoNumber") PySem.HandSPX.refsVE "ValueError.__new__" = true)
  obtain ⟨oc_i3_NoNumber, od_i3_NoNumber, sl_i3_NoNumber, kV_i3_NoNumber, dc_i3_NoNumber, pm_i3_NoNumber, an_i3_NoNumber, cd_i3_NoNumber, ct_i3_NoNumber, l_i3_NoNumber, c_i3_NoNumber⟩ := c.def_ 37
  obtain ⟨y0_xL_NoProgram, y1_xL_NoProgram, y2_xL_NoProgram, y3_xL_NoProgram, y4_xL_NoProgram, y5_xL_NoProgram, y6_xL_NoProgram, y7_xL_NoProgram, y8_xL_NoProgram, y9_xL_NoProgram, y10_xL_NoProgram, y11_xL_NoProgram, y12_xL_NoProgram, y13_xL_NoProgram, y14_xL_NoProgram, h_xL_NoProgram, v_xL_NoProgram⟩ := HX.xcl_any (c.b 183 : HX.xclB K (He.ga K "NoProgram") PySem.HandSPX.refsVE "ValueError.__new__" = true)
  obtain ⟨oc_i3_NoProgram, od_i3_NoProgram, sl_i3_NoProgram, kV_i3_NoProgram, dc_i3_NoProgram, pm_i3_NoProgram, an_i3_NoProgram, cd_i3_NoProgram, ct_i3_NoProgram, l_i3_NoProgram, c_i3_NoProgram⟩ := c.def_ 38
  obtain ⟨y0_xL_NoRow, y1_xL_NoRow, y2_xL_NoRow, y3_xL_NoRow, y4_xL_NoRow, y5_xL_NoRow, y6_xL_NoRow, y7_xL_NoRow, y8_xL_NoRow, y9_xL_NoRow, y10_xL_NoRow, y11_xL_NoRow, y12_xL_NoRow, y13_xL_NoRow, h_xL_NoRow⟩ := HX.xcl_ok (c.b 195 : HX.xclB K (He.ga K "NoRow") (fun l => HX.eqB l [.type "IndexError", .type "LookupError", .type "Exception", .type "BaseException", .type "object"]) "IndexError.__new__" = true)
  obtain ⟨oc_i3_NoRow, od_i3_NoRow, sl_i3_NoRow, kV_i3_NoRow, dc_i3_NoRow, pm_i3_NoRow, an_i3_NoRow, cd_i3_NoRow, ct_i3_NoRow, l_i3_NoRow, c_i3_NoRow⟩ := c.def_ 39
  exact all_mk X G hfa (HX.eqB_ok (c.b 0 : HX.eqB (PySem.W.nsIn K mainGlobals "Bench") (some (some (.ref (He.ga K "Bench")))) = true)) (c.b 1 : PySem.W.plainGet K (He.ga K "Bench") Str.empty = true) (c.b 2 : PySem.W.hasDictIn K (He.ga K "Bench") = true) (c.b 3 : PySem.W.plainOver K (He.ga K "Bench") = true) (HX.eqB_ok (c.b 4 : HX.eqB (PySem.W.findIn K (.ref (He.ga K "Bench")) "__setattr__") (some (some (.builtin "object.__setattr__"))) = true)) (c.b 5 : PySem.W.makesIn K (He.ga K "Bench") = true) (c.b 6 : PySem.W.keepIn K (.ref (He.ga K "Bench")) = true) (HX.eqB_ok (c.b 7 : HX.eqB (PySem.W.findIn K (.ref (He.ga K "Bench")) "own_paper") (some none) = true)) (HX.eqB_ok (c.b 8 : HX.eqB (PySem.W.findIn K (.ref (He.ga K "Bench")) "own_past") (some none) = true)) (HX.eqB_ok (c.b 9 : HX.eqB (PySem.W.findIn K (.ref (He.ga K "Bench")) "own_program") (some none) = true)) (HX.eqB_ok (c.b 10 : HX.eqB (PySem.W.nsIn K mainGlobals "is_name") (some (some (.ref (He.ga K "is_name")))) = true)) (HX.kd_ok l_l0 (c.b 11 : HX.kdB K (He.ga K "is_name") = true)) h_kL0_0 c_l0 (c.b 13 : PySem.W.keepIn K (.ref (He.ga K "is_name")) = true) (HX.eqB_ok (c.b 14 : HX.eqB (PySem.W.nsIn K mainGlobals "first_no_name") (some (some (.ref (He.ga K "first_no_name")))) = true)) l_l1 c_l1 (c.b 15 : PySem.W.keepIn K (.ref (He.ga K "first_no_name")) = true) (HX.eqB_ok (c.b 16 : HX.eqB (PySem.W.nsIn K mainGlobals "look_at_names") (some (some (.ref (He.ga K "look_at_names")))) = true)) l_l2 c_l2 (c.b 17 : PySem.W.keepIn K (.ref (He.ga K "look_at_names")) = true) (HX.eqB_ok (c.b 18 : HX.eqB (PySem.W.nsIn K mainGlobals "is_whole") (some (some (.ref (He.ga K "is_whole")))) = true)) l_l3 c_l3 (c.b 19 : PySem.W.keepIn K (.ref (He.ga K "is_whole")) = true) (HX.eqB_ok (c.b 20 : HX.eqB (PySem.W.nsIn K mainGlobals "look_at_many") (some (some (.ref (He.ga K "look_at_many")))) = true)) l_l4 c_l4 (c.b 21 : PySem.W.keepIn K (.ref (He.ga K "look_at_many")) = true) (HX.eqB_ok (c.b 22 : HX.eqB (PySem.W.nsIn K mainGlobals "is_line") (some (some (.ref (He.ga K "is_line")))) = true)) l_l5 c_l5 (c.b 23 : PySem.W.keepIn K (.ref (He.ga K "is_line")) = true) (HX.eqB_ok (c.b 24 : HX.eqB (PySem.W.nsIn K mainGlobals "is_wish") (some (some (.ref (He.ga K "is_wish")))) = true)) l_l6 c_l6 (c.b 25 : PySem.W.keepIn K (.ref (He.ga K "is_wish")) = true) (HX.eqB_ok (c.b 26 : HX.eqB (PySem.W.nsIn K mainGlobals "are_wishes") (some (some (.ref (He.ga K "are_wishes")))) = true)) (HX.kd_ok l_l7 (c.b 27 : HX.kdB K (He.ga K "are_wishes") = true)) h_kL7_0 c_l7 (c.b 29 : PySem.W.keepIn K (.ref (He.ga K "are_wishes")) = true) (HX.eqB_ok (c.b 30 : HX.eqB (PySem.W.nsIn K mainGlobals "is_number_of") (some (some (.ref (He.ga K "is_number_of")))) = true)) l_l8 c_l8 (c.b 31 : PySem.W.keepIn K (.ref (He.ga K "is_number_of")) = true) (HX.eqB_ok (c.b 32 : HX.eqB (PySem.W.nsIn K mainGlobals "is_row") (some (some (.ref (He.ga K "is_row")))) = true)) l_l9 c_l9 (c.b 33 : PySem.W.keepIn K (.ref (He.ga K "is_row")) = true) (HX.eqB_ok (c.b 34 : HX.eqB (PySem.W.nsIn K mainGlobals "look_at") (some (some (.ref (He.ga K "look_at")))) = true)) l_l10 c_l10 (c.b 35 : PySem.W.keepIn K (.ref (He.ga K "look_at")) = true) (HX.eqB_ok (c.b 36 : HX.eqB (PySem.W.nsIn K mainGlobals "copied_wishes") (some (some (.ref (He.ga K "copied_wishes")))) = true)) l_l11 c_l11 (c.b 37 : PySem.W.keepIn K (.ref (He.ga K "copied_wishes")) = true) (HX.eqB_ok (c.b 38 : HX.eqB (PySem.W.nsIn K mainGlobals "copied_row") (some (some (.ref (He.ga K "copied_row")))) = true)) l_l12 c_l12 (c.b 39 : PySem.W.keepIn K (.ref (He.ga K "copied_row")) = true) (HX.eqB_ok (c.b 40 : HX.eqB (PySem.W.nsIn K mainGlobals "copied") (some (some (.ref (He.ga K "copied")))) = true)) l_l13 c_l13 (c.b 41 : PySem.W.keepIn K (.ref (He.ga K "copied")) = true) (HX.eqB_ok (c.b 42 : HX.eqB (PySem.W.findIn K (.ref (He.ga K "Bench")) "__init__") (some (some (.ref (He.ma K (He.ga K "Bench") "__init__")))) = true)) (c.b 43 : PySem.W.isFn K (.ref (He.ma K (He.ga K "Bench") "__init__")) = true) l_l14 c_l14 (c.b 44 : PySem.W.keepIn K (.ref (He.ma K (He.ga K "Bench") "__init__")) = true) (HX.eqB_ok (c.b 45 : HX.eqB (PySem.W.nsIn K mainGlobals "_law_pool") (some (some (.ref (He.ga K "_law_pool")))) = true)) l_l15 c_l15 (c.b 46 : PySem.W.keepIn K (.ref (He.ga K "_law_pool")) = true) (HX.eqB_ok (c.b 47 : HX.eqB (PySem.W.nsIn K mainGlobals "_law_take") (some (some (.ref (He.ga K "_law_take")))) = true)) l_l16 c_l16 (c.b 48 : PySem.W.keepIn K (.ref (He.ga K "_law_take")) = true) (HX.eqB_ok (c.b 49 : HX.eqB (PySem.W.nsIn K mainGlobals "_law_free_row") (some (some (.ref (He.ga K "_law_free_row")))) = true)) l_l17 c_l17 (c.b 50 : PySem.W.keepIn K (.ref (He.ga K "_law_free_row")) = true) (HX.eqB_ok (c.b 51 : HX.eqB (PySem.W.nsIn K mainGlobals "_law_copy") (some (some (.ref (He.ga K "_law_copy")))) = true)) l_l18 c_l18 (c.b 52 : PySem.W.keepIn K (.ref (He.ga K "_law_copy")) = true) (HX.eqB_ok (c.b 53 : HX.eqB (PySem.W.findIn K (.ref (He.ga K "Bench")) "program") (some (some (.ref (He.ma K (He.ga K "Bench") "program")))) = true)) (c.b 54 : PySem.W.isFn K (.ref (He.ma K (He.ga K "Bench") "program")) = true) l_l19 c_l19 (c.b 55 : PySem.W.keepIn K (.ref (He.ma K (He.ga K "Bench") "program")) = true) (HX.eqB_ok (c.b 56 : HX.eqB (PySem.W.findIn K (.ref (He.ga K "Bench")) "deeds") (some (some (.ref (He.ma K (He.ga K "Bench") "deeds")))) = true)) (c.b 57 : PySem.W.isFn K (.ref (He.ma K (He.ga K "Bench") "deeds")) = true) l_l20 c_l20 (c.b 58 : PySem.W.keepIn K (.ref (He.ma K (He.ga K "Bench") "deeds")) = true) (HX.eqB_ok (c.b 59 : HX.eqB (PySem.W.findIn K (.ref (He.ga K "Bench")) "keeps") (some (some (.ref (He.ma K (He.ga K "Bench") "keeps")))) = true)) (c.b 60 : PySem.W.isFn K (.ref (He.ma K (He.ga K "Bench") "keeps")) = true) l_l21 c_l21 (c.b 61 : PySem.W.keepIn K (.ref (He.ma K (He.ga K "Bench") "keeps")) = true) (HX.eqB_ok (c.b 62 : HX.eqB (PySem.W.findIn K (.ref (He.ga K "Bench")) "__len__") (some (some (.ref (He.ma K (He.ga K "Bench") "__len__")))) = true)) (c.b 63 : PySem.W.isFn K (.ref (He.ma K (He.ga K "Bench") "__len__")) = true) l_l22 c_l22 (c.b 64 : PySem.W.keepIn K (.ref (He.ma K (He.ga K "Bench") "__len__")) = true) (HX.eqB_ok (c.b 65 : HX.eqB (PySem.W.nsIn K mainGlobals "_law_shows") (some (some (.ref (He.ga K "_law_shows")))) = true)) l_l23 c_l23 (c.b 66 : PySem.W.keepIn K (.ref (He.ga K "_law_shows")) = true) (HX.eqB_ok (c.b 67 : HX.eqB (PySem.W.findIn K (.ref (He.ga K "Bench")) "done") (some (some (.ref (He.ma K (He.ga K "Bench") "done")))) = true)) (c.b 68 : PySem.W.isFn K (.ref (He.ma K (He.ga K "Bench") "done")) = true) l_l24 c_l24 (c.b 69 : PySem.W.keepIn K (.ref (He.ma K (He.ga K "Bench") "done")) = true) (HX.eqB_ok (c.b 70 : HX.eqB (PySem.W.findIn K (.ref (He.ga K "Bench")) "has_left") (some (some (.ref (He.ma K (He.ga K "Bench") "has_left")))) = true)) (c.b 71 : PySem.W.isFn K (.ref (He.ma K (He.ga K "Bench") "has_left")) = true) l_l25 c_l25 (c.b 72 : PySem.W.keepIn K (.ref (He.ma K (He.ga K "Bench") "has_left")) = true) (HX.eqB_ok (c.b 73 : HX.eqB (PySem.W.findIn K (.ref (He.ga K "Bench")) "put") (some (some (.ref (He.ma K (He.ga K "Bench") "put")))) = true)) (c.b 74 : PySem.W.isFn K (.ref (He.ma K (He.ga K "Bench") "put")) = true) l_l26 c_l26 (c.b 75 : PySem.W.keepIn K (.ref (He.ma K (He.ga K "Bench") "put")) = true) (HX.eqB_ok (c.b 76 : HX.eqB (PySem.W.nsIn K mainGlobals "_law_put") (some (some (.ref (He.ga K "_law_put")))) = true)) l_l27 c_l27 (c.b 77 : PySem.W.keepIn K (.ref (He.ga K "_law_put")) = true) (HX.eqB_ok (c.b 78 : HX.eqB (PySem.W.findIn K (.ref (He.ga K "Bench")) "look_at_number") (some (some (.ref (He.ma K (He.ga K "Bench") "look_at_number")))) = true)) (c.b 79 : PySem.W.isFn K (.ref (He.ma K (He.ga K "Bench") "look_at_number")) = true) l_l28 c_l28 (c.b 80 : PySem.W.keepIn K (.ref (He.ma K (He.ga K "Bench") "look_at_number")) = true) (HX.eqB_ok (c.b 81 : HX.eqB (PySem.W.findIn K (.ref (He.ga K "Bench")) "paper_without") (some (some (.ref (He.ma K (He.ga K "Bench") "paper_without")))) = true)) (c.b 82 : PySem.W.isFn K (.ref (He.ma K (He.ga K "Bench") "paper_without")) = true) l_l29 c_l29 (c.b 83 : PySem.W.keepIn K (.ref (He.ma K (He.ga K "Bench") "paper_without")) = true) (HX.eqB_ok (c.b 84 : HX.eqB (PySem.W.findIn K (.ref (He.ga K "Bench")) "take") (some (some (.ref (He.ma K (He.ga K "Bench") "take")))) = true)) (c.b 85 : PySem.W.isFn K (.ref (He.ma K (He.ga K "Bench") "take")) = true) l_l30 c_l30 (c.b 86 : PySem.W.keepIn K (.ref (He.ma K (He.ga K "Bench") "take")) = true) (HX.eqB_ok (c.b 87 : HX.eqB (PySem.W.nsIn K mainGlobals "_law_taken") (some (some (.ref (He.ga K "_law_taken")))) = true)) l_l31 c_l31 (c.b 88 : PySem.W.keepIn K (.ref (He.ga K "_law_taken")) = true) (HX.eqB_ok (c.b 89 : HX.eqB (PySem.W.findIn K (.ref (He.ga K "Bench")) "change") (some (some (.ref (He.ma K (He.ga K "Bench") "change")))) = true)) (c.b 90 : PySem.W.isFn K (.ref (He.ma K (He.ga K "Bench") "change")) = true) l_l32 c_l32 (c.b 91 : PySem.W.keepIn K (.ref (He.ma K (He.ga K "Bench") "change")) = true) (HX.eqB_ok (c.b 92 : HX.eqB (PySem.W.nsIn K mainGlobals "_law_changed") (some (some (.ref (He.ga K "_law_changed")))) = true)) l_l33 c_l33 (c.b 93 : PySem.W.keepIn K (.ref (He.ga K "_law_changed")) = true) (HX.eqB_ok (c.b 94 : HX.eqB (PySem.W.findIn K (.ref (He.ga K "Bench")) "undo") (some (some (.ref (He.ma K (He.ga K "Bench") "undo")))) = true)) (c.b 95 : PySem.W.isFn K (.ref (He.ma K (He.ga K "Bench") "undo")) = true) l_l34 c_l34 (c.b 96 : PySem.W.keepIn K (.ref (He.ma K (He.ga K "Bench") "undo")) = true) (HX.eqB_ok (c.b 97 : HX.eqB (PySem.W.nsIn K mainGlobals "_law_undone") (some (some (.ref (He.ga K "_law_undone")))) = true)) l_l35 c_l35 (c.b 98 : PySem.W.keepIn K (.ref (He.ga K "_law_undone")) = true) (HX.eqB_ok (c.b 99 : HX.eqB (PySem.W.nsIn K mainGlobals "law") (some (some (.ref (He.ga K "law")))) = true)) l_l36 c_l36 (c.b 100 : PySem.W.keepIn K (.ref (He.ga K "law")) = true) (HX.eqB_ok (c.b 101 : HX.eqB (PySem.W.nsIn K mainGlobals "IndexError") (some none) = true)) (HX.eqB_ok (c.b 102 : HX.eqB (PySem.W.nsIn K mainGlobals "all") (some none) = true)) (HX.eqB_ok (c.b 103 : HX.eqB (PySem.W.nsIn K mainGlobals "bool") (some none) = true)) (HX.eqB_ok (c.b 104 : HX.eqB (PySem.W.nsIn K mainGlobals "enumerate") (some none) = true)) (HX.eqB_ok (c.b 105 : HX.eqB (PySem.W.nsIn K mainGlobals "int") (some none) = true)) (HX.eqB_ok (c.b 106 : HX.eqB (PySem.W.nsIn K mainGlobals "isinstance") (some none) = true)) (HX.eqB_ok (c.b 107 : HX.eqB (PySem.W.nsIn K mainGlobals "len") (some none) = true)) (HX.eqB_ok (c.b 108 : HX.eqB (PySem.W.nsIn K mainGlobals "list") (some none) = true)) (HX.eqB_ok (c.b 109 : HX.eqB (PySem.W.nsIn K mainGlobals "max") (some none) = true)) (HX.eqB_ok (c.b 110 : HX.eqB (PySem.W.nsIn K mainGlobals "min") (some none) = true)) (HX.eqB_ok (c.b 111 : HX.eqB (PySem.W.nsIn K mainGlobals "range") (some none) = true)) (HX.eqB_ok (c.b 112 : HX.eqB (PySem.W.nsIn K mainGlobals "repr") (some none) = true)) (HX.eqB_ok (c.b 113 : HX.eqB (PySem.W.nsIn K mainGlobals "str") (some none) = true)) (HX.eqB_ok (c.b 114 : HX.eqB (PySem.W.nsIn K mainGlobals "tuple") (some none) = true)) h_q0 h_q1 h_q2 h_q3 h_q4 h_q5 h_q6 (HX.eqB_ok (c.b 122 : HX.eqB (PySem.W.nsIn K mainGlobals "Bare") (some (some (.ref (He.ga K "Bare")))) = true)) (HX.eqB_ok (c.b 123 : HX.eqB (PySem.W.nsIn K mainGlobals "Full") (some (some (.ref (He.ga K "Full")))) = true)) (HX.eqB_ok (c.b 124 : HX.eqB (PySem.W.nsIn K mainGlobals "NoNumber") (some (some (.ref (He.ga K "NoNumber")))) = true)) (HX.eqB_ok (c.b 125 : HX.eqB (PySem.W.nsIn K mainGlobals "NoProgram") (some (some (.ref (He.ga K "NoProgram")))) = true)) (HX.eqB_ok (c.b 126 : HX.eqB (PySem.W.nsIn K mainGlobals "NoRow") (some (some (.ref (He.ga K "NoRow")))) = true)) (HX.eqB_ok (c.b 127 : HX.eqB (PySem.W.nsIn K mainGlobals "NoWishes") (some (some (.ref (He.ga K "NoWishes")))) = true)) (HX.eqB_ok (c.b 128 : HX.eqB (PySem.W.nsIn K mainGlobals "WeighError") (some (some (.ref (He.ga K "WeighError")))) = true)) (HX.eqB_ok (c.b 129 : HX.eqB (PySem.W.specialIn K (.builtin "object.__class__") "__get__") (some (some (.builtin "getset_descriptor.__get__"))) = true)) (HX.eqB_ok (c.b 130 : HX.eqB (PySem.W.takesIn K (.builtin "object.__class__")) (some true) = true)) (HX.eqB_ok (c.b 131 : HX.eqB (PySem.W.subIn K (.ref (He.ga K "Bare")) (.type "BaseException")) (some true) = true)) (c.b 132 : PySem.W.hasDictIn K (He.ga K "Bare") = true) (HX.eqB_ok (c.b 133 : HX.eqB (PySem.W.typeIn K (.ref (He.ga K "Bare"))) (some (.type "type")) = true)) (c.b 134 : PySem.W.isClsIn K (He.ga K "Bare") = true) (HX.eqB_ok (c.b 135 : HX.eqB (PySem.W.subIn K (.ref (He.ga K "Full")) (.type "BaseException")) (some true) = true)) (c.b 136 : PySem.W.hasDictIn K (He.ga K "Full") = true) (HX.eqB_ok (c.b 137 : HX.eqB (PySem.W.typeIn K (.ref (He.ga K "Full"))) (some (.type "type")) = true)) (c.b 138 : PySem.W.isClsIn K (He.ga K "Full") = true) (HX.eqB_ok (c.b 139 : HX.eqB (PySem.W.subIn K (.ref (He.ga K "NoNumber")) (.type "BaseException")) (some true) = true)) (c.b 140 : PySem.W.hasDictIn K (He.ga K "NoNumber") = true) (HX.eqB_ok (c.b 141 : HX.eqB (PySem.W.typeIn K (.ref (He.ga K "NoNumber"))) (some (.type "type")) = true)) (c.b 142 : PySem.W.isClsIn K (He.ga K "NoNumber") = true) (HX.eqB_ok (c.b 143 : HX.eqB (PySem.W.subIn K (.ref (He.ga K "NoProgram")) (.type "BaseException")) (some true) = true)) (c.b 144 : PySem.W.hasDictIn K (He.ga K "NoProgram") = true) (HX.eqB_ok (c.b 145 : HX.eqB (PySem.W.typeIn K (.ref (He.ga K "NoProgram"))) (some (.type "type")) = true)) (c.b 146 : PySem.W.isClsIn K (He.ga K "NoProgram") = true) (HX.eqB_ok (c.b 147 : HX.eqB (PySem.W.subIn K (.ref (He.ga K "NoRow")) (.type "BaseException")) (some true) = true)) (c.b 148 : PySem.W.hasDictIn K (He.ga K "NoRow") = true) (HX.eqB_ok (c.b 149 : HX.eqB (PySem.W.typeIn K (.ref (He.ga K "NoRow"))) (some (.type "type")) = true)) (c.b 150 : PySem.W.isClsIn K (He.ga K "NoRow") = true) (HX.eqB_ok (c.b 151 : HX.eqB (PySem.W.subIn K (.ref (He.ga K "NoWishes")) (.type "BaseException")) (some true) = true)) (c.b 152 : PySem.W.hasDictIn K (He.ga K "NoWishes") = true) (HX.eqB_ok (c.b 153 : HX.eqB (PySem.W.typeIn K (.ref (He.ga K "NoWishes"))) (some (.type "type")) = true)) (c.b 154 : PySem.W.isClsIn K (He.ga K "NoWishes") = true) (HX.eqB_ok (c.b 155 : HX.eqB (PySem.W.findIn K (.ref (He.ga K "Bare")) "__getattribute__") (some (some (.builtin "BaseException.__getattribute__"))) = true)) (HX.eqB_ok (c.b 156 : HX.eqB (PySem.W.findIn K (.ref (He.ga K "Bare")) "__getattr__") (some none) = true)) (HX.eqB_ok (c.b 157 : HX.eqB (PySem.W.findIn K (.ref (He.ga K "Bare")) "__class__") (some (some (.builtin "object.__class__"))) = true)) (HX.eqB_ok (c.b 158 : HX.eqB (PySem.W.mroIn K (He.ga K "Bare") (.type "object")) (some true) = true)) (c.b 159 : PySem.W.keepIn K (.ref (He.ga K "Bare")) = true) (c.b 160 : PySem.W.excIn K (He.ga K "Bare") [.type "RuntimeError", .type "Exception", .type "BaseException", .type "object"] "RuntimeError.__new__" = true) (HX.eqB_ok (c.b 161 : HX.eqB (PySem.W.findIn K (.ref (He.ga K "Full")) "__getattribute__") (some (some (.builtin "BaseException.__getattribute__"))) = true)) (HX.eqB_ok (c.b 162 : HX.eqB (PySem.W.findIn K (.ref (He.ga K "Full")) "__getattr__") (some none) = true)) (HX.eqB_ok (c.b 163 : HX.eqB (PySem.W.findIn K (.ref (He.ga K "Full")) "__class__") (some (some (.builtin "object.__class__"))) = true)) (HX.eqB_ok (c.b 164 : HX.eqB (PySem.W.mroIn K (He.ga K "Full") (.type "object")) (some true) = true)) (c.b 165 : PySem.W.keepIn K (.ref (He.ga K "Full")) = true) (c.b 166 : PySem.W.excIn K (He.ga K "Full") [.type "OverflowError", .type "ArithmeticError", .type "Exception", .type "BaseException", .type "object"] "OverflowError.__new__" = true) (HX.eqB_ok (c.b 167 : HX.eqB (PySem.W.findIn K (.ref (He.ga K "NoNumber")) "__getattribute__") (some (some (.builtin "BaseException.__getattribute__"))) = true)) (HX.eqB_ok (c.b 168 : HX.eqB (PySem.W.findIn K (.ref (He.ga K "NoNumber")) "__getattr__") (some none) = true)) (HX.eqB_ok (c.b 169 : HX.eqB (PySem.W.findIn K (.ref (He.ga K "NoNumber")) "__class__") (some (some (.builtin "object.__class__"))) = true)) (HX.eqB_ok (c.b 170 : HX.eqB (PySem.W.mroIn K (He.ga K "NoNumber") (.type "object")) (some true) = true)) (c.b 171 : PySem.W.keepIn K (.ref (He.ga K "NoNumber")) = true) h_xL_NoNumber v_xL_NoNumber (HX.eqB_ok (c.b 173 : HX.eqB (PySem.W.findIn K (.ref (He.ga K "NoNumber")) "__setattr__") (some (some (.builtin "object.__setattr__"))) = true)) (HX.eqB_ok (c.b 174 : HX.eqB (PySem.W.findIn K (.ref (He.ga K "NoNumber")) "__init__") (some (some (.ref (He.ma K (He.ga K "NoNumber") "__init__")))) = true)) (HX.eqB_ok (c.b 175 : HX.eqB (PySem.W.typeIn K (.ref (He.ma K (He.ga K "NoNumber") "__init__"))) (some (.type "function")) = true)) l_i3_NoNumber c_i3_NoNumber (c.b 176 : PySem.W.keepIn K (.ref (He.ma K (He.ga K "NoNumber") "__init__")) = true) (HX.eqB_ok (c.b 177 : HX.eqB (PySem.W.findIn K (.ref (He.ga K "NoNumber")) "thing") (some none) = true)) (HX.eqB_ok (c.b 178 : HX.eqB (PySem.W.findIn K (.ref (He.ga K "NoProgram")) "__getattribute__") (some (some (.builtin "BaseException.__getattribute__"))) = true)) (HX.eqB_ok (c.b 179 : HX.eqB (PySem.W.findIn K (.ref (He.ga K "NoProgram")) "__getattr__") (some none) = true)) (HX.eqB_ok (c.b 180 : HX.eqB (PySem.W.findIn K (.ref (He.ga K "NoProgram")) "__class__") (some (some (.builtin "object.__class__"))) = true)) (HX.eqB_ok (c.b 181 : HX.eqB (PySem.W.mroIn K (He.ga K "NoProgram") (.type "object")) (some true) = true)) (c.b 182 : PySem.W.keepIn K (.ref (He.ga K "NoProgram")) = true) h_xL_NoProgram v_xL_NoProgram (HX.eqB_ok (c.b 184 : HX.eqB (PySem.W.findIn K (.ref (He.ga K "NoProgram")) "__setattr__") (some (some (.builtin "object.__setattr__"))) = true)) (HX.eqB_ok (c.b 185 : HX.eqB (PySem.W.findIn K (.ref (He.ga K "NoProgram")) "__init__") (some (some (.ref (He.ma K (He.ga K "NoProgram") "__init__")))) = true)) (HX.eqB_ok (c.b 186 : HX.eqB (PySem.W.typeIn K (.ref (He.ma K (He.ga K "NoProgram") "__init__"))) (some (.type "function")) = true)) l_i3_NoProgram c_i3_NoProgram (c.b 187 : PySem.W.keepIn K (.ref (He.ma K (He.ga K "NoProgram") "__init__")) = true) (HX.eqB_ok (c.b 188 : HX.eqB (PySem.W.findIn K (.ref (He.ga K "NoProgram")) "part") (some none) = true)) (HX.eqB_ok (c.b 189 : HX.eqB (PySem.W.findIn K (.ref (He.ga K "NoProgram")) "number") (some none) = true)) (HX.eqB_ok (c.b 190 : HX.eqB (PySem.W.findIn K (.ref (He.ga K "NoRow")) "__getattribute__") (some (some (.builtin "BaseException.__getattribute__"))) = true)) (HX.eqB_ok (c.b 191 : HX.eqB (PySem.W.findIn K (.ref (He.ga K "NoRow")) "__getattr__") (some none) = true)) (HX.eqB_ok (c.b 192 : HX.eqB (PySem.W.findIn K (.ref (He.ga K "NoRow")) "__class__") (some (some (.builtin "object.__class__"))) = true)) (HX.eqB_ok (c.b 193 : HX.eqB (PySem.W.mroIn K (He.ga K "NoRow") (.type "object")) (some true) = true)) (c.b 194 : PySem.W.keepIn K (.ref (He.ga K "NoRow")) = true) h_xL_NoRow (HX.eqB_ok (c.b 196 : HX.eqB (PySem.W.findIn K (.ref (He.ga K "NoRow")) "__setattr__") (some (some (.builtin "object.__setattr__"))) = true)) (HX.eqB_ok (c.b 197 : HX.eqB (PySem.W.findIn K (.ref (He.ga K "NoRow")) "__init__") (some (some (.ref (He.ma K (He.ga K "NoRow") "__init__")))) = true)) (HX.eqB_ok (c.b 198 : HX.eqB (PySem.W.typeIn K (.ref (He.ma K (He.ga K "NoRow") "__init__"))) (some (.type "function")) = true)) l_i3_NoRow c_i3_NoRow (c.b 199 : PySem.W.keepIn K (.ref (He.ma K (He.ga K "NoRow") "__init__")) = true) (HX.eqB_ok (c.b 200 : HX.eqB (PySem.W.findIn K (.ref (He.ga K "NoRow")) "row") (some none) = true)) (HX.eqB_ok (c.b 201 : HX.eqB (PySem.W.findIn K (.ref (He.ga K "NoWishes")) "__getattribute__") (some (some (.builtin "BaseException.__getattribute__"))) = true)) (HX.eqB_ok (c.b 202 : HX.eqB (PySem.W.findIn K (.ref (He.ga K "NoWishes")) "__getattr__") (some none) = true)) (HX.eqB_ok (c.b 203 : HX.eqB (PySem.W.findIn K (.ref (He.ga K "NoWishes")) "__class__") (some (some (.builtin "object.__class__"))) = true)) (HX.eqB_ok (c.b 204 : HX.eqB (PySem.W.mroIn K (He.ga K "NoWishes") (.type "object")) (some true) = true)) (c.b 205 : PySem.W.keepIn K (.ref (He.ga K "NoWishes")) = true) (c.b 206 : PySem.W.excIn K (He.ga K "NoWishes") [.type "ValueError", .type "Exception", .type "BaseException", .type "object"] "ValueError.__new__" = true) (HX.valB_ok (c.b 207 : HX.valB (PySem.W.findCls K (.type "IndexError") (.type "type") "__init__") (.builtin "IndexError.__init__") = true)) (HX.eqB_ok (c.b 208 : HX.eqB (PySem.W.specialIn K (.ref (He.ga K "WeighError")) "__getattribute__") (some (some (.builtin "type.__getattribute__"))) = true)) (c.b 209 : PySem.W.readsIn K (He.ga K "WeighError") (.type "type") = true) (HX.valB_ok (c.b 210 : HX.valB (PySem.W.findCls K (.ref (He.ga K "WeighError")) (.type "type") "__init__") (.builtin "ValueError.__init__") = true)) (HX.eqB_ok (c.b 211 : HX.eqB (PySem.W.subIn K (.ref (He.ga K "Bare")) (.ref (He.ga K "Bare"))) (some true) = true)) (HX.eqB_ok (c.b 212 : HX.eqB (PySem.W.subIn K (.ref (He.ga K "Bare")) (.ref (He.ga K "Full"))) (some false) = true)) (HX.notB_ok (c.b 213 : (!(Value.ref (He.ga K "Bare") == Value.ref (He.ga K "Full"))) = true)) (HX.eqB_ok (c.b 214 : HX.eqB (PySem.W.subIn K (.ref (He.ga K "Full")) (.ref (He.ga K "Bare"))) (some false) = true)) (HX.notB_ok (c.b 215 : (!(Value.ref (He.ga K "Full") == Value.ref (He.ga K "Bare"))) = true)) (HX.eqB_ok (c.b 216 : HX.eqB (PySem.W.subIn K (.ref (He.ga K "Full")) (.ref (He.ga K "Full"))) (some true) = true)) (HX.eqB_ok (c.b 217 : HX.eqB (PySem.W.subIn K (.ref (He.ga K "NoNumber")) (.ref (He.ga K "Bare"))) (some false) = true)) (HX.notB_ok (c.b 218 : (!(Value.ref (He.ga K "NoNumber") == Value.ref (He.ga K "Bare"))) = true)) (HX.eqB_ok (c.b 219 : HX.eqB (PySem.W.subIn K (.ref (He.ga K "NoNumber")) (.ref (He.ga K "Full"))) (some false) = true)) (HX.notB_ok (c.b 220 : (!(Value.ref (He.ga K "NoNumber") == Value.ref (He.ga K "Full"))) = true)) (HX.eqB_ok (c.b 221 : HX.eqB (PySem.W.subIn K (.ref (He.ga K "NoProgram")) (.ref (He.ga K "Bare"))) (some false) = true)) (HX.notB_ok (c.b 222 : (!(Value.ref (He.ga K "NoProgram") == Value.ref (He.ga K "Bare"))) = true)) (HX.eqB_ok (c.b 223 : HX.eqB (PySem.W.subIn K (.ref (He.ga K "NoProgram")) (.ref (He.ga K "Full"))) (some false) = true)) (HX.notB_ok (c.b 224 : (!(Value.ref (He.ga K "NoProgram") == Value.ref (He.ga K "Full"))) = true)) (HX.eqB_ok (c.b 225 : HX.eqB (PySem.W.subIn K (.ref (He.ga K "NoRow")) (.ref (He.ga K "Bare"))) (some false) = true)) (HX.notB_ok (c.b 226 : (!(Value.ref (He.ga K "NoRow") == Value.ref (He.ga K "Bare"))) = true)) (HX.eqB_ok (c.b 227 : HX.eqB (PySem.W.subIn K (.ref (He.ga K "NoRow")) (.ref (He.ga K "Full"))) (some false) = true)) (HX.notB_ok (c.b 228 : (!(Value.ref (He.ga K "NoRow") == Value.ref (He.ga K "Full"))) = true)) (HX.eqB_ok (c.b 229 : HX.eqB (PySem.W.subIn K (.ref (He.ga K "NoWishes")) (.ref (He.ga K "Bare"))) (some false) = true)) (HX.notB_ok (c.b 230 : (!(Value.ref (He.ga K "NoWishes") == Value.ref (He.ga K "Bare"))) = true)) (HX.eqB_ok (c.b 231 : HX.eqB (PySem.W.subIn K (.ref (He.ga K "NoWishes")) (.ref (He.ga K "Full"))) (some false) = true)) (HX.notB_ok (c.b 232 : (!(Value.ref (He.ga K "NoWishes") == Value.ref (He.ga K "Full"))) = true))
end Lw

section
open PySem PySem.W PyProof.Rows
set_option maxRecDepth 100000 in
set_option maxHeartbeats 0 in
theorem Lw.headFirst (goes : ∀ ns : List Int, ns.length ≤ 63 → ∃ S', Lw.f_law [.ro (ns.map DL.D.int)] [] = .ok (.bl true) S') : PySem.Challenge.rw_downweigh_k73_deeds_at_a_bench.Holds := by
  w_on; o_law
  refine HandSHeadRun.head_any (r := OpenLaw.row PySem.Challenge.rw_downweigh_k73_deeds_at_a_bench) (q := view (OpenLaw.row PySem.Challenge.rw_downweigh_k73_deeds_at_a_bench).prog [48]) (H := Lw.hhk) (ob := Lw.hob) (M := 8000) (loose := Lw.hnames) (d := HandSHeadRun.topDef (OpenLaw.row PySem.Challenge.rw_downweigh_k73_deeds_at_a_bench).prog 48) (kwd := []) Lw.hob_eq
    (by kernel_rfl) (fun s => by kernel_rfl) Lw.hrun (by kernel_rfl) (by kernel_rfl) (by kernel_rfl) (by rfl) (by first | assumption | decide +kernel) (by decide +kernel) ⟨rfl, rfl, rfl, rfl, rfl, by decide +kernel⟩ ?hw ?hc
  case hw => w_witness2
  case hc =>
    refine DL.walk_ofZ (l := PySem.Challenge.rw_downweigh_k73_deeds_at_a_bench) (n := 63) (k := 11) (m := Lw.f_law) (x := "_law_script") (by decide +kernel) rfl (by decide) (by kernel_rfl) ⟨rfl, by decide, by decide⟩ ?F goes
    intro w mg fa h Y G hmg0
    obtain ⟨K, KX, c⟩ := Y
    have hmg : mg ("law" : PySem.Str) = some (.ref fa) := by
      have e : (HandSHeadRun.topDef (OpenLaw.row PySem.Challenge.rw_downweigh_k73_deeds_at_a_bench).prog 48).name = ("law" : PySem.Str) := by kernel_rfl
      rw [← e]
      exact hmg0
    exact ⟨K, KX, Lw.hfacts KX G hmg c⟩
end

namespace Lp
open PySem PySem.Spec PyProof.Rows DL
noncomputable section
local macro_rules | `(tactic| walk_at "sz") => `(tactic| first | (simp [sizeLine_eq]; done) | (simp only [List.length_cons, List.length_nil, sizeLine_eq]; omega) | (rw [sizeLine_eq]; omega))
local macro_rules | `(tactic| walk_at "dl1") => `(tactic| first
  | (with_reducible refine k_seq ?_) | (with_reducible refine k_set ?_) | (with_reducible refine k_L ?_) | (with_reducible refine k_cons ?_) | (with_reducible refine k_nil ?_) | (with_reducible refine k_c ?_)
  | ((with_reducible refine k_var (d := ?dd) ?hh ?_); (case hh => rfl))
  | (with_reducible refine k_e2 ?_) | (with_reducible refine k_e1 ?_) | (with_reducible refine k_ret ?_) | (with_reducible refine k_if ?_) | (with_reducible refine k_bVal ?_) | (with_reducible refine k_mBool ?_)
  | (with_reducible refine k_nx ?_) | (with_reducible refine k_for ?_) | (with_reducible refine k_imOf ?_) | (with_reducible refine k_imOfA ?_) | (with_reducible refine k_expr ?_) | (with_reducible refine k_chain ?_)
  | (with_reducible refine k_eAnd ?_) | (with_reducible refine k_eOr ?_) | (with_reducible refine k_eNot ?_) | (with_reducible refine k_bAnd ?_) | (with_reducible refine k_bOr ?_) | (with_reducible refine k_bNot ?_) | (with_reducible refine k_eIf ?_)
  | (with_reducible refine k_K ?_) | (with_reducible refine k_Sl ?_) | (with_reducible refine k_oNone ?_) | ((with_reducible refine k_oSome ?_); skip) | (with_reducible refine k_lc ?_) | (with_reducible refine k_lcC ?_) | (with_reducible refine k_sub ?_) | (with_reducible refine k_yes ?_)
  | (with_reducible refine k_Mt ?_) | (with_reducible refine k_brk ?_) | (with_reducible refine k_cnt ?_) | (with_reducible refine k_retN ?_) | (with_reducible refine k_asg ?_) | (with_reducible refine k_asgL ?_) | (with_reducible refine k_par ?_) | (with_reducible refine k_star ?_)
  | ((with_reducible refine k_tup ?hz ?_); (case hz => walk_at "sz")) | ((with_reducible refine k_lst ?hz ?_); (case hz => walk_at "sz")) | ((with_reducible refine k_cell ?hz ?_); (case hz => walk_at "sz"))
  | (with_reducible refine o_add ?_) | (with_reducible refine o_sub ?_) | (with_reducible refine o_lt ?_) | (with_reducible refine o_le ?_) | (with_reducible refine o_gt ?_) | (with_reducible refine o_ge ?_) | (with_reducible refine o_neg ?_)
  | (with_reducible refine o_eqI ?_) | (with_reducible refine o_neI ?_) | (with_reducible refine o_eqS ?_) | (with_reducible refine o_neS ?_) | (with_reducible refine o_eqB ?_) | (with_reducible refine o_abs ?_) | (with_reducible refine o_max2 ?_) | (with_reducible refine o_min2 ?_)
  | (with_reducible refine o_intB ?_) | (with_reducible refine o_intI ?_)
  | ((with_reducible refine o_ix (v := ?vv) ?hi ?_); (case hi => rfl)) | ((with_reducible refine o_lenL (xs := ?vv) ?hi ?_); (case hi => rfl)) | ((with_reducible refine o_sl (xs := ?vv) ?hi ?_); (case hi => rfl))
  | (with_reducible refine L2.iteT ?_) | (with_reducible refine L2.iteF ?_)
  | (with_reducible refine ⟨_, rfl, ?_⟩) | (with_reducible refine ⟨_, _, rfl, ?_⟩)
  | dsimp only)
local macro_rules | `(tactic| walk_at "dl") => `(tactic| repeat walk_at "dl1")

/-! ### the law's pool -/
/-- the pool at p -/
def IsPool (S : Sto) (p : Nat) : Prop := ∃ a b : Int, 0 ≤ a ∧ 0 ≤ b ∧ S[p]? = some (some (.lst [.int a, .int b]))
/-- only the pool at p is drawn from -/
structure SP (p : Nat) (S S' : Sto) : Prop where
  len : S'.length = S.length
  oth : ∀ i : Nat, i ≠ p → S'[i]? = S[i]?
  pool : IsPool S' p
theorem SP.refl {p : Nat} {S : Sto} (h : IsPool S p) : SP p S S := ⟨rfl, fun _ _ => rfl, h⟩
theorem SP.trans {p : Nat} {S S1 S2 : Sto} (a : SP p S S1) (b : SP p S1 S2) : SP p S S2 := ⟨b.len.trans a.len, fun i h => (b.oth i h).trans (a.oth i h), b.pool⟩
theorem SP.set {p : Nat} {S : Sto} {a b : Int} (h : IsPool S p) (h0 : 0 ≤ a) (h1 : 0 ≤ b) : SP p S (S.set p (some (.lst [.int a, .int b]))) := by
  obtain ⟨_, _, _, _, e⟩ := h
  have hp := (List.getElem?_eq_some_iff.mp e).1
  exact ⟨by simp, fun i hi => by rw [List.getElem?_set_ne (Ne.symm hi)], a, b, h0, h1, by rw [List.getElem?_set_self hp]⟩
theorem pool_ix {p : Nat} {S : Sto} {a b : Int} (h : S[p]? = some (some (.lst [.int a, .int b]))) : seqOf S (.cell p) = some [.int a, .int b] := by simp [seqOf, DL.listOf, h]
theorem take_ok {p : Nat} {S : Sto} {n : Int} {P : D → Sto → Prop} (h : IsPool S p) (h0 : 0 < n) (hn : n < 2 ^ 62) (k : ∀ (r : Int) S', 0 ≤ r → r < n → SP p S S' → P (.int r) S') : Ok (Lw.f__law_take [.cell p, .int n] S) P := by
  obtain ⟨a, b, ha, hb, e⟩ := id h
  have hp := (List.getElem?_eq_some_iff.mp e).1
  have hlog : n.natAbs.log2 < 9000 := (show Sz 62 n by unfold Sz; omega).log (by decide) |> fun z => by omega
  unfold Lw.f__law_take
  refine k_fn rfl ?_
  unfold Lw.d__law_take
  walk_at "dl"
  refine o_ix (v := .int a) (by rw [pool_ix e]; rfl) ?_
  walk_at "dl"
  by_cases hz : 0 < a
  · rw [if_pos (by simpa using hz)]
    walk_at "dl"
    refine o_ix (v := .int a) (by rw [pool_ix e]; rfl) ?_
    walk_at "dl"
    refine o_mod (by omega) ?_
    walk_at "dl"
    refine o_ix (v := .int a) (by rw [pool_ix e]; rfl) ?_
    walk_at "dl"
    refine o_fdiv (by omega) hlog ?_
    walk_at "dl"
    refine ⟨S.set p (some (.lst [.int (a.fdiv n), .int b])), by simp only [setD, e]; rfl, ?_⟩
    walk_at "dl"
    rw [trim_same (by simp)]
    refine k _ _ ?_ ?_ (SP.set h ?_ hb)
    · rw [Int.fmod_eq_emod_of_nonneg _ (by omega)]; exact Int.emod_nonneg _ (by omega)
    · rw [Int.fmod_eq_emod_of_nonneg _ (by omega)]; exact Int.emod_lt_of_pos _ h0
    · rw [Int.fdiv_eq_ediv_of_nonneg _ (by omega)]; exact Int.ediv_nonneg ha (by omega)
  · rw [if_neg (by simpa using hz)]
    walk_at "dl"
    refine o_ix (v := .int b) (by rw [pool_ix e]; rfl) ?_
    walk_at "dl"
    refine o_mul (.of_right (by decide)) ?_
    walk_at "dl"
    refine o_mod (by decide) ?_
    walk_at "dl"
    generalize hc : (b * 69621 + 7).fmod 2147483647 = c
    have hc0 : 0 ≤ c := by rw [← hc, Int.fmod_eq_emod_of_nonneg _ (by decide)]; exact Int.emod_nonneg _ (by decide)
    have hc1 : c < 2147483647 := by rw [← hc, Int.fmod_eq_emod_of_nonneg _ (by decide)]; exact Int.emod_lt_of_pos _ (by decide)
    have e2 : (S.set p (some (CO.lst [.int a, .int c])))[p]? = some (some (.lst [.int a, .int c])) := by rw [List.getElem?_set_self hp]
    refine ⟨S.set p (some (.lst [.int a, .int c])), by simp only [setD, e]; rfl, ?_⟩
    walk_at "dl"
    refine o_ix (v := .int c) (by rw [pool_ix e2]; rfl) ?_
    walk_at "dl"
    refine o_ix (v := .int c) (by rw [pool_ix e2]; rfl) ?_
    walk_at "dl"
    have sc : Sz 32 c := by unfold Sz; omega
    refine o_mul (sc.mulOk sc) ?_
    walk_at "dl"
    refine o_mod (by decide) ?_
    walk_at "dl"
    refine o_fdiv (by decide) (by decide) ?_
    walk_at "dl"
    refine o_mod (by omega) ?_
    walk_at "dl"
    rw [trim_same (by simp)]
    refine k _ _ ?_ ?_ (SP.set h ha hc0)
    · rw [Int.fmod_eq_emod_of_nonneg _ (by omega)]; exact Int.emod_nonneg _ (by omega)
    · rw [Int.fmod_eq_emod_of_nonneg _ (by omega)]; exact Int.emod_lt_of_pos _ h0

/-! ### fractions, lowest terms -/
/-! ### what is drawn -/
theorem atI_mem {xs : List D} {i : Int} (h0 : 0 ≤ i) (h1 : i < xs.length) : ∃ v, v ∈ xs ∧ L2.atI xs i = some v := by
  have hi : i.toNat < xs.length := by omega
  refine ⟨xs[i.toNat], List.getElem_mem hi, ?_⟩
  unfold L2.atI L2.ixN
  rw [if_pos h0, if_pos h1]
  exact List.getElem?_eq_getElem hi
theorem o_pick {xs : List D} {i : Int} {S : Sto} {P : D → Sto → Prop} (Q : D → Prop) (h0 : 0 ≤ i) (h1 : i < xs.length) (hq : ∀ d ∈ xs, Q d) (q : ∀ v, Q v → P v S) : Ok (oIx (.lst xs) (.int i) S) P := by
  obtain ⟨v, hm, e⟩ := atI_mem h0 h1
  exact o_ix (v := v) (by show L2.atI xs i = _; exact e) (q v (hq v hm))
/-! ### kinds of things -/
def kn : D → String
  | .non => "NoneType"
  | .bl _ => "bool"
  | .int _ => "int"
  | .str _ => "str"
  | .tup _ => "tuple"
  | .dE => "dict"
  | _ => "list"
def isT : D → Bool
  | .tup _ => true
  | _ => false
def isL : D → Bool
  | .lst _ => true
  | .ro _ => true
  | _ => false
def isI : D → Bool
  | .int _ => true
  | .bl _ => true
  | _ => false
def isB : D → Bool
  | .bl _ => true
  | _ => false
def isS : D → Bool
  | .str _ => true
  | _ => false
def isW : D → Bool
  | .int _ => true
  | _ => false
theorem kind_pr {S : Sto} {k : Nat} {d : D} (h : d.pr k = true) : kindD S d = some (kn d) := by
  cases d with
  | cell n => simp [D.pr] at h
  | ty n => simp [D.pr] at h
  | err _ _ _ => simp [D.pr] at h
  | cls _ => simp [D.pr] at h
  | _ => rfl
section
variable {S : Sto} {P : D → Sto → Prop} {k : Nat} {d : D}
theorem o_isT (h : d.pr k = true) (q : P (.bl (isT d)) S) : Ok (fIsi [d, .ty "tuple"] S) P := by
  refine o_isi (kind_pr h) ?_ q
  cases d with
  | cell n => simp [D.pr] at h
  | ty n => simp [D.pr] at h
  | err _ _ _ => simp [D.pr] at h
  | cls _ => simp [D.pr] at h
  | _ => simp only [kn, isT, isL, isI, isB, isS]; decide +kernel
theorem o_isL (h : d.pr k = true) (q : P (.bl (isL d)) S) : Ok (fIsi [d, .ty "list"] S) P := by
  refine o_isi (kind_pr h) ?_ q
  cases d with
  | cell n => simp [D.pr] at h
  | ty n => simp [D.pr] at h
  | err _ _ _ => simp [D.pr] at h
  | cls _ => simp [D.pr] at h
  | _ => simp only [kn, isT, isL, isI, isB, isS]; decide +kernel
theorem o_isI (h : d.pr k = true) (q : P (.bl (isI d)) S) : Ok (fIsi [d, .ty "int"] S) P := by
  refine o_isi (kind_pr h) ?_ q
  cases d with
  | cell n => simp [D.pr] at h
  | ty n => simp [D.pr] at h
  | err _ _ _ => simp [D.pr] at h
  | cls _ => simp [D.pr] at h
  | _ => simp only [kn, isT, isL, isI, isB, isS]; decide +kernel
theorem o_isB (h : d.pr k = true) (q : P (.bl (isB d)) S) : Ok (fIsi [d, .ty "bool"] S) P := by
  refine o_isi (kind_pr h) ?_ q
  cases d with
  | cell n => simp [D.pr] at h
  | ty n => simp [D.pr] at h
  | err _ _ _ => simp [D.pr] at h
  | cls _ => simp [D.pr] at h
  | _ => simp only [kn, isT, isL, isI, isB, isS]; decide +kernel
theorem o_isS (h : d.pr k = true) (q : P (.bl (isS d)) S) : Ok (fIsi [d, .ty "str"] S) P := by
  refine o_isi (kind_pr h) ?_ q
  cases d with
  | cell n => simp [D.pr] at h
  | ty n => simp [D.pr] at h
  | err _ _ _ => simp [D.pr] at h
  | cls _ => simp [D.pr] at h
  | _ => simp only [kn, isT, isL, isI, isB, isS]; decide +kernel
theorem isW_eq (d : D) : isW d = (isI d && !isB d) := by cases d <;> rfl
theorem is_whole_ok (h : d.pr k = true) (q : P (.bl (isW d)) S) : Ok (Lw.f_is_whole [d] S) P := by
  unfold Lw.f_is_whole
  refine k_fn rfl ?_
  unfold Lw.d_is_whole
  walk_at "dl"
  refine o_isI h ?_
  walk_at "dl"
  rw [isW_eq] at q
  cases hI : isI d with
  | false =>
    rw [if_neg (by simp)]
    rw [trim_same rfl]
    rw [hI] at q; exact q
  | true =>
    rw [if_pos rfl]
    walk_at "dl"
    refine o_isB h ?_
    walk_at "dl"
    rw [trim_same rfl]
    rw [hI] at q; exact q
end
/-- the shapes that are told apart -/
theorem fr_shape (d : D) : isT d = false ∨ (∃ xs, d = .tup xs ∧ xs.length ≠ 2) ∨ ∃ x y, d = .tup [x, y] := by
  cases d with
  | tup xs =>
    right
    by_cases h : xs.length = 2
    · right
      match xs, h with
      | [x, y], _ => exact ⟨x, y, rfl⟩
    · exact .inl ⟨xs, rfl, h⟩
  | _ => exact .inl rfl
theorem pr_two {k : Nat} {x y : D} (h : (D.tup [x, y]).pr k = true) : x.pr (k - 1) = true ∧ y.pr (k - 1) = true := by
  simp only [D.pr, D.prL, Bool.and_eq_true] at h
  exact ⟨h.2.1, h.2.2.1⟩

section
variable {n : Nat} {S : Sto} {P : D → Sto → Prop} {z : Int}
theorem look_at_many_ok (hn : n ≤ 8) (hz : z = (n : Int)) (q : P .non S) : Ok (Lw.f_look_at_many [.int z] S) P := by
  unfold Lw.f_look_at_many
  refine k_fn rfl ?_
  unfold Lw.d_look_at_many Lw.c_MOST_NUMBERS_wishes
  walk_at "dl"
  refine is_whole_ok (k := 1) (by rfl) ?_
  walk_at "dl"
  with_reducible refine k_ifF ?hc ?_
  case hc => simp [isW]
  walk_at "dl"
  with_reducible refine k_ifT ?hc ?_
  case hc => simp; omega
  walk_at "dl"
  with_reducible refine k_ifF ?hc ?_
  case hc => simp; omega
  walk_at "dl"
  rw [trim_same rfl]
  exact q
end

/-! ### kinds of things -/
section
variable {S : Sto} {P : D → Sto → Prop} {k : Nat} {d : D}
end
def toldB : D → Bool
  | .tup [.str _, _] => true
  | _ => false
theorem told_no {t : D} (h : isT t = false) : toldB t = false := by cases t <;> first | rfl | cases h
theorem told_len {xs : List D} (h : xs.length ≠ 2) : toldB (.tup xs) = false := by
  unfold toldB
  split
  · rename_i e; cases e; simp at h
  · rfl
theorem told_two {x y : D} : toldB (.tup [x, y]) = isS x := by cases x <;> rfl
theorem told_get {t : D} (h : toldB t = true) : ∃ s b, t = .tup [.str s, b] := by
  unfold toldB at h
  split at h
  · exact ⟨_, _, rfl⟩
  · cases h
section
variable {t : D} {S : Sto} {P : D → Sto → Prop} {PB : Bool → Sto → Prop}
theorem told_test {k i : Nat} {ρ : DL.Env} (hi : ρ[i]? = some (some t)) (ht : t.pr k = true) (q : PB (!toldB t) S) :
    Ok (bOr (bNot (bVal (eL fIsi (aCons (eVar i) (aCons (eC (.ty "tuple")) aNil))))) (bOr (bVal (e2 oNe (eL fLen (aCons (eVar i) aNil)) (eC (.int 2)))) (bNot (bVal (eL fIsi (aCons (e2 oIx (eVar i) (eC (.int 0))) (aCons (eC (.ty "str")) aNil)))))) ρ S) PB := by
  have v : ∀ {S : Sto} {P : D → Sto → Prop}, P t S → Ok (eVar i ρ S) P := fun q => k_var hi q
  refine k_bOr (k_bNot (k_bVal (k_L (k_cons (v (k_cons (k_c (k_nil (o_isT ht (k_mBool ?_))))))))))
  rcases fr_shape t with hT | ⟨xs, rfl, hx⟩ | ⟨x, y, rfl⟩
  · rw [hT]
    with_reducible refine k_ifT ?hc ?_
    case hc => rfl
    rw [told_no hT] at q; exact q
  · with_reducible refine k_ifF ?hc ?_
    case hc => simp [isT]
    refine k_bOr (k_bVal (k_e2 (k_L (k_cons (v (k_nil (o_lenL (xs := xs) rfl (k_c (o_neI (k_mBool ?_))))))))))
    with_reducible refine k_ifT ?hc ?_
    case hc => simp; omega
    rw [told_len hx] at q; exact q
  · with_reducible refine k_ifF ?hc ?_
    case hc => simp [isT]
    refine k_bOr (k_bVal (k_e2 (k_L (k_cons (v (k_nil (o_lenL (xs := [x, y]) rfl (k_c (o_neI (k_mBool ?_))))))))))
    with_reducible refine k_ifF ?hc ?_
    case hc => simp
    refine k_bNot (k_bVal (k_L (k_cons (k_e2 (v (k_c (o_ix (v := x) rfl (k_cons (k_c (k_nil (o_isS (pr_two ht).1 (k_mBool ?_)))))))))))) 
    rw [told_two] at q; exact q
end
section
variable {n : Nat} {S : Sto} {P : D → Sto → Prop} {z : Int}
end

abbrev Wi := Str × List Int
def rD (row : List Int) : D := .lst (row.map .int)
def wD (w : Wi) : D := .tup [.str w.1, rD w.2]
structure WiOk (r n : Nat) (w : Wi) : Prop where
  word : w.1 = "least" ∨ w.1 = "just"
  len : w.2.length = n + 1
  sz : ∀ i ∈ w.2, Sz r i
theorem WiOk.mono {r s n : Nat} {w : Wi} (h : WiOk r n w) (l : r ≤ s) : WiOk s n w := ⟨h.word, h.len, fun i hi => (h.sz i hi).mono l⟩

/-! ### lines and wishes -/
theorem o_in {d e : D} {b : Bool} {S : Sto} {P : D → Sto → Prop} (h : inD S d e = some b) (q : P (.bl b) S) : Ok (oIn d e S) P := by
  unfold oIn; rw [h]; exact ⟨q⟩
/-- what can be shown, not too great -/
abbrev Th (d : D) : Prop := DatE 50 8000 d
def lineD (n : Nat) : D → Bool
  | .lst xs => decide (xs.length = n + 1) && xs.all isW
  | .ro xs => decide (xs.length = n + 1) && xs.all isW
  | _ => false
theorem bulk_len : ∀ xs : List D, xs.length ≤ PyData.bulkAll (D.pyL xs)
  | [] => Nat.zero_le _
  | x :: xs => by
    have := bulk_len xs
    simp only [D.pyL, PyData.bulkAll, List.length_cons]
    omega
theorem prL_mem {k : Nat} : ∀ {xs : List D}, D.prL k xs = true → ∀ x ∈ xs, x.pr k = true
  | [], _, x, h => absurd h (by simp)
  | y :: ys, h, x, hx => by
    simp only [D.prL, Bool.and_eq_true] at h
    rcases List.mem_cons.mp hx with rfl | hx
    · exact h.1
    · exact prL_mem h.2 x hx
theorem line_shape {d : D} (h : Th d) : (isL d = false ∧ ∀ n, lineD n d = false) ∨ ∃ xs, (∀ S, seqOf S d = some xs) ∧ (∀ S, DL.listOf S d = some xs) ∧ (∀ (S : Sto) (PI : ItD → Sto → Prop), PI (itL xs) S → Ok (mItL d S) PI) ∧ (∀ x ∈ xs, x.pr 49 = true) ∧ xs.length ≤ 8000 ∧ isL d = true ∧ ∀ n, lineD n d = (decide (xs.length = n + 1) && xs.all isW) := by
  cases d with
  | lst xs =>
    right
    have hp := h.pl
    have hb := h.bk
    simp only [D.pr, Bool.and_eq_true] at hp
    simp only [D.py, PyData.bulk] at hb
    exact ⟨xs, fun _ => rfl, fun _ => rfl, fun S PI q => i_list q, prL_mem hp.2, Nat.le_trans (bulk_len xs) hb, rfl, fun _ => rfl⟩
  | ro xs =>
    right
    have hp := h.pl
    have hb := h.bk
    simp only [D.pr, Bool.and_eq_true] at hp
    simp only [D.py, PyData.bulk] at hb
    exact ⟨xs, fun _ => rfl, fun _ => rfl, fun S PI q => i_ro q, prL_mem hp.2, Nat.le_trans (bulk_len xs) hb, rfl, fun _ => rfl⟩
  | _ => exact .inl ⟨rfl, fun _ => rfl⟩
theorem dat_two {k b : Nat} {x y : D} (h : DatE k b (.tup [x, y])) : DatE k b y := by
  have hp := h.pl; have hs := h.sh; have hl := h.lf; have hb := h.bk
  simp only [D.pr, D.prL, Bool.and_eq_true] at hp
  simp only [D.py, D.pyL, PyData.showable, PyData.showableAll, Bool.and_eq_true] at hs
  simp only [D.py, D.pyL, PyData.leavesShort, PyData.leavesShortAll, Bool.and_eq_true] at hl
  simp only [D.py, D.pyL, PyData.bulk, PyData.bulkAll] at hb
  exact ⟨pr_up (by omega) hp.2.2.1, hs.2.1, hl.2.1, by omega⟩
def wordB (s : Str) : Bool := [D.str "least", D.str "just"].any fun y => eqF y (.str s)
def wishB (n : Nat) : D → Bool
  | .tup [.str s, l] => wordB s && lineD n l
  | _ => false
theorem wish_no {n : Nat} {t : D} (h : toldB t = false) : wishB n t = false := by
  unfold wishB
  split
  · cases h
  · rfl
section
variable {n : Nat} {d e : D} {S : Sto} {P : D → Sto → Prop} {z : Int}
theorem is_line_ok (h : Th d) (hn : n ≤ 8) (hz : z = (n : Int)) (q : P (.bl (lineD n d)) S) : Ok (Lw.f_is_line [.int z, d] S) P := by
  unfold Lw.f_is_line
  refine k_fn rfl ?_
  unfold Lw.d_is_line
  walk_at "dl"
  refine look_at_many_ok hn hz ?_
  walk_at "dl"
  refine o_isL h.pl ?_
  walk_at "dl"
  rcases line_shape h with ⟨e1, e2⟩ | ⟨xs, hs, hL, hm, hx, hl, e1, e2⟩
  · rw [e1]
    with_reducible refine k_ifF ?hc ?_
    case hc => simp
    rw [trim_same rfl]
    rw [e2] at q; exact q
  rw [e1]
  with_reducible refine k_ifT ?hc ?_
  case hc => rfl
  walk_at "dl"
  refine o_lenL (hs _) ?_
  walk_at "dl"
  rw [e2] at q
  by_cases hn : xs.length = n + 1
  case neg =>
    with_reducible refine k_ifF ?hc ?_
    case hc => simp; omega
    rw [trim_same rfl]
    rw [decide_eq_false hn] at q; exact q
  with_reducible refine k_ifT ?hc ?_
  case hc => simp; omega
  walk_at "dl"
  refine hm _ _ ?_
  refine lc_mapN (l := xs) (f := fun x => x) (g := fun x => .bl (isW x)) rfl (fun i => by simp [itL]) (by rw [sizeLine_eq]; omega) ?_ ?_
  · intro x hx'
    refine ⟨_, rfl, ?_⟩
    walk_at "dl"
    exact is_whole_ok (hx x hx') ⟨rfl, rfl⟩
  walk_at "dl"
  refine o_all (bs := xs.map isW) (by
    rw [show (xs.map fun x => D.bl (isW x)) = (xs.map isW).map D.bl by rw [List.map_map]; rfl]
    exact blsOf_map _) ?_
  walk_at "dl"
  rw [List.all_map, show (id ∘ isW) = isW from rfl, trim_same rfl]
  rw [decide_eq_true hn, Bool.true_and] at q
  exact q
theorem is_wish_ok (h : Th d) (hn : n ≤ 8) (hz : z = (n : Int)) (q : P (.bl (wishB n d)) S) : Ok (Lw.f_is_wish [.int z, d] S) P := by
  unfold Lw.f_is_wish
  refine k_fn rfl ?_
  unfold Lw.d_is_wish
  walk_at "dl"
  refine look_at_many_ok hn hz ?_
  try dsimp only
  refine k_seq (k_if (told_test rfl h.pl ?_))
  cases ht : toldB d with
  | false =>
    refine k_ifT (by simp) ?_
    walk_at "dl"
    rw [trim_same rfl]
    rw [wish_no ht] at q; exact q
  | true =>
    obtain ⟨s, l, rfl⟩ := told_get ht
    with_reducible refine k_ifF ?hc ?_
    case hc => simp
    walk_at "dl"
    unfold Lw.c_LEAST Lw.c_JUST
    refine o_in (b := wordB s) (by rfl) ?_
    walk_at "dl"
    have q' : P (.bl (wordB s && lineD n l)) S := q
    cases hw : wordB s with
    | false =>
      with_reducible refine k_ifF ?hc ?_
      case hc => simp
      rw [trim_same rfl]
      rw [hw] at q'; exact q'
    | true =>
      with_reducible refine k_ifT ?hc ?_
      case hc => rfl
      walk_at "dl"
      refine is_line_ok (dat_two h) hn hz ?_
      rw [trim_same rfl]
      rw [hw] at q'; exact q'
end
/-! ### no number of numbers -/
section
variable {k : Nat} {d e : D} {S : Sto} {Q : XD → Sto → Prop}
end

/-! ### texts of signs -/
/-! ### what can be shown, by makes -/
theorem dat_int {k b s : Nat} {i : Int} (h : Sz s i) (h0 : 0 < s) (h1 : s ≤ 1920) : DatE k b (.int i) := (DatE.int h h0 h1).mono (Nat.zero_le _)
theorem dat_ints {k b s : Nat} {row : List Int} (h : ∀ i ∈ row, Sz s i) (h0 : 0 < s) (h1 : s ≤ 1920) : ∀ d ∈ row.map D.int, DatE k b d := fun d hd => by
  obtain ⟨i, hi, rfl⟩ := List.mem_map.mp hd
  exact dat_int (h i hi) h0 h1
/-! ### cells beside the pool -/
/-- a cell is kept while the pool is drawn from -/
theorem SP.at {p c : Nat} {S S' : Sto} {xs : List D} (s : SP p S S') (hc : c ≠ p) (h : S[c]? = some (some (.lst xs))) : S'[c]? = some (some (.lst xs)) := (s.oth c hc).trans h
/-- cells beyond S may come; of those of S the pool alone is changed -/
structure SQ (p : Nat) (S S' : Sto) : Prop where
  len : S.length ≤ S'.length
  oth : ∀ i : Nat, i < S.length → i ≠ p → S'[i]? = S[i]?
  pool : IsPool S' p
theorem SQ.refl {p : Nat} {S : Sto} (h : IsPool S p) : SQ p S S := ⟨Nat.le_refl _, fun _ _ _ => rfl, h⟩
theorem SQ.draw {p : Nat} {S S1 S2 : Sto} (a : SQ p S S1) (b : SP p S1 S2) : SQ p S S2 := ⟨by rw [b.len]; exact a.len, fun i h n => (b.oth i n).trans (a.oth i h n), b.pool⟩
theorem IsPool.lt {p : Nat} {S : Sto} (h : IsPool S p) : p < S.length := by
  obtain ⟨_, _, _, _, e⟩ := h
  exact (List.getElem?_eq_some_iff.mp e).1
theorem SQ.push {p : Nat} {S S1 : Sto} {c : Option CO} (a : SQ p S S1) : SQ p S (S1 ++ [c]) := by
  have hp := a.pool.lt
  refine ⟨by simp; have := a.len; omega, fun i h n => ?_, ?_⟩
  · rw [List.getElem?_append_left (by have := a.len; omega)]; exact a.oth i h n
  · obtain ⟨x, y, h0, h1, e⟩ := a.pool
    exact ⟨x, y, h0, h1, by rw [List.getElem?_append_left hp]; exact e⟩
theorem SQ.put {p c : Nat} {S S1 : Sto} {o : Option CO} (a : SQ p S S1) (hc : S.length ≤ c) (hp : p < S.length) : SQ p S (S1.set c o) := by
  refine ⟨by rw [List.length_set]; exact a.len, fun i h n => ?_, ?_⟩
  · rw [List.getElem?_set_ne (by omega)]; exact a.oth i h n
  · obtain ⟨x, y, h0, h1, e⟩ := a.pool
    exact ⟨x, y, h0, h1, by rw [List.getElem?_set_ne (by omega)]; exact e⟩
theorem SQ.more {p : Nat} {S S1 S2 : Sto} (a : SQ p S S1) (h : ∀ i : Nat, i < S1.length → S2[i]? = S1[i]?) (hl : S1.length ≤ S2.length) : SQ p S S2 := by
  have hp := a.pool.lt
  refine ⟨Nat.le_trans a.len hl, fun i hi n => (h i (Nat.lt_of_lt_of_le hi a.len)).trans (a.oth i hi n), ?_⟩
  obtain ⟨x, y, h0, h1, e⟩ := a.pool
  exact ⟨x, y, h0, h1, (h p hp).trans e⟩

theorem SQ.trim {p : Nat} {S S' : Sto} {d : D} (a : SQ p S S') (hp : p < S.length) (hd : d.bel S.length = true) : SP p S (trim S d S') := by
  obtain ⟨x, y, h0, h1, e⟩ := a.pool
  have hc : Cut S d S' := by
    refine ⟨hd, fun i c hi h => ?_⟩
    by_cases n : i = p
    · subst n
      rw [e] at h
      cases h
      right; rfl
    · left; rw [← a.oth i hi n]; exact h
  rw [trim_cut hc]
  have hl : (S'.take S.length).length = S.length := by rw [List.length_take, Nat.min_eq_left a.len]
  refine ⟨hl, fun i n => ?_, x, y, h0, h1, by rw [List.getElem?_take_of_lt hp]; exact e⟩
  by_cases hi : i < S.length
  · rw [List.getElem?_take_of_lt hi]; exact a.oth i hi n
  · rw [List.getElem?_eq_none (by omega), List.getElem?_eq_none (by omega)]

/-! ### programs -/
abbrev Rw := Nat × Nat × List Wi
def rwD (r : Rw) : D := .tup [.int r.1, .int r.2.1, .lst (r.2.2.map wD)]
def nmsD (ns : List Str) : D := .lst (ns.map .str)
abbrev Pg := List Str × List Str × List Rw
def pgD (p : Pg) : D := .tup [nmsD p.1, nmsD p.2.1, .lst (p.2.2.map rwD)]
/-- a name that programs have -/
structure NaOk (s : Str) : Prop where
  lo : 1 ≤ s.length
  hi : s.length ≤ 6
  al : ((signsD s).all fun d => inD [] d (.str "abcdefghijklmnopqrstuvwxyz") == some true) = true
  so : PyData.strOk s = true
structure NasOk (m : Nat) (ns : List Str) : Prop where
  lo : 1 ≤ ns.length
  hi : ns.length ≤ m
  ok : ∀ s ∈ ns, NaOk s
  nd : ns.Nodup
structure RwOk (r n p : Nat) (w : Rw) : Prop where
  st : w.1 < p
  to : w.2.1 < p
  ws : ∀ x ∈ w.2.2, WiOk r (2 * n) x
  len : w.2.2.length ≤ 12
structure PgOk (r : Nat) (p : Pg) : Prop where
  nas : NasOk 3 p.1
  pls : NasOk 6 p.2.1
  rows : ∀ w ∈ p.2.2, RwOk r p.1.length p.2.1.length w
  len : p.2.2.length ≤ 10
theorem NasOk.mono {m k : Nat} {ns : List Str} (h : NasOk m ns) (l : m ≤ k) : NasOk k ns := ⟨h.lo, Nat.le_trans h.hi l, h.ok, h.nd⟩
theorem RwOk.mono {r s n p : Nat} {w : Rw} (h : RwOk r n p w) (l : r ≤ s) : RwOk s n p w := ⟨h.st, h.to, fun x hx => (h.ws x hx).mono l, h.len⟩
theorem PgOk.mono {r s : Nat} {p : Pg} (h : PgOk r p) (l : r ≤ s) : PgOk s p := ⟨h.nas, h.pls, fun w hw => (h.rows w hw).mono l, h.len⟩
theorem enum_get {xs : List D} {i : Nat} {d : D} (h : (enumD xs)[i]? = some d) : ∃ x, xs[i]? = some x ∧ d = .tup [.int i, x] := by
  rw [enumD_get] at h
  cases e : xs[i]? with
  | none => rw [e] at h; cases h
  | some x => rw [e] at h; cases h; exact ⟨x, rfl, rfl⟩
theorem o_lenS {z : Str} {S : Sto} {P : D → Sto → Prop} (hz : z.length ≤ sizeLine) (q : P (.int z.length) S) : Ok (fLen [.str z] S) P := by
  unfold fLen
  dsimp only
  rw [if_pos hz]; exact ⟨q⟩
theorem any_str {ns : List Str} {s : Str} : ((ns.map D.str).any fun y => eqF y (.str s)) = decide (s ∈ ns) := by
  induction ns with
  | nil => rfl
  | cons x xs ih =>
    rw [List.map_cons, List.any_cons, ih]
    show ((x == s) || _) = _
    by_cases h : x = s
    · subst h; simp
    · have : s ≠ x := fun z => h z.symm
      simp [h, this]
theorem in_strs {ns : List Str} {s : Str} {S : Sto} : inD S (.str s) (.lst (ns.map .str)) = some (decide (s ∈ ns)) := by
  show (if flatD (.str s) && (ns.map D.str).all flatD then some ((ns.map D.str).any fun y => eqF y (.str s)) else none) = _
  rw [any_str, if_pos (by simp [flatD])]
section
variable {S : Sto} {P : D → Sto → Prop} {r n p m : Nat} {z u : Int} {s : Str} {ns : List Str}
theorem i_strS {PI : ItD → Sto → Prop} (q : PI (itL (signsD s)) S) : Ok (mItS (.str s) S) PI := ⟨q⟩
theorem is_name_ok (h : NaOk s) (q : P (.bl true) S) : Ok (Lw.f_is_name [.str s, .int 6] S) P := by
  have h1 := h.lo
  have h2 := h.hi
  unfold Lw.f_is_name
  refine k_fn rfl ?_
  unfold Lw.d_is_name
  walk_at "dl"
  refine o_isi (k := "str") rfl rfl ?_
  walk_at "dl"
  refine o_lenS (by rw [sizeLine_eq]; omega) ?_
  walk_at "dl"
  refine k_ifT (by simp; omega) ?_
  walk_at "dl"
  refine k_ifT (by simp; omega) ?_
  walk_at "dl"
  refine i_strS ?_
  refine lc_mapN (l := signsD s) (f := fun x => x) (g := fun _ => .bl true) rfl (fun i => by simp [itL]) (by
    have : (signsD s).length = s.length := by simp [signsD]; rfl
    rw [this, sizeLine_eq]; omega) ?_ ?_
  · intro x hx
    refine ⟨_, rfl, ?_⟩
    walk_at "dl"
    have e := List.all_eq_true.mp h.al x hx
    refine o_in (b := true) (by
      have := beq_iff_eq.mp e
      exact this) ⟨rfl, rfl⟩
  walk_at "dl"
  refine o_all (bs := (signsD s).map fun _ => true) (by
    rw [show (signsD s).map (fun _ => D.bl true) = ((signsD s).map fun _ => true).map D.bl by rw [List.map_map]; rfl]
    exact blsOf_map _) ?_
  rw [trim_same rfl, show (((signsD s).map fun _ => true).all id) = true by simp]
  exact q
theorem first_no_name_ok (h : NasOk 1000 ns) (q : P .non S) : Ok (Lw.f_first_no_name [nmsD ns] S) P := by
  unfold Lw.f_first_no_name nmsD
  refine k_fn rfl ?_
  unfold Lw.d_first_no_name
  walk_at "dl"
  refine i_enum ?_
  refine k_forL (fun i ρ S' => S' = S ∧ ∃ x1 x2, ρ = [some (.lst (ns.map .str)), x1, x2]) ⟨rfl, _, _, rfl⟩ ?_ ?_
  · rintro i ρ S' d hd ⟨rfl, x1, x2, rfl⟩
    obtain ⟨x, hx, rfl⟩ := enum_get hd
    obtain ⟨s, hs, rfl⟩ := getElem?_map_some hx
    refine ⟨_, rfl, ?_⟩
    walk_at "dl"
    show Ok (Lw.f_is_name [.str s, .int 6] S') _
    refine is_name_ok (h.ok s (List.mem_of_getElem? hs)) ?_
    walk_at "dl"
    refine k_ifF (by simp) ?_
    walk_at "dl"
    rw [cut_to, ← List.map_take]
    refine o_in in_strs ?_
    walk_at "dl"
    have hn : s ∉ ns.take i := by
      intro hm
      obtain ⟨j, hj, e⟩ := List.getElem_of_mem hm
      rw [List.length_take] at hj
      rw [List.getElem_take] at e
      have hi := (List.getElem?_eq_some_iff.mp hs)
      obtain ⟨hi1, hi2⟩ := hi
      have := (List.getElem_inj h.nd).mp (e.trans hi2.symm)
      omega
    rw [decide_eq_false hn]
    walk_at "dl"
    exact ⟨rfl, _, _, rfl⟩
  · rintro ρ S' ⟨rfl, x1, x2, rfl⟩
    walk_at "dl"
    rw [trim_same rfl]
    exact q
theorem look_at_names_ok {d : D} (h : NasOk m ns) (hm : m ≤ 1000) (hu : u = (m : Int)) (q : P .non S) : Ok (Lw.f_look_at_names [d, nmsD ns, .int u] S) P := by
  subst hu
  have h1 := h.lo
  have h2 := h.hi
  unfold Lw.f_look_at_names
  refine k_fn rfl ?_
  unfold Lw.d_look_at_names
  walk_at "dl"
  refine o_isi (k := "list") rfl rfl ?_
  walk_at "dl"
  refine k_ifF (by simp) ?_
  walk_at "dl"
  refine k_ifT (by simp; omega) ?_
  walk_at "dl"
  refine k_ifF (by simp; omega) ?_
  walk_at "dl"
  refine first_no_name_ok (h.mono hm) ?_
  walk_at "dl"
  refine ok1 ?_
  walk_at "dl"
  rw [trim_same rfl]
  exact q
end

/-! ### programs looked at -/
theorem th_wish {r k : Nat} {w : Wi} (W : WiOk r k w) (h0 : 0 < r) (h1 : r ≤ 1920) (hk : k ≤ 30) : Th (wD w) := by
  have hs : DatE 48 10 (.str w.1) := by
    rcases W.word with e | e
    · rw [e]; exact (DatE.str (by decide +kernel)).mono (by decide +kernel)
    · rw [e]; exact (DatE.str (by decide +kernel)).mono (by decide +kernel)
  have hr : DatE 48 40 (rD w.2) := DatE.lst (k := 47) (DatEL.mono (DatEL.all (b := 0) (n := 40) (fun x hx => by
    obtain ⟨i, hi, rfl⟩ := List.mem_map.mp hx
    exact DatE.int (W.sz i hi) h0 h1) (by rw [List.length_map, W.len]; omega)) (by decide))
  exact ((DatE.tup (DatEL.cons hs (DatEL.cons hr DatEL.nil))).mono (by decide)).up (by decide)
theorem wishB_yes {r k : Nat} {w : Wi} (W : WiOk r k w) : wishB k (wD w) = true := by
  show (wordB w.1 && lineD k (rD w.2)) = true
  have h1 : wordB w.1 = true := by
    rcases W.word with e | e
    · rw [e]; decide +kernel
    · rw [e]; decide +kernel
  have h2 : lineD k (rD w.2) = true := by
    show (decide ((w.2.map D.int).length = k + 1) && (w.2.map D.int).all isW) = true
    rw [List.length_map, W.len, decide_eq_true rfl, Bool.true_and, List.all_map, List.all_eq_true]
    exact fun x _ => rfl
  rw [h1, h2]; rfl
section
variable {S : Sto} {P : D → Sto → Prop} {Q : XD → Sto → Prop} {r n p m : Nat} {z u : Int} {ws : List Wi}
theorem is_wish_w {w : Wi} (W : WiOk r n w) (h0 : 0 < r) (h1 : r ≤ 1920) (hn : n ≤ 8) (hz : z = (n : Int)) (q : P (.bl true) S) : Ok (Lw.f_is_wish [.int z, wD w] S) P :=
  is_wish_ok (th_wish W h0 h1 (by omega)) hn hz (by rw [wishB_yes W]; exact q)
theorem are_wishes_ok (hw : ∀ w ∈ ws, WiOk r n w) (h0 : 0 < r) (h1 : r ≤ 1920) (hn : n ≤ 8) (hz : z = (n : Int)) (hl : ws.length ≤ 12) (q : P (.bl true) S) : Ok (Lw.f_are_wishes [.int z, .lst (ws.map wD), .int 12] S) P := by
  unfold Lw.f_are_wishes
  refine k_fn rfl ?_
  unfold Lw.d_are_wishes
  walk_at "dl"
  refine o_isi (k := "list") rfl rfl ?_
  walk_at "dl"
  refine k_ifT (by simp; omega) ?_
  walk_at "dl"
  refine i_list ?_
  refine lc_map (l := ws) (f := wD) (g := fun _ => .bl true) (by rw [sizeLine_eq]; omega) ?_ ?_
  · intro w hm
    refine ⟨_, rfl, ?_⟩
    walk_at "dl"
    exact is_wish_w (hw w hm) h0 h1 hn hz ⟨rfl, rfl⟩
  walk_at "dl"
  refine o_all (bs := ws.map fun _ => true) (by
    rw [show ws.map (fun _ => D.bl true) = (ws.map fun _ => true).map D.bl by rw [List.map_map]; rfl]
    exact blsOf_map _) ?_
  rw [trim_same rfl, show ((ws.map fun _ => true).all id) = true by simp]
  exact q
theorem is_number_of_ok {a : Nat} (h : a < m) (hz : z = (a : Int)) (hu : u = (m : Int)) (q : P (.bl true) S) : Ok (Lw.f_is_number_of [.int z, .int u] S) P := by
  unfold Lw.f_is_number_of
  refine k_fn rfl ?_
  unfold Lw.d_is_number_of
  walk_at "dl"
  refine is_whole_ok (k := 1) (by rfl) ?_
  walk_at "dl"
  refine k_ifT (by rfl) ?_
  walk_at "dl"
  refine k_ifT (by simp; omega) ?_
  walk_at "dl"
  rw [trim_same rfl, decide_eq_true (show z < u by omega)]
  exact q
theorem is_row_ok {w : Rw} (W : RwOk r n p w) (h0 : 0 < r) (h1 : r ≤ 1920) (hn : n ≤ 4) (hz : z = (n : Int)) (hu : u = (p : Int)) (q : P (.bl true) S) : Ok (Lw.f_is_row [.int z, .int u, rwD w] S) P := by
  unfold Lw.f_is_row rwD
  refine k_fn rfl ?_
  unfold Lw.d_is_row
  walk_at "dl"
  refine o_isi (k := "tuple") rfl rfl ?_
  walk_at "dl"
  refine k_ifF (by simp) ?_
  walk_at "dl"
  refine k_ifF (by simp) ?_
  walk_at "dl"
  refine is_number_of_ok W.st rfl hu ?_
  walk_at "dl"
  refine k_ifF (by simp) ?_
  walk_at "dl"
  refine is_number_of_ok W.to rfl hu ?_
  walk_at "dl"
  refine k_ifF (by simp) ?_
  walk_at "dl"
  refine o_mul (.of_left (by decide)) ?_
  walk_at "dl"
  show Ok (Lw.f_are_wishes [.int (2 * z), .lst (w.2.2.map wD), .int 12] S) _
  refine are_wishes_ok (n := 2 * n) W.ws h0 h1 (by omega) (by omega) W.len ?_
  rw [trim_same rfl]
  exact q
theorem look_at_ok {g : Pg} (G : PgOk r g) (h0 : 0 < r) (h1 : r ≤ 1920) (q : P .non S) : Ok (Lw.f_look_at [pgD g] S) P := by
  have hl := G.len
  have hn := G.nas.hi
  unfold Lw.f_look_at pgD
  refine k_fn rfl ?_
  unfold Lw.d_look_at
  walk_at "dl"
  refine o_isi (k := "tuple") rfl rfl ?_
  walk_at "dl"
  refine k_ifF (by simp) ?_
  walk_at "dl"
  refine k_ifF (by simp) ?_
  walk_at "dl"
  show Ok (Lw.f_look_at_names [.str "names", nmsD g.1, .int 3] S) _
  refine look_at_names_ok G.nas (by decide) rfl ?_
  walk_at "dl"
  show Ok (Lw.f_look_at_names [.str "places", nmsD g.2.1, .int 6] S) _
  refine look_at_names_ok G.pls (by decide) rfl ?_
  walk_at "dl"
  refine o_isi (k := "list") rfl rfl ?_
  walk_at "dl"
  refine k_ifF (by simp) ?_
  walk_at "dl"
  unfold Lw.c_MOST_ROWS
  walk_at "dl"
  refine k_ifF (by simp; omega) ?_
  walk_at "dl"
  refine i_enum ?_
  refine k_forL (fun i ρ S' => S' = S ∧ ∃ x1 x2, ρ = [some (pgD g), some (nmsD g.1), some (nmsD g.2.1), some (.lst (g.2.2.map rwD)), x1, x2]) ⟨rfl, _, _, rfl⟩ ?_ ?_
  · rintro i ρ S' d hd ⟨rfl, x1, x2, rfl⟩
    obtain ⟨x, hx, rfl⟩ := enum_get hd
    obtain ⟨w, hw, rfl⟩ := getElem?_map_some hx
    refine ⟨_, rfl, ?_⟩
    walk_at "dl"
    refine is_row_ok (G.rows w (List.mem_of_getElem? hw)) h0 h1 (by omega) (by simp) (by simp) ?_
    walk_at "dl"
    refine k_ifF (by simp) ?_
    walk_at "dl"
    exact ⟨rfl, _, _, rfl⟩
  · rintro ρ S' ⟨rfl, x1, x2, rfl⟩
    walk_at "dl"
    rw [trim_same rfl]
    exact q
end

/-! ### a thing beside itself -/
mutual
theorem eqv_self : ∀ {d : D} {k : Nat}, d.pl k = true → PyData.eqv d.py d.py = true
  | .non, _, _ => by simp [D.py, PyData.eqv]
  | .bl b, _, _ => by cases b <;> simp [D.py, PyData.eqv]
  | .int i, _, _ => by simp [D.py, PyData.eqv]
  | .str s, _, _ => by simp [D.py, PyData.eqv]
  | .tup xs, k, h => by
    simp only [D.pl, Bool.and_eq_true] at h
    simp only [D.py, PyData.eqv]
    exact eqv_selfL h.2
  | .lst xs, k, h => by
    simp only [D.pl, Bool.and_eq_true] at h
    simp only [D.py, PyData.eqv]
    exact eqv_selfL h.2
  | .dE, k, h => by simp [D.pl] at h
  | .ro xs, k, h => by
    simp only [D.pl, Bool.and_eq_true] at h
    simp only [D.py, PyData.eqv]
    exact eqv_selfL h.2
  | .cell _, k, h => by simp [D.pl] at h
  | .ty _, k, h => by simp [D.pl] at h
  | .err _ _ _, k, h => by simp [D.pl] at h
  | .cls _, k, h => by simp [D.pl] at h
theorem eqv_selfL : ∀ {ds : List D} {k : Nat}, D.plL k ds = true → PyData.eqvAll (D.pyL ds) (D.pyL ds) = true
  | [], _, _ => by simp [D.pyL, PyData.eqvAll]
  | d :: ds, k, h => by
    simp only [D.plL, Bool.and_eq_true] at h
    simp only [D.pyL, PyData.eqvAll, eqv_self h.1, eqv_selfL h.2, Bool.and_self]
end
/-! ### programs can be shown -/
theorem o_reprP {S : Sto} {P : D → Sto → Prop} {d e : D} {b : Nat} (he : deepD S 12 d = e) (h : DatE 60 b e) (hb : b ≤ 8000) (q : P (.str e.shown) S) : Ok (fReprD [d] S) P := by
  unfold fReprD
  dsimp only
  rw [he, h.pl, h.shows hb]
  exact ⟨q⟩
theorem o_reprQ {S : Sto} {P : D → Sto → Prop} {d : D} {b : Nat} (h : DatE 60 b d) (hb : b ≤ 8000) (q : P (.str d.shown) S) : Ok (fReprD [d] S) P := o_reprP (deep_pr h.pl) h hb q
theorem dat_ints2 {k m s : Nat} {row : List Int} (h : ∀ i ∈ row, Sz s i) (h0 : 0 < s) (h1 : s ≤ 1920) (hl : row.length ≤ m) : DatE (k + 1) m (.lst (row.map .int)) :=
  DatE.lst (DatEL.mono (DatEL.all (b := 0) (n := m) (dat_ints h h0 h1) (by rw [List.length_map]; exact hl)) (by omega))
theorem dat_wish2 {r n k : Nat} {w : Wi} (W : WiOk r n w) (h0 : 0 < r) (h1 : r ≤ 1920) (hn : n ≤ 6) : DatE (k + 2) 14 (wD w) := by
  have hs : DatE (k + 1) 5 (.str w.1) := by
    rcases W.word with e | e
    · rw [e]; exact (DatE.str (by decide +kernel)).mono (by decide +kernel)
    · rw [e]; exact (DatE.str (by decide +kernel)).mono (by decide +kernel)
  exact DatE.tup (DatEL.mono (DatEL.cons hs (DatEL.cons (dat_ints2 (m := 7) W.sz h0 h1 (by rw [W.len]; omega)) DatEL.nil)) (by decide))
theorem dat_row2 {r n p k : Nat} {w : Rw} (W : RwOk r n p w) (h0 : 0 < r) (h1 : r ≤ 1920) (hn : n ≤ 3) (hp : p ≤ 1000) : DatE (k + 4) 183 (rwD w) := by
  have hs := W.st
  have ht := W.to
  have hw : DatE (k + 3) 180 (.lst (w.2.2.map wD)) := DatE.lst (DatEL.mono (DatEL.all (b := 14) (n := 12) (fun x hx => by
    obtain ⟨y, hy, rfl⟩ := List.mem_map.mp hx
    exact dat_wish2 (W.ws y hy) h0 h1 (by omega)) (by rw [List.length_map]; exact W.len)) (by decide))
  exact DatE.tup (DatEL.mono (DatEL.cons (DatE.int (m := 11) (by unfold Sz; omega) (by decide) (by decide)) (DatEL.cons (DatE.int (m := 11) (by unfold Sz; omega) (by decide) (by decide)) (DatEL.cons hw DatEL.nil))) (by decide))
theorem dat_nms {m k : Nat} {ns : List Str} (h : NasOk m ns) : DatE (k + 1) (m * 7) (nmsD ns) :=
  DatE.lst (DatEL.all (b := 6) (n := m) (fun x hx => by
    obtain ⟨y, hy, rfl⟩ := List.mem_map.mp hx
    exact (DatE.str (h.ok y hy).so).mono (h.ok y hy).hi) (by rw [List.length_map]; exact h.hi))
theorem dat_pg {r k : Nat} {g : Pg} (G : PgOk r g) (h0 : 0 < r) (h1 : r ≤ 1920) : DatE (k + 6) 2000 (pgD g) := by
  have hn := G.nas.hi
  have hp := G.pls.hi
  have hr : DatE (k + 5) 1840 (.lst (g.2.2.map rwD)) := DatE.lst (DatEL.mono (DatEL.all (b := 183) (n := 10) (fun x hx => by
    obtain ⟨y, hy, rfl⟩ := List.mem_map.mp hx
    exact dat_row2 (G.rows y hy) h0 h1 hn (by omega)) (by rw [List.length_map]; exact G.len)) (by decide))
  exact DatE.tup (DatEL.mono (DatEL.cons (dat_nms G.nas) (DatEL.cons (dat_nms G.pls) (DatEL.cons hr DatEL.nil))) (by decide))
/-! ### changed no more -/
mutual
theorem frz_pr {S : Sto} : ∀ {d : D} {n k : Nat}, d.pr k = true → frzN n d S = some (d, S)
  | d, 0, _, _ => rfl
  | .non, n + 1, _, _ => rfl
  | .bl b, n + 1, _, _ => rfl
  | .int i, n + 1, _, _ => rfl
  | .str s, n + 1, _, _ => rfl
  | .dE, n + 1, _, _ => rfl
  | .ro _, n + 1, _, _ => rfl
  | .tup xs, n + 1, k, h => by
    simp only [D.pr, Bool.and_eq_true] at h
    show (frzM (frzN n) xs S).map _ = _
    rw [frz_prL h.2]; rfl
  | .lst xs, n + 1, k, h => by
    simp only [D.pr, Bool.and_eq_true] at h
    show (frzM (frzN n) xs S).map _ = _
    rw [frz_prL h.2]; rfl
  | .cell m, n + 1, k, h => by simp [D.pr] at h
  | .ty _, n + 1, k, h => by simp [D.pr] at h
  | .err _ _ _, n + 1, k, h => by simp [D.pr] at h
  | .cls _, n + 1, k, h => by simp [D.pr] at h
theorem frz_prL {S : Sto} : ∀ {xs : List D} {n k : Nat}, D.prL k xs = true → frzM (frzN n) xs S = some (xs, S)
  | [], _, _, _ => rfl
  | x :: xs, n, k, h => by
    simp only [D.prL, Bool.and_eq_true] at h
    show (frzN n x S).bind _ = _
    rw [frz_pr h.1]
    show (frzM (frzN n) xs S).map _ = _
    rw [frz_prL h.2]; rfl
end
/-! ### changed no more: programs -/
theorem frzM_cons {f : D → Sto → Option (D × Sto)} {x x' : D} {xs xs' : List D} {S S1 S2 : Sto} (h1 : f x S = some (x', S1)) (h2 : frzM f xs S1 = some (xs', S2)) : frzM f (x :: xs) S = some (x' :: xs', S2) := by
  simp only [frzM, h1, Option.bind_some, h2, Option.map_some]
theorem frzN_tup {n : Nat} {xs ys : List D} {S S2 : Sto} (h : frzM (frzN n) xs S = some (ys, S2)) : frzN (n + 1) (.tup xs) S = some (.tup ys, S2) := by
  simp only [frzN, h, Option.map_some]
theorem frzN_cell {n c : Nat} {xs ys : List D} {S S2 : Sto} (hc : S[c]? = some (some (.lst xs))) (h : frzM (frzN n) xs (S.set c none) = some (ys, S2)) : frzN (n + 1) (.cell c) S = some (.lst ys, S2) := by
  simp only [frzN, hc, h, Option.map_some]
theorem frz_int {n : Nat} {i : Int} {S : Sto} : frzN n (.int i) S = some (.int i, S) := by cases n <;> rfl
theorem frz_str {n : Nat} {s : Str} {S : Sto} : frzN n (.str s) S = some (.str s, S) := by cases n <;> rfl
theorem IsPool.put {p c : Nat} {o : Option CO} {S : Sto} (h : IsPool S p) (hc : c ≠ p) : IsPool (S.set c o) p := by
  obtain ⟨x, y, h0, h1, e⟩ := h
  exact ⟨x, y, h0, h1, by rw [List.getElem?_set_ne hc]; exact e⟩
theorem chkL_c {S : Sto} {c : Nat} {xs : List D} (h : S[c]? = some (some (.lst xs))) : chkL (.cell c) S = true := by simp [chkL, DL.listOf, h]

/-! ### a told program, each of its lists one that is changed: where they are -/
abbrev RK := Nat × List Nat
def wsK (ws : List Wi) (ls : List Nat) : List D := List.zipWith (fun w l => .tup [.str w.1, .cell l]) ws ls
def rsK (rows : List Rw) (ks : List RK) : List D := List.zipWith (fun w k => .tup [.int w.1, .int w.2.1, .cell k.1]) rows ks
def cellsR (ks : List RK) : List Nat := ks.flatMap fun k => k.1 :: k.2
def pgC (a b c : Nat) : D := .tup [.cell a, .cell b, .cell c]
inductive LnAt (S : Sto) : List Wi → List Nat → Prop
  | nil : LnAt S [] []
  | cons {w : Wi} {ws : List Wi} {l : Nat} {ls : List Nat} : S[l]? = some (some (.lst (w.2.map .int))) → LnAt S ws ls → LnAt S (w :: ws) (l :: ls)
inductive RwAt (S : Sto) : List Rw → List RK → Prop
  | nil : RwAt S [] []
  | cons {w : Rw} {ws : List Rw} {k : RK} {ks : List RK} : S[k.1]? = some (some (.lst (wsK w.2.2 k.2))) → LnAt S w.2.2 k.2 → RwAt S ws ks → RwAt S (w :: ws) (k :: ks)
structure PgAt (S : Sto) (g : Pg) (a b c : Nat) (ks : List RK) : Prop where
  ha : S[a]? = some (some (.lst (g.1.map .str)))
  hb : S[b]? = some (some (.lst (g.2.1.map .str)))
  hc : S[c]? = some (some (.lst (rsK g.2.2 ks)))
  hr : RwAt S g.2.2 ks
  nd : (a :: b :: c :: cellsR ks).Nodup
theorem cellsR_cons {k : RK} {ks : List RK} : cellsR (k :: ks) = (k.1 :: k.2) ++ cellsR ks := by simp [cellsR]
theorem cellsR_snoc {k : RK} {ks : List RK} : cellsR (ks ++ [k]) = cellsR ks ++ (k.1 :: k.2) := by simp [cellsR]
theorem wsK_cons {w : Wi} {ws : List Wi} {l : Nat} {ls : List Nat} : wsK (w :: ws) (l :: ls) = .tup [.str w.1, .cell l] :: wsK ws ls := rfl
theorem rsK_cons {w : Rw} {ws : List Rw} {k : RK} {ks : List RK} : rsK (w :: ws) (k :: ks) = .tup [.int w.1, .int w.2.1, .cell k.1] :: rsK ws ks := rfl
section
variable {S S' : Sto} {r n m : Nat}
theorem LnAt.len {ws : List Wi} {ls : List Nat} (h : LnAt S ws ls) : ls.length = ws.length := by
  induction h with
  | nil => rfl
  | cons _ _ ih => rw [List.length_cons, List.length_cons, ih]
theorem RwAt.len {ws : List Rw} {ks : List RK} (h : RwAt S ws ks) : ks.length = ws.length := by
  induction h with
  | nil => rfl
  | cons _ _ _ ih => rw [List.length_cons, List.length_cons, ih]
theorem wsK_len {ws : List Wi} {ls : List Nat} (h : ls.length = ws.length) : (wsK ws ls).length = ws.length := by unfold wsK; rw [List.length_zipWith, h, Nat.min_self]
theorem rsK_len {ws : List Rw} {ks : List RK} (h : ks.length = ws.length) : (rsK ws ks).length = ws.length := by unfold rsK; rw [List.length_zipWith, h, Nat.min_self]
theorem wsK_snoc {ws : List Wi} {ls : List Nat} {w : Wi} {l : Nat} (h : ls.length = ws.length) : wsK (ws ++ [w]) (ls ++ [l]) = wsK ws ls ++ [.tup [.str w.1, .cell l]] := by
  unfold wsK
  rw [List.zipWith_append h.symm]; rfl
theorem rsK_snoc {ws : List Rw} {ks : List RK} {w : Rw} {k : RK} (h : ks.length = ws.length) : rsK (ws ++ [w]) (ks ++ [k]) = rsK ws ks ++ [.tup [.int w.1, .int w.2.1, .cell k.1]] := by
  unfold rsK
  rw [List.zipWith_append h.symm]; rfl
theorem LnAt.stay {ws : List Wi} {ls : List Nat} (h : LnAt S ws ls) (e : ∀ i ∈ ls, S'[i]? = S[i]?) : LnAt S' ws ls := by
  induction h with
  | nil => exact .nil
  | cons h1 _ ih => exact .cons (by rw [e _ (List.mem_cons_self ..)]; exact h1) (ih fun i hi => e i (List.mem_cons_of_mem _ hi))
theorem RwAt.stay {ws : List Rw} {ks : List RK} (h : RwAt S ws ks) (e : ∀ i ∈ cellsR ks, S'[i]? = S[i]?) : RwAt S' ws ks := by
  induction h with
  | nil => exact .nil
  | cons h1 h2 _ ih =>
    rw [cellsR_cons] at e
    exact .cons (by rw [e _ (by simp)]; exact h1) (h2.stay fun i hi => e i (by simp [hi])) (ih fun i hi => e i (List.mem_append_right _ hi))
theorem LnAt.snoc {ws : List Wi} {ls : List Nat} {w : Wi} {l : Nat} (h : LnAt S ws ls) (e : S[l]? = some (some (.lst (w.2.map .int)))) : LnAt S (ws ++ [w]) (ls ++ [l]) := by
  induction h with
  | nil => exact .cons e .nil
  | cons h1 _ ih => exact .cons h1 ih
theorem RwAt.snoc {ws : List Rw} {ks : List RK} {w : Rw} {k : RK} (h : RwAt S ws ks) (e1 : S[k.1]? = some (some (.lst (wsK w.2.2 k.2)))) (e2 : LnAt S w.2.2 k.2) : RwAt S (ws ++ [w]) (ks ++ [k]) := by
  induction h with
  | nil => exact .cons e1 e2 .nil
  | cons h1 h2 _ ih => exact .cons h1 h2 ih
theorem RwAt.get {ws : List Rw} {ks : List RK} (h : RwAt S ws ks) : ∀ {i : Nat} {w : Rw}, ws[i]? = some w → ∃ k, ks[i]? = some k ∧ (rsK ws ks)[i]? = some (.tup [.int w.1, .int w.2.1, .cell k.1]) ∧ S[k.1]? = some (some (.lst (wsK w.2.2 k.2))) ∧ LnAt S w.2.2 k.2 := by
  induction h with
  | nil => intro i w e; simp at e
  | cons h1 h2 h3 ih =>
    intro i w e
    match i, e with
    | 0, e => cases e; exact ⟨_, rfl, rfl, h1, h2⟩
    | i + 1, e =>
      obtain ⟨k, a, b, c, d⟩ := ih e
      exact ⟨k, a, b, c, d⟩
theorem LnAt.all {ws : List Wi} {ls : List Nat} (h : LnAt S ws ls) (hw : ∀ w ∈ ws, w.2.length < 1000) : ∀ x ∈ ls, ∃ xs, S[x]? = some (some (CO.lst xs)) ∧ xs.length < 1000 := by
  induction h with
  | nil => intro x hx; simp at hx
  | cons h1 _ ih =>
    intro x hx
    rcases List.mem_cons.mp hx with rfl | hx
    · exact ⟨_, h1, by rw [List.length_map]; exact hw _ (List.mem_cons_self ..)⟩
    · exact ih (fun w h => hw w (List.mem_cons_of_mem _ h)) x hx
theorem RwAt.all {ws : List Rw} {ks : List RK} (h : RwAt S ws ks) (hw : ∀ w ∈ ws, w.2.2.length < 1000 ∧ ∀ v ∈ w.2.2, v.2.length < 1000) : ∀ x ∈ cellsR ks, ∃ xs, S[x]? = some (some (CO.lst xs)) ∧ xs.length < 1000 := by
  induction h with
  | nil => intro x hx; simp [cellsR] at hx
  | cons h1 h2 _ ih =>
    intro x hx
    rw [cellsR_cons] at hx
    rcases List.mem_append.mp hx with hx | hx
    · rcases List.mem_cons.mp hx with rfl | hx
      · exact ⟨_, h1, by rw [wsK_len h2.len]; exact (hw _ (List.mem_cons_self ..)).1⟩
      · exact h2.all (hw _ (List.mem_cons_self ..)).2 x hx
    · exact ih (fun w h => hw w (List.mem_cons_of_mem _ h)) x hx
theorem RwAt.cnt {ws : List Rw} {ks : List RK} (h : RwAt S ws ks) (hw : ∀ w ∈ ws, w.2.2.length ≤ 12) : (cellsR ks).length ≤ 13 * ws.length := by
  induction h with
  | nil => simp [cellsR]
  | cons h1 h2 _ ih =>
    have := hw _ (List.mem_cons_self ..)
    have := ih fun w h => hw w (List.mem_cons_of_mem _ h)
    have := h2.len
    rw [cellsR_cons, List.length_append, List.length_cons, List.length_cons]
    omega
theorem PgAt.stay {g : Pg} {a b c : Nat} {ks : List RK} (h : PgAt S g a b c ks) (e : ∀ i ∈ a :: b :: c :: cellsR ks, S'[i]? = S[i]?) : PgAt S' g a b c ks :=
  ⟨by rw [e _ (by simp)]; exact h.ha, by rw [e _ (by simp)]; exact h.hb, by rw [e _ (by simp)]; exact h.hc, h.hr.stay fun i hi => e i (by simp [hi]), h.nd⟩
theorem PgAt.all {g : Pg} {a b c : Nat} {ks : List RK} (h : PgAt S g a b c ks) (G : PgOk r g) : (∀ x ∈ a :: b :: c :: cellsR ks, ∃ xs, S[x]? = some (some (CO.lst xs)) ∧ xs.length < 1000) ∧ (a :: b :: c :: cellsR ks).length ≤ 140 := by
  have h1 := G.nas.hi; have h2 := G.pls.hi; have h3 := G.len
  refine ⟨fun x hx => ?_, ?_⟩
  · simp only [List.mem_cons] at hx
    rcases hx with rfl | rfl | rfl | hx
    · exact ⟨_, h.ha, by rw [List.length_map]; omega⟩
    · exact ⟨_, h.hb, by rw [List.length_map]; omega⟩
    · exact ⟨_, h.hc, by rw [rsK_len h.hr.len]; omega⟩
    · refine h.hr.all (fun w hw => ?_) x hx
      have W := G.rows w hw
      exact ⟨by have := W.len; omega, fun v hv => by rw [(W.ws v hv).len]; omega⟩
  · have := h.hr.cnt fun w hw => (G.rows w hw).len
    simp only [List.length_cons]; omega
/-! #### read deeply -/
theorem deepK_ints (S : Sto) (n : Nat) (l : List Int) : (l.map D.int).map (deepD S n) = l.map .int := by
  rw [List.map_map]
  refine List.map_congr_left fun i _ => ?_
  cases n <;> rfl
theorem deepK_strs (S : Sto) (n : Nat) (l : List Str) : (l.map D.str).map (deepD S n) = l.map .str := by
  rw [List.map_map]
  refine List.map_congr_left fun i _ => ?_
  cases n <;> rfl
theorem deepK_cell {n c : Nat} {xs : List D} (h : S[c]? = some (some (.lst xs))) : deepD S (n + 1) (.cell c) = .lst (xs.map (deepD S n)) := by
  show (match S[c]? with
    | some (some (.lst xs)) => D.lst (xs.map (deepD S n))
    | _ => .cell c) = _
  rw [h]
theorem LnAt.deep {ws : List Wi} {ls : List Nat} (h : LnAt S ws ls) : (wsK ws ls).map (deepD S (n + 3)) = ws.map wD := by
  induction h with
  | nil => rfl
  | @cons w ws l ls h1 _ ih =>
    rw [wsK_cons, List.map_cons, List.map_cons, ih]
    congr 1
    show D.tup [deepD S (n + 2) (.str w.1), deepD S (n + 2) (.cell l)] = wD w
    rw [deepK_cell h1, deepK_ints]; rfl
theorem RwAt.deep {ws : List Rw} {ks : List RK} (h : RwAt S ws ks) : (rsK ws ks).map (deepD S (n + 5)) = ws.map rwD := by
  induction h with
  | nil => rfl
  | @cons w ws k ks h1 h2 _ ih =>
    rw [rsK_cons, List.map_cons, List.map_cons, ih]
    congr 1
    show D.tup [deepD S (n + 4) (.int w.1), deepD S (n + 4) (.int w.2.1), deepD S (n + 4) (.cell k.1)] = rwD w
    rw [deepK_cell h1, h2.deep]; rfl
theorem PgAt.deep {g : Pg} {a b c : Nat} {ks : List RK} (h : PgAt S g a b c ks) : deepD S 12 (pgC a b c) = pgD g := by
  show D.tup [deepD S 11 (.cell a), deepD S 11 (.cell b), deepD S 11 (.cell c)] = pgD g
  rw [deepK_cell h.ha, deepK_cell h.hb, deepK_cell h.hc, deepK_strs, deepK_strs, h.hr.deep]; rfl
/-! #### changed no more -/
theorem frzK_ints {k : Nat} {S : Sto} : ∀ l : List Int, frzM (frzN k) (l.map D.int) S = some (l.map .int, S)
  | [] => rfl
  | i :: l => by
    rw [List.map_cons]
    exact frzM_cons frz_int (frzK_ints l)
theorem frzK_strs {k : Nat} {S : Sto} : ∀ l : List Str, frzM (frzN k) (l.map D.str) S = some (l.map .str, S)
  | [] => rfl
  | i :: l => by
    rw [List.map_cons]
    exact frzM_cons frz_str (frzK_strs l)
/-- all but these cells stay -/
structure Off (cs : List Nat) (S S' : Sto) : Prop where
  len : S'.length = S.length
  oth : ∀ i, i ∉ cs → S'[i]? = S[i]?
theorem Off.set {c : Nat} {S : Sto} {x : Option CO} : Off [c] S (S.set c x) := ⟨by simp, fun i h => by rw [List.getElem?_set_ne (fun e => h (by rw [e]; exact List.mem_singleton.mpr rfl))]⟩
theorem Off.trans {a b : List Nat} {S S1 S2 : Sto} (h : Off a S S1) (h2 : Off b S1 S2) : Off (a ++ b) S S2 := ⟨h2.len.trans h.len, fun i hi => by
  rw [List.mem_append] at hi
  rw [h2.oth i fun z => hi (.inr z), h.oth i fun z => hi (.inl z)]⟩
theorem Off.mono {a b : List Nat} {S S1 : Sto} (h : Off a S S1) (h2 : ∀ x ∈ a, x ∈ b) : Off b S S1 := ⟨h.len, fun i hi => h.oth i fun z => hi (h2 i z)⟩
theorem LnAt.frz {k : Nat} {ws : List Wi} {ls : List Nat} (h : LnAt S ws ls) (nd : ls.Nodup) : ∃ S', frzM (frzN (k + 2)) (wsK ws ls) S = some (ws.map wD, S') ∧ Off ls S S' := by
  induction ls generalizing S ws with
  | nil => cases h; exact ⟨S, rfl, rfl, fun _ _ => rfl⟩
  | cons l ls ih =>
    cases h with
    | @cons w ws _ _ h1 h2 =>
      obtain ⟨n1, n2⟩ := List.nodup_cons.mp nd
      have hs : LnAt (S.set l none) ws ls := h2.stay fun i hi => by rw [List.getElem?_set_ne (fun e => n1 (by rw [e]; exact hi))]
      obtain ⟨S', e, C⟩ := ih hs n2
      refine ⟨S', ?_, by rw [C.len, List.length_set], fun i hi => ?_⟩
      · rw [wsK_cons]
        exact frzM_cons (frzN_tup (frzM_cons frz_str (frzM_cons (frzN_cell h1 (frzK_ints w.2)) rfl))) e
      · rw [C.oth i (fun z => hi (List.mem_cons_of_mem _ z)), List.getElem?_set_ne (fun e => hi (by rw [e]; exact List.mem_cons_self ..))]
theorem RwAt.frz {k : Nat} {ws : List Rw} {ks : List RK} (h : RwAt S ws ks) (nd : (cellsR ks).Nodup) : ∃ S', frzM (frzN (k + 4)) (rsK ws ks) S = some (ws.map rwD, S') ∧ Off (cellsR ks) S S' := by
  induction ks generalizing S ws with
  | nil => cases h; exact ⟨S, rfl, rfl, fun _ _ => rfl⟩
  | cons q ks ih =>
    cases h with
    | @cons w ws _ _ h1 h2 h3 =>
      rw [cellsR_cons] at nd
      obtain ⟨n1, n2, n3⟩ := List.nodup_append.mp nd
      obtain ⟨m1, m2⟩ := List.nodup_cons.mp n1
      have hw : LnAt (S.set q.1 none) w.2.2 q.2 := h2.stay fun i hi => by rw [List.getElem?_set_ne (fun e => m1 (by rw [e]; exact hi))]
      obtain ⟨S1, e1, C1⟩ := hw.frz (k := k) m2
      have hr : RwAt S1 ws ks := h3.stay fun i hi => by
        rw [C1.oth i (fun z => n3 i (List.mem_cons_of_mem _ z) i hi rfl), List.getElem?_set_ne (fun e => n3 q.1 (List.mem_cons_self ..) i hi e)]
      obtain ⟨S2, e2, C2⟩ := ih hr n2
      refine ⟨S2, ?_, by rw [C2.len, C1.len, List.length_set], fun i hi => ?_⟩
      · rw [rsK_cons]
        exact frzM_cons (frzN_tup (frzM_cons frz_int (frzM_cons frz_int (frzM_cons (frzN_cell h1 e1) rfl)))) e2
      · rw [cellsR_cons] at hi
        rw [C2.oth i (fun z => hi (List.mem_append_right _ z)), C1.oth i (fun z => hi (List.mem_append_left _ (List.mem_cons_of_mem _ z))), List.getElem?_set_ne (fun e => hi (by rw [e]; simp))]
theorem PgAt.frz {g : Pg} {a b c : Nat} {ks : List RK} (h : PgAt S g a b c ks) : ∃ S', frzN 12 (pgC a b c) S = some (pgD g, S') ∧ Off (a :: b :: c :: cellsR ks) S S' := by
  obtain ⟨h1, h2, h3, h4, nd⟩ := h
  obtain ⟨na, nd⟩ := List.nodup_cons.mp nd
  obtain ⟨nb, nd⟩ := List.nodup_cons.mp nd
  obtain ⟨nc, nd⟩ := List.nodup_cons.mp nd
  have ab : a ≠ b := fun e => na (by rw [e]; simp)
  have ac : a ≠ c := fun e => na (by rw [e]; simp)
  have bc : b ≠ c := fun e => nb (by rw [e]; simp)
  have h2' : (S.set a none)[b]? = some (some (.lst (g.2.1.map .str))) := by rw [List.getElem?_set_ne ab]; exact h2
  have h3' : ((S.set a none).set b none)[c]? = some (some (.lst (rsK g.2.2 ks))) := by rw [List.getElem?_set_ne bc, List.getElem?_set_ne ac]; exact h3
  have h4' : RwAt (((S.set a none).set b none).set c none) g.2.2 ks := h4.stay fun i hi => by
    rw [List.getElem?_set_ne (fun e => nc (by rw [e]; exact hi)), List.getElem?_set_ne (fun e => nb (by rw [e]; simp [hi])), List.getElem?_set_ne (fun e => na (by rw [e]; simp [hi]))]
  obtain ⟨S', e, C⟩ := h4'.frz (k := 6) nd
  refine ⟨S', frzN_tup (frzM_cons (frzN_cell h1 (frzK_strs g.1)) (frzM_cons (frzN_cell h2' (frzK_strs g.2.1)) (frzM_cons (frzN_cell h3' e) rfl))), by rw [C.len]; simp, fun i hi => ?_⟩
  simp only [List.mem_cons, not_or] at hi
  rw [C.oth i hi.2.2.2, List.getElem?_set_ne (Ne.symm hi.2.2.1), List.getElem?_set_ne (Ne.symm hi.2.1), List.getElem?_set_ne (Ne.symm hi.1)]
theorem frz_pg_ok {g : Pg} {a b c : Nat} {ks : List RK} {P : D → Sto → Prop} (h : PgAt S g a b c ks) (q : ∀ S', Off (a :: b :: c :: cellsR ks) S S' → P (pgD g) S') : Ok (mFrzDp (pgC a b c) S) P := by
  obtain ⟨S', e, C⟩ := h.frz
  unfold mFrzDp
  rw [e]
  exact ⟨q S' C⟩
/-! #### cells new behind a store -/
/-- cells from n on, all of them below k -/
structure NewC (n k : Nat) (cs : List Nat) : Prop where
  lo : ∀ x ∈ cs, n ≤ x
  hi : ∀ x ∈ cs, x < k
  nd : cs.Nodup
theorem NewC.nil {n k : Nat} : NewC n k [] := ⟨fun _ h => by simp at h, fun _ h => by simp at h, List.nodup_nil⟩
theorem NewC.app {n k l : Nat} {a b : List Nat} (h : NewC n k a) (h2 : NewC k l b) (h3 : n ≤ k) (h4 : k ≤ l) : NewC n l (a ++ b) :=
  ⟨fun x hx => (List.mem_append.mp hx).elim (h.lo x) fun z => Nat.le_trans h3 (h2.lo x z), fun x hx => (List.mem_append.mp hx).elim (fun z => Nat.lt_of_lt_of_le (h.hi x z) h4) (h2.hi x),
    List.nodup_append.mpr ⟨h.nd, h2.nd, fun x hx y hy e => by have := h.hi x hx; have := h2.lo y hy; omega⟩⟩
theorem NewC.one {n k c : Nat} (h1 : n ≤ c) (h2 : c < k) : NewC n k [c] := ⟨fun x hx => by rw [List.mem_singleton.mp hx]; exact h1, fun x hx => by rw [List.mem_singleton.mp hx]; exact h2, by simp⟩
theorem NewC.mono {n k n' k' : Nat} {a : List Nat} (h : NewC n k a) (h1 : n' ≤ n) (h2 : k ≤ k') : NewC n' k' a := ⟨fun x hx => Nat.le_trans h1 (h.lo x hx), fun x hx => Nat.lt_of_lt_of_le (h.hi x hx) h2, h.nd⟩
theorem NewC.perm {n k : Nat} {a b : List Nat} (h : NewC n k a) (p : a.Perm b) : NewC n k b := ⟨fun x hx => h.lo x (p.mem_iff.mpr hx), fun x hx => h.hi x (p.mem_iff.mpr hx), p.nodup_iff.mp h.nd⟩
end

theorem bulk_mem {x : D} : ∀ {xs : List D}, x ∈ xs → x.py.bulk + 1 ≤ PyData.bulkAll (D.pyL xs)
  | y :: ys, h => by
    simp only [D.pyL, PyData.bulkAll]
    rcases List.mem_cons.mp h with rfl | h
    · omega
    · have := bulk_mem h; omega
/-! ### whatever is looked at as a program -/
def wishesB (n : Nat) : D → Bool
  | .lst xs => decide (xs.length ≤ 12) && xs.all (wishB n)
  | _ => false
def numB (n : Nat) : D → Bool
  | .int i => decide (0 ≤ i) && decide (i < n)
  | _ => false
def rowBk (n m : Nat) : D → Bool
  | .tup [a, b, c] => numB m a && (numB m b && wishesB (2 * n) c)
  | _ => false
section
variable {n m k : Nat} {z u : Int} {d e : D} {S : Sto} {P : D → Sto → Prop} {Q : XD → Sto → Prop}
end

/-! ### whatever is looked at as a program: rows, the whole -/
section
variable {n m k : Nat} {z u : Int} {d e : D} {S : Sto} {P : D → Sto → Prop} {Q : XD → Sto → Prop}
theorem mem_dat {k b : Nat} {xs : List D} (h : DatE k b (.lst xs)) : (∀ x ∈ xs, DatE (k - 1) b x) ∧ xs.length ≤ b := by
  have hp := h.pl; have hs := h.sh; have hl := h.lf; have hb := h.bk
  simp only [D.pr, Bool.and_eq_true] at hp
  simp only [D.py, PyData.showable] at hs
  simp only [D.py, PyData.leavesShort] at hl
  simp only [D.py, PyData.bulk] at hb
  have sh : ∀ {xs : List D}, PyData.showableAll (D.pyL xs) = true → ∀ x ∈ xs, x.py.showable = true := by
    intro xs
    induction xs with
    | nil => intro _ x hx; cases hx
    | cons y ys ih =>
      intro h x hx
      simp only [D.pyL, PyData.showableAll, Bool.and_eq_true] at h
      rcases List.mem_cons.mp hx with rfl | hx
      · exact h.1
      · exact ih h.2 x hx
  have lf : ∀ {xs : List D}, PyData.leavesShortAll 1921 (D.pyL xs) = true → ∀ x ∈ xs, x.py.leavesShort 1921 = true := by
    intro xs
    induction xs with
    | nil => intro _ x hx; cases hx
    | cons y ys ih =>
      intro h x hx
      simp only [D.pyL, PyData.leavesShortAll, Bool.and_eq_true] at h
      rcases List.mem_cons.mp hx with rfl | hx
      · exact h.1
      · exact ih h.2 x hx
  exact ⟨fun x hx => ⟨prL_mem hp.2 x hx, sh hs x hx, lf hl x hx, by have := bulk_mem hx; omega⟩, Nat.le_trans (bulk_len xs) hb⟩
theorem tup_lst {k b : Nat} {xs : List D} (h : DatE k b (.tup xs)) : DatE k b (.lst xs) := ⟨h.pl, h.sh, h.lf, h.bk⟩
theorem lst_shape (d : D) (hro : ∀ xs, d ≠ .ro xs) : (isL d = false) ∨ ∃ xs, d = .lst xs := by
  cases d with
  | lst xs => exact .inr ⟨xs, rfl⟩
  | ro xs => exact absurd rfl (hro xs)
  | _ => exact .inl rfl
mutual
/-- no list within that can't be changed -/
def noRo : D → Bool
  | .ro _ => false
  | .lst xs => noRoL xs
  | .tup xs => noRoL xs
  | _ => true
def noRoL : List D → Bool
  | [] => true
  | x :: xs => noRo x && noRoL xs
end
theorem noRo_mem : ∀ {xs : List D}, noRoL xs = true → ∀ x ∈ xs, noRo x = true
  | y :: ys, h, x, hx => by
    simp only [noRoL, Bool.and_eq_true] at h
    rcases List.mem_cons.mp hx with rfl | hx
    · exact h.1
    · exact noRo_mem h.2 x hx
theorem noRo_ne {d : D} (h : noRo d = true) : ∀ xs, d ≠ .ro xs := fun xs e => by subst e; cases h
/-- what is looked at -/
structure Lk (k : Nat) (d : D) : Prop where
  dat : DatE k 8000 d
  ro : noRo d = true
theorem Lk.lst {k : Nat} {xs : List D} (h : Lk k (.lst xs)) : (∀ x ∈ xs, Lk (k - 1) x) ∧ xs.length ≤ 8000 := ⟨fun x hx => ⟨(mem_dat h.dat).1 x hx, noRo_mem h.ro x hx⟩, (mem_dat h.dat).2⟩
theorem Lk.tup {k : Nat} {xs : List D} (h : Lk k (.tup xs)) : (∀ x ∈ xs, Lk (k - 1) x) ∧ xs.length ≤ 8000 := ⟨fun x hx => ⟨(mem_dat (tup_lst h.dat)).1 x hx, noRo_mem h.ro x hx⟩, (mem_dat (tup_lst h.dat)).2⟩
theorem Lk.up {k m : Nat} (h : Lk k d) (l : k ≤ m) : Lk m d := ⟨h.dat.up l, h.ro⟩
theorem wishes_not {d : D} (h : ∀ xs, d ≠ .lst xs) {n : Nat} : wishesB n d = false := by
  cases d with
  | lst xs => exact absurd rfl (h xs)
  | _ => rfl
theorem are_wishes_gen (h : Lk 50 d) (hn : n ≤ 8) (hz : z = (n : Int)) (q : P (.bl (wishesB n d)) S) : Ok (Lw.f_are_wishes [.int z, d, .int 12] S) P := by
  unfold Lw.f_are_wishes
  refine k_fn rfl ?_
  unfold Lw.d_are_wishes
  walk_at "dl"
  refine o_isL h.dat.pl ?_
  walk_at "dl"
  rcases lst_shape d (noRo_ne h.ro) with e | ⟨xs, rfl⟩
  · rw [e]
    with_reducible refine k_ifF ?hc ?_
    case hc => simp
    walk_at "dl"
    rw [wishes_not (by intro xs z; rw [z] at e; cases e)] at q
    rw [trim_same rfl]
    exact q
  · obtain ⟨hx, hl⟩ := h.lst
    refine k_ifT rfl ?_
    walk_at "dl"
    have eW : wishesB n (.lst xs) = (decide (xs.length ≤ 12) && xs.all (wishB n)) := rfl
    by_cases h12 : xs.length ≤ 12
    · refine k_ifT (by simp; omega) ?_
      walk_at "dl"
      refine i_list ?_
      refine lc_mapN (l := xs) (f := fun x => x) (g := fun x => .bl (wishB n x)) rfl (fun i => by simp [itL]) (by rw [sizeLine_eq]; omega) ?_ ?_
      · intro x hm
        refine ⟨_, rfl, ?_⟩
        walk_at "dl"
        exact is_wish_ok ((hx x hm).dat.up (by decide)) hn hz ⟨rfl, rfl⟩
      walk_at "dl"
      refine o_all (bs := xs.map (wishB n)) (by
        rw [show xs.map (fun x => D.bl (wishB n x)) = (xs.map (wishB n)).map D.bl by rw [List.map_map]; rfl]
        exact blsOf_map _) ?_
      rw [trim_same rfl, List.all_map, show (id ∘ wishB n) = wishB n from rfl]
      rw [eW, decide_eq_true h12, Bool.true_and] at q
      exact q
    · refine k_ifF (by simp; omega) ?_
      walk_at "dl"
      rw [eW, decide_eq_false h12, Bool.false_and] at q
      rw [trim_same rfl]
      exact q
theorem is_number_of_gen (h : d.pr k = true) (hu : u = (m : Int)) (q : P (.bl (numB m d)) S) : Ok (Lw.f_is_number_of [d, .int u] S) P := by
  subst hu
  unfold Lw.f_is_number_of
  refine k_fn rfl ?_
  unfold Lw.d_is_number_of
  walk_at "dl"
  refine is_whole_ok h ?_
  walk_at "dl"
  cases d with
  | int i =>
    refine k_ifT (by rfl) ?_
    walk_at "dl"
    have e : numB m (.int i) = (decide (0 ≤ i) && decide (i < m)) := rfl
    by_cases h0 : 0 ≤ i
    · refine k_ifT (by simpa using h0) ?_
      walk_at "dl"
      rw [e, decide_eq_true h0, Bool.true_and] at q
      rw [trim_same rfl]
      exact q
    · refine k_ifF (by simpa using h0) ?_
      walk_at "dl"
      rw [e, decide_eq_false h0, Bool.false_and] at q
      rw [trim_same rfl]
      exact q
  | _ =>
    refine k_ifF (by simp [isW]) ?_
    walk_at "dl"
    rw [trim_same rfl]
    exact q
theorem tup3 (d : D) : (∃ a b c, d = .tup [a, b, c]) ∨ (∃ xs, d = .tup xs ∧ xs.length ≠ 3) ∨ isT d = false := by
  cases d with
  | tup xs =>
    match xs with
    | [a, b, c] => exact .inl ⟨a, b, c, rfl⟩
    | [] => exact .inr (.inl ⟨_, rfl, by simp⟩)
    | [_] => exact .inr (.inl ⟨_, rfl, by simp⟩)
    | [_, _] => exact .inr (.inl ⟨_, rfl, by simp⟩)
    | _ :: _ :: _ :: _ :: _ => exact .inr (.inl ⟨_, rfl, by simp⟩)
  | _ => exact .inr (.inr rfl)
theorem row_not {xs : List D} (h : xs.length ≠ 3) : rowBk n m (.tup xs) = false := by
  match xs, h with
  | [], _ => rfl
  | [_], _ => rfl
  | [_, _], _ => rfl
  | [_, _, _], h => exact absurd rfl h
  | _ :: _ :: _ :: _ :: _, _ => rfl
theorem row_not2 {d : D} (h : isT d = false) : rowBk n m d = false := by cases d <;> first | rfl | cases h
theorem is_row_gen (h : Lk 50 d) (hn : n ≤ 4) (hz : z = (n : Int)) (hu : u = (m : Int)) (q : P (.bl (rowBk n m d)) S) : Ok (Lw.f_is_row [.int z, .int u, d] S) P := by
  unfold Lw.f_is_row
  refine k_fn rfl ?_
  unfold Lw.d_is_row
  walk_at "dl"
  refine o_isT h.dat.pl ?_
  walk_at "dl"
  rcases tup3 d with ⟨a, b, c, rfl⟩ | ⟨xs, rfl, h3⟩ | hT
  · obtain ⟨hx, _⟩ := h.tup
    have ha := hx a (by simp); have hb := hx b (by simp); have hc := hx c (by simp)
    have eR : rowBk n m (.tup [a, b, c]) = (numB m a && (numB m b && wishesB (2 * n) c)) := rfl
    refine k_ifF (by simp [isT]) ?_
    walk_at "dl"
    refine k_ifF (by simp) ?_
    walk_at "dl"
    refine is_number_of_gen ha.dat.pl hu ?_
    walk_at "dl"
    cases h1 : numB m a with
    | false =>
      refine k_ifT (by simp) ?_
      walk_at "dl"
      rw [eR, h1, Bool.false_and] at q
      rw [trim_same rfl]
      exact q
    | true =>
      refine k_ifF (by simp) ?_
      walk_at "dl"
      refine is_number_of_gen hb.dat.pl hu ?_
      walk_at "dl"
      cases h2 : numB m b with
      | false =>
        refine k_ifT (by simp) ?_
        walk_at "dl"
        rw [eR, h1, h2, Bool.false_and, Bool.and_false] at q
        rw [trim_same rfl]
        exact q
      | true =>
        refine k_ifF (by simp) ?_
        walk_at "dl"
        refine o_mul (.of_left (by decide)) ?_
        walk_at "dl"
        show Ok (Lw.f_are_wishes [.int (2 * z), c, .int 12] S) _
        refine are_wishes_gen (n := 2 * n) (hc.up (by decide)) (by omega) (by omega) ?_
        rw [eR, h1, h2, Bool.true_and, Bool.true_and] at q
        rw [trim_same rfl]
        exact q
  · refine k_ifF (by simp [isT]) ?_
    walk_at "dl"
    refine k_ifT (by simp; omega) ?_
    walk_at "dl"
    rw [row_not h3] at q
    rw [trim_same rfl]
    exact q
  · rw [hT]
    refine k_ifT (by simp) ?_
    refine k_ifT (by simp) ?_
    walk_at "dl"
    rw [row_not2 hT] at q
    rw [trim_same rfl]
    exact q
end

/-! ### k73: told programs, their lists cells -/
theorem trim_keep {S S' : Sto} {d : D} (h : d.bel S.length = false) : trim S d S' = S' := by
  unfold trim
  rw [if_neg]
  rintro ⟨z, _⟩
  rw [h] at z; cases z
/-- a store grown: what stood stands -/
structure Gy (S S' : Sto) : Prop where
  len : S.length ≤ S'.length
  old : ∀ i, i < S.length → S'[i]? = S[i]?
theorem Gy.refl {S : Sto} : Gy S S := ⟨Nat.le_refl _, fun _ _ => rfl⟩
theorem Gy.trans {S S1 S2 : Sto} (a : Gy S S1) (b : Gy S1 S2) : Gy S S2 := ⟨Nat.le_trans a.len b.len, fun i h => (b.old i (Nat.lt_of_lt_of_le h a.len)).trans (a.old i h)⟩
theorem Gy.app {S T : Sto} : Gy S (S ++ T) := ⟨by simp, fun i h => List.getElem?_append_left h⟩
theorem Gy.set {S S1 : Sto} {o : Option CO} {c : Nat} (a : Gy S S1) (h : S.length ≤ c) : Gy S (S1.set c o) := ⟨by rw [List.length_set]; exact a.len, fun i hi => by rw [List.getElem?_set_ne (by omega)]; exact a.old i hi⟩
theorem Gy.off {S S1 : Sto} {cs : List Nat} (h : Off cs S S1) {T : Sto} (g : Gy T S) (hc : ∀ x ∈ cs, T.length ≤ x) : Gy T S1 := ⟨by rw [h.len]; exact g.len, fun i hi => by
  rw [h.oth i fun z => by have := hc i z; omega]; exact g.old i hi⟩
theorem trim_kc {S S' : Sto} {c : Nat} (h : S.length ≤ c) : trim S (.cell c) S' = S' := trim_keep (by simp [D.bel]; omega)
theorem at_end {S : Sto} {o : Option CO} : (S ++ [o])[S.length]? = some o := by simp
section
variable {S : Sto} {P : D → Sto → Prop} {r n m : Nat} {g : Pg} {d e : D}
theorem o_listC {xs : List D} (q : P (.cell S.length) (S ++ [some (.lst xs)])) : Ok (fListC [.lst xs] S) P := by
  unfold fListC
  simp only [seqOf, DL.listOf]
  exact ⟨q⟩
theorem copied_wishes_k {ws : List Wi} (hw : ws.length ≤ 1000) (q : ∀ c ls S', Gy S S' → S'[c]? = some (some (.lst (wsK ws ls))) → LnAt S' ws ls → NewC S.length S'.length (c :: ls) → P (.cell c) S') : Ok (Lw.f_copied_wishes [.lst (ws.map wD)] S) P := by
  unfold Lw.f_copied_wishes
  refine k_fn rfl ?_
  unfold Lw.d_copied_wishes
  walk_at "dl"
  refine i_list ?_
  refine k_lcL (fun i acc S' => Gy S S' ∧ ∃ ls, acc = wsK (ws.take i) ls ∧ LnAt S' (ws.take i) ls ∧ NewC S.length S'.length ls) ⟨.refl, [], rfl, .nil, .nil⟩ ?_ ?_
  · rintro i acc S1 d hd ⟨g1, ls, rfl, L1, N1⟩
    obtain ⟨w, hw', rfl⟩ := getElem?_map_some hd
    have hi := (List.getElem?_eq_some_iff.mp hw').1
    have ht : ws.take (i + 1) = ws.take i ++ [w] := by rw [List.take_add_one, hw']; rfl
    have hl := L1.len
    refine ⟨_, rfl, ?_⟩
    refine k_yes ?_
    rw [if_pos rfl]
    walk_at "dl"
    refine o_listC ?_
    have gy : Gy S1 (S1 ++ [some (CO.lst (w.2.map .int))]) := .app
    refine ⟨by rw [sizeLine_eq, wsK_len hl, List.length_take]; omega, g1.trans gy, ls ++ [S1.length], ?_, ?_, ?_⟩
    · rw [ht, wsK_snoc hl]
    · rw [ht]
      exact (L1.stay fun x hx => gy.old x (N1.hi x hx)).snoc at_end
    · exact N1.app (.one (Nat.le_refl _) (by simp)) g1.len (by simp)
  · rintro acc S1 ⟨g1, ls, rfl, L1, N1⟩
    rw [List.length_map, List.take_length] at L1 ⊢
    have gy : Gy S1 (S1 ++ [some (CO.lst (wsK ws ls))]) := .app
    walk_at "dl"
    rw [trim_kc g1.len]
    refine q _ ls _ (g1.trans gy) at_end (L1.stay fun x hx => gy.old x (N1.hi x hx)) ?_
    exact (N1.app (.one (Nat.le_refl S1.length) (by simp)) g1.len (by simp)).perm (by simpa using List.perm_append_comm)
theorem copied_row_k {w : Rw} (hw : w.2.2.length ≤ 1000) (q : ∀ c ls S', Gy S S' → S'[c]? = some (some (.lst (wsK w.2.2 ls))) → LnAt S' w.2.2 ls → NewC S.length S'.length (c :: ls) → P (.tup [.int w.1, .int w.2.1, .cell c]) S') : Ok (Lw.f_copied_row [rwD w] S) P := by
  unfold Lw.f_copied_row
  refine k_fn rfl ?_
  unfold Lw.d_copied_row rwD
  walk_at "dl"
  refine copied_wishes_k hw fun c ls S' g1 h1 h2 h3 => ?_
  walk_at "dl"
  have := h3.lo c (by simp)
  rw [trim_keep (by simp [D.bel, D.belL]; omega)]
  exact q c ls S' g1 h1 h2 h3
theorem copied_k (G : PgOk r g) (q : ∀ a b c ks S', Gy S S' → PgAt S' g a b c ks → NewC S.length S'.length (a :: b :: c :: cellsR ks) → P (pgC a b c) S') : Ok (Lw.f_copied [pgD g] S) P := by
  have hn := G.nas.hi; have hm := G.pls.hi; have gl := G.len
  unfold Lw.f_copied
  refine k_fn rfl ?_
  unfold Lw.d_copied pgD nmsD
  walk_at "dl"
  refine o_listC ?_
  walk_at "dl"
  refine o_listC ?_
  walk_at "dl"
  refine i_list ?_
  obtain ⟨S0, e0⟩ : ∃ S0, S0 = (S ++ [some (CO.lst (g.1.map D.str))]) ++ [some (CO.lst (g.2.1.map D.str))] := ⟨_, rfl⟩
  rw [← e0]
  have l0 : S0.length = S.length + 2 := by rw [e0]; simp
  have g0 : Gy S S0 := by rw [e0, List.append_assoc]; exact .app
  have at0 : ∀ k, k < 2 → S0[S.length + k]? = [some (CO.lst (g.1.map D.str)), some (CO.lst (g.2.1.map D.str))][k]? := fun k hk => by
    rw [e0, List.append_assoc, List.getElem?_append_right (by omega), show S.length + k - S.length = k by omega]; rfl
  refine k_lcL (fun i acc S' => Gy S0 S' ∧ ∃ ks, acc = rsK (g.2.2.take i) ks ∧ RwAt S' (g.2.2.take i) ks ∧ NewC S0.length S'.length (cellsR ks)) ⟨.refl, [], rfl, .nil, .nil⟩ ?_ ?_
  · rintro i acc S1 d hd ⟨g1, ks, rfl, R1, N1⟩
    obtain ⟨w, hw, rfl⟩ := getElem?_map_some hd
    have W := G.rows w (List.mem_of_getElem? hw)
    have hi := (List.getElem?_eq_some_iff.mp hw).1
    have ht : g.2.2.take (i + 1) = g.2.2.take i ++ [w] := by rw [List.take_add_one, hw]; rfl
    have hl := R1.len
    have w12 := W.len
    refine ⟨_, rfl, ?_⟩
    refine k_yes ?_
    rw [if_pos rfl]
    walk_at "dl"
    refine copied_row_k (by omega) fun c ls S2 g2 hc hL hN => ?_
    refine ⟨by rw [sizeLine_eq, rsK_len hl, List.length_take]; omega, g1.trans g2, ks ++ [(c, ls)], ?_, ?_, ?_⟩
    · rw [ht, rsK_snoc hl]
    · rw [ht]
      exact (R1.stay fun x hx => g2.old x (N1.hi x hx)).snoc hc hL
    · rw [cellsR_snoc]
      exact N1.app hN g1.len g2.len
  · rintro acc S1 ⟨g1, ks, rfl, R1, N1⟩
    rw [List.length_map, List.take_length] at R1 ⊢
    walk_at "dl"
    have gy : Gy S1 (S1 ++ [some (CO.lst (rsK g.2.2 ks))]) := .app
    have gA := g1.len
    rw [trim_keep (by simp [D.bel, D.belL])]
    have eA : (S ++ [some (CO.lst (g.1.map D.str))]).length = S.length + 1 := by simp
    rw [eA]
    refine q S.length (S.length + 1) S1.length ks _ (g0.trans (g1.trans gy)) ⟨?_, ?_, at_end, R1.stay fun x hx => gy.old x (N1.hi x hx), ?_⟩ ?_
    · rw [(g1.trans gy).old _ (by omega)]; exact at0 0 (by decide)
    · rw [(g1.trans gy).old _ (by omega)]; exact at0 1 (by decide)
    all_goals
      have n2 : NewC S.length S0.length [S.length, S.length + 1] := ⟨fun x hx => by simp at hx; omega, fun x hx => by simp at hx; omega, by simp⟩
      have n1 : NewC S1.length (S1 ++ [some (CO.lst (rsK g.2.2 ks))]).length [S1.length] := .one (Nat.le_refl _) (by simp)
      have n3 : NewC S.length (S1 ++ [some (CO.lst (rsK g.2.2 ks))]).length ([S.length, S.length + 1] ++ (cellsR ks ++ [S1.length])) := n2.app (N1.app n1 g1.len (by simp)) (by omega) (by simp; omega)
      have n4 := n3.perm (b := S.length :: (S.length + 1) :: S1.length :: cellsR ks) (by
        show (S.length :: (S.length + 1) :: (cellsR ks ++ [S1.length])).Perm _
        exact ((List.perm_append_comm.trans (by simp)).cons _).cons _)
    · exact n4.nd
    · exact n4
end

/-! ### k73: a bench; what it shows -/
/-- the bench's object: its program, what it was ahead of each deed, no paper -/
structure BnAt (S : Sto) (bn : Nat) (g : Pg) (past : List Pg) : Prop where
  ins : S[bn]? = some (some (.ins "Bench" [("own_program", pgD g), ("own_past", .tup (past.map pgD)), ("own_paper", .non)]))
theorem BnAt.up {S S' : Sto} {bn : Nat} {g : Pg} {past : List Pg} (B : BnAt S bn g past) (h : ∀ x, x < S.length → S'[x]? = S[x]?) : BnAt S' bn g past := ⟨(h _ (List.getElem?_eq_some_iff.mp B.ins).1).trans B.ins⟩
theorem fi_bprog : Lw.fi "Bench" "own_program" = true := by decide +kernel
theorem fi_bpast : Lw.fi "Bench" "own_past" = true := by decide +kernel
theorem fi_bpap : Lw.fi "Bench" "own_paper" = true := by decide +kernel
section
variable {S : Sto} {P : D → Sto → Prop} {bn r : Nat} {g : Pg} {past : List Pg}
theorem deeds_ok (B : BnAt S bn g past) (q : P (.int (past.length : Nat)) S) : Ok (Lw.f_Bench_m_deeds [.cell bn] S) P := by
  unfold Lw.f_Bench_m_deeds
  refine k_fn rfl ?_
  unfold Lw.d_Bench_m_deeds
  walk_at "dl"
  refine o_fldI B.ins fi_bpast (by rfl) ?_
  walk_at "dl"
  rw [List.length_map, trim_same rfl]
  exact q
theorem keeps_ok (B : BnAt S bn g past) (q : P (.bl false) S) : Ok (Lw.f_Bench_m_keeps [.cell bn] S) P := by
  unfold Lw.f_Bench_m_keeps
  refine k_fn rfl ?_
  unfold Lw.d_Bench_m_keeps
  walk_at "dl"
  refine o_fldI B.ins fi_bpap (by rfl) ?_
  walk_at "dl"
  refine .of rfl ?_
  rw [trim_same rfl]
  exact q
theorem o_lenOB {n : Nat} {C : Str} {fm : FM} {fs : List (Str × D)} {i : Int} (h : S[n]? = some (some (.ins C fs))) (h0 : 0 ≤ i) (h1 : i < 2 ^ 63) (hf : Ok (fm [.cell n] S) fun d S' => d = .int i ∧ S' = S) (q : P (.int i) S) : Ok (fLenO C fm [.cell n] S) P := by
  obtain ⟨d, S', e, rfl, rfl⟩ := hf.get
  unfold fLenO
  dsimp only
  rw [h]
  dsimp only
  rw [if_pos rfl, e]
  dsimp only
  rw [if_pos ⟨h0, h1⟩]
  exact ⟨q⟩
theorem blen_ok (B : BnAt S bn g past) (hg : g.2.2.length ≤ 1000) (q : P (.int (g.2.2.length : Nat)) S) : Ok (fLenO "Bench" Lw.f_Bench_m___len__ [.cell bn] S) P := by
  refine o_lenOB B.ins (by omega) (by omega) ?_ q
  unfold Lw.f_Bench_m___len__
  refine k_fn rfl ?_
  unfold Lw.d_Bench_m___len__
  walk_at "dl"
  refine o_fldI B.ins fi_bprog (by rfl) ?_
  unfold pgD
  walk_at "dl"
  rw [List.length_map, trim_same rfl]
  exact ⟨rfl, rfl⟩
theorem bprog_ok (G : PgOk r g) (B : BnAt S bn g past) (q : ∀ a b c ks S', Gy S S' → PgAt S' g a b c ks → NewC S.length S'.length (a :: b :: c :: cellsR ks) → P (pgC a b c) S') : Ok (Lw.f_Bench_m_program [.cell bn] S) P := by
  unfold Lw.f_Bench_m_program
  refine k_fn rfl ?_
  unfold Lw.d_Bench_m_program
  walk_at "dl"
  refine o_fldI B.ins fi_bprog (by rfl) ?_
  walk_at "dl"
  refine copied_k G fun a b c ks S' g1 A N => ?_
  have := N.lo a (by simp)
  rw [trim_keep (by unfold pgC; simp [D.bel, D.belL]; omega)]
  exact q a b c ks S' g1 A N
def seatD (g : Pg) (past : List Pg) : D := .lst [.tup [nmsD g.1, nmsD g.2.1], .lst (g.2.2.map rwD), .lst (past.map fun h => .lst (h.2.2.map rwD))]
theorem o_neDpF {x : Str} (q : P (.bl false) S) : Ok (oNeDp (.str x) (.str x) S) P := by
  refine (show Ok (oNeDp (.str x) (.str x) S) P from ⟨?_⟩)
  show P (.bl (!decide (x = x))) S
  rw [decide_eq_true rfl]
  exact q
theorem o_eqDpT {x : Str} (q : P (.bl true) S) : Ok (oEqDp (.str x) (.str x) S) P := by
  refine (show Ok (oEqDp (.str x) (.str x) S) P from ⟨?_⟩)
  show P (.bl (decide (x = x))) S
  rw [decide_eq_true rfl]
  exact q
theorem chkL_cB {S : Sto} {c : Nat} {xs : List D} (h : S[c]? = some (some (.lst xs))) : chkL (.cell c) S = true := by simp [chkL, DL.listOf, h]
theorem trim_back21 {S S' : Sto} {d : D} (h : ∀ i : Nat, i < S.length → S'[i]? = S[i]?) (hl : S.length ≤ S'.length) (hd : d.bel S.length = true) : trim S d S' = S := by
  have hc : Cut S d S' := ⟨hd, fun i c hi e => .inl (by rw [← h i hi]; exact e)⟩
  rw [trim_cut hc]
  refine List.ext_getElem? fun i => ?_
  by_cases hi : i < S.length
  · rw [List.getElem?_take_of_lt hi, h i hi]
  · rw [List.getElem?_eq_none (by rw [List.length_take]; omega), List.getElem?_eq_none (by omega)]
theorem o_eqDpIB {a b : Int} (q : P (.bl (decide (a = b))) S) : Ok (oEqDp (.int a) (.int b) S) P := by
  unfold oEqDp
  rw [show deepD S 12 (.int a) = .int a from rfl, show deepD S 12 (.int b) = .int b from rfl]
  have : eqD (.int a) (.int b) (.int a) (.int b) = some (decide (a = b)) := rfl
  rw [this]
  exact ⟨q⟩
theorem fst_mem {k : RK} : ∀ {ks : List RK}, k ∈ ks → k.1 ∈ cellsR ks := fun {ks} h => List.mem_flatMap.mpr ⟨k, h, by simp⟩
theorem fst_nd : ∀ {ks : List RK}, (cellsR ks).Nodup → (ks.map (·.1)).Nodup
  | [], _ => List.nodup_nil
  | k :: ks, h => by
    rw [cellsR_cons, List.nodup_append] at h
    obtain ⟨h1, h2, h3⟩ := h
    rw [List.map_cons, List.nodup_cons]
    refine ⟨fun hm => ?_, fst_nd h2⟩
    obtain ⟨k', hk, e⟩ := List.mem_map.mp hm
    exact h3 k.1 (by simp) k'.1 (fst_mem hk) e.symm
set_option maxHeartbeats 4000000 in
theorem shows_ok (G : PgOk r g) (h0 : 0 < r) (hr : r ≤ 1000) (B : BnAt S bn g past) (hp : past.length ≤ 1000) (q : P (.bl true) S) : Ok (Lw.f__law_shows [.cell bn, seatD g past] S) P := by
  have gl := G.len
  obtain ⟨kp, hkp⟩ : ∃ kp, kp = (pgD g).shown := ⟨_, rfl⟩
  unfold Lw.f__law_shows
  refine k_fn rfl ?_
  unfold Lw.d__law_shows
  walk_at "dl"
  refine ⟨[.tup [nmsD g.1, nmsD g.2.1], .lst (g.2.2.map rwD), .lst (past.map fun h => .lst (h.2.2.map rwD))], _, rfl, rfl, rfl, ?_⟩
  walk_at "dl"
  refine i_rng1 (by decide) (by decide) ?_
  refine k_forL (fun i ρ S' => (∀ x, x < S.length → S'[x]? = S[x]?) ∧ S.length ≤ S'.length ∧ ∃ x2 x6 x7 : Option D, ρ = [some (.cell bn), some (seatD g past), x2, some (.tup [nmsD g.1, nmsD g.2.1]), some (.lst (g.2.2.map rwD)), some (.lst (past.map fun h => .lst (h.2.2.map rwD))), x6, x7]) ⟨fun _ _ => rfl, Nat.le_refl _, _, _, _, rfl⟩ ?_ ?_
  · rintro i ρ S1 d hd ⟨o1, l1, x2, x6, x7, rfl⟩
    obtain ⟨z, _, _, rfl⟩ := rng_get hd
    have B1 := B.up o1
    refine ⟨_, rfl, ?_⟩
    walk_at "dl"
    refine k_mo ?_
    walk_at "dl"
    refine ⟨bn, _, rfl, B1.ins, rfl, ?_⟩
    walk_at "dl"
    refine bprog_ok G B1 fun a b c ks S2 g2 A N => ?_
    walk_at "dl"
    refine o_reprP A.deep (dat_pg (k := 54) G h0 (by omega)) (by decide) ?_
    rw [← hkp]
    walk_at "dl"
    rw [show D.tup [nmsD g.1, nmsD g.2.1, .lst (g.2.2.map rwD)] = pgD g from rfl]
    refine o_reprP (e := pgD g) (deep_pr (dat_pg (k := 54) G h0 (by omega)).pl) (dat_pg (k := 54) G h0 (by omega)) (by decide) ?_
    rw [← hkp]
    refine o_neDpF ?_
    walk_at "dl"
    try refine k_ifF (by simp) ?_
    unfold pgC
    walk_at "dl"
    refine o_isi (k := "tuple") rfl rfl ?_
    walk_at "dl"
    try refine k_ifF (by simp) ?_
    walk_at "dl"
    have nd := A.nd
    have hla := (List.getElem?_eq_some_iff.mp A.ha).1
    have hlb := (List.getElem?_eq_some_iff.mp A.hb).1
    have hlc := (List.getElem?_eq_some_iff.mp A.hc).1
    have ga := N.lo a (by simp)
    have gb := N.lo b (by simp)
    have gc := N.lo c (by simp)
    simp only [List.nodup_cons, List.mem_cons, not_or] at nd
    refine ⟨chkL_cB A.ha, ?_⟩
    walk_at "dl"
    refine o_app A.ha (by rw [sizeLine_eq, List.length_map]; have := G.nas.hi; omega) ?_
    walk_at "dl"
    have hb1 : ∀ {o : Option CO}, (S2.set a o)[b]? = some (some (.lst (g.2.1.map .str))) := fun {o} => by rw [List.getElem?_set_ne nd.1.1]; exact A.hb
    refine ⟨chkL_cB hb1, ?_⟩
    walk_at "dl"
    refine o_clear hb1 ?_
    obtain ⟨S3, hS3⟩ : ∃ S3, S3 = (S2.set a (some (CO.lst (g.1.map D.str ++ [D.str "z"])))).set b (some (.lst [])) := ⟨_, rfl⟩
    rw [← hS3]
    have l3 : S3.length = S2.length := by rw [hS3, List.length_set, List.length_set]
    have o3 : ∀ x, x ≠ a → x ≠ b → S3[x]? = S2[x]? := fun x h1 h2 => by rw [hS3, List.getElem?_set_ne (Ne.symm h2), List.getElem?_set_ne (Ne.symm h1)]
    clear hS3
    have c3 : S3[c]? = some (some (.lst (rsK g.2.2 ks))) := by rw [o3 c (Ne.symm nd.1.2.1) (Ne.symm nd.2.1.1)]; exact A.hc
    have hlk := A.hr.len
    have ndk := (List.nodup_cons.mp (List.nodup_cons.mp (List.nodup_cons.mp A.nd).2).2).2
    have ndf := fst_nd ndk
    have nk : ∀ k ∈ ks, k.1 ≠ a ∧ k.1 ≠ b ∧ k.1 ≠ c := fun k hk => by
      have h1 := fst_mem hk
      exact ⟨fun e => nd.1.2.2 (e ▸ h1), fun e => nd.2.1.2 (e ▸ h1), fun e => nd.2.2.1 (e ▸ h1)⟩
    have lr : (rsK g.2.2 ks).length = g.2.2.length := by unfold rsK; rw [List.length_zipWith, hlk, Nat.min_self]
    walk_at "dl"
    refine i_cell c3 ?_
    refine k_forN (xs := rsK g.2.2 ks) (fun i ρ S' => S'[c]? = some (some (.lst (rsK g.2.2 ks))) ∧ S'.length = S3.length ∧ (∀ x, x < S.length → S'[x]? = S3[x]?) ∧ (∀ (j : Nat) k, i ≤ j → ks[j]? = some k → S'[k.1]? = S3[k.1]?) ∧ ∃ x7 : Option D, ρ = [some (.cell bn), some (seatD g past), some (.int z), some (.tup [nmsD g.1, nmsD g.2.1]), some (.lst (g.2.2.map rwD)), some (.lst (past.map fun h => .lst (h.2.2.map rwD))), some (.tup [.cell a, .cell b, .cell c]), x7]) rfl ⟨c3, rfl, fun _ _ => rfl, fun _ _ _ _ => rfl, _, rfl⟩ (fun i ρ S' h => itC_nx h.1) ?_ ?_
    · rintro i ρ S4 d hd ⟨c4, l4, o4, k4, y7, rfl⟩
      have hi := (List.getElem?_eq_some_iff.mp hd).1
      rw [lr] at hi
      obtain ⟨k, hk, e1, e2, _⟩ := A.hr.get (List.getElem?_eq_getElem hi)
      rw [e1] at hd
      cases hd
      have hkm := List.mem_of_getElem? hk
      obtain ⟨na, nb, nc⟩ := nk k hkm
      have e4 : S4[k.1]? = some (some (.lst (wsK g.2.2[i].2.2 k.2))) := by rw [k4 i k (Nat.le_refl _) hk, o3 _ na nb]; exact e2
      refine ⟨_, rfl, ?_⟩
      walk_at "dl"
      refine ⟨chkL_cB e4, ?_⟩
      walk_at "dl"
      have hw12 := (G.rows _ (List.getElem_mem hi)).len
      refine o_app e4 (by rw [sizeLine_eq]; unfold wsK; rw [List.length_zipWith]; omega) ?_
      have klo := N.lo k.1 (by simp only [List.mem_cons]; exact .inr (.inr (.inr (fst_mem hkm))))
      have hS1 := l1
      refine ⟨by rw [List.getElem?_set_ne nc]; exact c4, by rw [List.length_set]; exact l4, fun x hx => by rw [List.getElem?_set_ne (by omega)]; exact o4 x hx, fun j k' hj hk' => ?_, _, rfl⟩
      rw [List.getElem?_set_ne, k4 j k' (by omega) hk']
      intro e
      have i1 : (ks.map (·.1))[i]? = some k.1 := by rw [List.getElem?_map, hk]; rfl
      have i2 : (ks.map (·.1))[j]? = some k'.1 := by rw [List.getElem?_map, hk']; rfl
      have hi' := (List.getElem?_eq_some_iff.mp i1).1
      have := (List.getElem?_inj (j := j) hi' ndf).mp (by rw [i1, i2, e])
      omega
    · rintro ρ S4 ⟨c4, l4, o4, k4, y7, rfl⟩
      walk_at "dl"
      refine ⟨chkL_cB c4, ?_⟩
      walk_at "dl"
      refine o_clear c4 ?_
      have g2l := g2.len
      refine ⟨fun x hx => ?_, by rw [List.length_set]; omega, _, _, _, rfl⟩
      rw [List.getElem?_set_ne (by omega), o4 x hx, o3 x (by omega) (by omega), g2.old x (by omega), o1 x hx]
  · rintro ρ S1 ⟨o1, l1, x2, x6, x7, rfl⟩
    have B1 := B.up o1
    walk_at "dl"
    refine k_mo ?_
    walk_at "dl"
    refine ⟨bn, _, rfl, B1.ins, rfl, ?_⟩
    walk_at "dl"
    refine deeds_ok B1 ?_
    walk_at "dl"
    rw [List.length_map]
    refine o_eqDpIB ?_
    rw [decide_eq_true rfl]
    walk_at "dl"
    try refine k_ifT (by simp) ?_
    walk_at "dl"
    refine blen_ok B1 (by omega) ?_
    walk_at "dl"
    rw [List.length_map]
    refine o_eqDpIB ?_
    rw [decide_eq_true rfl]
    walk_at "dl"
    refine k_mo ?_
    walk_at "dl"
    refine ⟨bn, _, rfl, B1.ins, rfl, ?_⟩
    walk_at "dl"
    refine keeps_ok B1 ?_
    walk_at "dl"
    refine o_reprP (d := .bl false) (e := .bl false) (b := 0) rfl DatE.bl (by decide) ?_
    walk_at "dl"
    rw [show (D.bl false).shown = Str.ofString "False" by decide +kernel]
    refine o_eqDpT ?_
    rw [trim_back21 o1 l1 rfl]
    exact q
end

/-! ### k73: rows handed in cells, copied -/
theorem LnAt.get {S : Sto} {ws : List Wi} {ls : List Nat} (h : LnAt S ws ls) : ∀ {i : Nat} {w : Wi}, ws[i]? = some w → ∃ l, ls[i]? = some l ∧ (wsK ws ls)[i]? = some (.tup [.str w.1, .cell l]) ∧ S[l]? = some (some (.lst (w.2.map .int))) := by
  induction h with
  | nil => intro i w e; simp at e
  | cons h1 h2 ih =>
    intro i w e
    match i, e with
    | 0, e => cases e; exact ⟨_, rfl, rfl, h1⟩
    | i + 1, e =>
      obtain ⟨l, a, b, c⟩ := ih e
      exact ⟨l, a, b, c⟩
/-- a row in cells -/
structure RkAt (S : Sto) (w : Rw) (c : Nat) (ls : List Nat) : Prop where
  c : S[c]? = some (some (.lst (wsK w.2.2 ls)))
  l : LnAt S w.2.2 ls
theorem RkAt.up {S S' : Sto} {w : Rw} {c : Nat} {ls : List Nat} (R : RkAt S w c ls) (h : ∀ x, x = c ∨ x ∈ ls → S'[x]? = S[x]?) : RkAt S' w c ls := ⟨(h c (.inl rfl)).trans R.c, R.l.stay fun x hx => h x (.inr hx)⟩
def rkD (w : Rw) (c : Nat) : D := .tup [.int w.1, .int w.2.1, .cell c]
section
variable {S : Sto} {P : D → Sto → Prop} {w : Rw}
theorem o_lstCsB {d : D} {xs : List D} (h : seqOf S d = some xs) (q : P (.cell S.length) (S ++ [some (.lst xs)])) : Ok (fListC [d] S) P := by
  unfold fListC
  dsimp only
  rw [h]; exact ⟨q⟩
theorem copied_wishesC {ws : List Wi} {c0 : Nat} {ls0 : List Nat} (hw : ws.length ≤ 1000) (h0 : S[c0]? = some (some (.lst (wsK ws ls0)))) (L0 : LnAt S ws ls0) (q : ∀ c ls S', Gy S S' → S'[c]? = some (some (.lst (wsK ws ls))) → LnAt S' ws ls → NewC S.length S'.length (c :: ls) → P (.cell c) S') : Ok (Lw.f_copied_wishes [.cell c0] S) P := by
  have lw : (wsK ws ls0).length = ws.length := by unfold wsK; rw [List.length_zipWith, L0.len, Nat.min_self]
  unfold Lw.f_copied_wishes
  refine k_fn rfl ?_
  unfold Lw.d_copied_wishes
  walk_at "dl"
  refine i_cell h0 ?_
  refine k_lcN (xs := wsK ws ls0) (fun i acc S' => Gy S S' ∧ ∃ ls, acc = wsK (ws.take i) ls ∧ LnAt S' (ws.take i) ls ∧ NewC S.length S'.length ls) rfl ⟨.refl, [], rfl, .nil, .nil⟩ (fun i acc S' h => itC_nx (by rw [h.1.old c0 (List.getElem?_eq_some_iff.mp h0).1]; exact h0)) ?_ ?_
  · rintro i acc S1 d hd ⟨g1, ls, rfl, L1, N1⟩
    have hi := (List.getElem?_eq_some_iff.mp hd).1
    rw [lw] at hi
    have hw' : ws[i]? = some ws[i] := List.getElem?_eq_getElem hi
    obtain ⟨l, e1, e2, e3⟩ := L0.get hw'
    rw [e2] at hd
    cases hd
    have e4 : S1[l]? = some (some (.lst (ws[i].2.map .int))) := (g1.old l (List.getElem?_eq_some_iff.mp e3).1).trans e3
    have ht : ws.take (i + 1) = ws.take i ++ [ws[i]] := by rw [List.take_add_one, hw']; rfl
    have hl := L1.len
    refine ⟨_, rfl, ?_⟩
    refine k_yes ?_
    rw [if_pos rfl]
    walk_at "dl"
    refine o_lstCsB (xs := ws[i].2.map .int) (by simp only [seqOf, DL.listOf, e4]) ?_
    have gy : Gy S1 (S1 ++ [some (CO.lst (ws[i].2.map .int))]) := .app
    refine ⟨by rw [sizeLine_eq, wsK_len hl, List.length_take]; omega, g1.trans gy, ls ++ [S1.length], ?_, ?_, ?_⟩
    · rw [ht, wsK_snoc hl]
    · rw [ht]
      exact (L1.stay fun x hx => gy.old x (N1.hi x hx)).snoc at_end
    · exact N1.app (.one (Nat.le_refl _) (by simp)) g1.len (by simp)
  · rintro acc S1 ⟨g1, ls, rfl, L1, N1⟩
    rw [lw, List.take_length] at L1 ⊢
    have gy : Gy S1 (S1 ++ [some (CO.lst (wsK ws ls))]) := .app
    walk_at "dl"
    rw [trim_kc g1.len]
    refine q _ ls _ (g1.trans gy) at_end (L1.stay fun x hx => gy.old x (N1.hi x hx)) ?_
    exact (N1.app (.one (Nat.le_refl S1.length) (by simp)) g1.len (by simp)).perm (by simpa using List.perm_append_comm)
theorem copied_rowC {c0 : Nat} {ls0 : List Nat} (hw : w.2.2.length ≤ 1000) (R : RkAt S w c0 ls0) (q : ∀ c ls S', Gy S S' → RkAt S' w c ls → NewC S.length S'.length (c :: ls) → P (rkD w c) S') : Ok (Lw.f_copied_row [rkD w c0] S) P := by
  unfold Lw.f_copied_row
  refine k_fn rfl ?_
  unfold Lw.d_copied_row rkD
  walk_at "dl"
  refine copied_wishesC hw R.c R.l fun c ls S' g1 h1 h2 h3 => ?_
  walk_at "dl"
  have := h3.lo c (by simp)
  rw [trim_keep (by simp [D.bel, D.belL]; omega)]
  exact q c ls S' g1 ⟨h1, h2⟩ h3
theorem frz_rowK {c : Nat} {ls : List Nat} (R : RkAt S w c ls) (nd : (c :: ls).Nodup) (q : ∀ S', Off (c :: ls) S S' → P (rwD w) S') : Ok (mFrzDp (rkD w c) S) P := by
  obtain ⟨nc, nl⟩ := List.nodup_cons.mp nd
  have L' : LnAt (S.set c none) w.2.2 ls := R.l.stay fun i hi => by rw [List.getElem?_set_ne fun e => nc (by rw [e]; exact hi)]
  obtain ⟨S', e, C⟩ := L'.frz (k := 8) nl
  have e2 : frzN 12 (rkD w c) S = some (rwD w, S') := frzN_tup (frzM_cons frz_int (frzM_cons frz_int (frzM_cons (frzN_cell R.c e) rfl)))
  unfold mFrzDp
  rw [e2]
  refine ⟨q S' ⟨by rw [C.len]; simp, fun i hi => ?_⟩⟩
  simp only [List.mem_cons, not_or] at hi
  rw [C.oth i hi.2, List.getElem?_set_ne (Ne.symm hi.1)]
theorem law_copy_ok (hw : w.2.2.length ≤ 1000) (q : ∀ c ls S', Gy S S' → RkAt S' w c ls → NewC S.length S'.length (c :: ls) → P (rkD w c) S') : Ok (Lw.f__law_copy [rwD w] S) P := by
  unfold Lw.f__law_copy
  refine k_fn rfl ?_
  unfold Lw.d__law_copy rwD
  walk_at "dl"
  refine i_list ?_
  refine k_lcL (fun i acc S' => Gy S S' ∧ ∃ ls, acc = wsK (w.2.2.take i) ls ∧ LnAt S' (w.2.2.take i) ls ∧ NewC S.length S'.length ls) ⟨.refl, [], rfl, .nil, .nil⟩ ?_ ?_
  · rintro i acc S1 d hd ⟨g1, ls, rfl, L1, N1⟩
    obtain ⟨v, hw', rfl⟩ := getElem?_map_some hd
    have hi := (List.getElem?_eq_some_iff.mp hw').1
    have ht : w.2.2.take (i + 1) = w.2.2.take i ++ [v] := by rw [List.take_add_one, hw']; rfl
    have hl := L1.len
    refine ⟨_, rfl, ?_⟩
    refine k_yes ?_
    rw [if_pos rfl]
    walk_at "dl"
    refine o_listC ?_
    have gy : Gy S1 (S1 ++ [some (CO.lst (v.2.map .int))]) := .app
    refine ⟨by rw [sizeLine_eq, wsK_len hl, List.length_take]; omega, g1.trans gy, ls ++ [S1.length], ?_, ?_, ?_⟩
    · rw [ht, wsK_snoc hl]
    · rw [ht]
      exact (L1.stay fun x hx => gy.old x (N1.hi x hx)).snoc at_end
    · exact N1.app (.one (Nat.le_refl _) (by simp)) g1.len (by simp)
  · rintro acc S1 ⟨g1, ls, rfl, L1, N1⟩
    rw [List.length_map, List.take_length] at L1 ⊢
    have gy : Gy S1 (S1 ++ [some (CO.lst (wsK w.2.2 ls))]) := .app
    have hlen := g1.len
    walk_at "dl"
    rw [trim_keep (by simp [D.bel, D.belL]; omega)]
    refine q _ ls _ (g1.trans gy) ⟨at_end, L1.stay fun x hx => gy.old x (N1.hi x hx)⟩ ?_
    exact (N1.app (.one (Nat.le_refl S1.length) (by simp)) g1.len (by simp)).perm (by simpa using List.perm_append_comm)
end

/-! ### k73: a deed is done; a row is put -/
section
variable {S : Sto} {P : D → Sto → Prop} {Q : XD → Sto → Prop} {bn r : Nat} {g : Pg} {past : List Pg} {w : Rw}
theorem o_addUT {xs ys : List D} (h : xs.length + ys.length ≤ sizeLine) (hy : ys ≠ []) (q : P (.tup (xs ++ ys)) S) : Ok (oAddU (.tup xs) (.tup ys) S) P := by
  unfold oAddU
  dsimp only
  rw [if_pos h]
  exact ⟨q⟩
def bnF (a b c : D) : List (Str × D) := [("own_program", a), ("own_past", b), ("own_paper", c)]
theorem put_past {a b c v : D} : putD "own_past" v (bnF a b c) = bnF a v c := rfl
theorem put_prog {a b c v : D} : putD "own_program" v (bnF a b c) = bnF v b c := rfl
theorem put_pap {a b c v : D} : putD "own_paper" v (bnF a b c) = bnF a b v := rfl
theorem bnF_len {a b c : D} : (bnF a b c).length < 1000 := by show 3 < 1000; decide
theorem eqv_nilTB (xs : List D) : PyData.eqv (D.tup xs).py (D.tup []).py = xs.isEmpty := by
  cases xs with
  | nil => simp [D.py, D.pyL, PyData.eqv, PyData.eqvAll]
  | cons x xs => simp [D.py, D.pyL, PyData.eqv, PyData.eqvAll]
theorem plL_allB {k : Nat} : ∀ {xs : List D}, (∀ x ∈ xs, x.pl k = true) → D.plL k xs = true
  | [], _ => rfl
  | x :: xs, h => by
    simp only [D.plL, h x (by simp), plL_allB fun y hy => h y (List.mem_cons_of_mem _ hy), Bool.and_self]
theorem pl_LB {k : Nat} {xs : List D} (h : ∀ x ∈ xs, x.pl k = true) : (D.lst xs).pl (k + 1) = true := by
  show (decide (0 < k + 1) && D.plL (k + 1 - 1) xs) = true
  rw [Nat.add_sub_cancel, plL_allB h, decide_eq_true (by omega)]; rfl
theorem pl_TB {k : Nat} {xs : List D} (h : ∀ x ∈ xs, x.pl k = true) : (D.tup xs).pl (k + 1) = true := by
  show (decide (0 < k + 1) && D.plL (k + 1 - 1) xs) = true
  rw [Nat.add_sub_cancel, plL_allB h, decide_eq_true (by omega)]; rfl
theorem pl_rDB {k : Nat} {row : List Int} : (rD row).pl (k + 1) = true := pl_LB fun x hx => by
  obtain ⟨i, _, rfl⟩ := List.mem_map.mp hx; rfl
theorem pl_wDB {r n k : Nat} {w : Wi} (W : WiOk r n w) : (wD w).pl (k + 2) = true := pl_TB fun x hx => by
  rcases List.mem_cons.mp hx with rfl | hx
  · show PyData.strOk w.1 = true
    rcases W.word with h | h <;> (rw [h]; decide +kernel)
  · rw [List.mem_singleton.mp hx]; exact pl_rDB
theorem pl_rwB {r n m k : Nat} {w : Rw} (W : RwOk r n m w) : (rwD w).pl (k + 4) = true := pl_TB fun x hx => by
  simp only [List.mem_cons, List.not_mem_nil, or_false] at hx
  rcases hx with rfl | rfl | rfl
  · rfl
  · rfl
  · exact pl_LB fun y hy => by
      obtain ⟨v, hv, rfl⟩ := List.mem_map.mp hy
      exact pl_wDB (W.ws v hv)
theorem pl_nmsB {m k : Nat} {ns : List Str} (N : NasOk m ns) : (nmsD ns).pl (k + 1) = true := pl_LB fun x hx => by
  obtain ⟨s, hs, rfl⟩ := List.mem_map.mp hx
  exact (N.ok s hs).so
theorem pl_rowsB {r n m k : Nat} {rws : List Rw} (h : ∀ w ∈ rws, RwOk r n m w) : (D.lst (rws.map rwD)).pl (k + 5) = true := pl_LB fun x hx => by
  obtain ⟨w, hw, rfl⟩ := List.mem_map.mp hx
  exact pl_rwB (h w hw)
theorem pl_pgB {r : Nat} {g : Pg} (G : PgOk r g) : (pgD g).pl 59 = true := pl_TB (k := 58) fun x hx => by
  simp only [List.mem_cons, List.not_mem_nil, or_false] at hx
  rcases hx with rfl | rfl | rfl
  · exact pl_nmsB G.nas
  · exact pl_nmsB G.pls
  · exact pl_rowsB G.rows
theorem pgs_pl (G : ∀ h ∈ past, PgOk 40 h) : (D.tup (past.map pgD)).pl 60 = true := by
  show (decide (0 < 60) && D.plL 59 (past.map pgD)) = true
  rw [show decide (0 < 60) = true from rfl, Bool.true_and]
  induction past with
  | nil => rfl
  | cons h ps ih =>
    have h1 : (pgD h).pl 59 = true := pl_pgB (G h (by simp))
    show ((pgD h).pl 59 && D.plL 59 (ps.map pgD)) = true
    rw [h1, Bool.true_and]
    exact ih fun x hx => G x (by simp [hx])
theorem o_eqTupE (G : ∀ h ∈ past, PgOk 40 h) (q : P (.bl past.isEmpty) S) : Ok (oEq (.tup (past.map pgD)) (.tup []) S) P := by
  refine o_eqD (fun s => by simp) (pgs_pl G) rfl ?_
  show P (.bl (PyData.eqv (D.tup (past.map pgD)).py (D.tup []).py)) S
  rw [eqv_nilTB, List.isEmpty_map]
  exact q
theorem k_starF {i j : Nat} {m : EM} {ρ : DL.Env} {PS : Flw → DL.Env → Sto → Prop} (h : Ok (m ρ S) fun d S' => ∃ ds x, d = .tup (ds ++ [x]) ∧ ds.length < 15000 ∧ PS .nx ((ρ.set i (some (.lst ds))).set j (some x)) S') : OkS (DL.sStarF i j m ρ S) PS :=
  Ok.to (h.imp fun d S' ⟨ds, x, e, hl, q⟩ => by
    subst e
    dsimp only
    rw [List.getLast?_append, List.getLast?_singleton]
    dsimp only [Option.some_or]
    rw [if_pos (by simp; omega), List.dropLast_concat]
    exact ⟨q⟩)
/-- the object behind a deed -/
def bnO (g : Pg) (past : List Pg) : CO := .ins "Bench" (bnF (pgD g) (.tup (past.map pgD)) .non)
theorem BnAt.insF (B : BnAt S bn g past) : S[bn]? = some (some (.ins "Bench" (bnF (pgD g) (.tup (past.map pgD)) .non))) := B.ins
theorem done_ok {rows : List Rw} (B : BnAt S bn g past) (hp : past.length ≤ 1000) (q : P .non (S.set bn (some (bnO (g.1, g.2.1, rows) (past ++ [g]))))) : Ok (Lw.f_Bench_m_done [.cell bn, .lst (rows.map rwD), .non] S) P := by
  have hl := (List.getElem?_eq_some_iff.mp B.ins).1
  unfold Lw.f_Bench_m_done
  refine k_fn rfl ?_
  unfold Lw.d_Bench_m_done
  refine k_seqQ (fun f ρ1 S1 => f = .nx ∧ S1 = S ∧ ρ1 = [some (.cell bn), some (.lst (rows.map rwD)), some .non, some (nmsD g.1), some (nmsD g.2.1), some (.lst (g.2.2.map rwD))]) ?_ ?_
  · walk_at "dl"
    refine o_fldI B.ins fi_bprog (by rfl) ?_
    unfold pgD
    walk_at "dl"
    exact ⟨rfl, rfl, rfl⟩
  rintro f ρ1 S1 ⟨rfl, rfl, rfl⟩
  dsimp only
  walk_at "dl"
  refine k_fldI ?_
  walk_at "dl"
  refine o_fldI B.ins fi_bpast (by rfl) ?_
  walk_at "dl"
  refine o_fldI B.ins fi_bprog (by rfl) ?_
  walk_at "dl"
  refine o_addUT (by rw [sizeLine_eq]; simp; omega) (by simp) ?_
  walk_at "dl"
  have e : past.map pgD ++ [pgD g] = (past ++ [g]).map pgD := by simp
  rw [e]
  refine ⟨bn, _, _, rfl, B.insF, fi_bpast, bnF_len, ?_⟩
  rw [put_past]
  walk_at "dl"
  refine k_fldI ?_
  walk_at "dl"
  refine ⟨bn, _, _, rfl, List.getElem?_set_self hl, fi_bprog, bnF_len, ?_⟩
  rw [put_prog]
  walk_at "dl"
  refine k_fldI ?_
  walk_at "dl"
  refine ⟨bn, _, _, rfl, List.getElem?_set_self (by rw [List.length_set]; exact hl), fi_bpap, bnF_len, ?_⟩
  rw [put_pap]
  rw [List.set_set, List.set_set, trim_same (by rw [List.length_set])]
  exact q
/-- undone -/
theorem undo_okB {h : Pg} (B : BnAt S bn g (past ++ [h])) (G : ∀ x ∈ past ++ [h], PgOk 40 x) (hp : past.length ≤ 1000) (q : P .non (S.set bn (some (bnO h past)))) : Ok (Lw.f_Bench_m_undo [.cell bn] S) P := by
  have hl := (List.getElem?_eq_some_iff.mp B.ins).1
  unfold Lw.f_Bench_m_undo
  refine k_fn rfl ?_
  unfold Lw.d_Bench_m_undo
  walk_at "dl"
  refine o_fldI B.ins fi_bpast (by rfl) ?_
  walk_at "dl"
  refine o_eqTupE G ?_
  walk_at "dl"
  try refine k_ifF (by simp) ?_
  walk_at "dl"
  refine k_starF ?_
  walk_at "dl"
  refine o_fldI B.ins fi_bpast (by rfl) ?_
  refine ⟨past.map pgD, pgD h, by simp, by simp; omega, ?_⟩
  walk_at "dl"
  refine k_fldI ?_
  walk_at "dl"
  refine o_tupL ?_
  walk_at "dl"
  refine ⟨bn, _, _, rfl, B.insF, fi_bpast, bnF_len, ?_⟩
  rw [put_past]
  walk_at "dl"
  refine k_fldI ?_
  walk_at "dl"
  refine ⟨bn, _, _, rfl, List.getElem?_set_self hl, fi_bprog, bnF_len, ?_⟩
  rw [put_prog]
  walk_at "dl"
  refine k_fldI ?_
  walk_at "dl"
  refine ⟨bn, _, _, rfl, List.getElem?_set_self (by rw [List.length_set]; exact hl), fi_bpap, bnF_len, ?_⟩
  rw [put_pap]
  rw [List.set_set, List.set_set, trim_same (by rw [List.length_set])]
  exact q
end

/-! ### what is looked at: programs, and things near them -/
section
variable {r n m k : Nat} {g : Pg}
theorem noRoL_all : ∀ {xs : List D}, (∀ x ∈ xs, noRo x = true) → noRoL xs = true
  | [], _ => rfl
  | x :: xs, h => by
    simp only [noRoL, Bool.and_eq_true]
    exact ⟨h x (by simp), noRoL_all fun y hy => h y (by simp [hy])⟩
theorem noRo_rD (l : List Int) : noRo (rD l) = true := noRoL_all fun x hx => by
  obtain ⟨s, _, rfl⟩ := List.mem_map.mp hx; rfl
theorem noRo_wD (w : Wi) : noRo (wD w) = true := by
  show noRoL [.str w.1, rD w.2] = true
  simp only [noRoL, noRo_rD, noRo, Bool.and_self]
theorem noRo_rw (w : Rw) : noRo (rwD w) = true := by
  show noRoL [.int w.1, .int w.2.1, .lst (w.2.2.map wD)] = true
  have : noRoL (w.2.2.map wD) = true := noRoL_all fun x hx => by
    obtain ⟨s, _, rfl⟩ := List.mem_map.mp hx; exact noRo_wD s
  simp only [noRoL, noRo, this, Bool.and_self]
theorem rowBk_rw {w : Rw} (W : RwOk r n m w) : rowBk n m (rwD w) = true := by
  have h1 := W.st; have h2 := W.to
  show (numB m (.int w.1) && (numB m (.int w.2.1) && wishesB (2 * n) (.lst (w.2.2.map wD)))) = true
  have e1 : ∀ a : Nat, a < m → numB m (.int a) = true := fun a ha => by
    show (decide ((0 : Int) ≤ a) && decide ((a : Int) < m)) = true
    rw [decide_eq_true (by omega), decide_eq_true (by omega)]; rfl
  rw [e1 _ h1, e1 _ h2, Bool.true_and, Bool.true_and]
  show (decide ((w.2.2.map wD).length ≤ 12) && (w.2.2.map wD).all (wishB (2 * n))) = true
  rw [decide_eq_true (by rw [List.length_map]; exact W.len), Bool.true_and, List.all_map, List.all_eq_true]
  exact fun x hx => wishB_yes (W.ws x hx)
end
section
variable {i : Nat} {d : D} {p : D × D} {S : Sto} {P : D → Sto → Prop} {Q : XD → Sto → Prop}
end

/-! ### k73: a row is put -/
section
variable {S : Sto} {P : D → Sto → Prop} {Q : XD → Sto → Prop} {bn r c : Nat} {g : Pg} {past : List Pg} {w : Rw} {ls : List Nat}
theorem k_bor73 {f : EM} {ρ : DL.Env} (h : Ok (f (asD S ρ) (offS S)) fun d S' => D.flat d = true ∧ S' = offS S ∧ P d S) : Ok (eBor f ρ S) P := by
  unfold eBor
  cases e : f (asD S ρ) (offS S) with
  | exc x S1 => rw [e] at h; exact h.out.elim
  | stuck => rw [e] at h; exact h.out.elim
  | ok d S1 =>
    rw [e] at h
    obtain ⟨h1, h2, h3⟩ := h.out
    dsimp only
    rw [if_pos ⟨h1, h2⟩]
    exact ⟨h3⟩
theorem RkAt.deep (R : RkAt S w c ls) : deepD S 12 (rkD w c) = rwD w := by
  have e1 : deepD S 11 (.cell c) = .lst ((wsK w.2.2 ls).map (deepD S 10)) := by
    show (match S[c]? with
      | some (some (.lst xs)) => D.lst (xs.map (deepD S 10))
      | _ => D.cell c) = _
    rw [R.c]
  show D.tup [deepD S 11 (.int w.1), deepD S 11 (.int w.2.1), deepD S 11 (.cell c)] = _
  rw [e1, R.l.deep (n := 7)]
  rfl
theorem rw_lk {n m : Nat} (W : RwOk 40 n m w) (hn : n ≤ 3) (hm : m ≤ 1000) : Lk 50 (rwD w) := ⟨(dat_row2 (k := 46) W (by decide) (by decide) hn hm).mono (by decide), noRo_rw w⟩
theorem has_left_ok (B : BnAt S bn g past) (q : P (.bl false) S) : Ok (Lw.f_Bench_m_has_left [.cell bn] S) P := by
  unfold Lw.f_Bench_m_has_left
  refine k_fn rfl ?_
  unfold Lw.d_Bench_m_has_left
  walk_at "dl"
  refine o_fldI B.ins fi_bpap (by rfl) ?_
  walk_at "dl"
  refine .of rfl ?_
  walk_at "dl"
  try rw [if_neg (by simp)]
  rw [trim_same rfl]
  exact q
end

/-! ### k73: a row is put, on -/
theorem trim_le73 {S S' : Sto} {d : D} (hl : S.length ≤ S'.length) : S.length ≤ (DL.trim S d S').length ∧ ∀ i, i < S.length → (DL.trim S d S')[i]? = S'[i]? := by
  unfold DL.trim
  split
  · exact ⟨by rw [List.length_take]; omega, fun i hi => by rw [List.getElem?_take, if_pos hi]⟩
  · exact ⟨hl, fun i _ => rfl⟩
section
variable {S : Sto} {P : D → Sto → Prop} {Q : XD → Sto → Prop} {bn r c : Nat} {g : Pg} {past : List Pg} {w : Rw} {ls : List Nat}
theorem o_eqIB {a b : Int} (q : P (.bl (decide (a = b))) S) : Ok (oEq (.int a) (.int b) S) P := o_eqI q
/-- the head of put: the row is one -/
theorem put_ok (B : BnAt S bn g past) (G : PgOk 40 g) (W : RwOk 40 g.1.length g.2.1.length w) (R : RkAt S w c ls) (hp : past.length ≤ 1000) (h10 : g.2.2.length < 10) (q : ∀ S', S.length ≤ S'.length → (∀ x, x < S.length → x ≠ bn → S'[x]? = S[x]?) → BnAt S' bn (g.1, g.2.1, g.2.2 ++ [w]) (past ++ [g]) → P (.int (g.2.2.length : Nat)) S') : Ok (Lw.f_Bench_m_put [.cell bn, rkD w c] S) P := by
  have hbl := (List.getElem?_eq_some_iff.mp B.ins).1
  have n3 := G.nas.hi
  have m6 := G.pls.hi
  unfold Lw.f_Bench_m_put
  refine k_fn rfl ?_
  unfold Lw.d_Bench_m_put
  refine k_seqQ (fun f ρ1 S1 => f = .nx ∧ S1 = S ∧ ρ1 = [some (.cell bn), some (rkD w c), some (nmsD g.1), some (nmsD g.2.1), some (.lst (g.2.2.map rwD))]) ?_ ?_
  · walk_at "dl"
    refine o_fldI B.ins fi_bprog (by rfl) ?_
    unfold pgD
    walk_at "dl"
    exact ⟨rfl, rfl, rfl⟩
  rintro f ρ1 S1 ⟨rfl, rfl, rfl⟩
  dsimp only
  refine k_seqQ (fun f ρ1 S2 => f = .nx ∧ S2 = S1 ∧ ρ1 = [some (.cell bn), some (rkD w c), some (nmsD g.1), some (nmsD g.2.1), some (.lst (g.2.2.map rwD))]) ?_ ?_
  · refine k_if (k_bNot (k_bVal (k_bor73 ?_)))
    have dn : deepD S1 12 (nmsD g.1) = nmsD g.1 := deep_pr (dat_nms (k := 58) G.nas).pl
    have dp : deepD S1 12 (nmsD g.2.1) = nmsD g.2.1 := deep_pr (dat_nms (k := 58) G.pls).pl
    refine k_L (k_cons (k_L (k_cons (k_var (d := nmsD g.1) (by show some (some (deepD S1 12 (nmsD g.1))) = _; rw [dn]) (k_nil ?_)))))
    walk_at "dl"
    rw [List.length_map, List.length_map, List.length_map, R.deep]
    refine is_row_gen (n := g.1.length) (m := g.2.1.length) (rw_lk W (by omega) (by omega)) (by omega) rfl rfl ?_
    rw [rowBk_rw W]
    refine ⟨rfl, rfl, ?_⟩
    walk_at "dl"
    try refine k_ifF (by simp) ?_
    first | exact k_nx ⟨rfl, rfl, rfl⟩ | exact ⟨rfl, rfl, rfl⟩
  rintro f ρ1 S2 ⟨rfl, rfl, rfl⟩
  dsimp only
  walk_at "dl"
  rw [List.length_map]
  unfold Lw.c_MOST_ROWS
  refine o_eqIB ?_
  walk_at "dl"
  try refine k_ifF (by simp; omega) ?_
  walk_at "dl"
  refine k_mo ?_
  walk_at "dl"
  refine ⟨bn, _, rfl, B.ins, rfl, ?_⟩
  walk_at "dl"
  refine copied_rowC (by have := W.len; omega) R fun c2 ls2 S3 g3 R3 N3 => ?_
  refine frz_rowK R3 N3.nd fun S4 O4 => ?_
  have g4 : Gy S2 S4 := Gy.off O4 g3 fun x hx => (N3.lo x hx)
  have B4 := B.up g4.old
  walk_at "dl"
  refine o_addL (by rw [sizeLine_eq]; simp; omega) ?_
  rw [show g.2.2.map rwD ++ [rwD w] = (g.2.2 ++ [w]).map rwD by simp]
  walk_at "dl"
  refine k_mo ?_
  walk_at "dl"
  refine ⟨bn, _, rfl, B4.ins, rfl, ?_⟩
  walk_at "dl"
  refine has_left_ok B4 ?_
  walk_at "dl"
  try refine k_ifF (by simp) ?_
  walk_at "dl"
  refine done_ok B4 hp ?_
  walk_at "dl"
  rw [List.length_map]
  obtain ⟨t1, t2⟩ := trim_le73 (S := S2) (S' := S4.set bn (some (bnO (g.1, g.2.1, g.2.2 ++ [w]) (past ++ [g])))) (d := .int (g.2.2.length : Nat)) (by rw [List.length_set]; exact g4.len)
  refine q _ t1 (fun x hx hn => ?_) ⟨?_⟩
  · rw [t2 x hx, List.getElem?_set_ne (Ne.symm hn)]
    exact g4.old x hx
  · rw [t2 bn hbl, List.getElem?_set_self (Nat.lt_of_lt_of_le hbl g4.len)]
    rfl
end

/-! ### k73: a row is taken -/
theorem atI_at73 {xs : List D} {z : Int} {x : D} (h0 : 0 ≤ z) (h : xs[z.toNat]? = some x) {S : Sto} {P : D → Sto → Prop} (q : P x S) : Ok (oIx (.lst xs) (.int z) S) P := by
  refine o_ix (v := x) ?_ q
  show L2.atI xs z = _
  have hl := (List.getElem?_eq_some_iff.mp h).1
  unfold L2.atI L2.ixN
  rw [if_pos h0, if_pos (by omega)]
  exact h
section
variable {S : Sto} {P : D → Sto → Prop} {Q : XD → Sto → Prop} {bn r c : Nat} {g : Pg} {past : List Pg} {w : Rw} {ls : List Nat}
theorem lookn_ok {a : Nat} (B : BnAt S bn g past) (hg : g.2.2.length ≤ 1000) (ha : a < g.2.2.length) (q : P .non S) : Ok (Lw.f_Bench_m_look_at_number [.cell bn, .int a] S) P := by
  unfold Lw.f_Bench_m_look_at_number
  refine k_fn rfl ?_
  unfold Lw.d_Bench_m_look_at_number
  walk_at "dl"
  refine blen_ok B hg ?_
  walk_at "dl"
  refine is_number_of_ok ha rfl rfl ?_
  walk_at "dl"
  try refine k_ifF (by simp) ?_
  walk_at "dl"
  rw [trim_same rfl]
  exact q
theorem pwo_ok {a : Nat} (B : BnAt S bn g past) (q : P .non S) : Ok (Lw.f_Bench_m_paper_without [.cell bn, .int a] S) P := by
  unfold Lw.f_Bench_m_paper_without
  refine k_fn rfl ?_
  unfold Lw.d_Bench_m_paper_without
  walk_at "dl"
  refine o_fldI B.ins fi_bpap (by rfl) ?_
  walk_at "dl"
  refine .of rfl ?_
  walk_at "dl"
  try refine k_ifT (by simp) ?_
  walk_at "dl"
  rw [trim_same rfl]
  exact q
theorem cut_to73 {xs : List D} {a : Nat} (h : a ≤ xs.length) : DL.cutD xs none (some (a : Int)) = xs.take a := by
  unfold DL.cutD
  rw [HT.sIx_nat, HT.sIx_none, List.drop_zero, Nat.sub_zero, Nat.min_eq_left h]
theorem cut_from73 {xs : List D} {a : Nat} (h : a < xs.length) : DL.cutD xs (some ((a : Int) + 1)) none = xs.drop (a + 1) := by
  unfold DL.cutD
  rw [HT.sIx_none, show ((a : Int) + 1) = ((a + 1 : Nat) : Int) by omega, HT.sIx_nat, Nat.min_eq_left (by omega)]
  exact List.take_of_length_le (by rw [List.length_drop]; omega)
def cutR (a : Nat) (rows : List Rw) : List Rw := rows.take a ++ rows.drop (a + 1)
theorem take_ok73 {a : Nat} (B : BnAt S bn g past) (G : PgOk 40 g) (hp : past.length ≤ 1000) (hg : g.2.2.length ≤ 10) (ha : a < g.2.2.length) (hw : (g.2.2[a]).2.2.length ≤ 1000) (q : ∀ c ls S', S.length ≤ S'.length → (∀ x, x < S.length → x ≠ bn → S'[x]? = S[x]?) → BnAt S' bn (g.1, g.2.1, cutR a g.2.2) (past ++ [g]) → RkAt S' (g.2.2[a]) c ls → NewC S.length S'.length (c :: ls) → P (rkD (g.2.2[a]) c) S') : Ok (Lw.f_Bench_m_take [.cell bn, .int a] S) P := by
  have hbl := (List.getElem?_eq_some_iff.mp B.ins).1
  unfold Lw.f_Bench_m_take
  refine k_fn rfl ?_
  unfold Lw.d_Bench_m_take
  walk_at "dl"
  refine k_mo ?_
  walk_at "dl"
  refine ⟨bn, _, rfl, B.ins, rfl, ?_⟩
  walk_at "dl"
  refine lookn_ok B (by omega) ha ?_
  walk_at "dl"
  refine o_fldI B.ins fi_bprog (by rfl) ?_
  unfold pgD
  walk_at "dl"
  refine k_mo ?_
  walk_at "dl"
  refine ⟨bn, _, rfl, B.ins, rfl, ?_⟩
  walk_at "dl"
  rw [cut_to73 (by rw [List.length_map]; omega), cut_from73 (by rw [List.length_map]; omega), ← List.map_take, ← List.map_drop]
  refine o_addL (by rw [sizeLine_eq]; simp; omega) ?_
  rw [← List.map_append]
  walk_at "dl"
  refine k_mo ?_
  walk_at "dl"
  refine ⟨bn, _, rfl, B.ins, rfl, ?_⟩
  walk_at "dl"
  refine pwo_ok B ?_
  walk_at "dl"
  refine done_ok (rows := cutR a g.2.2) B hp ?_
  walk_at "dl"
  refine atI_at73 (x := rwD g.2.2[a]) (by omega) (by rw [Int.toNat_natCast, List.getElem?_map, List.getElem?_eq_getElem ha]; rfl) ?_
  walk_at "dl"
  refine copied_row_k hw fun c ls S' g1 h1 h2 h3 => ?_
  have lo := h3.lo c (by simp)
  rw [List.length_set] at lo
  rw [trim_keep (by simp [D.bel, D.belL]; omega)]
  have gl := g1.len
  rw [List.length_set] at gl
  refine q c ls S' gl (fun x hx hn => ?_) ⟨?_⟩ ⟨h1, h2⟩ ⟨fun x hx => ?_, h3.hi, h3.nd⟩
  · rw [g1.old x (by rw [List.length_set]; exact hx), List.getElem?_set_ne (Ne.symm hn)]
  · rw [g1.old bn (by rw [List.length_set]; exact hbl), List.getElem?_set_self hbl]
    rfl
  · have := h3.lo x hx
    rwa [List.length_set] at this
end

/-! ### k73: what is refused -/
section
variable {S : Sto} {P : D → Sto → Prop} {Q : XD → Sto → Prop} {bn r c : Nat} {g : Pg} {past : List Pg} {w : Rw} {ls : List Nat}
theorem undo_bare (B : BnAt S bn g []) (q : Q ⟨"Bare", [], []⟩ S) : Ex (Lw.f_Bench_m_undo [.cell bn] S) Q := by
  unfold Lw.f_Bench_m_undo
  refine x_fn rfl ?_
  unfold Lw.d_Bench_m_undo
  refine x_seq1 ?_
  refine x_if ?_
  walk_at "dl"
  refine o_fldI B.ins fi_bpast (by rfl) ?_
  walk_at "dl"
  refine o_eqTupE (past := []) (fun h hh => by simp at hh) ?_
  walk_at "dl"
  refine k_ifT (by rfl) ?_
  exact x_raise0 q
theorem put_full (B : BnAt S bn g past) (G : PgOk 40 g) (W : RwOk 40 g.1.length g.2.1.length w) (R : RkAt S w c ls) (h10 : g.2.2.length = 10) (q : Q ⟨"Full", [], []⟩ S) : Ex (Lw.f_Bench_m_put [.cell bn, rkD w c] S) Q := by
  have n3 := G.nas.hi
  have m6 := G.pls.hi
  unfold Lw.f_Bench_m_put
  refine x_fn rfl ?_
  unfold Lw.d_Bench_m_put
  refine x_seq (OkS.imp (P := fun f ρ1 S1 => f = .nx ∧ S1 = S ∧ ρ1 = [some (.cell bn), some (rkD w c), some (nmsD g.1), some (nmsD g.2.1), some (.lst (g.2.2.map rwD))]) ?_ ?_)
  · walk_at "dl"
    refine o_fldI B.ins fi_bprog (by rfl) ?_
    unfold pgD
    walk_at "dl"
    exact ⟨rfl, rfl, rfl⟩
  rintro f ρ1 S1 ⟨rfl, rfl, rfl⟩
  refine ⟨rfl, ?_⟩
  refine x_seq (OkS.imp (P := fun f ρ1 S2 => f = .nx ∧ S2 = S1 ∧ ρ1 = [some (.cell bn), some (rkD w c), some (nmsD g.1), some (nmsD g.2.1), some (.lst (g.2.2.map rwD))]) ?_ ?_)
  · refine k_if (k_bNot (k_bVal (k_bor73 ?_)))
    have dn : deepD S1 12 (nmsD g.1) = nmsD g.1 := deep_pr (dat_nms (k := 58) G.nas).pl
    have dp : deepD S1 12 (nmsD g.2.1) = nmsD g.2.1 := deep_pr (dat_nms (k := 58) G.pls).pl
    refine k_L (k_cons (k_L (k_cons (k_var (d := nmsD g.1) (by show some (some (deepD S1 12 (nmsD g.1))) = _; rw [dn]) (k_nil ?_)))))
    walk_at "dl"
    rw [List.length_map, List.length_map, List.length_map, R.deep]
    refine is_row_gen (n := g.1.length) (m := g.2.1.length) (rw_lk W (by omega) (by omega)) (by omega) rfl rfl ?_
    rw [rowBk_rw W]
    refine ⟨rfl, rfl, ?_⟩
    walk_at "dl"
    try refine k_ifF (by simp) ?_
    first | exact k_nx ⟨rfl, rfl, rfl⟩ | exact ⟨rfl, rfl, rfl⟩
  rintro f ρ1 S2 ⟨rfl, rfl, rfl⟩
  refine ⟨rfl, ?_⟩
  refine x_seq1 ?_
  refine x_if ?_
  walk_at "dl"
  rw [List.length_map]
  unfold Lw.c_MOST_ROWS
  refine o_eqIB ?_
  walk_at "dl"
  refine k_ifT (by rw [h10]; rfl) ?_
  exact x_raise0 q
end

/-! ### k73: wishes of a row are changed -/
section
variable {S : Sto} {P : D → Sto → Prop} {Q : XD → Sto → Prop} {bn r c : Nat} {g : Pg} {past : List Pg} {ws : List Wi} {ls : List Nat}
def chgR (a : Nat) (ws : List Wi) (rows : List Rw) (h : a < rows.length) : List Rw := rows.take a ++ [((rows[a]).1, (rows[a]).2.1, ws)] ++ rows.drop (a + 1)
theorem frz_cellK (hc : S[c]? = some (some (.lst (wsK ws ls)))) (L : LnAt S ws ls) (nd : (c :: ls).Nodup) (q : ∀ S', Off (c :: ls) S S' → P (.lst (ws.map wD)) S') : Ok (mFrzDp (.cell c) S) P := by
  obtain ⟨nc, nl⟩ := List.nodup_cons.mp nd
  have L' : LnAt (S.set c none) ws ls := L.stay fun i hi => by rw [List.getElem?_set_ne fun e => nc (by rw [e]; exact hi)]
  obtain ⟨S', e, C⟩ := L'.frz (k := 9) nl
  have e2 : frzN 12 (.cell c) S = some (.lst (ws.map wD), S') := frzN_cell hc e
  unfold mFrzDp
  rw [e2]
  refine ⟨q S' ⟨by rw [C.len]; simp, fun i hi => ?_⟩⟩
  simp only [List.mem_cons, not_or] at hi
  rw [C.oth i hi.2, List.getElem?_set_ne (Ne.symm hi.1)]
theorem change_ok73 {a : Nat} (B : BnAt S bn g past) (G : PgOk 40 g) (hW : ∀ w ∈ ws, WiOk 40 (2 * g.1.length) w) (hl12 : ws.length ≤ 12) (hc : S[c]? = some (some (.lst (wsK ws ls)))) (L : LnAt S ws ls) (hp : past.length ≤ 1000) (ha : a < g.2.2.length) (q : ∀ S', S.length ≤ S'.length → (∀ x, x < S.length → x ≠ bn → S'[x]? = S[x]?) → BnAt S' bn (g.1, g.2.1, chgR a ws g.2.2 ha) (past ++ [g]) → P .non S') : Ok (Lw.f_Bench_m_change [.cell bn, .int a, .cell c] S) P := by
  have hbl := (List.getElem?_eq_some_iff.mp B.ins).1
  have n3 := G.nas.hi
  have g10 := G.len
  unfold Lw.f_Bench_m_change
  refine k_fn rfl ?_
  unfold Lw.d_Bench_m_change
  walk_at "dl"
  refine k_mo ?_
  walk_at "dl"
  refine ⟨bn, _, rfl, B.ins, rfl, ?_⟩
  walk_at "dl"
  refine lookn_ok B (by omega) ha ?_
  walk_at "dl"
  refine o_fldI B.ins fi_bprog (by rfl) ?_
  unfold pgD
  walk_at "dl"
  have dn : deepD S 12 (nmsD g.1) = nmsD g.1 := deep_pr (dat_nms (k := 58) G.nas).pl
  have dc : deepD S 12 (.cell c) = .lst (ws.map wD) := by
    show (match S[c]? with
      | some (some (.lst xs)) => D.lst (xs.map (deepD S 11))
      | _ => D.cell c) = _
    rw [hc]
    show D.lst ((wsK ws ls).map (deepD S 11)) = _
    rw [L.deep (n := 8)]
  refine k_bor73 ?_
  walk_at "dl"
  rw [List.length_map, List.length_map]
  refine o_mul (.of_left (by decide)) ?_
  refine k_cons (k_var (d := .lst (ws.map wD)) (by show some (some (deepD S 12 (.cell c))) = _; rw [dc]) (k_nil ?_))
  walk_at "dl"
  refine are_wishes_ok (r := 40) (n := 2 * g.1.length) hW (by omega) (by omega) (by omega) (by push_cast; rfl) hl12 ?_
  refine ⟨rfl, rfl, ?_⟩
  walk_at "dl"
  refine k_ifF (by simp) ?_
  walk_at "dl"
  refine atI_at73 (x := .tup [.int g.2.2[a].1, .int g.2.2[a].2.1, .lst (g.2.2[a].2.2.map wD)]) (by omega) (by rw [Int.toNat_natCast, List.getElem?_map, List.getElem?_eq_getElem ha]; rfl) ?_
  walk_at "dl"
  refine copied_wishesC (by omega) hc L fun c2 ls2 S3 g3 h3 L3 N3 => ?_
  refine frz_cellK h3 L3 N3.nd fun S4 O4 => ?_
  have g4 : Gy S S4 := Gy.off O4 g3 fun x hx => (N3.lo x hx)
  have B4 := B.up g4.old
  walk_at "dl"
  rw [cut_to73 (by rw [List.length_map]; omega), show (D.tup [.int g.2.2[a].1, .int g.2.2[a].2.1, .lst (ws.map wD)]) = rwD ((g.2.2[a]).1, (g.2.2[a]).2.1, ws) from rfl, ← List.map_take]
  refine o_addL (by rw [sizeLine_eq]; simp; omega) ?_
  walk_at "dl"
  rw [cut_from73 (by rw [List.length_map]; omega), ← List.map_drop]
  refine o_addL (by rw [sizeLine_eq]; simp; omega) ?_
  rw [show (g.2.2.take a).map rwD ++ [rwD ((g.2.2[a]).1, (g.2.2[a]).2.1, ws)] ++ (g.2.2.drop (a + 1)).map rwD = (chgR a ws g.2.2 ha).map rwD by unfold chgR; simp]
  walk_at "dl"
  refine k_mo ?_
  walk_at "dl"
  refine ⟨bn, _, rfl, B4.ins, rfl, ?_⟩
  walk_at "dl"
  refine has_left_ok B4 ?_
  walk_at "dl"
  try refine k_ifF (by simp) ?_
  walk_at "dl"
  refine k_mo ?_
  walk_at "dl"
  refine ⟨bn, _, rfl, B4.ins, rfl, ?_⟩
  walk_at "dl"
  refine k_bTru (k_var (d := .bl false) rfl ⟨false, rfl, ?_⟩)
  try refine k_ifF (by simp) ?_
  walk_at "dl"
  refine done_ok B4 hp ?_
  walk_at "dl"
  obtain ⟨t1, t2⟩ := trim_le73 (S := S) (S' := S4.set bn (some (bnO (g.1, g.2.1, chgR a ws g.2.2 ha) (past ++ [g])))) (d := .non) (by rw [List.length_set]; exact g4.len)
  refine q _ t1 (fun x hx hn => ?_) ⟨?_⟩
  · rw [t2 x hx, List.getElem?_set_ne (Ne.symm hn)]
    exact g4.old x hx
  · rw [t2 bn hbl, List.getElem?_set_self (Nat.lt_of_lt_of_le hbl g4.len)]
    rfl
end

/-! ### rules for DZ9 .. DZ12 -/
section
variable {S : Sto} {ρ : DL.Env} {PS : Flw → DL.Env → Sto → Prop} {QS : XD → DL.Env → Sto → Prop}
theorem k_tryNO {tbl : Str → Option Bool} {b h : SD} (hb : OkS (b ρ S) PS) : OkS (sTryN tbl b h ρ S) PS := by
  unfold sTryN
  cases e : b ρ S with
  | exc x ρ1 S1 => rw [e] at hb; exact hb.out.elim
  | stuck => rw [e] at hb; exact hb.out.elim
  | ok f ρ1 S1 => rw [e] at hb; exact ⟨hb.out⟩
theorem k_tryNX {tbl : Str → Option Bool} {b h : SD} (hb : ExS (b ρ S) fun x ρ1 S1 => tbl x.name = some true ∧ OkS (h ρ1 S1) PS) : OkS (sTryN tbl b h ρ S) PS := by
  unfold sTryN
  cases e : b ρ S with
  | ok f ρ1 S1 => rw [e] at hb; exact hb.out.elim
  | stuck => rw [e] at hb; exact hb.out.elim
  | exc x ρ1 S1 =>
    rw [e] at hb
    obtain ⟨ht, q⟩ := hb.out
    dsimp only
    rw [ht]
    dsimp only
    cases eh : h ρ1 S1 with
    | exc y ρ2 S2 => rw [eh] at q; exact q.out.elim
    | stuck => rw [eh] at q; exact q.out.elim
    | ok f ρ2 S2 => rw [eh] at q; exact ⟨q.out⟩
end

/-! ### k73: the law's own undoing -/
section
variable {S : Sto} {P : D → Sto → Prop} {Q : XD → Sto → Prop} {bn r c : Nat} {g : Pg} {past : List Pg}
theorem o_eqZ73 {d : D} {xs : List D} (h : DL.listOf S d = some xs) (q : P (.bl xs.isEmpty) S) : Ok (oEqZ d (.lst []) S) P := by
  unfold oEqZ; dsimp only; rw [h]; exact ⟨q⟩
theorem x_mo73 {C m : Str} {fm : FM} {mo : EM} {ma : AM} {ρ : DL.Env} (h : Ok (mo ρ S) fun o S1 => ∃ n fs, o = .cell n ∧ S1[n]? = some (some (.ins C fs)) ∧ fs.lookup m = none ∧ Ok (ma ρ S1) fun ds S2 => Ex (fm (.cell n :: ds) S2) Q) : Ex (eMo C m fm mo ma ρ S) Q :=
  Ex.bind2 (h.imp fun o S1 ⟨n, fs, eo, e, hl, q⟩ => by
    subst eo
    simp only [e, hl, and_self, if_true]
    exact Ex.bind2 q)
theorem undone_bare (B : BnAt S bn g []) (q : P (seatD g []) S) : Ok (Lw.f__law_undone [.cell bn, seatD g []] S) P := by
  unfold Lw.f__law_undone
  refine k_fn rfl ?_
  unfold Lw.d__law_undone seatD
  walk_at "dl"
  refine ⟨[.tup [nmsD g.1, nmsD g.2.1], .lst (g.2.2.map rwD), .lst []], _, rfl, rfl, rfl, ?_⟩
  refine k_seqQ (fun f ρ1 S1 => f = .nx ∧ S1 = S ∧ ρ1 = [some (.cell bn), some (seatD g []), some .non, some (.tup [nmsD g.1, nmsD g.2.1]), some (.lst (g.2.2.map rwD)), some (.lst [])]) ?_ ?_
  · walk_at "dl"
    exact ⟨rfl, rfl, rfl⟩
  rintro f ρ1 S1 ⟨rfl, rfl, rfl⟩
  dsimp only
  refine k_seqQ (fun f ρ1 S2 => f = .nx ∧ S2 = S1 ∧ ρ1 = [some (.cell bn), some (seatD g []), some (.str "bare"), some (.tup [nmsD g.1, nmsD g.2.1]), some (.lst (g.2.2.map rwD)), some (.lst [])]) ?_ ?_
  · refine k_tryNX ?_
    refine x_set (x_mo73 ?_)
    walk_at "dl"
    refine ⟨bn, _, rfl, B.ins, rfl, ?_⟩
    walk_at "dl"
    refine undo_bare B ⟨by decide +kernel, ?_⟩
    walk_at "dl"
    exact ⟨rfl, rfl, rfl⟩
  rintro f ρ1 S2 ⟨rfl, rfl, rfl⟩
  dsimp only
  walk_at "dl"
  refine o_eqZ73 rfl ?_
  walk_at "dl"
  try refine k_ifT (by rfl) ?_
  walk_at "dl"
  rw [trim_same rfl]
  exact q
end

/-! ### k73: the law's own undoing, on -/
section
variable {S : Sto} {P : D → Sto → Prop} {Q : XD → Sto → Prop} {bn r c : Nat} {g : Pg} {past : List Pg}
theorem undone_ok {h : Pg} (B : BnAt S bn g (past ++ [h])) (G : ∀ x ∈ past ++ [h], PgOk 40 x) (e1 : h.1 = g.1) (e2 : h.2.1 = g.2.1) (hp : past.length ≤ 1000) (q : ∀ S', S'.length = S.length → (∀ x, x ≠ bn → S'[x]? = S[x]?) → BnAt S' bn h past → P (seatD h past) S') : Ok (Lw.f__law_undone [.cell bn, seatD g (past ++ [h])] S) P := by
  have hbl := (List.getElem?_eq_some_iff.mp B.ins).1
  unfold Lw.f__law_undone
  refine k_fn rfl ?_
  unfold Lw.d__law_undone seatD
  walk_at "dl"
  refine ⟨[.tup [nmsD g.1, nmsD g.2.1], .lst (g.2.2.map rwD), .lst ((past ++ [h]).map fun h => .lst (h.2.2.map rwD))], _, rfl, rfl, rfl, ?_⟩
  refine k_seqQ (fun f ρ1 S1 => f = .nx ∧ S1 = S ∧ ρ1 = [some (.cell bn), some (seatD g (past ++ [h])), some .non, some (.tup [nmsD g.1, nmsD g.2.1]), some (.lst (g.2.2.map rwD)), some (.lst ((past ++ [h]).map fun h => .lst (h.2.2.map rwD)))]) ?_ ?_
  · walk_at "dl"
    exact ⟨rfl, rfl, rfl⟩
  rintro f ρ1 S1 ⟨rfl, rfl, rfl⟩
  dsimp only
  refine k_seqQ (fun f ρ1 S2 => f = .nx ∧ S2 = S1.set bn (some (bnO h past)) ∧ ρ1 = [some (.cell bn), some (seatD g (past ++ [h])), some .non, some (.tup [nmsD g.1, nmsD g.2.1]), some (.lst (g.2.2.map rwD)), some (.lst ((past ++ [h]).map fun h => .lst (h.2.2.map rwD)))]) ?_ ?_
  · refine k_tryNO ?_
    walk_at "dl"
    refine k_mo ?_
    walk_at "dl"
    refine ⟨bn, _, rfl, B.ins, rfl, ?_⟩
    walk_at "dl"
    refine undo_okB B G hp ?_
    walk_at "dl"
    exact ⟨rfl, rfl, rfl⟩
  rintro f ρ1 S2 ⟨rfl, rfl, rfl⟩
  dsimp only
  walk_at "dl"
  refine o_eqZ73 rfl ?_
  walk_at "dl"
  try refine k_ifF (by simp) ?_
  walk_at "dl"
  refine o_ix (v := .lst (h.2.2.map rwD)) (by
    show L2.atI _ _ = _
    unfold L2.atI L2.ixN
    simp only [List.map_append, List.map_cons, List.map_nil, List.length_append, List.length_map, List.length_cons, List.length_nil]
    rw [if_neg (by omega), if_pos (by omega), Option.bind_some, show ((-1 : Int) + ((past.length + (0 + 1) : Nat) : Int)).toNat = past.length by omega, List.getElem?_append_right (by simp)]
    simp) ?_
  walk_at "dl"
  refine .of rfl ?_
  walk_at "dl"
  rw [trim_same (by simp), show DL.cutD ((past ++ [h]).map fun h => D.lst (h.2.2.map rwD)) none (some (-1)) = past.map fun h => D.lst (h.2.2.map rwD) by
    unfold DL.cutD
    rw [HT.sIx_none]
    unfold HT.sIx
    simp
    rw [show ((-1 : Int) + ((past.length : Int) + 1)).toNat = past.length by omega]
    exact List.take_left' (by simp)]
  rw [← e1, ← e2]
  refine q _ (by simp) (fun x hx => by rw [List.getElem?_set_ne (Ne.symm hx)]) ⟨?_⟩
  rw [List.getElem?_set_self hbl]
  rfl
end

theorem pool_ok {ns : List Int} {z : Int} {S : Sto} {P : D → Sto → Prop} (hz : 0 ≤ z) (hi : z < 1000) (k : ∀ a b : Int, 0 ≤ a → 0 ≤ b → P (.cell S.length) (S ++ [some (.lst [.int a, .int b])])) : Ok (Lw.f__law_pool [.ro (ns.map .int), .int z] S) P := by
  unfold Lw.f__law_pool
  refine k_fn rfl ?_
  unfold Lw.d__law_pool
  walk_at "dl"
  refine k_ite (fun f ρ S' => f = .nx ∧ S' = S ∧ ∃ c : Int, ρ = [some (.ro (ns.map .int)), some (.int z), some (.int c), none, none]) ?_ ?_ ?_
  · intro hl
    have hl' : z < ((ns.map D.int).length : Int) := by simpa using hl
    walk_at "dl"
    obtain ⟨v, hm, e⟩ := atI_mem (xs := ns.map D.int) (i := z) (by omega) hl'
    obtain ⟨c, hc, rfl⟩ := List.mem_map.mp hm
    refine o_ix (v := .int c) (by show L2.atI (ns.map D.int) z = _; exact e) ?_
    walk_at "dl"
    exact ⟨rfl, rfl, c, rfl⟩
  · intro _
    walk_at "dl"
    exact ⟨rfl, rfl, 0, rfl⟩
  rintro f ρ S' ⟨rfl, rfl, c, rfl⟩
  walk_at "dl"
  refine o_mod (by decide) ?_
  walk_at "dl"
  have sz : Sz 10 z := by unfold Sz; omega
  have s1 : Sz 13 7919 := by unfold Sz; decide
  refine o_mul (s1.mulOk sz) ?_
  walk_at "dl"
  refine o_mul ((s1.mul sz).mulOk sz) ?_
  walk_at "dl"
  refine o_mul (sz.mulOk (k := 10) (l := 10) (show Sz 10 31 by unfold Sz; decide) |> fun _ => (show Sz 10 31 by unfold Sz; decide).mulOk sz) ?_
  walk_at "dl"
  refine o_mul (.of_right (by decide)) ?_
  walk_at "dl"
  refine o_mod (by decide) ?_
  walk_at "dl"
  refine o_pow (by unfold L2.CPow; decide) ?_
  walk_at "dl"
  generalize hn : max c (-1 - c) = n
  have hn0 : 0 ≤ n := by omega
  generalize hm : Int.fmod _ 2147483647 = m
  have hm0 : 0 ≤ m := by rw [← hm, Int.fmod_eq_emod_of_nonneg _ (by decide)]; exact Int.emod_nonneg _ (by decide)
  refine o_mul (.of_right (by split <;> decide)) ?_
  walk_at "dl"
  have e : trim S' (.cell S'.length) (S' ++ [some (.lst [.int (n * if decide (10 ^ (18 : Int).toNat ≤ n) = true then 1 else 0), .int m])]) = S' ++ [some (.lst [.int (n * if decide (10 ^ (18 : Int).toNat ≤ n) = true then 1 else 0), .int m])] := by
    unfold trim
    rw [if_neg]
    rintro ⟨h, _⟩
    simp [D.bel] at h
  rw [e]
  refine k _ _ ?_ hm0
  split
  · omega
  · simp
theorem pool_made {S : Sto} {a b : Int} (h0 : 0 ≤ a) (h1 : 0 ≤ b) : IsPool (S ++ [some (.lst [.int a, .int b])]) S.length := ⟨a, b, h0, h1, by simp⟩

/-! ### rows drawn -/
theorem o_ixC {n j : Nat} {v : D} {xs : List D} {i : Int} {S : Sto} {P : D → Sto → Prop} (h : S[n]? = some (some (.lst xs))) (hi : i = (j : Int)) (hv : xs[j]? = some v) (q : P v S) : Ok (oIx (.cell n) (.int i) S) P := by
  subst hi
  exact o_ix (by simp only [seqOf, DL.listOf, h, Option.bind_some]; exact L2.atI_nat hv) q
theorem bel_ints (m : Nat) (l : List Int) : D.belL m (l.map .int) = true := belL_all fun d hd => by
  obtain ⟨i, _, rfl⟩ := List.mem_map.mp hd; rfl
theorem bel_w (m : Nat) (w : Wi) : (wD w).bel m = true := by
  simp only [wD, rD, D.bel, D.belL, bel_ints, Bool.and_self]
theorem bel_ws (m : Nat) (ws : List Wi) : D.belL m (ws.map wD) = true := belL_all fun d hd => by
  obtain ⟨w, _, rfl⟩ := List.mem_map.mp hd; exact bel_w m w
theorem bel_rw (m : Nat) (w : Rw) : (rwD w).bel m = true := by
  simp only [rwD, D.bel, D.belL, bel_ws, Bool.and_self]
def wordQ (d : D) : Prop := ∃ s : Str, d = .str s ∧ (s = "least" ∨ s = "just")
theorem wq1 : wordQ (.str "least") := ⟨_, rfl, .inl rfl⟩
theorem wq2 : wordQ (.str "just") := ⟨_, rfl, .inr rfl⟩
/-! ### k73: a drawn row -/
section
variable {p n m : Nat} {S : Sto} {P : D → Sto → Prop}
set_option maxHeartbeats 4000000 in
theorem free73_ok {z u : Int} (h : IsPool S p) (hz : z = (n : Int)) (n1 : 1 ≤ n) (n3 : n ≤ 3) (hu : u = (m : Int)) (m1 : 1 ≤ m) (m6 : m ≤ 6) (q : ∀ (w : Rw) S', RwOk 40 n m w → w.2.2.length ≤ 3 → SP p S S' → P (rwD w) S') : Ok (Lw.f__law_free_row [.cell p, .int z, .int u] S) P := by
  subst hz hu
  have hp := h.lt
  unfold Lw.f__law_free_row
  refine k_fn rfl ?_
  unfold Lw.d__law_free_row
  walk_at "dl"
  have q0 : SQ p S (S ++ [some (.lst [])]) := (SQ.refl h).push
  have c0 : (S ++ [some (CO.lst [])])[S.length]? = some (some (.lst (([] : List Wi).map wD))) := by simp
  generalize S ++ [some (CO.lst [])] = S0 at q0 c0 ⊢
  refine take_ok q0.pool (by omega) (by omega) fun r S1 a1 b1 s1 => ?_
  walk_at "dl"
  refine i_rng1 (by omega) (by omega) ?_
  refine k_forL (fun i ρ S' => SQ p S S' ∧ ∃ (ws : List Wi) (x4 x5 x6 : Option D), ws.length = i ∧ i ≤ 3 ∧ (∀ w ∈ ws, WiOk 40 (2 * n) w) ∧ S'[S.length]? = some (some (.lst (ws.map wD))) ∧ ρ = [some (.cell p), some (.int n), some (.int m), some (.cell S.length), x4, x5, x6]) ⟨q0.draw s1, [], _, _, _, rfl, Nat.zero_le _, by simp, s1.at (by omega) c0, rfl⟩ ?_ ?_
  · rintro i ρ S2 d hd ⟨q2, ws, x4, x5, x6, hl, hi, hw, c2, rfl⟩
    have hir : i < r.toNat := by simpa using (List.getElem?_eq_some_iff.mp hd).1
    refine ⟨_, rfl, ?_⟩
    walk_at "dl"
    refine o_mul (.of_left (by decide)) ?_
    walk_at "dl"
    refine i_rng1 (by omega) (by omega) ?_
    refine lc_any (Q := fun d => ∃ i : Int, Sz 40 i ∧ d = .int i) (R := SP p S2) (by rw [sizeLine_eq]; simp; omega) (SP.refl q2.pool) ?_ ?_
    · intro d _ S3 s3
      refine ⟨_, rfl, ?_⟩
      walk_at "dl"
      refine take_ok s3.pool (by decide) (by decide) fun e S4 e0 e1 s4 => ?_
      walk_at "dl"
      exact ⟨⟨_, by unfold Sz; omega, rfl⟩, s3.trans s4⟩
    intro ys S3 hly hq s3
    obtain ⟨is, his, rfl⟩ := made hq
    have hli : is.length = 2 * n + 1 := by simpa using hly.trans (by simp; omega)
    walk_at "dl"
    have c3 := s3.at (by omega) c2
    refine ⟨chkL_c c3, ?_⟩
    walk_at "dl"
    refine take_ok s3.pool (by decide) (by decide) fun e S4 e0 e1 s4 => ?_
    walk_at "dl"
    refine o_pick wordQ e0 (by simpa using e1) (all_cons wq1 (all_cons wq2 all_nil)) ?_
    rintro v ⟨s, rfl, hs⟩
    walk_at "dl"
    have c4 := s4.at (by omega) c3
    refine o_app c4 (by rw [sizeLine_eq, List.length_map]; omega) ?_
    have hlt := (List.getElem?_eq_some_iff.mp c4).1
    refine ⟨((q2.draw s3).draw s4).put (Nat.le_refl _) hp, ws ++ [(s, is)], _, _, _, by simp [hl], by omega, fun w hm => ?_, by rw [List.getElem?_set_self hlt]; simp [wD, rD], rfl⟩
    rcases List.mem_append.mp hm with hm | hm
    · exact hw w hm
    · rw [List.mem_singleton.mp hm]; exact ⟨hs, hli, his⟩
  · rintro ρ S2 ⟨q2, ws, x4, x5, x6, hl, hi, hw, c2, rfl⟩
    rw [show ((List.range r.toNat).map fun i : Nat => D.int i).length = r.toNat by simp] at hl hi
    walk_at "dl"
    refine take_ok q2.pool (by omega) (by omega) fun a S3 a0 a3 s3 => ?_
    walk_at "dl"
    refine take_ok s3.pool (by omega) (by omega) fun b S4 b0 b4 s4 => ?_
    walk_at "dl"
    refine k_frzC (s4.at (by omega) (s3.at (by omega) c2)) ?_
    walk_at "dl"
    have e : rwD (a.toNat, b.toNat, ws) = .tup [.int a, .int b, .lst (ws.map wD)] := by
      unfold rwD
      rw [show ((a.toNat, b.toNat, ws) : Rw).1 = a.toNat from rfl, show ((a.toNat, b.toNat, ws) : Rw).2.1 = b.toNat from rfl, show (a.toNat : Int) = a by omega, show (b.toNat : Int) = b by omega]
    rw [← e]
    refine q _ _ ⟨by show a.toNat < m; omega, by show b.toNat < m; omega, hw, by show ws.length ≤ 12; omega⟩ (by show ws.length ≤ 3; omega) (((q2.draw s3).draw s4 |>.put (o := none) (Nat.le_refl _) hp).trim hp ?_)
    exact bel_rw S.length _
end

/-! ### k73: the law's own put -/
section
variable {S : Sto} {P : D → Sto → Prop} {bn r c : Nat} {g : Pg} {past : List Pg} {w : Rw} {ls : List Nat}
theorem o_addU1 {xs ys : List D} (hz : xs.length + ys.length ≤ sizeLine) (q : P (.lst (xs ++ ys)) S) : Ok (oAddU (.lst xs) (.lst ys) S) P := o_addL hz q
theorem o_addU2 {i j : Int} (q : P (.int (i + j)) S) : Ok (oAddU (.int i) (.int j) S) P := o_add q
theorem RkAt.sub {S S' : Sto} {w : Rw} {c : Nat} {ls : List Nat} {n : Nat} (R : RkAt S w c ls) (N : NewC n S.length (c :: ls)) (h : ∀ x, n ≤ x → x < S.length → S'[x]? = S[x]?) : RkAt S' w c ls := R.up fun x hx => by
  have hm : x ∈ c :: ls := by rcases hx with rfl | hx <;> simp [*]
  exact h x (N.lo x hm) (N.hi x hm)
set_option maxHeartbeats 4000000 in
theorem lput_ok (B : BnAt S bn g past) (G : PgOk 40 g) (W : RwOk 40 g.1.length g.2.1.length w) (hp : past.length ≤ 1000)
    (q1 : ∀ S', g.2.2.length < 10 → S.length ≤ S'.length → (∀ x, x < S.length → x ≠ bn → S'[x]? = S[x]?) → BnAt S' bn (g.1, g.2.1, g.2.2 ++ [w]) (past ++ [g]) → P (seatD (g.1, g.2.1, g.2.2 ++ [w]) (past ++ [g])) S')
    (q2 : ∀ S', g.2.2.length = 10 → S.length ≤ S'.length → (∀ x, x < S.length → x ≠ bn → S'[x]? = S[x]?) → BnAt S' bn g past → P (seatD g past) S') : Ok (Lw.f__law_put [.cell bn, seatD g past, rwD w] S) P := by
  have hbl := (List.getElem?_eq_some_iff.mp B.ins).1
  have n3 := G.nas.hi
  have m6 := G.pls.hi
  have g10 := G.len
  have w12 := W.len
  have dw : DatE 60 183 (rwD w) := dat_row2 (k := 56) W (by decide) (by decide) (by omega) (by omega)
  unfold Lw.f__law_put
  refine k_fn rfl ?_
  unfold Lw.d__law_put seatD
  walk_at "dl"
  refine ⟨[.tup [nmsD g.1, nmsD g.2.1], .lst (g.2.2.map rwD), .lst (past.map fun h => .lst (h.2.2.map rwD))], _, rfl, rfl, rfl, ?_⟩
  refine k_seqQ (fun f ρ1 S1 => f = .nx ∧ ∃ c ls, Gy S S1 ∧ RkAt S1 w c ls ∧ NewC S.length S1.length (c :: ls) ∧ ρ1 = [some (.cell bn), some (seatD g past), some (rwD w), some (rkD w c), none, some (.tup [nmsD g.1, nmsD g.2.1]), some (.lst (g.2.2.map rwD)), some (.lst (past.map fun h => .lst (h.2.2.map rwD))), none, none]) ?_ ?_
  · walk_at "dl"
    refine law_copy_ok (by omega) fun c ls S1 g1 R1 N1 => ?_
    walk_at "dl"
    exact ⟨rfl, c, ls, g1, R1, N1, rfl⟩
  rintro f ρ1 S1 ⟨rfl, c, ls, g1, R1, N1, rfl⟩
  dsimp only
  have B1 := B.up g1.old
  have l1 := g1.len
  refine k_seqQ (fun f ρ1 S2 => f = .nx ∧ S2 = S1 ∧ ρ1 = [some (.cell bn), some (seatD g past), some (rwD w), some (rkD w c), some .non, some (.tup [nmsD g.1, nmsD g.2.1]), some (.lst (g.2.2.map rwD)), some (.lst (past.map fun h => .lst (h.2.2.map rwD))), none, none]) ?_ ?_
  · walk_at "dl"
    exact ⟨rfl, rfl, rfl⟩
  rintro f ρ1 S1' ⟨rfl, e1', rfl⟩
  have e2' := e1'.symm
  subst e2'
  dsimp only
  refine k_seqQ (fun f ρ1 S2 => f = .nx ∧ S1.length ≤ S2.length ∧ (∀ x, x < S1.length → x ≠ bn → S2[x]? = S1[x]?) ∧ ∃ fd : D, ρ1 = [some (.cell bn), some (seatD g past), some (rwD w), some (rkD w c), some fd, some (.tup [nmsD g.1, nmsD g.2.1]), some (.lst (g.2.2.map rwD)), some (.lst (past.map fun h => .lst (h.2.2.map rwD))), none, none] ∧ ((g.2.2.length < 10 ∧ fd = .int (g.2.2.length : Nat) ∧ BnAt S2 bn (g.1, g.2.1, g.2.2 ++ [w]) (past ++ [g])) ∨ (g.2.2.length = 10 ∧ fd = .str "full" ∧ BnAt S2 bn g past))) ?_ ?_
  · by_cases h10 : g.2.2.length < 10
    · refine k_tryNO ?_
      walk_at "dl"
      refine k_mo ?_
      walk_at "dl"
      refine ⟨bn, _, rfl, B1.ins, rfl, ?_⟩
      walk_at "dl"
      refine put_ok B1 G W R1 hp h10 fun S2 l2 o2 B2 => ?_
      walk_at "dl"
      exact ⟨rfl, l2, o2, _, rfl, .inl ⟨h10, rfl, B2⟩⟩
    · refine k_tryNX ?_
      refine x_set (x_mo73 ?_)
      walk_at "dl"
      refine ⟨bn, _, rfl, B1.ins, rfl, ?_⟩
      walk_at "dl"
      refine put_full B1 G W R1 (by omega) ⟨by decide +kernel, ?_⟩
      walk_at "dl"
      exact ⟨rfl, Nat.le_refl _, fun _ _ _ => rfl, _, rfl, .inr ⟨by omega, rfl, B1⟩⟩
  rintro f ρ1 S2 ⟨rfl, l2, o2, fd, rfl, hfd⟩
  dsimp only
  have R2 : RkAt S2 w c ls := R1.sub N1 fun x h1 h2 => o2 x h2 (by omega)
  walk_at "dl"
  refine o_reprP R2.deep dw (by decide) ?_
  walk_at "dl"
  refine o_reprQ dw (by decide) ?_
  refine o_neDpF ?_
  walk_at "dl"
  try refine k_ifF (by simp) ?_
  unfold rkD
  walk_at "dl"
  have lw : (wsK w.2.2 ls).length = w.2.2.length := wsK_len R2.l.len
  refine i_cell R2.c ?_
  have nd := N1.nd
  obtain ⟨nc, nl⟩ := List.nodup_cons.mp nd
  refine k_forN (xs := wsK w.2.2 ls) (fun i ρ S' => S'[c]? = some (some (.lst (wsK w.2.2 ls))) ∧ S'.length = S2.length ∧ (∀ x, x < S.length → S'[x]? = S2[x]?) ∧ (∀ (j : Nat) l, i ≤ j → ls[j]? = some l → S'[l]? = S2[l]?) ∧ ∃ x8 x9 : Option D, ρ = [some (.cell bn), some (seatD g past), some (rwD w), some (rkD w c), some fd, some (.tup [nmsD g.1, nmsD g.2.1]), some (.lst (g.2.2.map rwD)), some (.lst (past.map fun h => .lst (h.2.2.map rwD))), x8, x9]) rfl ⟨R2.c, rfl, fun _ _ => rfl, fun _ _ _ _ => rfl, _, _, rfl⟩ (fun i ρ S' h => itC_nx h.1) ?_ ?_
  · rintro i ρ S3 d hd ⟨c3, l3, o3, k3, x8, x9, rfl⟩
    have hi := (List.getElem?_eq_some_iff.mp hd).1
    rw [lw] at hi
    obtain ⟨l, e1, e2, e3⟩ := R2.l.get (List.getElem?_eq_getElem hi)
    rw [e2] at hd
    cases hd
    have e4 : S3[l]? = some (some (.lst (w.2.2[i].2.map .int))) := by rw [k3 i l (Nat.le_refl _) e1]; exact e3
    have hwl := (W.ws _ (List.getElem_mem hi)).len
    have hlm : l ∈ ls := List.mem_of_getElem? e1
    have hls := N1.lo l (by simp [hlm])
    obtain ⟨z, hz⟩ : ∃ z, (w.2.2[i].2.map D.int)[0]? = some (.int z) := by
      match hh : w.2.2[i].2 with
      | [] => rw [hh] at hwl; simp at hwl
      | z :: zs => exact ⟨z, rfl⟩
    refine ⟨_, rfl, ?_⟩
    walk_at "dl"
    refine o_ixC (j := 0) e4 rfl hz ?_
    walk_at "dl"
    refine o_addU2 ?_
    walk_at "dl"
    refine ⟨S3.set l (some (.lst ((w.2.2[i].2.map D.int).set 0 (.int (z + 1))))), by simp only [setD, e4]; rw [show L2.ixN (w.2.2[i].2.map D.int).length 0 = some 0 by unfold L2.ixN; rw [if_pos (by omega), if_pos (by rw [List.length_map]; omega)]; rfl], ?_⟩
    refine ⟨by rw [List.getElem?_set_ne (show l ≠ c from fun e => nc (e ▸ hlm))]; exact c3, by rw [List.length_set]; exact l3, fun x hx => by rw [List.getElem?_set_ne (by omega)]; exact o3 x hx, fun j l' hj hl' => ?_, _, _, rfl⟩
    rw [List.getElem?_set_ne, k3 j l' (by omega) hl']
    intro e
    have hi' := (List.getElem?_eq_some_iff.mp e1).1
    have := (List.getElem?_inj (j := j) hi' nl).mp (by rw [e1, hl', e])
    omega
  · rintro ρ S3 ⟨c3, l3, o3, k3, x8, x9, rfl⟩
    unfold rkD
    walk_at "dl"
    refine ⟨chkL_cB c3, ?_⟩
    walk_at "dl"
    refine o_clear c3 ?_
    walk_at "dl"
    rw [List.length_map]
    refine o_eqDpIB ?_
    have hcl := N1.lo c (by simp)
    obtain ⟨S4, hS4⟩ : ∃ S4, S4 = S3.set c (some (CO.lst [])) := ⟨_, rfl⟩
    rw [← hS4]
    have l4 : S.length ≤ S4.length := by rw [hS4, List.length_set]; omega
    have o4 : ∀ x, x < S.length → S4[x]? = S2[x]? := fun x hx => by rw [hS4, List.getElem?_set_ne (by omega)]; exact o3 x hx
    have o5 : ∀ x, x < S.length → x ≠ bn → S4[x]? = S[x]? := fun x hx hn => by rw [o4 x hx, o2 x (by omega) hn, g1.old x hx]
    rcases hfd with ⟨h10, rfl, B2⟩ | ⟨h10, rfl, B2⟩
    · have B4 : BnAt S4 bn (g.1, g.2.1, g.2.2 ++ [w]) (past ++ [g]) := ⟨(o4 bn hbl).trans B2.ins⟩
      rw [decide_eq_false (by omega)]
      walk_at "dl"
      try refine k_ifF (by simp) ?_
      walk_at "dl"
      refine o_addU1 (by rw [sizeLine_eq]; simp; omega) ?_
      walk_at "dl"
      refine o_addU1 (by rw [sizeLine_eq]; simp; omega) ?_
      walk_at "dl"
      refine o_reprQ (b := 0) (DatE.int (k := 60) (m := 20) (i := (g.2.2.length : Nat)) (by unfold Sz; omega) (by decide) (by decide)) (by decide) ?_
      walk_at "dl"
      rw [List.length_map]
      refine o_reprQ (b := 0) (DatE.int (k := 60) (m := 20) (i := (g.2.2.length : Nat)) (by unfold Sz; omega) (by decide) (by decide)) (by decide) ?_
      refine o_eqDpT ?_
      walk_at "dl"
      have e : (D.lst [.tup [nmsD g.1, nmsD g.2.1], .lst (g.2.2.map rwD ++ [rwD w]), .lst ((past.map fun h => D.lst (h.2.2.map rwD)) ++ [.lst (g.2.2.map rwD)])]) = seatD (g.1, g.2.1, g.2.2 ++ [w]) (past ++ [g]) := by
        unfold seatD
        simp only [List.map_append, List.map_cons, List.map_nil]
      rw [e]
      obtain ⟨t1, t2⟩ := trim_le73 (S := S) (S' := S4) (d := seatD (g.1, g.2.1, g.2.2 ++ [w]) (past ++ [g])) l4
      exact q1 _ h10 t1 (fun x hx hn => by rw [t2 x hx]; exact o5 x hx hn) ⟨(t2 bn hbl).trans B4.ins⟩
    · have B4 : BnAt S4 bn g past := ⟨(o4 bn hbl).trans B2.ins⟩
      rw [decide_eq_true (by rw [h10]; rfl)]
      walk_at "dl"
      try refine k_ifT (by rfl) ?_
      walk_at "dl"
      refine o_eqDpT ?_
      walk_at "dl"
      obtain ⟨t1, t2⟩ := trim_le73 (S := S) (S' := S4) (d := seatD g past) l4
      exact q2 _ h10 t1 (fun x hx hn => by rw [t2 x hx]; exact o5 x hx hn) ⟨(t2 bn hbl).trans B4.ins⟩
end

/-! ### k73: the law's own taking out -/
section
variable {S : Sto} {P : D → Sto → Prop} {bn p : Nat} {g : Pg} {past : List Pg}
theorem k_moK73 {C m : Str} {fm : FM} {ix : List Nat} {dd : List D} {mo : EM} {mr mk : AM} {ρ : DL.Env} (h : Ok (mo ρ S) fun o S1 => ∃ n fs, o = .cell n ∧ S1[n]? = some (some (.ins C fs)) ∧ fs.lookup m = none ∧ Ok (mr ρ S1) fun ds S2 => Ok (mk ρ S2) fun es S3 => Ok (fm (byIxD ix dd (.cell n :: ds) es) S3) P) : Ok (eMoK C m fm ix dd mo mr mk ρ S) P :=
  Ok.bind (h.imp fun o S1 ⟨n, fs, e1, e2, e3, q⟩ => by
    subst e1
    dsimp only
    rw [e2]
    dsimp only
    rw [if_pos ⟨rfl, e3⟩]
    exact Ok.bind (q.imp fun _ _ q => Ok.bind q))
set_option maxHeartbeats 4000000 in
theorem ltaken_ok (hP : IsPool S p) (hpb : p ≠ bn) (B : BnAt S bn g past) (G : PgOk 40 g) (hp : past.length ≤ 1000) (hne : 0 < g.2.2.length)
    (q : ∀ (a : Nat) S', a < g.2.2.length → IsPool S' p → BnAt S' bn (g.1, g.2.1, cutR a g.2.2) (past ++ [g]) → P (seatD (g.1, g.2.1, cutR a g.2.2) (past ++ [g])) S') : Ok (Lw.f__law_taken [.cell p, .cell bn, seatD g past] S) P := by
  have hbl := (List.getElem?_eq_some_iff.mp B.ins).1
  have n3 := G.nas.hi
  have m6 := G.pls.hi
  have g10 := G.len
  unfold Lw.f__law_taken
  refine k_fn rfl ?_
  unfold Lw.d__law_taken seatD
  walk_at "dl"
  refine ⟨[.tup [nmsD g.1, nmsD g.2.1], .lst (g.2.2.map rwD), .lst (past.map fun h => .lst (h.2.2.map rwD))], _, rfl, rfl, rfl, ?_⟩
  walk_at "dl"
  rw [List.length_map]
  refine take_ok hP (by omega) (by omega) fun z S1 z0 z1 s1 => ?_
  obtain ⟨a, rfl⟩ := Int.eq_ofNat_of_zero_le z0
  have ha : a < g.2.2.length := by omega
  have B1 : BnAt S1 bn g past := ⟨(s1.oth bn (Ne.symm hpb)).trans B.ins⟩
  walk_at "dl"
  have W := G.rows _ (List.getElem_mem ha)
  have w12 := W.len
  refine k_moK73 ?_
  walk_at "dl"
  refine ⟨bn, _, rfl, B1.ins, rfl, ?_⟩
  walk_at "dl"
  refine take_ok73 B1 G hp g10 ha (by omega) fun c ls S2 l2 o2 B2 R2 N2 => ?_
  walk_at "dl"
  have dw : DatE 60 183 (rwD g.2.2[a]) := dat_row2 (k := 56) W (by decide) (by decide) (by omega) (by omega)
  refine o_reprP R2.deep dw (by decide) ?_
  walk_at "dl"
  refine atI_at73 (x := rwD g.2.2[a]) (by omega) (by rw [Int.toNat_natCast, List.getElem?_map, List.getElem?_eq_getElem ha]; rfl) ?_
  walk_at "dl"
  refine o_reprQ dw (by decide) ?_
  refine o_neDpF ?_
  walk_at "dl"
  try refine k_ifF (by simp) ?_
  unfold rkD
  walk_at "dl"
  refine ⟨chkL_cB R2.c, ?_⟩
  walk_at "dl"
  have lw : (wsK g.2.2[a].2.2 ls).length = g.2.2[a].2.2.length := wsK_len R2.l.len
  refine o_app R2.c (by rw [sizeLine_eq]; omega) ?_
  have hcl := N2.lo c (by simp)
  have hl1 := s1.len
  generalize hS3 : S2.set c (some (CO.lst (wsK g.2.2[a].2.2 ls ++ [D.non]))) = S3
  have B3 : BnAt S3 bn (g.1, g.2.1, cutR a g.2.2) (past ++ [g]) := ⟨by rw [← hS3, List.getElem?_set_ne (by omega)]; exact B2.ins⟩
  have l3 : S.length ≤ S3.length := by rw [← hS3, List.length_set]; omega
  have o3 : ∀ x, x < S1.length → x ≠ bn → S3[x]? = S1[x]? := fun x hx hn => by rw [← hS3, List.getElem?_set_ne (by omega)]; exact o2 x hx hn
  walk_at "dl"
  rw [cut_to73 (by rw [List.length_map]; omega), cut_from73 (by rw [List.length_map]; omega), ← List.map_take, ← List.map_drop]
  refine o_addL (by rw [sizeLine_eq]; simp; omega) ?_
  rw [← List.map_append]
  walk_at "dl"
  refine o_addL (by rw [sizeLine_eq]; simp; omega) ?_
  walk_at "dl"
  have e : (D.lst [.tup [nmsD g.1, nmsD g.2.1], .lst ((g.2.2.take a ++ g.2.2.drop (a + 1)).map rwD), .lst ((past.map fun h => D.lst (h.2.2.map rwD)) ++ [.lst (g.2.2.map rwD)])]) = seatD (g.1, g.2.1, cutR a g.2.2) (past ++ [g]) := by
    unfold seatD cutR
    simp only [List.map_append, List.map_cons, List.map_nil]
  rw [e]
  obtain ⟨t1, t2⟩ := trim_le73 (S := S) (S' := S3) (d := seatD (g.1, g.2.1, cutR a g.2.2) (past ++ [g])) l3
  have hpl := hP.lt
  obtain ⟨u, v, hu, hv, ep⟩ := s1.pool
  exact q a _ ha ⟨u, v, hu, hv, by rw [t2 p hpl, o3 p (by omega) hpb]; exact ep⟩ ⟨(t2 bn hbl).trans B3.ins⟩
end

/-! ### k73: the law's own change -/
section
variable {S : Sto} {P : D → Sto → Prop} {bn p : Nat} {g : Pg} {past : List Pg}
set_option maxHeartbeats 4000000 in
theorem lchanged_ok (hP : IsPool S p) (hpb : p ≠ bn) (B : BnAt S bn g past) (G : PgOk 40 g) (hp : past.length ≤ 1000) (hne : 0 < g.2.2.length)
    (q : ∀ (a : Nat) (ws : List Wi) S' (ha : a < g.2.2.length), (∀ w ∈ ws, WiOk 40 (2 * g.1.length) w) → ws.length ≤ 12 → IsPool S' p → BnAt S' bn (g.1, g.2.1, chgR a ws g.2.2 ha) (past ++ [g]) → P (seatD (g.1, g.2.1, chgR a ws g.2.2 ha) (past ++ [g])) S') : Ok (Lw.f__law_changed [.cell p, .cell bn, seatD g past] S) P := by
  have hbl := (List.getElem?_eq_some_iff.mp B.ins).1
  have n3 := G.nas.hi
  have n1 := G.nas.lo
  have m6 := G.pls.hi
  have m1 := G.pls.lo
  have g10 := G.len
  unfold Lw.f__law_changed
  refine k_fn rfl ?_
  unfold Lw.d__law_changed seatD
  walk_at "dl"
  refine ⟨[.tup [nmsD g.1, nmsD g.2.1], .lst (g.2.2.map rwD), .lst (past.map fun h => .lst (h.2.2.map rwD))], _, rfl, rfl, rfl, ?_⟩
  refine k_seqQ (fun f ρ1 S1 => f = .nx ∧ SP p S S1 ∧ ∃ a : Nat, a < g.2.2.length ∧ ρ1 = [some (.cell p), some (.cell bn), some (seatD g past), some (.int a), none, none, some (.tup [nmsD g.1, nmsD g.2.1]), some (.lst (g.2.2.map rwD)), some (.lst (past.map fun h => .lst (h.2.2.map rwD))), none, none, none, none, none]) ?_ ?_
  · walk_at "dl"
    rw [List.length_map]
    refine take_ok hP (by omega) (by omega) fun z S1 z0 z1 s1 => ?_
    obtain ⟨a, rfl⟩ := Int.eq_ofNat_of_zero_le z0
    walk_at "dl"
    exact ⟨rfl, s1, a, by omega, rfl⟩
  rintro f ρ1 S1 ⟨rfl, s1, a, ha, rfl⟩
  dsimp only
  refine k_seqQ (fun f ρ1 S2 => f = .nx ∧ SP p S1 S2 ∧ ∃ w : Rw, RwOk 40 g.1.length g.2.1.length w ∧ ρ1 = [some (.cell p), some (.cell bn), some (seatD g past), some (.int a), some (.lst (w.2.2.map wD)), none, some (.tup [nmsD g.1, nmsD g.2.1]), some (.lst (g.2.2.map rwD)), some (.lst (past.map fun h => .lst (h.2.2.map rwD))), none, none, none, none, none]) ?_ ?_
  · walk_at "dl"
    unfold nmsD
    walk_at "dl"
    rw [List.length_map, List.length_map]
    refine free73_ok (n := g.1.length) (m := g.2.1.length) s1.pool rfl (by omega) (by omega) rfl (by omega) (by omega) fun w S2 W w3 s2 => ?_
    unfold rwD
    walk_at "dl"
    exact ⟨rfl, s2, w, W, rfl⟩
  rintro f ρ1 S2 ⟨rfl, s2, w, W, rfl⟩
  dsimp only
  have B2 : BnAt S2 bn g past := ⟨((s1.trans s2).oth bn (Ne.symm hpb)).trans B.ins⟩
  have l2 := (s1.trans s2).len
  have w12 := W.len
  refine k_seqQ (fun f ρ1 S4 => f = .nx ∧ ∃ c ls, Gy S2 S4 ∧ S4[c]? = some (some (.lst (wsK w.2.2 ls))) ∧ LnAt S4 w.2.2 ls ∧ NewC S2.length S4.length (c :: ls) ∧ ρ1 = [some (.cell p), some (.cell bn), some (seatD g past), some (.int a), some (.lst (w.2.2.map wD)), some (.cell c), some (.tup [nmsD g.1, nmsD g.2.1]), some (.lst (g.2.2.map rwD)), some (.lst (past.map fun h => .lst (h.2.2.map rwD))), none, none, none, none, none]) ?_ ?_
  · walk_at "dl"
    refine i_list ?_
    refine k_lcL (fun i acc S' => Gy S2 S' ∧ ∃ ls, acc = wsK (w.2.2.take i) ls ∧ LnAt S' (w.2.2.take i) ls ∧ NewC S2.length S'.length ls) ⟨.refl, [], rfl, .nil, .nil⟩ ?_ ?_
    · rintro i acc S3 d hd ⟨g1, ls, rfl, L1, N1⟩
      obtain ⟨v, hw', rfl⟩ := getElem?_map_some hd
      have hi := (List.getElem?_eq_some_iff.mp hw').1
      have ht : w.2.2.take (i + 1) = w.2.2.take i ++ [v] := by rw [List.take_add_one, hw']; rfl
      have hl := L1.len
      refine ⟨_, rfl, ?_⟩
      refine k_yes ?_
      rw [if_pos rfl]
      walk_at "dl"
      refine o_listC ?_
      have gy : Gy S3 (S3 ++ [some (CO.lst (v.2.map .int))]) := .app
      refine ⟨by rw [sizeLine_eq, wsK_len hl, List.length_take]; omega, g1.trans gy, ls ++ [S3.length], ?_, ?_, ?_⟩
      · rw [ht, wsK_snoc hl]
      · rw [ht]
        exact (L1.stay fun x hx => gy.old x (N1.hi x hx)).snoc at_end
      · exact N1.app (.one (Nat.le_refl _) (by simp)) g1.len (by simp)
    rintro acc S3 ⟨g1, ls, rfl, L1, N1⟩
    rw [List.length_map, List.take_length] at L1 ⊢
    have gy : Gy S3 (S3 ++ [some (CO.lst (wsK w.2.2 ls))]) := .app
    have hlen := g1.len
    walk_at "dl"
    exact ⟨rfl, S3.length, ls, g1.trans gy, at_end, L1.stay fun x hx => gy.old x (N1.hi x hx), (N1.app (.one (Nat.le_refl S3.length) (by simp)) g1.len (by simp)).perm (by simpa using List.perm_append_comm), rfl⟩
  rintro f ρ1 S4 ⟨rfl, c, ls, g4, c4, L4, N4, rfl⟩
  dsimp only
  have B4 := B2.up g4.old
  refine k_seqQ (fun f ρ1 S5 => f = .nx ∧ S4.length ≤ S5.length ∧ (∀ x, x < S4.length → x ≠ bn → S5[x]? = S4[x]?) ∧ BnAt S5 bn (g.1, g.2.1, chgR a w.2.2 g.2.2 ha) (past ++ [g]) ∧ ρ1 = [some (.cell p), some (.cell bn), some (seatD g past), some (.int a), some (.lst (w.2.2.map wD)), some (.cell c), some (.tup [nmsD g.1, nmsD g.2.1]), some (.lst (g.2.2.map rwD)), some (.lst (past.map fun h => .lst (h.2.2.map rwD))), none, none, none, none, none]) ?_ ?_
  · walk_at "dl"
    refine k_moK73 ?_
    walk_at "dl"
    refine ⟨bn, _, rfl, B4.ins, rfl, ?_⟩
    walk_at "dl"
    refine change_ok73 B4 G W.ws w12 c4 L4 hp ha fun S5 l5 o5 B5 => ?_
    walk_at "dl"
    refine .of rfl ?_
    walk_at "dl"
    try refine k_ifF (by simp) ?_
    walk_at "dl"
    have hm5 : ∀ x ∈ c :: ls, S5[x]? = S4[x]? := fun x hx => o5 x (N4.hi x hx) (by have := N4.lo x hx; omega)
    have dc : deepD S5 12 (.cell c) = .lst (w.2.2.map wD) := by
      show (match S5[c]? with
        | some (some (.lst xs)) => D.lst (xs.map (deepD S5 11))
        | _ => D.cell c) = _
      rw [hm5 c (by simp), c4]
      show D.lst ((wsK w.2.2 ls).map (deepD S5 11)) = _
      rw [(L4.stay fun x hx => hm5 x (by simp [hx])).deep (n := 8)]
    have dws : DatE 60 180 (.lst (w.2.2.map wD)) := DatE.lst (k := 59) (DatEL.mono (DatEL.all (b := 14) (n := 12) (fun x hx => by
      obtain ⟨v, hv, rfl⟩ := List.mem_map.mp hx
      exact dat_wish2 (k := 57) (W.ws v hv) (by decide) (by decide) (by omega)) (by rw [List.length_map]; exact w12)) (by decide))
    refine o_reprP dc dws (by decide) ?_
    walk_at "dl"
    refine o_reprQ dws (by decide) ?_
    refine o_neDpF ?_
    walk_at "dl"
    try refine k_ifF (by simp) ?_
    first | exact k_nx ⟨rfl, l5, o5, B5, rfl⟩ | exact ⟨rfl, l5, o5, B5, rfl⟩
  rintro f ρ1 S5 ⟨rfl, l5, o5, B5, rfl⟩
  dsimp only
  have hm5 : ∀ x ∈ c :: ls, S5[x]? = S4[x]? := fun x hx => o5 x (N4.hi x hx) (by have := N4.lo x hx; omega)
  have c5 : S5[c]? = some (some (.lst (wsK w.2.2 ls))) := (hm5 c (by simp)).trans c4
  have L5 : LnAt S5 w.2.2 ls := L4.stay fun x hx => hm5 x (by simp [hx])
  have lw : (wsK w.2.2 ls).length = w.2.2.length := wsK_len L5.len
  walk_at "dl"
  refine ⟨chkL_cB c5, ?_⟩
  walk_at "dl"
  refine o_app c5 (by rw [sizeLine_eq]; omega) ?_
  have hcl := N4.lo c (by simp)
  generalize hS6 : S5.set c (some (CO.lst (wsK w.2.2 ls ++ [D.non]))) = S6
  have c6 : S6[c]? = some (some (.lst (wsK w.2.2 ls ++ [D.non]))) := by rw [← hS6]; exact List.getElem?_set_self (List.getElem?_eq_some_iff.mp c5).1
  have o6 : ∀ x, x ≠ c → S6[x]? = S5[x]? := fun x hx => by rw [← hS6, List.getElem?_set_ne (Ne.symm hx)]
  have l6 : S6.length = S5.length := by rw [← hS6, List.length_set]
  clear hS6
  obtain ⟨nc, nl⟩ := List.nodup_cons.mp N4.nd
  have L6 : LnAt S6 w.2.2 ls := L5.stay fun x hx => o6 x fun e => nc (e ▸ hx)
  walk_at "dl"
  refine o_sl (xs := wsK w.2.2 ls ++ [D.non]) (by simp [DL.listOf, c6]) ?_
  rw [show DL.cutD (wsK w.2.2 ls ++ [D.non]) none (some (-1)) = wsK w.2.2 ls by
    unfold DL.cutD
    rw [HT.sIx_none]
    unfold HT.sIx
    simp
    rw [show ((-1 : Int) + (((wsK w.2.2 ls).length : Int) + 1)).toNat = (wsK w.2.2 ls).length by omega]
    exact List.take_left' (by simp)]
  refine i_list ?_
  refine k_forL (xs := wsK w.2.2 ls) (fun i ρ S' => S'.length = S6.length ∧ (∀ x, x < S2.length → S'[x]? = S6[x]?) ∧ (∀ (j : Nat) l, i ≤ j → ls[j]? = some l → S'[l]? = S6[l]?) ∧ ∃ x9 x10 : Option D, ρ = [some (.cell p), some (.cell bn), some (seatD g past), some (.int a), some (.lst (w.2.2.map wD)), some (.cell c), some (.tup [nmsD g.1, nmsD g.2.1]), some (.lst (g.2.2.map rwD)), some (.lst (past.map fun h => .lst (h.2.2.map rwD))), x9, x10, none, none, none]) ⟨rfl, fun _ _ => rfl, fun _ _ _ _ => rfl, _, _, rfl⟩ ?_ ?_
  · rintro i ρ S7 d hd ⟨l7, o7, k7, x9, x10, rfl⟩
    have hi := (List.getElem?_eq_some_iff.mp hd).1
    rw [lw] at hi
    obtain ⟨l, e1, e2, e3⟩ := L6.get (List.getElem?_eq_getElem hi)
    rw [e2] at hd
    cases hd
    have e4 : S7[l]? = some (some (.lst (w.2.2[i].2.map .int))) := by rw [k7 i l (Nat.le_refl _) e1]; exact e3
    have hlm : l ∈ ls := List.mem_of_getElem? e1
    have hls := N4.lo l (by simp [hlm])
    refine ⟨_, rfl, ?_⟩
    walk_at "dl"
    refine ⟨chkL_cB e4, ?_⟩
    walk_at "dl"
    refine o_clear e4 ?_
    refine ⟨by rw [List.length_set]; exact l7, fun x hx => by rw [List.getElem?_set_ne (by omega)]; exact o7 x hx, fun j l' hj hl' => ?_, _, _, rfl⟩
    rw [List.getElem?_set_ne, k7 j l' (by omega) hl']
    intro e
    have hi' := (List.getElem?_eq_some_iff.mp e1).1
    have := (List.getElem?_inj (j := j) hi' nl).mp (by rw [e1, hl', e])
    omega
  rintro ρ S7 ⟨l7, o7, k7, x9, x10, rfl⟩
  have B7 : BnAt S7 bn (g.1, g.2.1, chgR a w.2.2 g.2.2 ha) (past ++ [g]) := ⟨by rw [o7 bn (by omega), o6 bn (by omega)]; exact B5.ins⟩
  have l77 : S.length ≤ S7.length := by have := g4.len; omega
  walk_at "dl"
  refine atI_at73 (x := .tup [.int g.2.2[a].1, .int g.2.2[a].2.1, .lst (g.2.2[a].2.2.map wD)]) (by omega) (by rw [Int.toNat_natCast, List.getElem?_map, List.getElem?_eq_getElem ha]; rfl) ?_
  walk_at "dl"
  rw [cut_to73 (by rw [List.length_map]; omega), show (D.tup [.int g.2.2[a].1, .int g.2.2[a].2.1, .lst (w.2.2.map wD)]) = rwD ((g.2.2[a]).1, (g.2.2[a]).2.1, w.2.2) from rfl, ← List.map_take]
  refine o_addL (by rw [sizeLine_eq]; simp; omega) ?_
  walk_at "dl"
  rw [cut_from73 (by rw [List.length_map]; omega), ← List.map_drop]
  refine o_addL (by rw [sizeLine_eq]; simp; omega) ?_
  rw [show (g.2.2.take a).map rwD ++ [rwD ((g.2.2[a]).1, (g.2.2[a]).2.1, w.2.2)] ++ (g.2.2.drop (a + 1)).map rwD = (chgR a w.2.2 g.2.2 ha).map rwD by unfold chgR; simp]
  walk_at "dl"
  refine o_addL (by rw [sizeLine_eq]; simp; omega) ?_
  walk_at "dl"
  have e : (D.lst [.tup [nmsD g.1, nmsD g.2.1], .lst ((chgR a w.2.2 g.2.2 ha).map rwD), .lst ((past.map fun h => D.lst (h.2.2.map rwD)) ++ [.lst (g.2.2.map rwD)])]) = seatD (g.1, g.2.1, chgR a w.2.2 g.2.2 ha) (past ++ [g]) := by
    unfold seatD
    simp only [List.map_append, List.map_cons, List.map_nil]
  rw [e]
  obtain ⟨t1, t2⟩ := trim_le73 (S := S) (S' := S7) (d := seatD (g.1, g.2.1, chgR a w.2.2 g.2.2 ha) (past ++ [g])) l77
  have hpl := hP.lt
  have hp2 := s2.pool.lt
  obtain ⟨u, v, hu, hv, ep⟩ := s2.pool
  exact q a _ _ ha W.ws w12 ⟨u, v, hu, hv, by rw [t2 p hpl, o7 p hp2, o6 p (by omega), o5 p (by have := g4.len; omega) hpb, g4.old p hp2]; exact ep⟩ ⟨(t2 bn hbl).trans B7.ins⟩
end

/-! ### k73: a bench is made -/
section
variable {S : Sto} {P : D → Sto → Prop} {bn r a c : Nat} {g : Pg} {ks0 : List RK}
theorem LnAt.lt73 {S : Sto} {ws : List Wi} {ls : List Nat} (h : LnAt S ws ls) : ∀ x ∈ ls, x < S.length := by
  induction h with
  | nil => intro x hx; simp at hx
  | cons h1 h2 ih =>
    intro x hx
    rcases List.mem_cons.mp hx with rfl | hx
    · exact (List.getElem?_eq_some_iff.mp h1).1
    · exact ih x hx
theorem RwAt.lt73 {S : Sto} {ws : List Rw} {ks : List RK} (h : RwAt S ws ks) : ∀ x ∈ cellsR ks, x < S.length := by
  induction h with
  | nil => intro x hx; simp [cellsR] at hx
  | cons h1 h2 h3 ih =>
    intro x hx
    rw [cellsR_cons] at hx
    rcases List.mem_append.mp hx with hx | hx
    · rcases List.mem_cons.mp hx with rfl | hx
      · exact (List.getElem?_eq_some_iff.mp h1).1
      · exact h2.lt73 x hx
    · exact ih x hx
def hdD (a c : Nat) (g : Pg) : D := .tup [.cell a, nmsD g.2.1, .cell c]
theorem deep_hd (ha : S[a]? = some (some (.lst (g.1.map .str)))) (hc : S[c]? = some (some (.lst (rsK g.2.2 ks0)))) (R0 : RwAt S g.2.2 ks0) : deepD S 12 (hdD a c g) = pgD g := by
  show D.tup [deepD S 11 (.cell a), D.lst ((g.2.1.map D.str).map (deepD S 10)), deepD S 11 (.cell c)] = _
  rw [deepK_cell ha, deepK_cell hc, R0.deep (n := 5), deepK_strs, deepK_strs]
  rfl
set_option maxHeartbeats 4000000 in
theorem copied_m (G : PgOk r g) (ha : S[a]? = some (some (.lst (g.1.map .str)))) (hc : S[c]? = some (some (.lst (rsK g.2.2 ks0)))) (R0 : RwAt S g.2.2 ks0) (q : ∀ a b c ks S', Gy S S' → PgAt S' g a b c ks → NewC S.length S'.length (a :: b :: c :: cellsR ks) → P (pgC a b c) S') : Ok (Lw.f_copied [hdD a c g] S) P := by
  have hn := G.nas.hi; have hm := G.pls.hi; have gl := G.len
  have hcl := (List.getElem?_eq_some_iff.mp hc).1
  unfold Lw.f_copied
  refine k_fn rfl ?_
  unfold Lw.d_copied hdD nmsD
  walk_at "dl"
  refine o_lstCsB (xs := g.1.map .str) (by simp only [seqOf, DL.listOf, ha]) ?_
  walk_at "dl"
  refine o_listC ?_
  walk_at "dl"
  obtain ⟨S0, e0⟩ : ∃ S0, S0 = (S ++ [some (CO.lst (g.1.map D.str))]) ++ [some (CO.lst (g.2.1.map D.str))] := ⟨_, rfl⟩
  rw [← e0]
  have l0 : S0.length = S.length + 2 := by rw [e0]; simp
  have g0 : Gy S S0 := by rw [e0, List.append_assoc]; exact .app
  have at0 : ∀ k, k < 2 → S0[S.length + k]? = [some (CO.lst (g.1.map D.str)), some (CO.lst (g.2.1.map D.str))][k]? := fun k hk => by
    rw [e0, List.append_assoc, List.getElem?_append_right (by omega), show S.length + k - S.length = k by omega]; rfl
  have lk0 : (rsK g.2.2 ks0).length = g.2.2.length := rsK_len R0.len
  have c0 : S0[c]? = some (some (.lst (rsK g.2.2 ks0))) := (g0.old c hcl).trans hc
  refine i_cell c0 ?_
  refine k_lcN (xs := rsK g.2.2 ks0) (fun i acc S' => Gy S0 S' ∧ ∃ ks, acc = rsK (g.2.2.take i) ks ∧ RwAt S' (g.2.2.take i) ks ∧ NewC S0.length S'.length (cellsR ks)) rfl ⟨.refl, [], rfl, .nil, .nil⟩ (fun i acc S' h => itC_nx (by rw [h.1.old c (by omega)]; exact c0)) ?_ ?_
  · rintro i acc S1 d hd ⟨g1, ks, rfl, R1, N1⟩
    have hi := (List.getElem?_eq_some_iff.mp hd).1
    rw [lk0] at hi
    have hw : g.2.2[i]? = some g.2.2[i] := List.getElem?_eq_getElem hi
    obtain ⟨k, e1, e2, e3, e4⟩ := R0.get hw
    rw [e2] at hd
    cases hd
    have W := G.rows _ (List.getElem_mem hi)
    have ht : g.2.2.take (i + 1) = g.2.2.take i ++ [g.2.2[i]] := by rw [List.take_add_one, hw]; rfl
    have hl := R1.len
    have w12 := W.len
    have RK : RkAt S1 g.2.2[i] k.1 k.2 := ⟨by rw [(g0.trans g1).old _ (List.getElem?_eq_some_iff.mp e3).1]; exact e3, e4.stay fun x hx => (g0.trans g1).old _ (e4.lt73 x hx)⟩
    refine ⟨_, rfl, ?_⟩
    refine k_yes ?_
    rw [if_pos rfl]
    walk_at "dl"
    refine copied_rowC (by omega) RK fun c ls S2 g2 R2 hN => ?_
    refine ⟨by rw [sizeLine_eq, rsK_len hl, List.length_take]; omega, g1.trans g2, ks ++ [(c, ls)], ?_, ?_, ?_⟩
    · rw [ht, rsK_snoc hl]; rfl
    · rw [ht]
      exact (R1.stay fun x hx => g2.old x (N1.hi x hx)).snoc R2.c R2.l
    · rw [cellsR_snoc]
      exact N1.app hN g1.len g2.len
  · rintro acc S1 ⟨g1, ks, rfl, R1, N1⟩
    rw [lk0, List.take_length] at R1 ⊢
    walk_at "dl"
    have gy : Gy S1 (S1 ++ [some (CO.lst (rsK g.2.2 ks))]) := .app
    have gA := g1.len
    rw [trim_keep (by simp [D.bel, D.belL])]
    have eA : (S ++ [some (CO.lst (g.1.map D.str))]).length = S.length + 1 := by simp
    rw [eA]
    refine q S.length (S.length + 1) S1.length ks _ (g0.trans (g1.trans gy)) ⟨?_, ?_, at_end, R1.stay fun x hx => gy.old x (N1.hi x hx), ?_⟩ ?_
    · rw [(g1.trans gy).old _ (by omega)]; exact at0 0 (by decide)
    · rw [(g1.trans gy).old _ (by omega)]; exact at0 1 (by decide)
    all_goals
      have n2 : NewC S.length S0.length [S.length, S.length + 1] := ⟨fun x hx => by simp at hx; omega, fun x hx => by simp at hx; omega, by simp⟩
      have n1 : NewC S1.length (S1 ++ [some (CO.lst (rsK g.2.2 ks))]).length [S1.length] := .one (Nat.le_refl _) (by simp)
      have n3 : NewC S.length (S1 ++ [some (CO.lst (rsK g.2.2 ks))]).length ([S.length, S.length + 1] ++ (cellsR ks ++ [S1.length])) := n2.app (N1.app n1 g1.len (by simp)) (by omega) (by simp; omega)
      have n4 := n3.perm (b := S.length :: (S.length + 1) :: S1.length :: cellsR ks) (by
        show (S.length :: (S.length + 1) :: (cellsR ks ++ [S1.length])).Perm _
        exact ((List.perm_append_comm.trans (by simp)).cons _).cons _)
    · exact n4.nd
    · exact n4
set_option maxHeartbeats 4000000 in
theorem binit_ok (G : PgOk 40 g) (hb : S[bn]? = some (some (.ins "Bench" []))) (ha : S[a]? = some (some (.lst (g.1.map .str)))) (hc : S[c]? = some (some (.lst (rsK g.2.2 ks0)))) (R0 : RwAt S g.2.2 ks0) (q : ∀ S', S.length ≤ S'.length → (∀ x, x < S.length → x ≠ bn → S'[x]? = S[x]?) → BnAt S' bn g [] → P .non S') : Ok (Lw.f_Bench_m___init__ [.cell bn, hdD a c g] S) P := by
  have hbl := (List.getElem?_eq_some_iff.mp hb).1
  unfold Lw.f_Bench_m___init__
  refine k_fn rfl ?_
  unfold Lw.d_Bench_m___init__
  walk_at "dl"
  refine k_bor73 ?_
  refine k_L (k_cons (k_var (d := pgD g) (by show some (some (deepD S 12 (hdD a c g))) = _; rw [deep_hd ha hc R0]) (k_nil ?_)))
  refine look_at_ok G (by decide) (by decide) ?_
  refine ⟨rfl, rfl, ?_⟩
  walk_at "dl"
  refine k_fldI ?_
  walk_at "dl"
  refine copied_m G ha hc R0 fun a b c ks S1 g1 A N => ?_
  refine frz_pg_ok A fun S2 O2 => ?_
  have g2 : Gy S S2 := Gy.off O2 g1 fun x hx => (N.lo x hx)
  have b2 : S2[bn]? = some (some (.ins "Bench" [])) := (g2.old bn hbl).trans hb
  have hl2 := (List.getElem?_eq_some_iff.mp b2).1
  walk_at "dl"
  refine ⟨bn, _, _, rfl, b2, fi_bprog, by decide, ?_⟩
  walk_at "dl"
  refine k_fldI ?_
  walk_at "dl"
  refine ⟨bn, _, _, rfl, List.getElem?_set_self hl2, fi_bpast, by show 1 < 1000; decide, ?_⟩
  walk_at "dl"
  refine k_fldI ?_
  walk_at "dl"
  refine ⟨bn, _, _, rfl, List.getElem?_set_self (by rw [List.length_set]; exact hl2), fi_bpap, by show 2 < 1000; decide, ?_⟩
  rw [List.set_set, List.set_set]
  generalize hX : S2.set bn _ = S3
  have b3 : BnAt S3 bn g [] := ⟨by rw [← hX, List.getElem?_set_self hl2]; rfl⟩
  have l3 : S3.length = S2.length := by rw [← hX, List.length_set]
  have o3 : ∀ x, x < S.length → x ≠ bn → S3[x]? = S[x]? := fun x hx hn => by rw [← hX, List.getElem?_set_ne (Ne.symm hn)]; exact g2.old x hx
  obtain ⟨t1, t2⟩ := trim_le73 (S := S) (S' := S3) (d := .non) (by have := g2.len; omega)
  exact q _ t1 (fun x hx hn => by rw [t2 x hx]; exact o3 x hx hn) ⟨(t2 bn hbl).trans b3.ins⟩
end

/-! ### k73: a seat and its bench -/
section
variable {S S' : Sto} {P : D → Sto → Prop} {bn p k : Nat} {nas pls : List Str} {g : Pg} {past : List Pg} {w : Rw}
structure SeAt (S : Sto) (bn : Nat) (nas pls : List Str) (g : Pg) (past : List Pg) (k : Nat) : Prop where
  B : BnAt S bn g past
  e1 : g.1 = nas
  e2 : g.2.1 = pls
  G : PgOk 40 g
  ps : ∀ h ∈ past, PgOk 40 h ∧ h.1 = nas ∧ h.2.1 = pls
  len : past.length ≤ k
theorem SeAt.more (A : SeAt S bn nas pls g past k) : ∀ h ∈ past ++ [g], PgOk 40 h ∧ h.1 = nas ∧ h.2.1 = pls := fun h hh => by
  rcases List.mem_append.mp hh with hh | hh
  · exact A.ps h hh
  · rw [List.mem_singleton.mp hh]; exact ⟨A.G, A.e1, A.e2⟩
theorem SeAt.mono {l : Nat} (A : SeAt S bn nas pls g past k) (h : k ≤ l) : SeAt S bn nas pls g past l := ⟨A.B, A.e1, A.e2, A.G, A.ps, Nat.le_trans A.len h⟩
theorem SeAt.at (A : SeAt S bn nas pls g past k) (h : BnAt S' bn g past) : SeAt S' bn nas pls g past k := ⟨h, A.e1, A.e2, A.G, A.ps, A.len⟩
theorem SeAt.next {rows : List Rw} (A : SeAt S bn nas pls g past k) (B : BnAt S' bn (g.1, g.2.1, rows) (past ++ [g])) (hr : ∀ w ∈ rows, RwOk 40 g.1.length g.2.1.length w) (hl : rows.length ≤ 10) : SeAt S' bn nas pls (g.1, g.2.1, rows) (past ++ [g]) (k + 1) :=
  ⟨B, A.e1, A.e2, ⟨A.G.nas, A.G.pls, hr, hl⟩, A.more, by have := A.len; simp; omega⟩
theorem SeAt.back {h : Pg} (A : SeAt S bn nas pls g (past ++ [h]) k) (B : BnAt S' bn h past) : SeAt S' bn nas pls h past k := by
  obtain ⟨h1, h2, h3⟩ := A.ps h (by simp)
  exact ⟨B, h2, h3, h1, fun x hx => A.ps x (by simp [hx]), by have := A.len; simp at this; omega⟩
theorem s_put (A : SeAt S bn nas pls g past k) (hk : k ≤ 1000) (W : RwOk 40 nas.length pls.length w)
    (q1 : ∀ S', g.2.2.length < 10 → S.length ≤ S'.length → (∀ x, x < S.length → x ≠ bn → S'[x]? = S[x]?) → SeAt S' bn nas pls (g.1, g.2.1, g.2.2 ++ [w]) (past ++ [g]) (k + 1) → P (seatD (g.1, g.2.1, g.2.2 ++ [w]) (past ++ [g])) S')
    (q2 : ∀ S', g.2.2.length = 10 → S.length ≤ S'.length → (∀ x, x < S.length → x ≠ bn → S'[x]? = S[x]?) → SeAt S' bn nas pls g past k → P (seatD g past) S') : Ok (Lw.f__law_put [.cell bn, seatD g past, rwD w] S) P := by
  have W' : RwOk 40 g.1.length g.2.1.length w := by rw [A.e1, A.e2]; exact W
  refine lput_ok A.B A.G W' (by have := A.len; omega) (fun S' h10 l o B => q1 S' h10 l o (A.next B (fun v hv => ?_) (by simp; omega))) fun S' h10 l o B => q2 S' h10 l o (A.at B)
  rcases List.mem_append.mp hv with hv | hv
  · exact A.G.rows v hv
  · rw [List.mem_singleton.mp hv]; exact W'
theorem s_taken (hP : IsPool S p) (hpb : p ≠ bn) (A : SeAt S bn nas pls g past k) (hk : k ≤ 1000) (hne : 0 < g.2.2.length)
    (q : ∀ g' past' S', IsPool S' p → SeAt S' bn nas pls g' past' (k + 1) → P (seatD g' past') S') : Ok (Lw.f__law_taken [.cell p, .cell bn, seatD g past] S) P := by
  refine ltaken_ok hP hpb A.B A.G (by have := A.len; omega) hne fun a S' ha hp' B => q _ _ _ hp' (A.next B (fun v hv => A.G.rows v ?_) ?_)
  · rcases List.mem_append.mp hv with hv | hv
    · exact List.mem_of_mem_take hv
    · exact List.mem_of_mem_drop hv
  · have := A.G.len
    unfold cutR
    rw [List.length_append, List.length_take, List.length_drop]
    omega
theorem s_changed (hP : IsPool S p) (hpb : p ≠ bn) (A : SeAt S bn nas pls g past k) (hk : k ≤ 1000) (hne : 0 < g.2.2.length)
    (q : ∀ g' past' S', IsPool S' p → SeAt S' bn nas pls g' past' (k + 1) → P (seatD g' past') S') : Ok (Lw.f__law_changed [.cell p, .cell bn, seatD g past] S) P := by
  refine lchanged_ok hP hpb A.B A.G (by have := A.len; omega) hne fun a ws S' ha hw h12 hp' B => q _ _ _ hp' (A.next B (fun v hv => ?_) ?_)
  · unfold chgR at hv
    rcases List.mem_append.mp hv with hv | hv
    · rcases List.mem_append.mp hv with hv | hv
      · exact A.G.rows v (List.mem_of_mem_take hv)
      · rw [List.mem_singleton.mp hv]
        have W := A.G.rows _ (List.getElem_mem ha)
        exact ⟨W.st, W.to, hw, h12⟩
    · exact A.G.rows v (List.mem_of_mem_drop hv)
  · have := A.G.len
    unfold chgR
    rw [List.length_append, List.length_append, List.length_take, List.length_drop, List.length_singleton]
    omega
theorem s_undone (A : SeAt S bn nas pls g past k) (hk : k ≤ 1000)
    (q : ∀ g' past' S', past'.length = past.length - 1 → (∀ x, x ≠ bn → S'[x]? = S[x]?) → SeAt S' bn nas pls g' past' k → (past = [] → g' = g ∧ past' = []) → P (seatD g' past') S') : Ok (Lw.f__law_undone [.cell bn, seatD g past] S) P := by
  by_cases hn : past = []
  · subst hn
    exact undone_bare A.B (q g [] S rfl (fun _ _ => rfl) A fun _ => ⟨rfl, rfl⟩)
  · obtain ⟨past', h, rfl⟩ : ∃ past' h, past = past' ++ [h] := ⟨past.dropLast, past.getLast hn, (List.dropLast_concat_getLast hn).symm⟩
    obtain ⟨h1, h2, h3⟩ := A.ps h (by simp)
    refine undone_ok A.B (fun x hx => (A.ps x hx).1) (by rw [h2, A.e1]) (by rw [h3, A.e2]) (by have := A.len; simp at this; omega) fun S' hl o B => q h past' S' (by simp) o (A.back B) fun e => absurd e hn
theorem s_shows (A : SeAt S bn nas pls g past k) (hk : k ≤ 1000) (q : P (.bl true) S) : Ok (Lw.f__law_shows [.cell bn, seatD g past] S) P := shows_ok A.G (by decide) (by decide) A.B (by have := A.len; omega) q
theorem na_ok {s : Str} (h : s ∈ (["x", "y", "a", "b", "c"] : List Str)) : NaOk s := by
  simp only [List.mem_cons, List.not_mem_nil, or_false] at h
  rcases h with rfl | rfl | rfl | rfl | rfl <;> exact ⟨by decide +kernel, by decide +kernel, by decide +kernel, by decide +kernel⟩
theorem nas_xy {z : Nat} (h : z < 2) : NasOk 3 ((["x", "y"] : List Str).take (1 + z)) := by
  refine ⟨by simp; omega, by simp; omega, fun s hs => na_ok ?_, ?_⟩
  · have := List.mem_of_mem_take hs
    simp at this ⊢
    rcases this with h | h <;> simp [h]
  · exact (List.take_sublist _ _).nodup (by decide +kernel)
theorem nas_abc {z : Nat} (h : z < 3) : NasOk 6 ((["a", "b", "c"] : List Str).take (1 + z)) := by
  refine ⟨by simp; omega, by simp; omega, fun s hs => na_ok ?_, ?_⟩
  · have := List.mem_of_mem_take hs
    simp at this ⊢
    rcases this with h | h | h <;> simp [h]
  · exact (List.take_sublist _ _).nodup (by decide +kernel)
theorem seat_pl (A : SeAt S bn nas pls g past k) : (seatD g past).pl 60 = true := pl_LB (k := 59) fun x hx => by
  simp only [List.mem_cons, List.not_mem_nil, or_false] at hx
  rcases hx with rfl | rfl | rfl
  · refine pl_TB (k := 58) fun y hy => ?_
    simp only [List.mem_cons, List.not_mem_nil, or_false] at hy
    rcases hy with rfl | rfl
    · exact pl_nmsB (k := 57) A.G.nas
    · exact pl_nmsB (k := 57) A.G.pls
  · exact pl_rowsB (k := 54) A.G.rows
  · refine pl_LB (k := 58) fun y hy => ?_
    obtain ⟨h, hh, rfl⟩ := List.mem_map.mp hy
    exact pl_rowsB (k := 53) (A.ps h hh).1.rows
theorem o_neSeat (A : SeAt S' bn nas pls g past k) (q : P (.bl false) S) : Ok (oNe (seatD g past) (seatD g past) S) P := by
  refine o_neD (fun s => by unfold seatD; simp) (seat_pl A) (seat_pl A) ?_
  rw [show topD S (seatD g past) = seatD g past from rfl, eqv_self (seat_pl A)]
  exact q
theorem o_eqSeat (A : SeAt S' bn nas pls g past k) (q : P (.bl true) S) : Ok (oEq (seatD g past) (seatD g past) S) P := by
  refine o_eqD (fun s => by unfold seatD; simp) (seat_pl A) (seat_pl A) ?_
  rw [show topD S (seatD g past) = seatD g past from rfl, eqv_self (seat_pl A)]
  exact q
end

/-! ### k73: the law, its beginning -/
section
variable {S : Sto} {P : D → Sto → Prop} {p : Nat}
theorem k_mkK73 {C : Str} {fm : FM} {ix : List Nat} {dd : List D} {mr mk : AM} {ρ : DL.Env} (h : Ok (mr ρ S) fun ds S1 => Ok (mk ρ S1) fun es S2 => Ok (fm (byIxD ix dd (.cell S2.length :: ds) es) (S2 ++ [some (.ins C [])])) fun d S3 => d = .non ∧ P (.cell S2.length) S3) : Ok (eMkK C fm ix dd mr mk ρ S) P :=
  Ok.bind (h.imp fun ds S1 q => Ok.bind (q.imp fun es S2 q => Ok.bind (q.imp fun d S3 ⟨e, q⟩ => by
    subst e
    exact ⟨q⟩)))
theorem o_lstD73 {xs : List D} (q : P (.lst xs) S) : Ok (fList [.lst xs] S) P := ⟨q⟩
theorem i_rng273 {PI : ItD → Sto → Prop} {i j : Int} (h0 : -(2 ^ 62) ≤ i) (h1 : i < 2 ^ 62) (h2 : -(2 ^ 62) ≤ j) (h3 : j < 2 ^ 62) (q : PI (itL ((List.range (j - i).toNat).map fun x : Nat => D.int (i + x))) S) : Ok (mItR2 [.int i, .int j] S) PI := by
  unfold mItR2
  dsimp only
  rw [if_pos (by omega)]; exact ⟨q⟩
theorem k_ifC73 {c : BM} {t e : SD} {b : Bool} {ρ : DL.Env} {PS : Flw → DL.Env → Sto → Prop} (h : Ok (c ρ S) fun x S' => x = b ∧ S' = S) (ht : b = true → OkS (t ρ S) PS) (hf : b = false → OkS (e ρ S) PS) : OkS (sIf c t e ρ S) PS :=
  k_if (h.imp fun x S' ⟨e1, e2⟩ => by
    subst e1 e2
    by_cases hx : x = true
    · rw [if_pos hx]; exact ht hx
    · rw [if_neg hx]; exact hf (by simpa using hx))
theorem o_neZ73 {d : D} {xs : List D} (h : DL.listOf S d = some xs) (q : P (.bl !xs.isEmpty) S) : Ok (oNeZ d (.lst []) S) P := by
  unfold oNeZ; dsimp only; rw [h]; exact ⟨q⟩
theorem made73 {n m : Nat} : ∀ {ys : List D}, (∀ y ∈ ys, ∃ w : Rw, RwOk 40 n m w ∧ y = rwD w) → ∃ rws : List Rw, (∀ w ∈ rws, RwOk 40 n m w) ∧ ys = rws.map rwD
  | [], _ => ⟨[], by simp, rfl⟩
  | y :: ys, h => by
    obtain ⟨w, W, rfl⟩ := h y (by simp)
    obtain ⟨rws, hr, rfl⟩ := made73 (ys := ys) fun z hz => h z (by simp [hz])
    exact ⟨w :: rws, fun v hv => by
      rcases List.mem_cons.mp hv with rfl | hv
      · exact W
      · exact hr v hv, rfl⟩
theorem _root_.Lp.IsPool.old73 {S S' : Sto} {q : Nat} (h : IsPool S q) (e : S'[q]? = S[q]?) : IsPool S' q := by
  obtain ⟨a, b, h0, h1, e1⟩ := h
  exact ⟨a, b, h0, h1, e.trans e1⟩
def e73 (ns : List Int) (x1 x2 x3 x4 x5 x6 x7 x8 x9 x10 : Option D) : DL.Env := [some (.ro (ns.map .int)), x1, x2, x3, x4, x5, x6, x7, x8, x9, x10]
def hdsD (nas pls : List Str) : D := .tup [nmsD nas, nmsD pls]
set_option maxHeartbeats 4000000 in
theorem law_true {ns : List Int} {S : Sto} (hl : ns.length ≤ 63) : Ok (Lw.f_law [.ro (ns.map .int)] S) fun d _ => d = .bl true := by
  unfold Lw.f_law
  refine k_fn rfl ?_
  unfold Lw.d_law
  walk_at "dl"
  refine pool_ok (by decide) (by decide) fun a b ha hb => ?_
  generalize hS : S ++ [some (CO.lst [D.int a, D.int b])] = S1
  have hp : IsPool S1 S.length := by rw [← hS]; exact pool_made ha hb
  clear hS
  generalize S.length = p at hp
  try dsimp only
  refine k_seqQ (fun f ρ1 S2 => f = .nx ∧ IsPool S2 p ∧ ∃ nas pls : List Str, NasOk 3 nas ∧ NasOk 6 pls ∧ ρ1 = e73 ns (some (.cell p)) (some (hdsD nas pls)) none none none none none none none none) ?_ ?_
  · walk_at "dl"
    refine take_ok hp (by decide) (by decide) fun z S2 z0 z1 s1 => ?_
    obtain ⟨z, rfl⟩ := Int.eq_ofNat_of_zero_le z0
    walk_at "dl"
    refine take_ok s1.pool (by decide) (by decide) fun y S3 y0 y1 s2 => ?_
    obtain ⟨y, rfl⟩ := Int.eq_ofNat_of_zero_le y0
    walk_at "dl"
    rw [show DL.cutD [.str "x", .str "y"] none (some (1 + (z : Int))) = ((["x", "y"] : List Str).take (1 + z)).map .str by
      rw [show (1 + (z : Int)) = ((1 + z : Nat) : Int) by omega, cut_to73 (by simp; omega), List.map_take]; rfl]
    rw [show DL.cutD [.str "a", .str "b", .str "c"] none (some (1 + (y : Int))) = ((["a", "b", "c"] : List Str).take (1 + y)).map .str by
      rw [show (1 + (y : Int)) = ((1 + y : Nat) : Int) by omega, cut_to73 (by simp; omega), List.map_take]; rfl]
    exact ⟨rfl, s2.pool, _, _, nas_xy (by omega), nas_abc (by omega), rfl⟩
  rintro f ρ1 S2 ⟨rfl, hp2, nas, pls, N, M, rfl⟩
  have n1 := N.lo; have n3 := N.hi; have m1 := M.lo; have m6 := M.hi
  dsimp only
  refine k_seqQ (fun f ρ1 S3 => f = .nx ∧ IsPool S3 p ∧ ∃ rws : List Rw, rws.length ≤ 3 ∧ (∀ w ∈ rws, RwOk 40 nas.length pls.length w) ∧ ∃ x8, ρ1 = e73 ns (some (.cell p)) (some (hdsD nas pls)) (some (.lst (rws.map rwD))) none none none none x8 none none) ?_ ?_
  · unfold e73
    walk_at "dl"
    refine take_ok hp2 (by decide) (by decide) fun v S3 v0 v1 s3 => ?_
    walk_at "dl"
    refine i_rng1 (by omega) (by omega) ?_
    refine lc_any (Q := fun d => ∃ w : Rw, RwOk 40 nas.length pls.length w ∧ d = rwD w) (R := fun S' => IsPool S' p) (by rw [sizeLine_eq]; simp; omega) s3.pool ?_ ?_
    · intro d _ S4 s4
      refine ⟨_, rfl, ?_⟩
      unfold hdsD nmsD
      walk_at "dl"
      rw [List.length_map, List.length_map]
      refine free73_ok (n := nas.length) (m := pls.length) s4 rfl n1 n3 rfl m1 m6 fun w S5 W _ s5 => ?_
      exact ⟨⟨w, W, rfl⟩, s5.pool⟩
    intro ys S4 hly hq s4
    obtain ⟨rws, hr, rfl⟩ := made73 hq
    rw [List.length_map] at hly
    have hly' : rws.length = v.toNat := by simpa using hly
    walk_at "dl"
    exact ⟨rfl, s4, rws, by omega, hr, _, rfl⟩
  rintro f ρ1 S3 ⟨rfl, hp3, rws, r3, hr, x8, rfl⟩
  dsimp only
  have G0 : PgOk 40 (nas, pls, rws) := ⟨N, M, hr, by show rws.length ≤ 10; omega⟩
  refine k_seqQ (fun f ρ1 S4 => f = .nx ∧ ∃ (a c : Nat) (ks : List RK) (x8 x10 : Option D), a ≠ c ∧ S4[a]? = some (some (.lst (nas.map .str))) ∧ S4[c]? = some (some (.lst (rsK rws ks))) ∧ RwAt S4 rws ks ∧ ρ1 = e73 ns (some (.cell p)) (some (hdsD nas pls)) (some (.lst (rws.map rwD))) (some (hdD a c (nas, pls, rws))) none none none x8 none x10) ?_ ?_
  · unfold e73 hdsD nmsD
    walk_at "dl"
    refine o_listC ?_
    walk_at "dl"
    refine o_lstD73 ?_
    walk_at "dl"
    refine i_list ?_
    obtain ⟨S0, e0⟩ : ∃ S0, S0 = S3 ++ [some (CO.lst (nas.map D.str))] := ⟨_, rfl⟩
    rw [← e0]
    have l0 : S0.length = S3.length + 1 := by rw [e0]; simp
    have a0 : S0[S3.length]? = some (some (.lst (nas.map .str))) := by rw [e0]; simp
    clear e0
    refine k_lcL (fun i acc S' => Gy S0 S' ∧ ∃ ks, acc = rsK (rws.take i) ks ∧ RwAt S' (rws.take i) ks ∧ NewC S0.length S'.length (cellsR ks)) ⟨.refl, [], rfl, .nil, .nil⟩ ?_ ?_
    · rintro i acc S5 d hd ⟨g1, ks, rfl, R1, N1⟩
      obtain ⟨w, hw, rfl⟩ := getElem?_map_some hd
      have W := hr w (List.mem_of_getElem? hw)
      have hi := (List.getElem?_eq_some_iff.mp hw).1
      have ht : rws.take (i + 1) = rws.take i ++ [w] := by rw [List.take_add_one, hw]; rfl
      have hl := R1.len
      have w12 := W.len
      refine ⟨_, rfl, ?_⟩
      refine k_yes ?_
      rw [if_pos rfl]
      walk_at "dl"
      refine law_copy_ok (by omega) fun c ls S6 g2 R2 hN => ?_
      refine ⟨by rw [sizeLine_eq, rsK_len hl, List.length_take]; omega, g1.trans g2, ks ++ [(c, ls)], ?_, ?_, ?_⟩
      · rw [ht, rsK_snoc hl]; rfl
      · rw [ht]
        exact (R1.stay fun x hx => g2.old x (N1.hi x hx)).snoc R2.c R2.l
      · rw [cellsR_snoc]
        exact N1.app hN g1.len g2.len
    · rintro acc S5 ⟨g1, ks, rfl, R1, N1⟩
      rw [List.length_map, List.take_length] at R1 ⊢
      walk_at "dl"
      have gy : Gy S5 (S5 ++ [some (CO.lst (rsK rws ks))]) := .app
      have gA := g1.len
      refine ⟨rfl, S3.length, S5.length, ks, _, _, by omega, ?_, at_end, R1.stay fun x hx => gy.old x (N1.hi x hx), rfl⟩
      rw [(g1.trans gy).old _ (by omega)]; exact a0
  rintro f ρ1 S4 ⟨rfl, a1, c1, ks, y8, y10, nac, a4, c4, R4, rfl⟩
  dsimp only
  refine k_seqQ (fun f ρ1 S5 => f = .nx ∧ ∃ bn : Nat, SeAt S5 bn nas pls (nas, pls, rws) [] 0 ∧ bn ≠ a1 ∧ bn ≠ c1 ∧ S5[a1]? = some (some (.lst (nas.map .str))) ∧ S5[c1]? = some (some (.lst (rsK rws ks))) ∧ ρ1 = e73 ns (some (.cell p)) (some (hdsD nas pls)) (some (.lst (rws.map rwD))) (some (hdD a1 c1 (nas, pls, rws))) (some (.cell bn)) none none y8 none y10) ?_ ?_
  · unfold e73
    walk_at "dl"
    refine k_mkK73 ?_
    walk_at "dl"
    have ha1 := (List.getElem?_eq_some_iff.mp a4).1
    have hc1 := (List.getElem?_eq_some_iff.mp c4).1
    have gy : Gy S4 (S4 ++ [some (CO.ins "Bench" [])]) := .app
    refine binit_ok (ks0 := ks) G0 (at_end) ((gy.old _ ha1).trans a4) ((gy.old _ hc1).trans c4) (R4.stay fun x hx => gy.old x ?_) fun S5 l5 o5 B5 => ?_
    · exact R4.lt73 x hx
    refine ⟨rfl, ?_⟩
    walk_at "dl"
    rw [List.length_append] at l5
    refine ⟨rfl, _, ⟨B5, rfl, rfl, G0, fun h hh => by simp at hh, Nat.le_refl _⟩, by omega, by omega, ?_, ?_, rfl⟩
    · rw [o5 a1 (by simp; omega) (by omega), gy.old _ ha1]; exact a4
    · rw [o5 c1 (by simp; omega) (by omega), gy.old _ hc1]; exact c4
  rintro f ρ1 S5 ⟨rfl, bn, A5, nba, nbc, a5, c5, rfl⟩
  dsimp only
  have lk : (rsK rws ks).length = rws.length := rsK_len R4.len
  refine k_seqQ (fun f ρ1 S6 => f = .nx ∧ S6 = S5 ∧ ρ1 = e73 ns (some (.cell p)) (some (hdsD nas pls)) (some (.lst (rws.map rwD))) (some (hdD a1 c1 (nas, pls, rws))) (some (.cell bn)) (some (seatD (nas, pls, rws) [])) none y8 none y10) ?_ ?_
  · unfold e73 hdsD
    walk_at "dl"
    exact ⟨rfl, rfl, rfl⟩
  rintro f ρ1 S6 ⟨rfl, rfl, rfl⟩
  unfold e73 hdD
  walk_at "dl"
  refine ⟨chkL_cB c5, ?_⟩
  walk_at "dl"
  refine o_app c5 (by rw [sizeLine_eq]; omega) ?_
  walk_at "dl"
  have a6 : (S6.set c1 (some (CO.lst (rsK rws ks ++ [D.non]))))[a1]? = some (some (.lst (nas.map .str))) := by rw [List.getElem?_set_ne (Ne.symm nac)]; exact a5
  refine ⟨chkL_cB a6, ?_⟩
  walk_at "dl"
  refine o_clear a6 ?_
  have A7 : SeAt ((S6.set c1 (some (CO.lst (rsK rws ks ++ [D.non])))).set a1 (some (.lst []))) bn nas pls (nas, pls, rws) [] 0 := A5.at ⟨by rw [List.getElem?_set_ne (Ne.symm nba), List.getElem?_set_ne (Ne.symm nbc)]; exact A5.B.ins⟩
  generalize (S6.set c1 (some (CO.lst (rsK rws ks ++ [D.non])))).set a1 (some (.lst [])) = S7 at A7 ⊢
  try dsimp only
  refine k_seqQ (fun f ρ1 S8 => f = .nx ∧ S8 = S7 ∧ ρ1 = e73 ns (some (.cell p)) (some (hdsD nas pls)) (some (.lst (rws.map rwD))) (some (hdD a1 c1 (nas, pls, rws))) (some (.cell bn)) (some (seatD (nas, pls, rws) [])) none y8 none y10) ?_ ?_
  · walk_at "dl"
    refine s_shows A7 (by decide) ?_
    walk_at "dl"
    try refine k_ifF (by simp) ?_
    first | exact k_nx ⟨rfl, rfl, rfl⟩ | exact ⟨rfl, rfl, rfl⟩
  rintro f ρ1 S8 ⟨rfl, rfl, rfl⟩
  clear a4 c4 R4 a5 c5 a6 A5
  dsimp only
  generalize hdD a1 c1 (nas, pls, rws) = hd4
  refine k_seqQ (fun f ρ1 S9 => f = .nx ∧ ∃ g past q x7 x9, IsPool S9 q ∧ q ≠ bn ∧ SeAt S9 bn nas pls g past 100 ∧ ρ1 = e73 ns (some (.cell q)) (some (hdsD nas pls)) (some (.lst (rws.map rwD))) (some hd4) (some (.cell bn)) (some (seatD g past)) x7 y8 x9 y10) ?_ ?_
  · unfold e73
    walk_at "dl"
    rw [List.length_map]
    refine i_rng273 (by decide) (by decide) (by omega) (by omega) ?_
    refine k_forL (fun i ρ S' => ∃ g past x1 x7 x9, (0 < i → ∃ q, IsPool S' q ∧ q ≠ bn ∧ x1 = some (.cell q)) ∧ SeAt S' bn nas pls g past i ∧ ρ = e73 ns x1 (some (hdsD nas pls)) (some (.lst (rws.map rwD))) (some hd4) (some (.cell bn)) (some (seatD g past)) x7 y8 x9 y10) ⟨_, _, _, _, _, fun h => absurd h (by decide), A7, rfl⟩ ?_ ?_
    · rintro i ρ S9 d hd ⟨g, past, x1, x7, x9, _, A, rfl⟩
      have hi := (List.getElem?_eq_some_iff.mp hd).1
      rw [List.length_map, List.length_range] at hi
      have hi40 : i < 40 := by omega
      rw [List.getElem?_map, List.getElem?_range hi] at hd
      cases hd
      refine ⟨_, rfl, ?_⟩
      refine k_seqQ (fun f ρ1 S10 => f = .nx ∧ ∃ q, IsPool S10 q ∧ q ≠ bn ∧ SeAt S10 bn nas pls g past i ∧ ρ1 = e73 ns (some (.cell q)) (some (hdsD nas pls)) (some (.lst (rws.map rwD))) (some hd4) (some (.cell bn)) (some (seatD g past)) (some (.int (1 + (i : Int)))) y8 x9 y10) ?_ ?_
      · unfold e73
        walk_at "dl"
        refine pool_ok (by omega) (by omega) fun a b ha hb => ?_
        walk_at "dl"
        have hbl := (List.getElem?_eq_some_iff.mp A.B.ins).1
        exact ⟨rfl, _, pool_made ha hb, by omega, A.at (A.B.up fun x hx => by rw [List.getElem?_append_left hx]), rfl⟩
      rintro f ρ1 S10 ⟨rfl, q, hq, nqb, A1, rfl⟩
      dsimp only
      refine k_seqQ (fun f ρ1 S11 => f = .nx ∧ ∃ way : Int, IsPool S11 q ∧ SeAt S11 bn nas pls g past i ∧ ρ1 = e73 ns (some (.cell q)) (some (hdsD nas pls)) (some (.lst (rws.map rwD))) (some hd4) (some (.cell bn)) (some (seatD g past)) (some (.int (1 + (i : Int)))) y8 (some (.int way)) y10) ?_ ?_
      · unfold e73
        walk_at "dl"
        refine take_ok hq (by decide) (by decide) fun way S11 w0 w1 s11 => ?_
        walk_at "dl"
        exact ⟨rfl, way, s11.pool, A1.at ⟨(s11.oth bn (Ne.symm nqb)).trans A1.B.ins⟩, rfl⟩
      rintro f ρ1 S11 ⟨rfl, way, hq, A2, rfl⟩
      clear A1 A7
      dsimp only
      refine k_seqQ (fun f ρ1 S12 => f = .nx ∧ ∃ g' past', IsPool S12 q ∧ SeAt S12 bn nas pls g' past' (i + 1) ∧ ρ1 = e73 ns (some (.cell q)) (some (hdsD nas pls)) (some (.lst (rws.map rwD))) (some hd4) (some (.cell bn)) (some (seatD g' past')) (some (.int (1 + (i : Int)))) y8 (some (.int way)) y10) ?_ ?_
      · unfold e73
        walk_at "dl"
        refine k_condD (fun h4 => ?_) fun h4 => ?_
        · unfold hdsD nmsD
          walk_at "dl"
          rw [List.length_map, List.length_map]
          refine free73_ok (n := nas.length) (m := pls.length) hq rfl n1 n3 rfl m1 m6 fun w S12 W _ s12 => ?_
          walk_at "dl"
          refine s_put (A2.at ⟨(s12.oth bn (Ne.symm nqb)).trans A2.B.ins⟩) (by omega) W (fun S13 _ _ o3 A3 => ?_) fun S13 _ _ o3 A3 => ?_
          · have hq3 := s12.pool.old73 (o3 q s12.pool.lt nqb)
            walk_at "dl"
            exact ⟨rfl, _, _, hq3, A3, rfl⟩
          · have hq3 := s12.pool.old73 (o3 q s12.pool.lt nqb)
            walk_at "dl"
            exact ⟨rfl, _, _, hq3, A3.mono (by omega), rfl⟩
        · refine k_ifC73 (b := decide (way < 6) && !g.2.2.isEmpty) ?_ (fun h6 => ?_) fun h6 => ?_
          · unfold seatD
            walk_at "dl"
            refine k_condD (fun h6 => ?_) fun h6 => ?_
            · walk_at "dl"
              refine o_neZ73 rfl ?_
              walk_at "dl"
              first | exact ⟨by simp [h6], rfl⟩ | skip
            · first | exact ⟨by simp [h6], rfl⟩ | (walk_at "dl"; exact ⟨by simp [h6], rfl⟩)
          · have hne : 0 < g.2.2.length := by
              cases hg : g.2.2 with
              | nil => rw [hg] at h6; simp at h6
              | cons => simp
            walk_at "dl"
            refine s_taken hq nqb A2 (by omega) hne fun g' past' S13 hq3 A3 => ?_
            walk_at "dl"
            exact ⟨rfl, _, _, hq3, A3, rfl⟩
          refine k_ifC73 (b := decide (way < 8) && !g.2.2.isEmpty) ?_ (fun h6 => ?_) fun h6 => ?_
          · unfold seatD
            walk_at "dl"
            refine k_condD (fun h6 => ?_) fun h6 => ?_
            · walk_at "dl"
              refine o_neZ73 rfl ?_
              walk_at "dl"
              first | exact ⟨by simp [h6], rfl⟩ | skip
            · first | exact ⟨by simp [h6], rfl⟩ | (walk_at "dl"; exact ⟨by simp [h6], rfl⟩)
          · have hne : 0 < g.2.2.length := by
              cases hg : g.2.2 with
              | nil => rw [hg] at h6; simp at h6
              | cons => simp
            walk_at "dl"
            refine s_changed hq nqb A2 (by omega) hne fun g' past' S13 hq3 A3 => ?_
            walk_at "dl"
            exact ⟨rfl, _, _, hq3, A3, rfl⟩
          · walk_at "dl"
            refine s_undone A2 (by omega) fun g' past' S13 _ o3 A3 _ => ?_
            have hq3 := hq.old73 (o3 q nqb)
            walk_at "dl"
            exact ⟨rfl, _, _, hq3, A3.mono (by omega), rfl⟩
      rintro f ρ1 S12 ⟨rfl, g', past', hq3, A3, rfl⟩
      dsimp only
      unfold e73
      walk_at "dl"
      refine .of rfl ?_
      walk_at "dl"
      try refine k_ifF (by simp) ?_
      walk_at "dl"
      refine s_shows A3 (by omega) ?_
      walk_at "dl"
      try refine k_ifF (by simp) ?_
      walk_at "dl"
      exact ⟨_, _, _, _, _, fun _ => ⟨q, hq3, nqb, rfl⟩, A3, rfl⟩
    · rintro ρ S9 ⟨g, past, x1, x7, x9, hq, A, rfl⟩
      rw [List.length_map, List.length_range] at A hq
      obtain ⟨q, h1, h2, rfl⟩ := hq (by omega)
      exact ⟨rfl, g, past, q, x7, x9, h1, h2, A.mono (by omega), rfl⟩
  rintro f ρ1 S9 ⟨rfl, g, past, q, x7, x9, hq, nqb, A, rfl⟩
  dsimp only
  have g10 := A.G.len
  refine k_seqQ (fun f ρ1 S10 => f = .nx ∧ ∃ g past x8, g.2.2.length = 10 ∧ SeAt S10 bn nas pls g past 200 ∧ ρ1 = e73 ns (some (.cell q)) (some (hdsD nas pls)) (some (.lst (rws.map rwD))) (some hd4) (some (.cell bn)) (some (seatD g past)) x7 x8 x9 y10) ?_ ?_
  · unfold e73 seatD
    walk_at "dl"
    rw [List.length_map]
    refine i_rng1 (by omega) (by omega) ?_
    refine k_forL (fun i ρ S' => ∃ g' past' x8, IsPool S' q ∧ g'.2.2.length = g.2.2.length + i ∧ SeAt S' bn nas pls g' past' (100 + i) ∧ ρ = e73 ns (some (.cell q)) (some (hdsD nas pls)) (some (.lst (rws.map rwD))) (some hd4) (some (.cell bn)) (some (seatD g' past')) x7 x8 x9 y10) ⟨_, _, _, hq, rfl, A, rfl⟩ ?_ ?_
    · rintro i ρ S10 d hd ⟨g', past', x8, hq1, hgl, A1, rfl⟩
      have hi := (List.getElem?_eq_some_iff.mp hd).1
      rw [List.length_map, List.length_range] at hi
      obtain ⟨z, _, _, rfl⟩ := rng_get hd
      refine ⟨_, rfl, ?_⟩
      refine k_seqQ (fun f ρ1 S11 => f = .nx ∧ ∃ g1 past1, IsPool S11 q ∧ g1.2.2.length = g.2.2.length + (i + 1) ∧ SeAt S11 bn nas pls g1 past1 (100 + (i + 1)) ∧ ρ1 = e73 ns (some (.cell q)) (some (hdsD nas pls)) (some (.lst (rws.map rwD))) (some hd4) (some (.cell bn)) (some (seatD g1 past1)) x7 (some (.int z)) x9 y10) ?_ ?_
      · unfold e73 hdsD nmsD
        walk_at "dl"
        rw [List.length_map, List.length_map]
        refine free73_ok (n := nas.length) (m := pls.length) hq1 rfl n1 n3 rfl m1 m6 fun w S12 W _ s12 => ?_
        walk_at "dl"
        refine s_put (A1.at ⟨(s12.oth bn (Ne.symm nqb)).trans A1.B.ins⟩) (by omega) W (fun S13 _ _ o3 A3 => ?_) fun S13 h10 _ o3 A3 => ?_
        · walk_at "dl"
          exact ⟨rfl, _, _, s12.pool.old73 (o3 q s12.pool.lt nqb), by simp; omega, A3, rfl⟩
        · omega
      rintro f ρ1 S11 ⟨rfl, g1, past1, hq2, hgl1, A3, rfl⟩
      dsimp only
      unfold e73
      walk_at "dl"
      refine .of rfl ?_
      walk_at "dl"
      try refine k_ifF (by simp) ?_
      walk_at "dl"
      exact ⟨_, _, _, hq2, hgl1, A3, rfl⟩
    · rintro ρ S10 ⟨g', past', x8, hq1, hgl, A1, rfl⟩
      rw [List.length_map, List.length_range] at hgl A1
      exact ⟨rfl, g', past', x8, by omega, A1.mono (by omega), rfl⟩
  clear A hq g10
  clear g past
  rintro f ρ1 S10 ⟨rfl, g, past, x8, h10, A, rfl⟩
  dsimp only
  refine k_seqQ (fun f ρ1 S11 => f = .nx ∧ SeAt S11 bn nas pls g past 200 ∧ ρ1 = e73 ns (some (.cell q)) (some (hdsD nas pls)) (some (.lst (rws.map rwD))) (some hd4) (some (.cell bn)) (some (seatD g past)) x7 x8 x9 y10) ?_ ?_
  · unfold e73
    walk_at "dl"
    refine s_put (w := (0, 0, [])) A (by decide) ⟨by show 0 < pls.length; omega, by show 0 < pls.length; omega, fun x hx => by simp at hx, by simp⟩ (fun S11 h1 _ _ _ => by omega) fun S11 _ _ _ A1 => ?_
    walk_at "dl"
    refine o_neSeat A1 ?_
    walk_at "dl"
    try refine k_ifF (by simp) ?_
    walk_at "dl"
    refine s_shows A1 (by decide) ?_
    walk_at "dl"
    try refine k_ifF (by simp) ?_
    first | exact k_nx ⟨rfl, A1, rfl⟩ | exact ⟨rfl, A1, rfl⟩
  clear A h10
  rintro f ρ1 S11 ⟨rfl, A, rfl⟩
  dsimp only
  refine k_seqQ (fun f ρ1 S12 => f = .nx ∧ ∃ g, SeAt S12 bn nas pls g [] 200 ∧ ρ1 = e73 ns (some (.cell q)) (some (hdsD nas pls)) (some (.lst (rws.map rwD))) (some hd4) (some (.cell bn)) (some (seatD g [])) x7 x8 x9 y10) ?_ ?_
  · have hFU : past.length < DL.FU := by have := A.len; unfold DL.FU; omega
    refine k_whileN (fun j ρ S' => ∃ g' past', past'.length = past.length - j ∧ SeAt S' bn nas pls g' past' 200 ∧ ρ = e73 ns (some (.cell q)) (some (hdsD nas pls)) (some (.lst (rws.map rwD))) (some hd4) (some (.cell bn)) (some (seatD g' past')) x7 x8 x9 y10) past.length hFU ⟨g, past, by omega, A, rfl⟩ ?_
    rintro j ρ S12 hj ⟨g', past', hpl, A1, rfl⟩
    by_cases he : past' = []
    · subst he
      unfold e73 seatD
      walk_at "dl"
      refine o_neZ73 rfl ?_
      walk_at "dl"
      try refine k_ifF (by simp) ?_
      exact ⟨rfl, g', A1, rfl⟩
    · have hj' : j < past.length := by
        have : past'.length ≠ 0 := fun e => he (List.eq_nil_of_length_eq_zero e)
        omega
      unfold e73
      refine k_bVal ?_
      unfold seatD
      walk_at "dl"
      refine o_neZ73 rfl ?_
      rw [show (past'.map fun h => D.lst (h.2.2.map rwD)).isEmpty = false by cases past' with
        | nil => exact absurd rfl he
        | cons => rfl]
      walk_at "dl"
      try refine k_ifT (by simp) ?_
      refine k_seqQ (fun f ρ1 S13 => f = .nx ∧ ∃ g1 past1, past1.length = past.length - (j + 1) ∧ SeAt S13 bn nas pls g1 past1 200 ∧ ρ1 = e73 ns (some (.cell q)) (some (hdsD nas pls)) (some (.lst (rws.map rwD))) (some hd4) (some (.cell bn)) (some (seatD g1 past1)) x7 x8 x9 y10) ?_ ?_
      · walk_at "dl"
        refine s_undone A1 (by decide) fun g1 past1 S13 hl1 _ A3 _ => ?_
        walk_at "dl"
        exact ⟨rfl, g1, past1, by omega, A3, rfl⟩
      rintro f ρ1 S13 ⟨rfl, g1, past1, hl1, A3, rfl⟩
      dsimp only
      unfold e73
      walk_at "dl"
      refine .of rfl ?_
      walk_at "dl"
      try refine k_ifF (by simp) ?_
      walk_at "dl"
      refine s_shows A3 (by decide) ?_
      walk_at "dl"
      try refine k_ifF (by simp) ?_
      walk_at "dl"
      exact ⟨hj', g1, past1, hl1, A3, rfl⟩
  clear A
  rintro f ρ1 S12 ⟨rfl, g, A, rfl⟩
  dsimp only
  unfold e73
  walk_at "dl"
  refine s_undone A (by decide) fun g1 past1 S13 _ _ A3 hn => ?_
  obtain ⟨rfl, rfl⟩ := hn rfl
  walk_at "dl"
  refine o_eqSeat A3 ?_
  walk_at "dl"
  refine s_shows A3 (by decide) ?_
  walk_at "dl"
  try rfl
theorem f_law_true (ns : List Int) (hl : ns.length ≤ 63) : ∃ S', Lw.f_law [.ro (ns.map D.int)] [] = .ok (.bl true) S' := by
  obtain ⟨d, S', e, rfl⟩ := (law_true (S := []) hl).get
  exact ⟨S', e⟩
end

end
end Lp

theorem PySem.Challenge.cw_downweigh_k73_deeds_at_a_bench_holds : PySem.Challenge.rw_downweigh_k73_deeds_at_a_bench.Holds :=
  Lw.headFirst fun ns h => Lp.f_law_true ns h
#print axioms PySem.Challenge.cw_downweigh_k73_deeds_at_a_bench_holds
