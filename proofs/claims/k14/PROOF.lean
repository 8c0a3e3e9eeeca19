import PyProof.Rows.All
import Wide.All
import OpenK.AllK
import Wide.FinOn
import HandS.ForMost
import HandS.Exc
import HandS.TryOnly
import HandS.TryMany
import HandS.ExcOwn
import HandS.Defaults
import HandS.Wide
import HandS.IsInst
import HandS.Flow
import HandS.Style
import HandS.FStr
import HandS.Zip
import HandS.ExcValue
import KE.KUnpackStar
import HandS.ExcInit
import HandS.ExcIs
import HandS.ExcField
import KE.KExcIs
import HandS.WordsExc
import HandS.Codes
import HandS.SetFor
import HandS.More
import KE.KRevSl
import KE.KExcInit
import HandS.SortKw
import HandS.DictComp
import HandS.Conv
import HandS.TupAny
import PyProof.ListMulRight
import PyProof.Rows.ListMulR
import HandS.SortInts
import HandS.Strs
import HandS.SetBool
import HandS.MakeKw
import OpenK.KOps
import PySem.Challenge.RW_downweigh_k14_balance_of_great_and_flat
set_option Elab.async false
set_option linter.all false
set_option maxRecDepth 100000
/-! DL: data semantics over the hand layer. D: what a value is as data; a store of lists that are changed (cells); Rep: a value of the heap bears such data. -/
namespace DL
open PySem PySem.Spec PyProof.Rows L2

/-! ### data, cells, results -/
inductive D where
  | non | bl (b : Bool) | int (i : Int) | str (s : Str)
  | tup (xs : List D) | lst (xs : List D) | ro (xs : List D) | cell (n : Nat) | ty (n : String) | dE
  | err (n : Str) (ks : List Str) (vs : List D) | cls (n : Str)
  deriving Inhabited
inductive CO where
  | lst (xs : List D)
  | ins (C : Str) (fs : List (Str × D))
  | dK (kvs : List (Key × D))
abbrev Sto := List (Option CO)
/-- an error as data: its class's name, its one field if it has any -/
structure XD where
  name : Str
  ks : List Str
  vs : List D
inductive R (α : Type) where
  | ok (a : α) (s : Sto)
  | exc (x : XD) (s : Sto)
  | stuck
abbrev M (α : Type) := Sto → R α
def M.pure {α : Type} (a : α) : M α := fun s => .ok a s
def R.bind {α β : Type} (r : R α) (f : α → M β) : R β := match r with
  | .ok a s => f a s
  | .exc x s => .exc x s
  | .stuck => .stuck
def M.bind {α β : Type} (m : M α) (f : α → M β) : M β := fun s => (m s).bind f
@[simp] theorem R.bind_ok {α β : Type} (a : α) (s : Sto) (f : α → M β) : (R.ok a s).bind f = f a s := rfl
@[simp] theorem R.bind_exc {α β : Type} (x : XD) (s : Sto) (f : α → M β) : (R.exc (α := α) x s).bind f = .exc x s := rfl
@[simp] theorem R.bind_stuck {α β : Type} (f : α → M β) : (R.stuck (α := α)).bind f = .stuck := rfl
instance : Monad M where
  pure := M.pure
  bind := M.bind
abbrev Env := List (Option D)

mutual
/-- no cell from n on -/
def D.bel (n : Nat) : D → Bool
  | .non | .bl _ | .int _ | .str _ | .ty _ | .dE | .cls _ => true
  | .err _ _ xs => D.belL n xs
  | .tup xs | .lst xs | .ro xs => D.belL n xs
  | .cell m => decide (m < n)
def D.belL (n : Nat) : List D → Bool
  | [] => true
  | x :: xs => D.bel n x && D.belL n xs
end
def CO.bel (n : Nat) : CO → Bool
  | .lst xs => D.belL n xs
  | .ins _ fs => D.belL n (fs.map (·.2))
  | .dK kvs => D.belL n (kvs.map (·.2))

/-! ### what bears data -/
/-- the error object at a, raised and caught: its class, its dict -/
def ErO (cls : Value) (dd : Option Addr) (a : Addr) : HO := .ext fun h => ∃ (oe : Obj) (vs : Array Value), h.get? a = some oe ∧ Zc cls dd oe ∧ oe.data = .fields vs
/-- the text's class of that name -/
def ClsK (K : PySem.W.Frag) (n : Str) (c : Value) : Prop := PySem.W.nsIn K mainGlobals n = some (some c)
/-- an error's fields -/
def ErD (F : Hp) (dd : Option Addr) (ks : List Str) (us : List V) : Prop := (dd = none ∧ ks = [] ∧ us = []) ∨ ∃ d, dd = some d ∧ ks.length = us.length ∧ F d = some (.xd (ks.zip us))
theorem ErD.same {F F' : Hp} {dd : Option Addr} {ks : List Str} {us : List V} (h : ErD F dd ks us) (e : Same F F') : ErD F' dd ks us := h.imp id fun ⟨d, e1, e2, e3⟩ => ⟨d, e1, e2, e _ _ e3⟩
mutual
inductive Rep (K : PySem.W.Frag) (as : List Addr) (F : Hp) : V → D → Prop
  | non : Rep K as F .non .non
  | bl (b : Bool) : Rep K as F (.bl b) (.bl b)
  | int (i : Int) : Rep K as F (.int i) (.int i)
  | str (x : Str) : Rep K as F (.str x) (.str x)
  | ty (n : String) : Rep K as F (.ty n) (.ty n)
  | tup {a : Addr} {vs : List V} {ds : List D} : SqT K F a vs → RepL K as F vs ds → Rep K as F (.ref a) (.tup ds)
  | lst {a : Addr} {vs : List V} {ds : List D} : F a = some (.lst vs) → RepL K as F vs ds → Rep K as F (.ref a) (.lst ds)
  | ro {a : Addr} {vs : List V} {ds : List D} : SqL K F a vs → RepL K as F vs ds → Rep K as F (.ref a) (.ro ds)
  | cell {n : Nat} {a : Addr} : as[n]? = some a → Rep K as F (.ref a) (.cell n)
  | dE {a : Addr} : Rd F a (.dK []) → Rep K as F (.ref a) .dE
  | err {a : Addr} {cls : Value} {dd : Option Addr} {n : Str} {ks : List Str} {us : List V} {ds : List D} : F a = some (ErO cls dd a) → ClsK K n cls → ErD F dd ks us → RepL K as F us ds → Rep K as F (.ref a) (.err n ks ds)
  | cls {n : Str} {C : Addr} : ClsK K n (.ref C) → Rep K as F (.ref C) (.cls n)
inductive RepL (K : PySem.W.Frag) (as : List Addr) (F : Hp) : List V → List D → Prop
  | nil : RepL K as F [] []
  | cons {v : V} {vs : List V} {d : D} {ds : List D} : Rep K as F v d → RepL K as F vs ds → RepL K as F (v :: vs) (d :: ds)
end
theorem same_rd {F F' : Hp} {a : Addr} {u : HO} (e : Same F F') (h : Rd F a u) : Rd F' a u := by
  rcases h with h | ⟨o, h⟩
  · exact .inl (e a _ h)
  · exact .inr ⟨o, e a _ h⟩
theorem same_l {K : PySem.W.Frag} {F F' : Hp} {a : Addr} {xs : List V} (e : Same F F') (h : SqL K F a xs) : SqL K F' a xs := h.elim (fun h => .inl (same_rd e h)) .inr
theorem same_t {K : PySem.W.Frag} {F F' : Hp} {a : Addr} {xs : List V} (e : Same F F') (h : SqT K F a xs) : SqT K F' a xs := h.elim (fun h => .inl (same_rd e h)) .inr
section
variable {K : PySem.W.Frag} {as as' : List Addr} {F F' : Hp}
mutual
/-- more is known: the same data -/
theorem Rep.mono (ha : ∀ n a : Nat, as[n]? = some a → as'[n]? = some a) (e : Same F F') : ∀ {d : D} {v : V}, Rep K as F v d → Rep K as' F' v d
  | .non, _, h => by cases h; exact .non
  | .bl b, _, h => by cases h; exact .bl b
  | .int i, _, h => by cases h; exact .int i
  | .str x, _, h => by cases h; exact .str x
  | .ty x, _, h => by cases h; exact .ty x
  | .tup ds, _, h => by cases h with | tup q r => exact .tup (same_t e q) (RepL.mono ha e r)
  | .lst ds, _, h => by cases h with | lst q r => exact .lst (e _ _ q) (RepL.mono ha e r)
  | .ro ds, _, h => by cases h with | ro q r => exact .ro (same_l e q) (RepL.mono ha e r)
  | .cell n, _, h => by cases h with | cell q => exact .cell (ha _ _ q)
  | .dE, _, h => by cases h with | dE q => exact .dE (same_rd e q)
  | .err n ks ds, _, h => by cases h with | err q1 q2 q3 r => exact .err (e _ _ q1) q2 (q3.same e) (RepL.mono ha e r)
  | .cls n, _, h => by cases h with | cls q => exact .cls q
theorem RepL.mono (ha : ∀ n a : Nat, as[n]? = some a → as'[n]? = some a) (e : Same F F') : ∀ {ds : List D} {vs : List V}, RepL K as F vs ds → RepL K as' F' vs ds
  | [], _, h => by cases h; exact .nil
  | d :: ds, _, h => by cases h with | cons q r => exact .cons (Rep.mono ha e q) (RepL.mono ha e r)
end
mutual
/-- cells below n alone: the addresses beyond don't matter -/
theorem Rep.cut {n : Nat} : ∀ {d : D} {v : V}, d.bel n = true → Rep K as F v d → Rep K (as.take n) F v d
  | .non, _, _, h => by cases h; exact .non
  | .bl b, _, _, h => by cases h; exact .bl b
  | .int i, _, _, h => by cases h; exact .int i
  | .str x, _, _, h => by cases h; exact .str x
  | .ty x, _, _, h => by cases h; exact .ty x
  | .tup ds, _, b, h => by cases h with | tup q r => exact .tup q (RepL.cut (by simpa [D.bel] using b) r)
  | .lst ds, _, b, h => by cases h with | lst q r => exact .lst q (RepL.cut (by simpa [D.bel] using b) r)
  | .ro ds, _, b, h => by cases h with | ro q r => exact .ro q (RepL.cut (by simpa [D.bel] using b) r)
  | .cell m, _, b, h => by
    cases h with
    | cell q =>
      have hm : m < n := by simpa [D.bel] using b
      exact .cell (by rw [List.getElem?_take_of_lt hm]; exact q)
  | .dE, _, _, h => by cases h with | dE q => exact .dE q
  | .err n ks ds, _, b, h => by cases h with | err q1 q2 q3 r => exact .err q1 q2 q3 (RepL.cut (by simpa [D.bel] using b) r)
  | .cls n, _, _, h => by cases h with | cls q => exact .cls q
theorem RepL.cut {n : Nat} : ∀ {ds : List D} {vs : List V}, D.belL n ds = true → RepL K as F vs ds → RepL K (as.take n) F vs ds
  | [], _, _, h => by cases h; exact .nil
  | d :: ds, _, b, h => by
    have b' : d.bel n = true ∧ D.belL n ds = true := by simpa [D.belL] using b
    cases h with | cons q r => exact .cons (Rep.cut b'.1 q) (RepL.cut b'.2 r)
end
mutual
theorem Rep.bel_of : ∀ {d : D} {v : V}, Rep K as F v d → d.bel as.length = true
  | .non, _, _ => by simp [D.bel]
  | .bl b, _, _ => by simp [D.bel]
  | .int i, _, _ => by simp [D.bel]
  | .str x, _, _ => by simp [D.bel]
  | .ty x, _, _ => by simp [D.bel]
  | .tup ds, _, h => by cases h with | tup q r => simpa [D.bel] using RepL.bel_of r
  | .lst ds, _, h => by cases h with | lst q r => simpa [D.bel] using RepL.bel_of r
  | .ro ds, _, h => by cases h with | ro q r => simpa [D.bel] using RepL.bel_of r
  | .cell m, _, h => by
    cases h with
    | cell q => simpa [D.bel] using (List.getElem?_eq_some_iff.mp q).1
  | .dE, _, _ => by simp [D.bel]
  | .err n ks ds, _, h => by cases h with | err q1 q2 q3 r => simpa [D.bel] using RepL.bel_of r
  | .cls n, _, _ => by simp [D.bel]
theorem RepL.bel_of : ∀ {ds : List D} {vs : List V}, RepL K as F vs ds → D.belL as.length ds = true
  | [], _, _ => by simp [D.belL]
  | d :: ds, _, h => by cases h with | cons q r => simp [D.belL, Rep.bel_of q, RepL.bel_of r]
end
theorem RepL.length : ∀ {ds : List D} {vs : List V}, RepL K as F vs ds → vs.length = ds.length
  | [], _, h => by cases h; rfl
  | d :: ds, _, h => by cases h with | cons q r => simp [RepL.length r]
theorem RepL.get : ∀ {ds : List D} {vs : List V} {i : Nat} {d : D}, RepL K as F vs ds → ds[i]? = some d → ∃ v, vs[i]? = some v ∧ Rep K as F v d
  | [], _, i, d, _, e => by simp at e
  | x :: ds, _, 0, d, h, e => by cases h with | cons q r => simp at e; subst e; exact ⟨_, rfl, q⟩
  | x :: ds, _, i + 1, d, h, e => by cases h with | cons q r => simpa using RepL.get (i := i) r (by simpa using e)
theorem RepL.append : ∀ {ds es : List D} {vs us : List V}, RepL K as F vs ds → RepL K as F us es → RepL K as F (vs ++ us) (ds ++ es)
  | [], _, _, _, h, g => by cases h; simpa using g
  | d :: ds, _, _, _, h, g => by cases h with | cons q r => exact .cons q (RepL.append r g)
theorem RepL.take : ∀ {ds : List D} {vs : List V} (n : Nat), RepL K as F vs ds → RepL K as F (vs.take n) (ds.take n)
  | _, _, 0, _ => by simpa using RepL.nil
  | [], _, n + 1, h => by cases h; exact .nil
  | d :: ds, _, n + 1, h => by cases h with | cons q r => exact .cons q (RepL.take n r)
theorem RepL.drop : ∀ {ds : List D} {vs : List V} (n : Nat), RepL K as F vs ds → RepL K as F (vs.drop n) (ds.drop n)
  | _, _, 0, h => by simpa using h
  | [], _, n + 1, h => by cases h; exact .nil
  | d :: ds, _, n + 1, h => by cases h with | cons q r => simpa using RepL.drop n r
theorem RepL.set {v : V} {d : D} (q : Rep K as F v d) : ∀ {ds : List D} {vs : List V} (n : Nat), RepL K as F vs ds → RepL K as F (vs.set n v) (ds.set n d)
  | [], _, n, h => by cases h; exact .nil
  | x :: ds, _, 0, h => by cases h with | cons p r => exact .cons q r
  | x :: ds, _, n + 1, h => by cases h with | cons p r => exact .cons p (RepL.set q n r)
end

/-- what is changed, as an object of the heap -/
def CRep (K : PySem.W.Frag) (as : List Addr) (F : Hp) : CO → HO → Prop
  | .lst xs, .lst vs => RepL K as F vs xs
  | .ins C fs, .ins Ca _ ws => ClsK K C (.ref Ca) ∧ ws.map (·.1) = fs.map (·.1) ∧ RepL K as F (ws.map (·.2)) (fs.map (·.2))
  | .dK kvs, .dK ws => ws.map (·.1) = kvs.map (·.1) ∧ RepL K as F (ws.map (·.2)) (kvs.map (·.2))
  | _, _ => False
theorem CRep.imp {K : PySem.W.Frag} {as as' : List Addr} {F F' : Hp} {c : CO} {o : HO} (h : CRep K as F c o) (k : ∀ vs ds, RepL K as F vs ds → (∀ n, D.belL n ds = c.bel n) → RepL K as' F' vs ds) : CRep K as' F' c o := by
  cases c <;> cases o <;> first
    | exact h.elim
    | exact k _ _ h fun _ => rfl
    | exact ⟨h.1, h.2.1, k _ _ h.2.2 fun _ => rfl⟩
    | exact ⟨h.1, k _ _ h.2 fun _ => rfl⟩
theorem CRep.mono {K : PySem.W.Frag} {as as' : List Addr} {F F' : Hp} (ha : ∀ n a : Nat, as[n]? = some a → as'[n]? = some a) (e : Same F F') {c : CO} {o : HO} (h : CRep K as F c o) : CRep K as' F' c o := h.imp fun _ _ r _ => r.mono ha e
theorem CRep.cut {K : PySem.W.Frag} {as : List Addr} {F : Hp} {n : Nat} {c : CO} {o : HO} (b : c.bel n = true) (h : CRep K as F c o) : CRep K (as.take n) F c o := h.imp fun _ _ r e => r.cut (by rw [e]; exact b)
theorem CRep.bel_of {K : PySem.W.Frag} {as : List Addr} {F : Hp} {c : CO} {o : HO} (h : CRep K as F c o) : c.bel as.length = true := by
  cases c <;> cases o <;> first
    | exact h.elim
    | exact RepL.bel_of (vs := _) h
    | exact RepL.bel_of h.2.2
    | exact RepL.bel_of h.2
/-! ### the heap without what is changed -/
def live (as : List Addr) (S : Sto) : List Addr := (as.zip S).filterMap fun p => if p.2.isSome then some p.1 else none
/-- hd: what is hidden from the data (a list that a comprehension fills) -/
abbrev Hid := List (Addr × HO)
def fz (hd : Hid) (as : List Addr) (S : Sto) (H : Hp) : Hp := fun a => if a ∈ live as S ∨ a ∈ hd.map (·.1) then none else H a
theorem mem_live {as : List Addr} {S : Sto} {a : Addr} : a ∈ live as S ↔ ∃ (n : Nat) (c : CO), as[n]? = some a ∧ S[n]? = some (some c) := by
  unfold live
  rw [List.mem_filterMap]
  constructor
  · rintro ⟨⟨b, o⟩, hm, e⟩
    obtain ⟨n, hn⟩ := List.getElem?_of_mem hm
    rw [List.getElem?_zip_eq_some] at hn
    cases o with
    | none => simp at e
    | some c => simp at e; subst e; exact ⟨n, c, hn.1, hn.2⟩
  · rintro ⟨n, c, h1, h2⟩
    refine ⟨(a, some c), List.mem_of_getElem? (i := n) ?_, by simp⟩
    rw [List.getElem?_zip_eq_some]
    exact ⟨h1, h2⟩
theorem fz_same {hd : Hid} {as : List Addr} {S : Sto} {H : Hp} : Same (fz hd as S H) H := fun b o e => by
  unfold fz at e
  split at e
  · cases e
  · exact e
theorem fz_of {hd : Hid} {as : List Addr} {S : Sto} {H : Hp} {a : Addr} {o : HO} (h : H a = some o) (n : a ∉ live as S) (nh : a ∉ hd.map (·.1)) : fz hd as S H a = some o := by
  unfold fz; rw [if_neg (fun z => z.elim n nh)]; exact h
theorem fz_not {hd : Hid} {as : List Addr} {S : Sto} {H : Hp} {a : Addr} {o : HO} (h : fz hd as S H a = some o) : a ∉ live as S := fun z => by
  unfold fz at h; rw [if_pos (.inl z)] at h; cases h
theorem fz_nh {hd : Hid} {as : List Addr} {S : Sto} {H : Hp} {a : Addr} {o : HO} (h : fz hd as S H a = some o) : a ∉ hd.map (·.1) := fun z => by
  unfold fz at h; rw [if_pos (.inr z)] at h; cases h

structure Wld (K : PySem.W.Frag) (hd : Hid) (as : List Addr) (S : Sto) (H : Hp) : Prop where
  len : as.length = S.length
  inj : ∀ (i j : Nat) a c c', as[i]? = some a → as[j]? = some a → S[i]? = some (some c) → S[j]? = some (some c') → i = j
  hid : ∀ p ∈ hd, H p.1 = some p.2 ∧ p.1 ∉ live as S
  atC : ∀ (n : Nat) c, S[n]? = some (some c) → ∃ a o, as[n]? = some a ∧ H a = some o ∧ CRep K as (fz hd as S H) c o
theorem Wld.at_ {K : PySem.W.Frag} {hd : Hid} {as : List Addr} {S : Sto} {H : Hp} (w : Wld K hd as S H) (n : Nat) (xs : List D) (e : S[n]? = some (some (CO.lst xs))) : ∃ a vs, as[n]? = some a ∧ H a = some (.lst vs) ∧ RepL K as (fz hd as S H) vs xs := by
  obtain ⟨a, o, e1, e2, r⟩ := w.atC n _ e
  cases o <;> first | exact r.elim | exact ⟨a, _, e1, e2, r⟩
theorem Wld.live_some {K : PySem.W.Frag} {hd : Hid} {as : List Addr} {S : Sto} {H : Hp} (w : Wld K hd as S H) {a : Addr} (h : a ∈ live as S) : ∃ o, H a = some o := by
  obtain ⟨n, c, h1, h2⟩ := mem_live.mp h
  obtain ⟨b, o, e1, e2, _⟩ := w.atC n c h2
  rw [h1] at e1; cases e1
  exact ⟨o, e2⟩
theorem Wld.new_live {K : PySem.W.Frag} {hd : Hid} {as : List Addr} {S : Sto} {H : Hp} (w : Wld K hd as S H) {p : Addr} (h : H p = none) : p ∉ live as S := fun z => by
  obtain ⟨vs, e⟩ := w.live_some z
  rw [h] at e; cases e
structure Grow (hd : Hid) (as : List Addr) (S : Sto) (H : Hp) (as' : List Addr) (S' : Sto) (H' : Hp) : Prop where
  pre : ∀ n a : Nat, as[n]? = some a → as'[n]? = some a
  same : Same (fz hd as S H) (fz hd as' S' H')
theorem Grow.refl {hd : Hid} {as : List Addr} {S : Sto} {H : Hp} : Grow hd as S H as S H := ⟨fun _ _ h => h, Same.refl _⟩
theorem Grow.trans {hd : Hid} {as as1 as2 : List Addr} {S S1 S2 : Sto} {H H1 H2 : Hp} (a : Grow hd as S H as1 S1 H1) (b : Grow hd as1 S1 H1 as2 S2 H2) : Grow hd as S H as2 S2 H2 :=
  ⟨fun n x h => b.pre n x (a.pre n x h), a.same.trans b.same⟩
theorem Rep.grow {K : PySem.W.Frag} {hd : Hid} {as as' : List Addr} {S S' : Sto} {H H' : Hp} {v : V} {d : D} (h : Rep K as (fz hd as S H) v d) (g : Grow hd as S H as' S' H') : Rep K as' (fz hd as' S' H') v d := h.mono g.pre g.same
theorem RepL.grow {K : PySem.W.Frag} {hd : Hid} {as as' : List Addr} {S S' : Sto} {H H' : Hp} {v : List V} {d : List D} (h : RepL K as (fz hd as S H) v d) (g : Grow hd as S H as' S' H') : RepL K as' (fz hd as' S' H') v d := h.mono g.pre g.same

section
variable {K : PySem.W.Frag} {hd : Hid} {as : List Addr} {S : Sto} {H : Hp}
theorem Wld.hid_ne (w : Wld K hd as S H) {p : Addr} (h : H p = none) : p ∉ hd.map (·.1) := fun z => by
  obtain ⟨q, hq, e⟩ := List.mem_map.mp z
  have := (w.hid q hq).1
  rw [e, h] at this; cases this
/-- a new object that isn't changed -/
theorem Wld.fresh (w : Wld K hd as S H) {p : Addr} {o : HO} (h : H p = none) : Wld K hd as S (upd H p o) ∧ Grow hd as S H as S (upd H p o) ∧ fz hd as S (upd H p o) p = some o := by
  have np := w.new_live h
  have hs : Same (fz hd as S H) (fz hd as S (upd H p o)) := fun b u e => by
    have hb : b ≠ p := fun z => by
      subst z
      rw [fz_same _ _ e] at h; cases h
    exact fz_of (by rw [upd_ne hb]; exact fz_same _ _ e) (fz_not e) (fz_nh e)
  refine ⟨⟨w.len, w.inj, fun q hq => ⟨?_, (w.hid q hq).2⟩, fun n xs e => ?_⟩, ⟨fun _ _ h => h, hs⟩, fz_of upd_same np (w.hid_ne h)⟩
  · rw [upd_ne (fun z => by have := (w.hid q hq).1; rw [z, h] at this; cases this)]; exact (w.hid q hq).1
  obtain ⟨a, vs, e1, e2, r⟩ := w.atC n xs e
  have ha : a ≠ p := fun z => by subst z; rw [h] at e2; cases e2
  exact ⟨a, vs, e1, by rw [upd_ne ha]; exact e2, r.mono (fun _ _ h => h) hs⟩
/-- a new cell -/
theorem Wld.newC (w : Wld K hd as S H) {p : Addr} {o : HO} {co : CO} (h : H p = none) (r : CRep K as (fz hd as S H) co o) :
    Wld K hd (as ++ [p]) (S ++ [some co]) (upd H p o) ∧ Grow hd as S H (as ++ [p]) (S ++ [some co]) (upd H p o) ∧ (as ++ [p])[S.length]? = some p := by
  have np := w.new_live h
  have hl : (as ++ [p])[S.length]? = some p := by rw [← w.len]; simp
  have pre : ∀ n a : Nat, as[n]? = some a → (as ++ [p])[n]? = some a := fun n a e => by
    rw [List.getElem?_append_left (List.getElem?_eq_some_iff.mp e).1]; exact e
  have split : ∀ {n : Nat} {c : CO}, (S ++ [some co])[n]? = some (some c) → S[n]? = some (some c) ∨ (n = S.length ∧ c = co) := fun {n c} e => by
    by_cases hn : n < S.length
    · rw [List.getElem?_append_left hn] at e; exact .inl e
    · rw [List.getElem?_append_right (by omega)] at e
      have hz : n - S.length = 0 := by
        have := (List.getElem?_eq_some_iff.mp e).1
        simp at this; omega
      rw [hz] at e
      simp at e
      exact .inr ⟨by omega, e.symm⟩
  have old : ∀ {n : Nat} {c : CO} {a : Addr}, S[n]? = some (some c) → (as ++ [p])[n]? = some a → as[n]? = some a := fun {n c a} e1 e2 => by
    have hn : n < as.length := by rw [w.len]; exact (List.getElem?_eq_some_iff.mp e1).1
    rw [List.getElem?_append_left hn] at e2; exact e2
  have hlive : ∀ {b : Addr}, b ≠ p → b ∉ live as S → b ∉ live (as ++ [p]) (S ++ [some co]) := fun {b} hb n z => by
    obtain ⟨i, c, e1, e2⟩ := mem_live.mp z
    rcases split e2 with e2 | ⟨rfl, _⟩
    · exact n (mem_live.mpr ⟨i, c, old e2 e1, e2⟩)
    · rw [hl] at e1; exact hb (Option.some.inj e1).symm
  have hs : Same (fz hd as S H) (fz hd (as ++ [p]) (S ++ [some co]) (upd H p o)) := fun b u e => by
    have hb : b ≠ p := fun z => by
      subst z
      rw [fz_same _ _ e] at h; cases h
    exact fz_of (by rw [upd_ne hb]; exact fz_same _ _ e) (hlive hb (fz_not e)) (fz_nh e)
  refine ⟨⟨by simp [w.len], fun i j a c c' h1 h2 h3 h4 => ?_, fun q hq => ?_, fun n ys e => ?_⟩, ⟨pre, hs⟩, hl⟩
  · rcases split h3 with h3 | ⟨rfl, _⟩ <;> rcases split h4 with h4 | ⟨rfl, _⟩
    · exact w.inj i j a c c' (old h3 h1) (old h4 h2) h3 h4
    · rw [hl] at h2
      obtain rfl := Option.some.inj h2
      obtain ⟨vs', e⟩ := w.live_some (mem_live.mpr ⟨i, c, old h3 h1, h3⟩)
      rw [h] at e; cases e
    · rw [hl] at h1
      obtain rfl := Option.some.inj h1
      obtain ⟨vs', e⟩ := w.live_some (mem_live.mpr ⟨j, c', old h4 h2, h4⟩)
      rw [h] at e; cases e
    · rfl
  · have hqp : q.1 ≠ p := fun z => by have := (w.hid q hq).1; rw [z, h] at this; cases this
    exact ⟨by rw [upd_ne hqp]; exact (w.hid q hq).1, hlive hqp (w.hid q hq).2⟩
  · rcases split e with e0 | ⟨hz, e0⟩
    · obtain ⟨a, vs', e1, e2, r'⟩ := w.atC n ys e0
      have ha : a ≠ p := fun z => by subst z; rw [h] at e2; cases e2
      exact ⟨a, vs', pre _ _ e1, by rw [upd_ne ha]; exact e2, r'.mono pre hs⟩
    · cases e0
      subst hz
      exact ⟨p, o, hl, upd_same, r.mono pre hs⟩
theorem Wld.newCell (w : Wld K hd as S H) {p : Addr} {vs : List V} {xs : List D} (h : H p = none) (r : RepL K as (fz hd as S H) vs xs) :
    Wld K hd (as ++ [p]) (S ++ [some (.lst xs)]) (upd H p (.lst vs)) ∧ Grow hd as S H (as ++ [p]) (S ++ [some (.lst xs)]) (upd H p (.lst vs)) ∧ (as ++ [p])[S.length]? = some p := w.newC (co := .lst xs) (o := .lst vs) h r
theorem live_set {n : Nat} {co c2 : CO} (e : S[n]? = some (some co)) {b : Addr} : b ∈ live as (S.set n (some c2)) ↔ b ∈ live as S := by
  have hn := (List.getElem?_eq_some_iff.mp e).1
  rw [mem_live, mem_live]
  constructor
  · rintro ⟨i, c, h1, h2⟩
    by_cases hi : n = i
    · subst hi; exact ⟨n, _, h1, e⟩
    · rw [List.getElem?_set_ne hi] at h2; exact ⟨i, c, h1, h2⟩
  · rintro ⟨i, c, h1, h2⟩
    by_cases hi : n = i
    · subst hi; exact ⟨n, _, h1, by rw [List.getElem?_set_self hn]⟩
    · exact ⟨i, c, h1, by rw [List.getElem?_set_ne hi]; exact h2⟩
/-- a cell is written -/
theorem Wld.writeC (w : Wld K hd as S H) {n : Nat} {a : Addr} {co c2 : CO} {o : HO} (e : S[n]? = some (some co)) (ha : as[n]? = some a) (r : CRep K as (fz hd as S H) c2 o) :
    Wld K hd as (S.set n (some c2)) (upd H a o) ∧ Grow hd as S H as (S.set n (some c2)) (upd H a o) := by
  have hn := (List.getElem?_eq_some_iff.mp e).1
  have la : a ∈ live as S := mem_live.mpr ⟨n, _, ha, e⟩
  have hs : Same (fz hd as S H) (fz hd as (S.set n (some c2)) (upd H a o)) := fun b u q => by
    have nb := fz_not q
    have hb : b ≠ a := fun z => nb (by rw [z]; exact la)
    exact fz_of (by rw [upd_ne hb]; exact fz_same _ _ q) (by rw [live_set e]; exact nb) (fz_nh q)
  refine ⟨⟨by simp [w.len], fun i j b c c' h1 h2 h3 h4 => ?_, fun q hq => ⟨by rw [upd_ne (fun z => (w.hid q hq).2 (by rw [z]; exact la))]; exact (w.hid q hq).1, by rw [live_set e]; exact (w.hid q hq).2⟩, fun m zs q => ?_⟩, ⟨fun _ _ h => h, hs⟩⟩
  · have f : ∀ {i : Nat} {c : CO}, (S.set n (some c2))[i]? = some (some c) → ∃ c, S[i]? = some (some c) := fun {i c} h => by
      by_cases hi : n = i
      · subst hi; exact ⟨_, e⟩
      · rw [List.getElem?_set_ne hi] at h; exact ⟨c, h⟩
    obtain ⟨_, g3⟩ := f h3
    obtain ⟨_, g4⟩ := f h4
    exact w.inj i j b _ _ h1 h2 g3 g4
  · by_cases hm : n = m
    · subst hm
      rw [List.getElem?_set_self hn] at q
      cases q
      exact ⟨a, o, ha, upd_same, r.mono (fun _ _ h => h) hs⟩
    · rw [List.getElem?_set_ne hm] at q
      obtain ⟨b, vs, e1, e2, r'⟩ := w.atC m zs q
      have hb : b ≠ a := fun z => hm (w.inj n m a _ _ ha (by rw [← z]; exact e1) e q)
      exact ⟨b, vs, e1, by rw [upd_ne hb]; exact e2, r'.mono (fun _ _ h => h) hs⟩
theorem Wld.write (w : Wld K hd as S H) {n : Nat} {a : Addr} {xs ys : List D} {us : List V} (e : S[n]? = some (some (.lst xs))) (ha : as[n]? = some a) (r : RepL K as (fz hd as S H) us ys) :
    Wld K hd as (S.set n (some (.lst ys))) (upd H a (.lst us)) ∧ Grow hd as S H as (S.set n (some (.lst ys))) (upd H a (.lst us)) := w.writeC (c2 := .lst ys) (o := .lst us) e ha r
/-- a cell is changed no more -/
theorem Wld.freeze (w : Wld K hd as S H) {n : Nat} {a : Addr} {xs : List D} (e : S[n]? = some (some (.lst xs))) (ha : as[n]? = some a) :
    Wld K hd as (S.set n none) H ∧ Grow hd as S H as (S.set n none) H ∧ Rep K as (fz hd as (S.set n none) H) (.ref a) (.lst xs) := by
  have hn := (List.getElem?_eq_some_iff.mp e).1
  have f : ∀ {i : Nat} {c : CO}, (S.set n none)[i]? = some (some c) → S[i]? = some (some c) ∧ i ≠ n := fun {i c} h => by
    by_cases hi : n = i
    · subst hi; rw [List.getElem?_set_self hn] at h; cases h
    · rw [List.getElem?_set_ne hi] at h; exact ⟨h, fun z => hi z.symm⟩
  have hl : ∀ {b : Addr}, b ∈ live as (S.set n none) → b ∈ live as S := fun {b} z => by
    obtain ⟨i, c, h1, h2⟩ := mem_live.mp z
    exact mem_live.mpr ⟨i, c, h1, (f h2).1⟩
  have hs : Same (fz hd as S H) (fz hd as (S.set n none) H) := fun b u q => fz_of (fz_same _ _ q) (fun z => fz_not q (hl z)) (fz_nh q)
  obtain ⟨b, vs, e1, e2, r⟩ := w.at_ n xs e
  rw [ha] at e1; cases e1
  have nh : a ∉ hd.map (·.1) := fun z => by
    obtain ⟨q, hq, eq⟩ := List.mem_map.mp z
    exact (w.hid q hq).2 (by rw [eq]; exact mem_live.mpr ⟨n, _, ha, e⟩)
  have na : a ∉ live as (S.set n none) := fun z => by
    obtain ⟨i, c, h1, h2⟩ := mem_live.mp z
    obtain ⟨g, hi⟩ := f h2
    exact hi (w.inj i n a _ _ h1 ha g e)
  refine ⟨⟨by simp [w.len], fun i j b c c' h1 h2 h3 h4 => w.inj i j b c c' h1 h2 (f h3).1 (f h4).1, fun q hq => ⟨(w.hid q hq).1, fun z => (w.hid q hq).2 (hl z)⟩, fun m zs q => ?_⟩, ⟨fun _ _ h => h, hs⟩, .lst (fz_of e2 na nh) (r.mono (fun _ _ h => h) hs)⟩
  obtain ⟨b, us, g1, g2, r'⟩ := w.atC m zs (f q).1
  exact ⟨b, us, g1, g2, r'.mono (fun _ _ h => h) hs⟩
end
end DL

set_option Elab.async false
set_option linter.all false
set_option maxRecDepth 100000
/-! DL2: judgements: an expression, a test, arguments, statements do to data what a function in M does. -/
namespace DL
open PySem PySem.Spec PyProof.Rows L2

abbrev EM := Env → M D
abbrev BM := Env → M Bool
abbrev AM := Env → M (List D)
inductive Flw where
  | nx | ret (d : D) | brk | cnt
abbrev SM := Env → M (Flw × Env)
@[simp] theorem bind_ap {α β : Type} (m : M α) (f : α → M β) (s : Sto) : M.bind m f s = (m s).bind f := rfl

structure Slots (K : PySem.W.Frag) (as : List Addr) (F : Hp) (σ : L2.St) (ρ : Env) : Prop where
  len : σ.length = ρ.length
  at_ : ∀ (i : Nat) (d : D), ρ[i]? = some (some d) → ∃ v, σ[i]? = some (some v) ∧ Rep K as F v d
structure REL (K : PySem.W.Frag) (hd : Hid) (as : List Addr) (ρ : Env) (S : Sto) (σ : L2.St) (H : Hp) : Prop where
  w : Wld K hd as S H
  s : Slots K as (fz hd as S H) σ ρ
theorem Slots.mono {K : PySem.W.Frag} {as as' : List Addr} {F F' : Hp} {σ : L2.St} {ρ : Env} (h : Slots K as F σ ρ) (ha : ∀ n a : Nat, as[n]? = some a → as'[n]? = some a) (e : Same F F') : Slots K as' F' σ ρ :=
  ⟨h.len, fun i d q => let ⟨v, e1, r⟩ := h.at_ i d q; ⟨v, e1, r.mono ha e⟩⟩
theorem REL.grow {K : PySem.W.Frag} {hd : Hid} {as as' : List Addr} {ρ : Env} {S S' : Sto} {σ : L2.St} {H H' : Hp} (h : REL K hd as ρ S σ H) (g : Grow hd as S H as' S' H') (w : Wld K hd as' S' H') : REL K hd as' ρ S' σ H' := ⟨w, h.s.mono g.pre g.same⟩
theorem Slots.set {K : PySem.W.Frag} {as : List Addr} {F : Hp} {σ : L2.St} {ρ : Env} {v : V} {d : D} (h : Slots K as F σ ρ) (r : Rep K as F v d) (i : Nat) : Slots K as F (σ.set i (some v)) (ρ.set i (some d)) := by
  refine ⟨by simp [h.len], fun j e q => ?_⟩
  by_cases hij : i = j
  · subst hij
    by_cases hi : i < ρ.length
    · rw [List.getElem?_set_self hi] at q
      cases q
      exact ⟨v, by rw [List.getElem?_set_self (by rw [h.len]; exact hi)], r⟩
    · rw [List.getElem?_eq_none (by simpa using Nat.le_of_not_lt hi)] at q; cases q
  · rw [List.getElem?_set_ne hij] at q
    obtain ⟨u, e1, r1⟩ := h.at_ j e q
    exact ⟨u, by rw [List.getElem?_set_ne hij]; exact e1, r1⟩

/-- an error in the air -/
def XRep (K : PySem.W.Frag) (mg : Str → Option Value) (as : List Addr) (F : Hp) (x : XD) (cls : Value) (dd : Option Addr) : Prop :=
  ClsK K x.name cls ∧ mg x.name = some cls ∧ ∃ us, ErD F dd x.ks us ∧ RepL K as F us x.vs

/-- how a step ends, and what is wanted then -/
def Post {α : Type} (K : PySem.W.Frag) (mg : Str → Option Value) (W : WX) (σ : L2.St) (ρ : Env) (hd : Hid) (as : List Addr) (S : Sto) (H : Hp) (r : R α) (k : α → List Addr → Sto → Hp → Prop) : Prop :=
  match r with
  | .ok a S' => ∀ as' H', Grow hd as S H as' S' H' → REL K hd as' ρ S' σ H' → k a as' S' H'
  | .exc x S' => ∀ as' cls dd H', Grow hd as S H as' S' H' → REL K hd as' ρ S' σ H' → XRep K mg as' (fz hd as' S' H') x cls dd → W cls dd σ H'
  | .stuck => False
section
variable {α β : Type} {K : PySem.W.Frag} {mg : Str → Option Value} {W : WX} {σ : L2.St} {ρ : Env} {hd : Hid} {as as1 : List Addr} {S S1 : Sto} {H H1 : Hp}
theorem Post.later {r : R α} {k : α → List Addr → Sto → Hp → Prop} (h : Post K mg W σ ρ hd as S H r k) (g : Grow hd as S H as1 S1 H1) : Post K mg W σ ρ hd as1 S1 H1 r k := by
  cases r with
  | ok a S' => exact fun as' H' g' rel => h as' H' (g.trans g') rel
  | exc x S' => exact fun as' cls dd H' g' rel => h as' cls dd H' (g.trans g') rel
  | stuck => exact h
theorem Post.imp {r : R α} {k k' : α → List Addr → Sto → Hp → Prop} (h : Post K mg W σ ρ hd as S H r k) (f : ∀ a as' S' H', Grow hd as S H as' S' H' → REL K hd as' ρ S' σ H' → k a as' S' H' → k' a as' S' H') : Post K mg W σ ρ hd as S H r k' := by
  cases r with
  | ok a S' => exact fun as' H' g rel => f a as' S' H' g rel (h as' H' g rel)
  | exc x S' => exact h
  | stuck => exact h
theorem Post.bind {r : R α} {f : α → M β} {k : β → List Addr → Sto → Hp → Prop} (h : Post K mg W σ ρ hd as S H (r.bind f) k) : Post K mg W σ ρ hd as S H r (fun a as' S' H' => Post K mg W σ ρ hd as' S' H' (f a S') k) := by
  cases r with
  | ok a S' => exact fun as' H' g rel => Post.later (r := f a S') h g
  | exc x S' => exact h
  | stuck => exact h
end

def tE (K : PySem.W.Frag) (mg : Str → Option Value) (W : WX) (m : EM) : TE := fun σ H Q => ∃ hd as ρ S, REL K hd as ρ S σ H ∧ Post K mg W σ ρ hd as S H (m ρ S) fun d as' S' H' => ∀ v, Rep K as' (fz hd as' S' H') v d → Q v H'
def tT (K : PySem.W.Frag) (mg : Str → Option Value) (W : WX) (m : BM) : TT := fun σ H Q => ∃ hd as ρ S, REL K hd as ρ S σ H ∧ Post K mg W σ ρ hd as S H (m ρ S) fun b _ _ H' => Q b H'
def tA (K : PySem.W.Frag) (mg : Str → Option Value) (W : WX) (m : AM) : TA := fun σ H Q => ∃ hd as ρ S, REL K hd as ρ S σ H ∧ Post K mg W σ ρ hd as S H (m ρ S) fun ds as' S' H' => ∀ vs, RepL K as' (fz hd as' S' H') vs ds → Q vs H'
abbrev DE (X : Cx) (W : WX) (e : Expr) (m : EM) : Prop := PE X e (tE X.K X.mg W m)
abbrev DT (X : Cx) (W : WX) (e : Expr) (m : BM) : Prop := PT X e (tT X.K X.mg W m)
abbrev DW (X : Cx) (W : WX) (e : Expr) (m : BM) : Prop := PW X e (tT X.K X.mg W m)
abbrev DA (X : Cx) (W : WX) (es : List Expr) (m : AM) : Prop := PA X es (tA X.K X.mg W m)

theorem PE.le {X : Cx} {e : Expr} {t t' : TE} (h : PE X e t) (k : ∀ σ H Q, t' σ H Q → t σ H Q) : PE X e t' := ⟨fun pins s σ H Q I q => h.run pins s σ H Q I (k σ H Q q)⟩
theorem PT.le {X : Cx} {e : Expr} {t t' : TT} (h : PT X e t) (k : ∀ σ H Q, t' σ H Q → t σ H Q) : PT X e t' := ⟨fun pins s σ H Q I q => h.run pins s σ H Q I (k σ H Q q)⟩
theorem PW.le {X : Cx} {e : Expr} {t t' : TT} (h : PW X e t) (k : ∀ σ H Q, t' σ H Q → t σ H Q) : PW X e t' := ⟨fun wh pins s σ H Q I q => h.run wh pins s σ H Q I (k σ H Q q)⟩
theorem PA.le {X : Cx} {es : List Expr} {t t' : TA} (h : PA X es t) (k : ∀ σ H Q, t' σ H Q → t σ H Q) : PA X es t' := ⟨fun p pins s σ H Q I q => h.run p pins s σ H Q I (k σ H Q q)⟩
theorem PS.le {X : Cx} {st : Stmt} {t t' : TS} (h : PS X st t) (k : ∀ D σ H, t' D σ H → t D σ H) : PS X st t' := ⟨fun pins s σ H D I q => h.run pins s σ H D I (k D σ H q)⟩
theorem PSs.le {X : Cx} {st : List Stmt} {t t' : TS} (h : PSs X st t) (k : ∀ D σ H, t' D σ H → t D σ H) : PSs X st t' := ⟨fun pins s σ H D I q => h.run pins s σ H D I (k D σ H q)⟩

section
variable {β : Type} {K : PySem.W.Frag} {mg : Str → Option Value} {W : WX} {σ : L2.St} {ρ : Env} {hd : Hid} {as : List Addr} {S : Sto} {H : Hp} {k : β → List Addr → Sto → Hp → Prop}
theorem tE_seq {m : EM} {f : D → M β} {Q : VK} (rel : REL K hd as ρ S σ H) (po : Post K mg W σ ρ hd as S H ((m ρ S).bind f) k)
    (h : ∀ as1 S1 H1 v1 d, Grow hd as S H as1 S1 H1 → REL K hd as1 ρ S1 σ H1 → Rep K as1 (fz hd as1 S1 H1) v1 d → Post K mg W σ ρ hd as1 S1 H1 (f d S1) k → Q v1 H1) : tE K mg W m σ H Q :=
  ⟨hd, as, ρ, S, rel, po.bind.imp fun d as1 S1 H1 g rel1 q v r => h as1 S1 H1 v d g rel1 r q⟩
theorem tT_seq {m : BM} {f : Bool → M β} {Q : Bool → Hp → Prop} (rel : REL K hd as ρ S σ H) (po : Post K mg W σ ρ hd as S H ((m ρ S).bind f) k)
    (h : ∀ as1 S1 H1 b, Grow hd as S H as1 S1 H1 → REL K hd as1 ρ S1 σ H1 → Post K mg W σ ρ hd as1 S1 H1 (f b S1) k → Q b H1) : tT K mg W m σ H Q :=
  ⟨hd, as, ρ, S, rel, po.bind.imp fun b as1 S1 H1 g rel1 q => h as1 S1 H1 b g rel1 q⟩
theorem tA_seq {m : AM} {f : List D → M β} {Q : List V → Hp → Prop} (rel : REL K hd as ρ S σ H) (po : Post K mg W σ ρ hd as S H ((m ρ S).bind f) k)
    (h : ∀ as1 S1 H1 vs ds, Grow hd as S H as1 S1 H1 → REL K hd as1 ρ S1 σ H1 → RepL K as1 (fz hd as1 S1 H1) vs ds → Post K mg W σ ρ hd as1 S1 H1 (f ds S1) k → Q vs H1) : tA K mg W m σ H Q :=
  ⟨hd, as, ρ, S, rel, po.bind.imp fun ds as1 S1 H1 g rel1 q vs r => h as1 S1 H1 vs ds g rel1 r q⟩
/-- the step itself -/
theorem tE_last {m : EM} {Q : VK} (rel : REL K hd as ρ S σ H) (po : Post K mg W σ ρ hd as S H (m ρ S) fun d as' S' H' => ∀ v, Rep K as' (fz hd as' S' H') v d → Q v H') : tE K mg W m σ H Q := ⟨hd, as, ρ, S, rel, po⟩
theorem tT_last {m : BM} {Q : Bool → Hp → Prop} (rel : REL K hd as ρ S σ H) (po : Post K mg W σ ρ hd as S H (m ρ S) fun b _ _ H' => Q b H') : tT K mg W m σ H Q := ⟨hd, as, ρ, S, rel, po⟩
end

/-! ### operations by values -/
def Ret (K : PySem.W.Frag) (hd : Hid) (as : List Addr) (S : Sto) (H : Hp) (r : R D) (run : VK → Prop) : Prop :=
  match r with
  | .ok d S' => ∀ Q : VK, (∀ as' v H', Grow hd as S H as' S' H' → Wld K hd as' S' H' → Rep K as' (fz hd as' S' H') v d → Q v H') → run Q
  | .exc _ _ => False
  | .stuck => True
def Act1 (K : PySem.W.Frag) (r : V → Hp → VK → Prop) (f : D → M D) : Prop := ∀ hd as S H v d, Wld K hd as S H → Rep K as (fz hd as S H) v d → Ret K hd as S H (f d S) (r v H)
def Act2 (K : PySem.W.Frag) (r : R2) (f : D → D → M D) : Prop := ∀ hd as S H v u d e, Wld K hd as S H → Rep K as (fz hd as S H) v d → Rep K as (fz hd as S H) u e → Ret K hd as S H (f d e S) (r v u H)
def ActL (K : PySem.W.Frag) (r : List V → Hp → VK → Prop) (f : List D → M D) : Prop := ∀ hd as S H vs ds, Wld K hd as S H → RepL K as (fz hd as S H) vs ds → Ret K hd as S H (f ds S) (r vs H)
def ActM (K : PySem.W.Frag) (r : V → List V → Hp → VK → Prop) (f : D → List D → M D) : Prop := ∀ hd as S H v vs d ds, Wld K hd as S H → Rep K as (fz hd as S H) v d → RepL K as (fz hd as S H) vs ds → Ret K hd as S H (f d ds S) (r v vs H)
theorem Ret.out {K : PySem.W.Frag} {mg : Str → Option Value} {W : WX} {σ : L2.St} {ρ : Env} {hd : Hid} {as : List Addr} {S : Sto} {H : Hp} {r : R D} {run : VK → Prop} {Q : VK} (h : Ret K hd as S H r run) (rel : REL K hd as ρ S σ H)
    (po : Post K mg W σ ρ hd as S H r fun d as' S' H' => ∀ v, Rep K as' (fz hd as' S' H') v d → Q v H') : run Q := by
  cases r with
  | ok d S' => exact h Q fun as' v H' g w r => po as' H' g (rel.grow g w) v r
  | exc x S' => exact h.elim
  | stuck => exact po.elim
/-- no new cell, nothing changed: the same heap -/
theorem Ret.now {K : PySem.W.Frag} {hd : Hid} {as : List Addr} {S : Sto} {H : Hp} {d : D} {v : V} {run : VK → Prop} (w : Wld K hd as S H) (r : Rep K as (fz hd as S H) v d) (h : ∀ Q : VK, Q v H → run Q) : Ret K hd as S H (.ok d S) run := fun Q q => h Q (q as v H .refl w r)
/-- a new object -/
theorem Ret.fresh {K : PySem.W.Frag} {hd : Hid} {as : List Addr} {S : Sto} {H : Hp} {d : D} {o : HO} {run : VK → Prop} (w : Wld K hd as S H) (r : ∀ p, (fz hd as S (upd H p o)) p = some o → Grow hd as S H as S (upd H p o) → Rep K as (fz hd as S (upd H p o)) (.ref p) d)
    (h : ∀ Q : VK, (∀ p, H p = none → Q (.ref p) (upd H p o)) → run Q) : Ret K hd as S H (.ok d S) run := fun Q q => h Q fun p hp => by
  obtain ⟨w', g, e⟩ := w.fresh (o := o) hp
  exact q as _ _ g w' (r p e g)

/-! ### what stands where a list is wanted -/
def listOf (S : Sto) : D → Option (List D)
  | .lst xs => some xs
  | .ro xs => some xs
  | .cell n => match S[n]? with
    | some (some (.lst xs)) => some xs
    | _ => none
  | _ => none
theorem seqL {K : PySem.W.Frag} {hd : Hid} {as : List Addr} {S : Sto} {H : Hp} {v : V} {d : D} {xs : List D} (w : Wld K hd as S H) (r : Rep K as (fz hd as S H) v d) (h : listOf S d = some xs) : ∃ a vs, v = .ref a ∧ SqL K H a vs ∧ RepL K as (fz hd as S H) vs xs := by
  cases r with
  | lst q r => simp [listOf] at h; subst h; exact ⟨_, _, rfl, .inl (.inl (fz_same _ _ q)), r⟩
  | ro q r => simp [listOf] at h; subst h; exact ⟨_, _, rfl, same_l fz_same q, r⟩
  | cell q =>
    simp only [listOf] at h
    split at h
    · rename_i ys e
      cases h
      obtain ⟨a, vs, e1, e2, r⟩ := w.at_ _ _ e
      rw [q] at e1; cases e1
      exact ⟨_, _, rfl, .inl (.inl e2), r⟩
    · cases h
  | _ => simp [listOf] at h
/-- a list that stands by itself (no script, no constant) -/
def listOw (S : Sto) : D → Option (List D)
  | .lst xs => some xs
  | .cell n => match S[n]? with
    | some (some (.lst xs)) => some xs
    | _ => none
  | _ => none
theorem seqO {K : PySem.W.Frag} {hd : Hid} {as : List Addr} {S : Sto} {H : Hp} {v : V} {d : D} {xs : List D} (w : Wld K hd as S H) (r : Rep K as (fz hd as S H) v d) (h : listOw S d = some xs) : ∃ a vs, v = .ref a ∧ H a = some (.lst vs) ∧ RepL K as (fz hd as S H) vs xs := by
  cases r with
  | lst q r => simp [listOw] at h; subst h; exact ⟨_, _, rfl, fz_same _ _ q, r⟩
  | cell q =>
    simp only [listOw] at h
    split at h
    · rename_i ys e
      cases h
      obtain ⟨a, vs, e1, e2, r⟩ := w.at_ _ _ e
      rw [q] at e1; cases e1
      exact ⟨_, _, rfl, e2, r⟩
    · cases h
  | _ => simp [listOw] at h
theorem seqT {K : PySem.W.Frag} {hd : Hid} {as : List Addr} {S : Sto} {H : Hp} {v : V} {xs : List D} (r : Rep K as (fz hd as S H) v (.tup xs)) : ∃ a vs, v = .ref a ∧ SqT K H a vs ∧ RepL K as (fz hd as S H) vs xs := by
  cases r with
  | tup q r => exact ⟨_, _, rfl, same_t fz_same q, r⟩

/-! ### expressions -/
def eVar (i : Nat) : EM := fun ρ S => match ρ[i]? with
  | some (some d) => .ok d S
  | _ => .stuck
def eC (d : D) : EM := fun _ S => .ok d S
def e1 (f : D → M D) (a : EM) : EM := fun ρ => M.bind (a ρ) f
def e2 (f : D → D → M D) (a b : EM) : EM := fun ρ => M.bind (a ρ) fun x => M.bind (b ρ) fun y => f x y
def aNil : AM := fun _ S => .ok [] S
def aCons (a : EM) (r : AM) : AM := fun ρ => M.bind (a ρ) fun x => M.bind (r ρ) fun xs S => .ok (x :: xs) S
def eL (f : List D → M D) (a : AM) : EM := fun ρ => M.bind (a ρ) f
def eM (f : D → List D → M D) (o : EM) (a : AM) : EM := fun ρ => M.bind (o ρ) fun x => M.bind (a ρ) fun xs => f x xs
def mTup (ds : List D) : M D := fun S => if ds.length ≤ sizeLine then .ok (.tup ds) S else .stuck
def mLst (ds : List D) : M D := fun S => if ds.length ≤ sizeLine then .ok (.lst ds) S else .stuck
def mCell (ds : List D) : M D := fun S => if ds.length ≤ sizeLine then .ok (.cell S.length) (S ++ [some (.lst ds)]) else .stuck
def mBool : D → M Bool
  | .bl b => fun S => .ok b S
  | _ => fun _ => .stuck
def bVal (a : EM) : BM := fun ρ => M.bind (a ρ) mBool
def bNot (a : BM) : BM := fun ρ => M.bind (a ρ) fun b S => .ok (!b) S
def bAnd (a b : BM) : BM := fun ρ => M.bind (a ρ) fun x => if x then b ρ else fun S => .ok false S
def bOr (a b : BM) : BM := fun ρ => M.bind (a ρ) fun x => if x then fun S => .ok true S else b ρ
def eAnd (a b : EM) : EM := fun ρ => M.bind (a ρ) fun d => M.bind (mBool d) fun x => if x then b ρ else fun S => .ok (.bl false) S
def eOr (a b : EM) : EM := fun ρ => M.bind (a ρ) fun d => M.bind (mBool d) fun x => if x then fun S => .ok (.bl true) S else b ρ
def eNot (a : EM) : EM := fun ρ => M.bind (a ρ) fun d => M.bind (mBool d) fun x S => .ok (.bl (!x)) S
def eIf (c : BM) (a b : EM) : EM := fun ρ => M.bind (c ρ) fun x => if x then a ρ else b ρ
/-- what is changed no more is data -/
def mFrz : D → M D
  | .cell n => fun S => match S[n]? with
    | some (some (.lst xs)) => .ok (.lst xs) (S.set n none)
    | _ => .stuck
  | d => fun S => .ok d S

section
variable {X : Cx} {W : WX} {a b c e o : Expr} {es : List Expr} {ma mb mc me : EM} {mt mu : BM} {mr : AM} {pos : Pos}
theorem de_var (i : Nat) {x : Str} (hN : X.N[i]? = some x := by rfl) (hv : Vis X.env.scope x := by first | exact Or.inl rfl | exact Or.inr (Or.inl rfl) | exact Or.inr (Or.inr rfl)) (hd : (x == ("__debug__" : Str)) = false := by decide)
    (hcd : (x == ("__classdict__" : Str)) = false := by decide) : DE X W (.Name x pos) (eVar i) := PE.le (pe_var hN hv hd hcd) fun σ H Q ⟨hd, as, ρ, S, rel, po⟩ => by
  unfold eVar at po
  split at po
  · rename_i d e
    obtain ⟨v, e1, r⟩ := rel.s.at_ i d e
    exact ⟨v, e1, po as H .refl rel v r⟩
  · exact po.elim
theorem PE.const {v : V} {d : D} (h : PE X e (tC v)) (r : ∀ as F, Rep X.K as F v d) : DE X W e (eC d) := PE.le h fun σ H Q ⟨hd, as, ρ, S, rel, po⟩ => po as H .refl rel v (r _ _)
theorem de_int {i : Int} {j} : DE X W (.Constant (.int i) j pos) (eC (.int i)) := PE.const pe_int fun _ _ => .int i
theorem de_bl {i : Bool} {j} : DE X W (.Constant (.bool i) j pos) (eC (.bl i)) := PE.const pe_bl fun _ _ => .bl i
theorem de_str {i : Str} {j} : DE X W (.Constant (.str i) j pos) (eC (.str i)) := PE.const pe_str fun _ _ => .str i
theorem de_non {j} : DE X W (.Constant .none j pos) (eC .non) := PE.const pe_non fun _ _ => .non
/-- a constant of the module -/
theorem de_glob {x : Str} {v : V} {u : Value} {d : D} (hg : Gl X x) (hm : X.mg x = some u) (r : RelV v u) (rd : ∀ as F, Rep X.K as F v d) (hd : (x == ("__debug__" : Str)) = false := by decide) : DE X W (.Name x pos) (eC d) := PE.const (pe_glob hg hm r hd) rd
theorem de_bin {op : Operator} {r : R2} {f : D → D → M D} (ho : OpR X (binaryOp op) r) (act : Act2 X.K r f) (ha : DE X W a ma) (hb : DE X W b mb) : DE X W (.BinOp a op b pos) (e2 f ma mb) :=
  PE.le (pe_op ho ha hb) fun σ H Q ⟨hd, as, ρ, S, rel, po⟩ => tE_seq rel po fun as1 S1 H1 v1 d1 g1 rel1 r1 po1 => tE_seq rel1 po1 fun as2 S2 H2 v2 d2 g2 rel2 r2 po2 =>
    (act hd as2 S2 H2 v1 v2 d1 d2 rel2.w (r1.grow g2) r2).out rel2 po2
theorem de_cmp {op : CmpOp} {r : R2} {f : D → D → M D} (ho : OpR X (compareOp op) r) (act : Act2 X.K r f) (ha : DE X W a ma) (hb : DE X W b mb) (hm : behindInMarks op b = false) : DE X W (.Compare a [op] [b] pos) (e2 f ma mb) :=
  PE.le (pe_cmpR ho ha hb hm) fun σ H Q ⟨hd, as, ρ, S, rel, po⟩ => tE_seq rel po fun as1 S1 H1 v1 d1 g1 rel1 r1 po1 => tE_seq rel1 po1 fun as2 S2 H2 v2 d2 g2 rel2 r2 po2 =>
    (act hd as2 S2 H2 v1 v2 d1 d2 rel2.w (r1.grow g2) r2).out rel2 po2
theorem de_un {op : UnaryOp} {r : V → Hp → VK → Prop} {f : D → M D} (ho : UnR X (unaryOp op) r) (act : Act1 X.K r f) (ha : DE X W a ma) : DE X W (.UnaryOp op a pos) (e1 f ma) :=
  PE.le (pe_un ho ha) fun σ H Q ⟨hd, as, ρ, S, rel, po⟩ => tE_seq rel po fun as1 S1 H1 v1 d1 g1 rel1 r1 po1 => (act hd as1 S1 H1 v1 d1 rel1.w r1).out rel1 po1
theorem da_nil : DA X W [] aNil := PA.le pa_nil fun σ H Q ⟨hd, as, ρ, S, rel, po⟩ => po as H .refl rel [] .nil
theorem da_cons (ha : DE X W a ma) (hr : DA X W es mr) (hs : starEach (a :: es) X.env = (false, eval a X.env) :: starEach es X.env := by rfl) : DA X W (a :: es) (aCons ma mr) :=
  PA.le (pa_cons ha hr hs) fun σ H Q ⟨hd, as, ρ, S, rel, po⟩ => tE_seq rel po fun as1 S1 H1 v1 d1 g1 rel1 r1 po1 => tA_seq rel1 po1 fun as2 S2 H2 vs ds g2 rel2 r2 po2 =>
    po2 as2 H2 .refl rel2 (v1 :: vs) (.cons (r1.grow g2) r2)
theorem ret_tup {K : PySem.W.Frag} {hd : Hid} {as : List Addr} {S : Sto} {H : Hp} {vs : List V} {ds : List D} (w : Wld K hd as S H) (r : RepL K as (fz hd as S H) vs ds) : Ret K hd as S H (mTup ds S) fun Q => vs.length ≤ sizeLine ∧ ∀ p, H p = none → Q (.ref p) (upd H p (.tup vs)) := by
  unfold mTup
  split
  · rename_i hz
    exact Ret.fresh w (fun p e g => .tup (.inl (.inl e)) (r.grow g)) fun Q q => ⟨by rw [r.length]; exact hz, q⟩
  · exact trivial
theorem ret_lst {K : PySem.W.Frag} {hd : Hid} {as : List Addr} {S : Sto} {H : Hp} {vs : List V} {ds : List D} (w : Wld K hd as S H) (r : RepL K as (fz hd as S H) vs ds) : Ret K hd as S H (mLst ds S) fun Q => vs.length ≤ sizeLine ∧ ∀ p, H p = none → Q (.ref p) (upd H p (.lst vs)) := by
  unfold mLst
  split
  · rename_i hz
    exact Ret.fresh w (fun p e g => .lst e (r.grow g)) fun Q q => ⟨by rw [r.length]; exact hz, q⟩
  · exact trivial
theorem ret_cell {K : PySem.W.Frag} {hd : Hid} {as : List Addr} {S : Sto} {H : Hp} {vs : List V} {ds : List D} (w : Wld K hd as S H) (r : RepL K as (fz hd as S H) vs ds) : Ret K hd as S H (mCell ds S) fun Q => vs.length ≤ sizeLine ∧ ∀ p, H p = none → Q (.ref p) (upd H p (.lst vs)) := by
  unfold mCell
  split
  · rename_i hz
    exact fun Q q => ⟨by rw [r.length]; exact hz, fun p hp => by
      obtain ⟨w', g, e⟩ := w.newCell hp r
      exact q _ _ _ g w' (.cell e)⟩
  · exact trivial
theorem de_tup {x1} (h : DA X W es mr) : DE X W (.Tuple es x1 pos) (eL mTup mr) := PE.le (pe_tup h) fun σ H Q ⟨hd, as, ρ, S, rel, po⟩ => tA_seq rel po fun as1 S1 H1 vs ds g1 rel1 r1 po1 => (ret_tup rel1.w r1).out rel1 po1
theorem de_lst (h : DA X W es mr) : DE X W (.List es pos) (eL mLst mr) := PE.le (pe_lst h) fun σ H Q ⟨hd, as, ρ, S, rel, po⟩ => tA_seq rel po fun as1 S1 H1 vs ds g1 rel1 r1 po1 => (ret_lst rel1.w r1).out rel1 po1
theorem de_lstC (h : DA X W es mr) : DE X W (.List es pos) (eL mCell mr) := PE.le (pe_lst h) fun σ H Q ⟨hd, as, ρ, S, rel, po⟩ => tA_seq rel po fun as1 S1 H1 vs ds g1 rel1 r1 po1 => (ret_cell rel1.w r1).out rel1 po1
theorem de_callB {x : Str} {p : Pos} {id : String} {r : List V → Hp → VK → Prop} {f : List D → M D} (hc : CallR X (.builtin id) r) (act : ActL X.K r f) (hg : Gl X x) (hm : X.mg x = none) (hv : bootBuiltins x = some (.builtin id)) (ha : DA X W (e :: es) mr)
    (hn : x ≠ "__name__" := by decide) (hdb : (x == ("__debug__" : Str)) = false := by decide)
    (he : starEach (e :: es) X.env = (false, eval e X.env) :: starEach es X.env := by rfl) (hpl : (backTo pos (starEach es X.env)).any (·.1) = false := by rfl) : DE X W (.Call (.Name x p) (e :: es) [] pos) (eL f mr) :=
  PE.le (pe_callB hc hg hm hv ha hn hdb he hpl) fun σ H Q ⟨hd, as, ρ, S, rel, po⟩ => tA_seq rel po fun as1 S1 H1 vs ds g1 rel1 r1 po1 => (act hd as1 S1 H1 vs ds rel1.w r1).out rel1 po1
theorem de_callTy {x : Str} {p : Pos} {T : String} {r : List V → Hp → VK → Prop} {f : List D → M D} (hc : CallR X (.type T) r) (act : ActL X.K r f) (hg : Gl X x) (hm : X.mg x = none) (hv : bootBuiltins x = some (.type T)) (ha : DA X W (e :: es) mr)
    (hn : x ≠ "__name__" := by decide) (hdb : (x == ("__debug__" : Str)) = false := by decide)
    (he : starEach (e :: es) X.env = (false, eval e X.env) :: starEach es X.env := by rfl) (hpl : (backTo pos (starEach es X.env)).any (·.1) = false := by rfl) : DE X W (.Call (.Name x p) (e :: es) [] pos) (eL f mr) :=
  PE.le (pe_callTy hc hg hm hv ha hn hdb he hpl) fun σ H Q ⟨hd, as, ρ, S, rel, po⟩ => tA_seq rel po fun as1 S1 H1 vs ds g1 rel1 r1 po1 => (act hd as1 S1 H1 vs ds rel1.w r1).out rel1 po1
theorem de_ix {r : R2} {f : D → D → M D} (hr : IxR X r) (act : Act2 X.K r f) (ha : DE X W a ma) (hb : DE X W b mb) (hs : PlainIx b := by intro _ _; rfl) : DE X W (.Subscript a b pos) (e2 f ma mb) :=
  PE.le (pe_ix hr ha hb hs) fun σ H Q ⟨hd, as, ρ, S, rel, po⟩ => tE_seq rel po fun as1 S1 H1 v1 d1 g1 rel1 r1 po1 => tE_seq rel1 po1 fun as2 S2 H2 v2 d2 g2 rel2 r2 po2 =>
    (act hd as2 S2 H2 v1 v2 d1 d2 rel2.w (r1.grow g2) r2).out rel2 po2
theorem de_frz (h : DE X W e me) : DE X W e (e1 mFrz me) := PE.le h fun σ H Q ⟨hd, as, ρ, S, rel, po⟩ => tE_seq rel po fun as1 S1 H1 v1 d1 g1 rel1 r1 po1 => by
  cases r1 with
  | cell q =>
    rename_i n b
    cases e : S1[n]? with
    | none => simp only [mFrz, e] at po1; exact po1.elim
    | some z =>
      cases z with
      | none => simp only [mFrz, e] at po1; exact po1.elim
      | some c =>
        cases c with
        | ins _ _ => simp only [mFrz, e] at po1; exact po1.elim
        | dK _ => simp only [mFrz, e] at po1; exact po1.elim
        | lst xs =>
          simp only [mFrz, e] at po1
          obtain ⟨w', g, r⟩ := rel1.w.freeze e q
          exact po1 _ _ g (rel1.grow g w') _ r
  | non => exact po1 _ _ .refl rel1 _ .non
  | bl i => exact po1 _ _ .refl rel1 _ (.bl i)
  | int i => exact po1 _ _ .refl rel1 _ (.int i)
  | str i => exact po1 _ _ .refl rel1 _ (.str i)
  | dE q => exact po1 _ _ .refl rel1 _ (.dE q)
  | ty i => exact po1 _ _ .refl rel1 _ (.ty i)
  | tup q r => exact po1 _ _ .refl rel1 _ (.tup q r)
  | lst q r => exact po1 _ _ .refl rel1 _ (.lst q r)
  | ro q r => exact po1 _ _ .refl rel1 _ (.ro q r)
  | err q1 q2 q3 r => exact po1 _ _ .refl rel1 _ (.err q1 q2 q3 r)
  | cls q => exact po1 _ _ .refl rel1 _ (.cls q)

/-! ### tests -/
theorem mBool_bl {K : PySem.W.Frag} {as : List Addr} {F : Hp} {v : V} {d : D} (r : Rep K as F v d) {S : Sto} : mBool d S = .stuck ∨ ∃ b, v = .bl b ∧ d = .bl b := by
  cases r with
  | bl i => exact .inr ⟨i, rfl, rfl⟩
  | _ => exact .inl rfl
theorem dt_val (h : DE X W e me) (he : ∀ whole, isTrue e X.env whole = (do let v ← whole; standAt e.pos; holding [v] (truthy v)) := by intro _; rfl) : DT X W e (bVal me) :=
  PT.le (pt_val h he) fun σ H Q ⟨hd, as, ρ, S, rel, po⟩ => tE_seq rel po fun as1 S1 H1 v1 d1 g1 rel1 r1 po1 => by
    rcases mBool_bl r1 (S := S1) with z | ⟨b, rfl, rfl⟩
    · rw [z] at po1; exact po1.elim
    · exact ⟨b, rfl, po1 as1 H1 .refl rel1⟩
theorem dt_not (h : DT X W a mt) : DT X W (.UnaryOp .Not a pos) (bNot mt) := PT.le (pt_not h) fun σ H Q ⟨hd, as, ρ, S, rel, po⟩ => tT_seq rel po fun as1 S1 H1 b g1 rel1 po1 => po1 as1 H1 .refl rel1
theorem dw_and1 (h : DT X W a mt) : DW X W (.BoolOp .And [a] pos) mt := pw_and1 h
theorem dw_or1 (h : DT X W a mt) : DW X W (.BoolOp .Or [a] pos) mt := pw_or1 h
theorem dw_and (ha : DT X W a mt) (hb : DW X W (.BoolOp .And (b :: es) pos) mu) : DW X W (.BoolOp .And (a :: b :: es) pos) (bAnd mt mu) :=
  PW.le (pw_and ha hb) fun σ H Q ⟨hd, as, ρ, S, rel, po⟩ => tT_seq rel po fun as1 S1 H1 b g1 rel1 po1 => by
    cases b with
    | true => exact iteT (tT_last rel1 po1)
    | false => exact iteF (po1 as1 H1 .refl rel1)
theorem dw_or (ha : DT X W a mt) (hb : DW X W (.BoolOp .Or (b :: es) pos) mu) : DW X W (.BoolOp .Or (a :: b :: es) pos) (bOr mt mu) :=
  PW.le (pw_or ha hb) fun σ H Q ⟨hd, as, ρ, S, rel, po⟩ => tT_seq rel po fun as1 S1 H1 b g1 rel1 po1 => by
    cases b with
    | true => exact iteT (po1 as1 H1 .refl rel1)
    | false => exact iteF (tT_last rel1 po1)
theorem de_one {op} (h : DE X W a ma) : DE X W (.BoolOp op [a] pos) ma := pe_one h
theorem de_and (ha : DE X W a ma) (hb : DE X W (.BoolOp .And (b :: es) pos) mb) : DE X W (.BoolOp .And (a :: b :: es) pos) (eAnd ma mb) :=
  PE.le (pe_and ha hb) fun σ H Q ⟨hd, as, ρ, S, rel, po⟩ => tE_seq rel po fun as1 S1 H1 v1 d1 g1 rel1 r1 po1 => by
    rcases mBool_bl r1 (S := S1) with z | ⟨b, rfl, rfl⟩
    · rw [bind_ap, z] at po1; exact po1.elim
    · refine ⟨b, rfl, ?_⟩
      cases b with
      | true => exact iteT (tE_last rel1 po1)
      | false => exact iteF (po1 as1 H1 .refl rel1 _ (.bl false))
theorem de_or (ha : DE X W a ma) (hb : DE X W (.BoolOp .Or (b :: es) pos) mb) : DE X W (.BoolOp .Or (a :: b :: es) pos) (eOr ma mb) :=
  PE.le (pe_or ha hb) fun σ H Q ⟨hd, as, ρ, S, rel, po⟩ => tE_seq rel po fun as1 S1 H1 v1 d1 g1 rel1 r1 po1 => by
    rcases mBool_bl r1 (S := S1) with z | ⟨b, rfl, rfl⟩
    · rw [bind_ap, z] at po1; exact po1.elim
    · refine ⟨b, rfl, ?_⟩
      cases b with
      | true => exact iteT (po1 as1 H1 .refl rel1 _ (.bl true))
      | false => exact iteF (tE_last rel1 po1)
theorem de_not (ha : DE X W a ma) : DE X W (.UnaryOp .Not a pos) (eNot ma) :=
  PE.le (pe_not ha) fun σ H Q ⟨hd, as, ρ, S, rel, po⟩ => tE_seq rel po fun as1 S1 H1 v1 d1 g1 rel1 r1 po1 => by
    rcases mBool_bl r1 (S := S1) with z | ⟨b, rfl, rfl⟩
    · rw [bind_ap, z] at po1; exact po1.elim
    · exact ⟨b, rfl, po1 as1 H1 .refl rel1 _ (.bl _)⟩
/-- a < b < c -/
def eChain (f g : D → D → M D) (a b c : EM) : EM := fun ρ => M.bind (a ρ) fun x => M.bind (b ρ) fun y => M.bind (f x y) fun z => M.bind (mBool z) fun k => if k then M.bind (c ρ) fun w => g y w else fun S => .ok (.bl false) S
theorem tR_seq {β : Type} {K : PySem.W.Frag} {mg : Str → Option Value} {σ : L2.St} {ρ : Env} {hd : Hid} {as : List Addr} {S : Sto} {H : Hp} {k : β → List Addr → Sto → Hp → Prop} {m : M D} {f : D → M β} {run : VK → Prop} {Q : VK} (h : Ret K hd as S H (m S) run) (rel : REL K hd as ρ S σ H)
    (po : Post K mg W σ ρ hd as S H ((m S).bind f) k) (q : ∀ as1 S1 H1 v d, Grow hd as S H as1 S1 H1 → REL K hd as1 ρ S1 σ H1 → Rep K as1 (fz hd as1 S1 H1) v d → Post K mg W σ ρ hd as1 S1 H1 (f d S1) k → Q v H1) : run Q :=
  h.out rel (po.bind.imp fun d as1 S1 H1 g rel1 p v r => q as1 S1 H1 v d g rel1 r p)
/-- slices -/
abbrev OM := Env → M (Option Int)
def oNone : OM := fun _ S => .ok none S
def oSome (m : EM) : OM := fun ρ => M.bind (m ρ) fun d => match d with
  | .int i => fun S => .ok (some i) S
  | _ => fun _ => .stuck
def tO (K : PySem.W.Frag) (mg : Str → Option Value) (W : WX) (m : OM) : TO := fun σ H Q => ∃ hd as ρ S, REL K hd as ρ S σ H ∧ Post K mg W σ ρ hd as S H (m ρ S) fun o _ _ H' => Q o H'
abbrev DO (X : Cx) (W : WX) (e : Option Expr) (m : OM) : Prop := PO X e (tO X.K X.mg W m)
theorem PO.le {X : Cx} {e : Option Expr} {t t' : TO} (h : PO X e t) (k : ∀ σ H Q, t' σ H Q → t σ H Q) : PO X e t' := ⟨fun pins s σ H Q I q => h.run pins s σ H Q I (k σ H Q q)⟩
theorem do_none : DO X W none oNone := PO.le po_none fun σ H Q ⟨hd, as, ρ, S, rel, po⟩ => po as H .refl rel
theorem do_some (h : DE X W e me) : DO X W (some e) (oSome me) := PO.le (po_some h) fun σ H Q ⟨hd, as, ρ, S, rel, po⟩ => tE_seq rel po fun as1 S1 H1 v1 d1 g1 rel1 r1 po1 => by
  cases r1 with
  | int i => exact ⟨i, rfl, po1 as1 H1 .refl rel1⟩
  | _ => exact po1.elim
theorem tO_seq {β : Type} {K : PySem.W.Frag} {mg : Str → Option Value} {σ : L2.St} {ρ : Env} {hd : Hid} {as : List Addr} {S : Sto} {H : Hp} {k : β → List Addr → Sto → Hp → Prop} {m : OM} {f : Option Int → M β} {Q : Option Int → Hp → Prop} (rel : REL K hd as ρ S σ H)
    (po : Post K mg W σ ρ hd as S H ((m ρ S).bind f) k) (h : ∀ as1 S1 H1 o, Grow hd as S H as1 S1 H1 → REL K hd as1 ρ S1 σ H1 → Post K mg W σ ρ hd as1 S1 H1 (f o S1) k → Q o H1) : tO K mg W m σ H Q :=
  ⟨hd, as, ρ, S, rel, po.bind.imp fun o as1 S1 H1 g rel1 q => h as1 S1 H1 o g rel1 q⟩
def ActS (K : PySem.W.Frag) (r : V → Option Int → Option Int → Hp → VK → Prop) (f : D → Option Int → Option Int → M D) : Prop := ∀ hd as S H v d lo hi, Wld K hd as S H → Rep K as (fz hd as S H) v d → Ret K hd as S H (f d lo hi S) (r v lo hi H)
def eSl (f : D → Option Int → Option Int → M D) (a : EM) (l u : OM) : EM := fun ρ => M.bind (a ρ) fun x => M.bind (l ρ) fun i => M.bind (u ρ) fun j => f x i j
theorem de_slice {lo hi : Option Expr} {p2 : Pos} {r : V → Option Int → Option Int → Hp → VK → Prop} {f : D → Option Int → Option Int → M D} {ml mh : OM} (hr : SlR X r) (act : ActS X.K r f) (he : DE X W e me) (hl : DO X W lo ml) (hu : DO X W hi mh) :
    DE X W (.Subscript e (.Slice lo hi none p2) pos) (eSl f me ml mh) :=
  PE.le (pe_slice hr he hl hu) fun σ H Q ⟨hd, as, ρ, S, rel, po⟩ => tE_seq rel po fun as1 S1 H1 v1 d1 g1 rel1 r1 po1 => tO_seq rel1 po1 fun as2 S2 H2 i g2 rel2 po2 => tO_seq rel2 po2 fun as3 S3 H3 j g3 rel3 po3 =>
    (act hd as3 S3 H3 v1 d1 i j rel3.w ((r1.grow g2).grow g3)).out rel3 po3
/-- a built-in's methods -/
def eMt (chk : D → Sto → Bool) (f : D → List D → M D) (o : EM) (a : AM) : EM := fun ρ => M.bind (o ρ) fun x => fun S => if chk x S then ((a ρ S).bind fun xs => f x xs) else .stuck
def TyOk (K : PySem.W.Frag) (T : String) (chk : D → Sto → Bool) : Prop := ∀ hd as S H v d, Wld K hd as S H → Rep K as (fz hd as S H) v d → chk d S = true → tyV K T v H
theorem de_bm {T id : String} {name : Str} {apos : Pos} {r : V → List V → Hp → VK → Prop} {f : D → List D → M D} {chk : D → Sto → Bool} (pa : PlainAttrs T) (slot : Slot T name id) (hty : typeOf (.builtin id) = pure (.type "method_descriptor")) (hm : MtR X id r)
    (act : ActM X.K r f) (ty : TyOk X.K T chk) (ho : DE X W o mb) (ha : DA X W (e :: es) mr) (hbase : attributeBase o name X.env (eval o X.env) = eval o X.env := by rfl) (hline : (apos.endLine == pos.line) = true := by rfl)
    (hst : starEach (e :: es) X.env = (false, eval e X.env) :: starEach es X.env := by rfl) (hpl : (backTo pos (starEach es X.env)).any (·.1) = false := by rfl)
    (hfw : ((backTo pos (starEach (e :: es) X.env)).all (fun x => !x.1) && (backToKw pos (keywordEach [] X.env)).all (fun x => x.1.isSome) && decide ((e :: es).length + ([] : List Keyword).length + (if ([] : List Keyword).isEmpty then 0 else 1) < 30)) = true := by rfl) :
    DE X W (.Call (.Attribute o name apos) (e :: es) [] pos) (eMt chk f mb mr) :=
  PE.le (pe_bm pa slot hty hm ho ha hbase hfw hline hst hpl) fun σ H Q ⟨hd, as, ρ, S, rel, po⟩ => tE_seq rel po fun as1 S1 H1 v1 d1 g1 rel1 r1 po1 => by
    by_cases hk : chk d1 S1 = true
    · rw [if_pos hk] at po1
      exact ⟨ty hd as1 S1 H1 v1 d1 rel1.w r1 hk, tA_seq rel1 po1 fun as2 S2 H2 vs ds g2 rel2 r2 po2 => (act hd as2 S2 H2 v1 vs d1 ds rel2.w (r1.grow g2) r2).out rel2 po2⟩
    · rw [if_neg hk] at po1; exact po1.elim
end
end DL

set_option Elab.async false
set_option linter.all false
set_option maxRecDepth 100000
/-! DL3: statements, targets, what is walked, loops, comprehensions. -/
namespace DL
open PySem PySem.Spec PyProof.Rows L2

/-! ### statements -/
inductive RS where
  | ok (f : Flw) (ρ : Env) (S : Sto)
  | exc (x : XD) (ρ : Env) (S : Sto)
  | stuck
abbrev SD := Env → Sto → RS
def R.to {α : Type} (r : R α) (ρ : Env) (k : α → Sto → RS) : RS := match r with
  | .ok a S => k a S
  | .exc x S => .exc x ρ S
  | .stuck => .stuck
@[simp] theorem R.to_ok {α : Type} (a : α) (S : Sto) (ρ : Env) (k : α → Sto → RS) : (R.ok a S).to ρ k = k a S := rfl
@[simp] theorem R.to_exc {α : Type} (x : XD) (S : Sto) (ρ : Env) (k : α → Sto → RS) : (R.exc (α := α) x S).to ρ k = .exc x ρ S := rfl
@[simp] theorem R.to_stuck {α : Type} (ρ : Env) (k : α → Sto → RS) : (R.stuck (α := α)).to ρ k = .stuck := rfl
def PostS (K : PySem.W.Frag) (mg : Str → Option Value) (W : WX) (hd : Hid) (as : List Addr) (S : Sto) (H : Hp) (Dn : Ends) (r : RS) : Prop :=
  match r with
  | .ok .nx ρ' S' => ∀ as' σ' H', Grow hd as S H as' S' H' → REL K hd as' ρ' S' σ' H' → Dn.nx σ' H'
  | .ok (.ret d) ρ' S' => ∀ as' v H', Grow hd as S H as' S' H' → Wld K hd as' S' H' → Rep K as' (fz hd as' S' H') v d → Dn.rt v H'
  | .ok .brk ρ' S' => ∀ as' σ' H', Grow hd as S H as' S' H' → REL K hd as' ρ' S' σ' H' → Dn.bk σ' H'
  | .ok .cnt ρ' S' => ∀ as' σ' H', Grow hd as S H as' S' H' → REL K hd as' ρ' S' σ' H' → Dn.ct σ' H'
  | .exc x ρ' S' => ∀ as' cls dd σ' H', Grow hd as S H as' S' H' → REL K hd as' ρ' S' σ' H' → XRep K mg as' (fz hd as' S' H') x cls dd → W cls dd σ' H'
  | .stuck => False
def tS (K : PySem.W.Frag) (mg : Str → Option Value) (W : WX) (m : SD) : TS := fun Dn σ H => ∃ hd as ρ S, REL K hd as ρ S σ H ∧ PostS K mg W hd as S H Dn (m ρ S)
abbrev DS (X : Cx) (W : WX) (st : Stmt) (m : SD) : Prop := PS X st (tS X.K X.mg W m)
abbrev DSs (X : Cx) (W : WX) (st : List Stmt) (m : SD) : Prop := PSs X st (tS X.K X.mg W m)
section
variable {K : PySem.W.Frag} {mg : Str → Option Value} {W : WX} {hd : Hid} {as as1 : List Addr} {S S1 : Sto} {σ : L2.St} {ρ : Env} {H H1 : Hp} {Dn : Ends}
theorem PostS.later {r : RS} (h : PostS K mg W hd as S H Dn r) (g : Grow hd as S H as1 S1 H1) : PostS K mg W hd as1 S1 H1 Dn r := by
  match r, h with
  | .ok .nx ρ' S', h => exact fun as' σ' H' g' rel => h as' σ' H' (g.trans g') rel
  | .ok (.ret d) ρ' S', h => exact fun as' v H' g' w r => h as' v H' (g.trans g') w r
  | .ok .brk ρ' S', h => exact fun as' σ' H' g' rel => h as' σ' H' (g.trans g') rel
  | .ok .cnt ρ' S', h => exact fun as' σ' H' g' rel => h as' σ' H' (g.trans g') rel
  | .exc x ρ' S', h => exact fun as' cls dd σ' H' g' rel => h as' cls dd σ' H' (g.trans g') rel
  | .stuck, h => exact h
theorem PostS.toE {α : Type} {r : R α} {k : α → Sto → RS} (rel : REL K hd as ρ S σ H) (h : PostS K mg W hd as S H Dn (r.to ρ k)) : Post K mg W σ ρ hd as S H r fun a as' S' H' => PostS K mg W hd as' S' H' Dn (k a S') := by
  cases r with
  | ok a S' => exact fun as' H' g rel' => PostS.later (r := k a S') h g
  | exc x S' => exact fun as' cls dd H' g rel' xr => h as' cls dd σ H' g rel' xr
  | stuck => exact h
theorem tE_to {m : EM} {k : D → Sto → RS} {Q : VK} (rel : REL K hd as ρ S σ H) (po : PostS K mg W hd as S H Dn ((m ρ S).to ρ k))
    (h : ∀ as1 S1 H1 v1 d, Grow hd as S H as1 S1 H1 → REL K hd as1 ρ S1 σ H1 → Rep K as1 (fz hd as1 S1 H1) v1 d → PostS K mg W hd as1 S1 H1 Dn (k d S1) → Q v1 H1) : tE K mg W m σ H Q :=
  ⟨hd, as, ρ, S, rel, (po.toE rel).imp fun d as1 S1 H1 g rel1 q v r => h as1 S1 H1 v d g rel1 r q⟩
theorem tT_to {m : BM} {k : Bool → Sto → RS} {Q : Bool → Hp → Prop} (rel : REL K hd as ρ S σ H) (po : PostS K mg W hd as S H Dn ((m ρ S).to ρ k))
    (h : ∀ as1 S1 H1 b, Grow hd as S H as1 S1 H1 → REL K hd as1 ρ S1 σ H1 → PostS K mg W hd as1 S1 H1 Dn (k b S1) → Q b H1) : tT K mg W m σ H Q :=
  ⟨hd, as, ρ, S, rel, (po.toE rel).imp fun b as1 S1 H1 g rel1 q => h as1 S1 H1 b g rel1 q⟩
theorem tA_to {m : AM} {k : List D → Sto → RS} {Q : List V → Hp → Prop} (rel : REL K hd as ρ S σ H) (po : PostS K mg W hd as S H Dn ((m ρ S).to ρ k))
    (h : ∀ as1 S1 H1 vs ds, Grow hd as S H as1 S1 H1 → REL K hd as1 ρ S1 σ H1 → RepL K as1 (fz hd as1 S1 H1) vs ds → PostS K mg W hd as1 S1 H1 Dn (k ds S1) → Q vs H1) : tA K mg W m σ H Q :=
  ⟨hd, as, ρ, S, rel, (po.toE rel).imp fun ds as1 S1 H1 g rel1 q vs r => h as1 S1 H1 vs ds g rel1 r q⟩
end

/-- behind a: b -/
def sSeq (a b : SD) : SD := fun ρ S => match a ρ S with
  | .ok .nx ρ' S' => b ρ' S'
  | r => r
def sNx : SD := fun ρ S => .ok .nx ρ S
def sBrk : SD := fun ρ S => .ok .brk ρ S
def sCnt : SD := fun ρ S => .ok .cnt ρ S
def sRet (m : EM) : SD := fun ρ S => (m ρ S).to ρ fun d S' => .ok (.ret d) ρ S'
def sRetN : SD := fun ρ S => .ok (.ret .non) ρ S
def sSet (i : Nat) (m : EM) : SD := fun ρ S => (m ρ S).to ρ fun d S' => .ok .nx (ρ.set i (some d)) S'
def sExpr (m : EM) : SD := fun ρ S => (m ρ S).to ρ fun _ S' => .ok .nx ρ S'
def sIf (c : BM) (a b : SD) : SD := fun ρ S => (c ρ S).to ρ fun k S' => if k then a ρ S' else b ρ S'
def sNever : SD := fun _ _ => .stuck

/-! ### targets -/
inductive Tg where
  | nm (i : Nat) | tup (ts : List Tg)
mutual
def Tg.slots : Tg → List Nat
  | .nm i => [i]
  | .tup ts => Tg.slotsL ts
def Tg.slotsL : List Tg → List Nat
  | [] => []
  | t :: ts => t.slots ++ Tg.slotsL ts
end
mutual
def asg : Tg → D → Env → Option Env
  | .nm i, d, ρ => some (ρ.set i (some d))
  | .tup ts, .tup ds, ρ => if ds.length = ts.length then asgL ts ds ρ else none
  | .tup _, _, _ => none
def asgL : List Tg → List D → Env → Option Env
  | [], [], ρ => some ρ
  | t :: ts, d :: ds, ρ => (asg t d ρ).bind fun ρ' => asgL ts ds ρ'
  | _, _, _ => none
end
mutual
def gOf (K : PySem.W.Frag) : Tg → TG
  | .nm i => gName i
  | .tup ts => gTup K ts.length (gOfL K ts)
def gOfL (K : PySem.W.Frag) : List Tg → TGs
  | [] => gNil
  | t :: ts => gCons (gOf K t) (gOfL K ts)
end
theorem wipe_set {σ : L2.St} {i : Nat} {x : Option V} : ∀ {vs : List Nat}, i ∈ vs → wipe (σ.set i x) vs = wipe σ vs
  | [], h => by simp at h
  | v :: vs, h => by
    unfold wipe
    by_cases hi : i ∈ vs
    · rw [wipe_set hi]
    · have e : i = v := by simpa [hi] using h
      subst e
      have k : ∀ (ws : List Nat), i ∉ ws → wipe (σ.set i x) ws = (wipe σ ws).set i x := by
        intro ws
        induction ws with
        | nil => intro _; rfl
        | cons w ws ih =>
          intro hw
          have h1 : i ≠ w := fun z => hw (by simp [z])
          have h2 : i ∉ ws := fun z => hw (by simp [z])
          unfold wipe
          rw [ih h2, List.set_comm _ _ h1]
      rw [k vs hi, List.set_set]
theorem wipe_wipe {σ : L2.St} (vs : List Nat) : wipe (wipe σ vs) vs = wipe σ vs := by
  have k : ∀ (us : List Nat), (∀ u ∈ us, u ∈ vs) → wipe (wipe σ us) vs = wipe σ vs := by
    intro us
    induction us with
    | nil => intro _; rfl
    | cons u us ih =>
      intro h
      show wipe ((wipe σ us).set u none) vs = _
      rw [wipe_set (h u (by simp)), ih fun x hx => h x (by simp [hx])]
  exact k vs fun _ h => h
section
variable {K : PySem.W.Frag} {as : List Addr} {F : Hp}
mutual
theorem gOf_ok : ∀ {T : Tg} {σ : L2.St} {ρ ρ' : Env} {v : V} {d : D} {H : Hp} {Q : L2.St → Hp → Prop}, Slots K as F σ ρ → Rep K as F v d → Same F H → asg T d ρ = some ρ' →
    (∀ σ', Slots K as F σ' ρ' → (∀ vs, (∀ i ∈ T.slots, i ∈ vs) → wipe σ' vs = wipe σ vs) → Q σ' H) → gOf K T v σ H Q
  | .nm i, σ, ρ, ρ', v, d, H, Q, s, r, _, e, q => by
    simp only [asg, Option.some.injEq] at e
    subst e
    exact q _ (s.set r i) fun vs hv => wipe_set (hv i (by simp [Tg.slots]))
  | .tup ts, σ, ρ, ρ', v, d, H, Q, s, r, hF, e, q => by
    cases d with
    | tup ds =>
      simp only [asg] at e
      split at e
      · rename_i hl
        cases r with
        | tup hq hr =>
          refine ⟨_, _, rfl, same_t hF hq, by rw [hr.length]; exact hl, gOfL_ok s hr hF e fun σ' s' w => q σ' s' fun vs hv => w vs fun i hi => hv i (by simpa [Tg.slots] using hi)⟩
      · cases e
    | _ => simp [asg] at e
theorem gOfL_ok : ∀ {ts : List Tg} {σ : L2.St} {ρ ρ' : Env} {vs : List V} {ds : List D} {H : Hp} {Q : L2.St → Hp → Prop}, Slots K as F σ ρ → RepL K as F vs ds → Same F H → asgL ts ds ρ = some ρ' →
    (∀ σ', Slots K as F σ' ρ' → (∀ ws, (∀ i ∈ Tg.slotsL ts, i ∈ ws) → wipe σ' ws = wipe σ ws) → Q σ' H) → gOfL K ts vs σ H Q
  | [], σ, ρ, ρ', vs, ds, H, Q, s, r, _, e, q => by
    cases ds with
    | nil =>
      cases r
      simp only [asgL, Option.some.injEq] at e
      subst e
      exact ⟨rfl, q σ s fun _ _ => rfl⟩
    | cons d ds => simp [asgL] at e
  | t :: ts, σ, ρ, ρ', vs, ds, H, Q, s, r, hF, e, q => by
    cases ds with
    | nil => simp [asgL] at e
    | cons d ds =>
      cases r with
      | cons r1 r2 =>
        simp only [asgL] at e
        cases e1 : asg t d ρ with
        | none => rw [e1] at e; cases e
        | some ρ1 =>
          rw [e1] at e
          exact ⟨_, _, rfl, gOf_ok s r1 hF e1 fun σ1 s1 w1 => gOfL_ok s1 r2 hF e fun σ2 s2 w2 => q σ2 s2 fun ws hw => by
            rw [w2 ws fun i hi => hw i (by simp [Tg.slotsL, hi]), w1 ws fun i hi => hw i (by simp [Tg.slotsL, hi])]⟩
end
end
abbrev DG (X : Cx) (tg : Expr) (T : Tg) : Prop := PG X tg (gOf X.K T)
abbrev DGs (X : Cx) (es : List Expr) (ts : List Tg) : Prop := PGs X es (gOfL X.K ts)
def sAsg (T : Tg) (m : EM) : SD := fun ρ S => (m ρ S).to ρ fun d S' => match asg T d ρ with
  | some ρ' => .ok .nx ρ' S'
  | none => .stuck

/-! ### what is walked -/
structure ItD where
  nx : Nat → Sto → Option (Option D)
  fu : Nat
abbrev IM := Env → M ItD
def itL (xs : List D) : ItD := ⟨fun i _ => some xs[i]?, xs.length + 1⟩
def itC (n : Nat) (k : Nat) : ItD := ⟨fun i S => match S[n]? with
  | some (some (.lst xs)) => some xs[i]?
  | _ => none, k + 1⟩
def JOk (K : PySem.W.Frag) (as0 : List Addr) (F0 : Hp) (J : It) (it : ItD) : Prop := ∀ (i : Nat) (hd : Hid) (as : List Addr) (S : Sto) (H : Hp), (∀ n a : Nat, as0[n]? = some a → as[n]? = some a) → Same F0 (fz hd as S H) → Wld K hd as S H →
  match it.nx i S with
  | none => True
  | some none => J.stop i H
  | some (some d) => J.go i H ∧ ∀ x H', J.yld i H x H' → Wld K hd as S H' ∧ Grow hd as S H as S H' ∧ Rep K as (fz hd as S H') x d
def tI (K : PySem.W.Frag) (mg : Str → Option Value) (W : WX) (m : IM) : TI := fun σ H Rk => ∃ hd as ρ S, REL K hd as ρ S σ H ∧ Post K mg W σ ρ hd as S H (m ρ S) fun it as' S' H' => ∀ J, JOk K as' (fz hd as' S' H') J it → Rk J H'
abbrev DI (X : Cx) (W : WX) (tg iter : Expr) (m : IM) : Prop := PI X tg iter (tI X.K X.mg W m)
theorem PI.le {X : Cx} {tg iter : Expr} {t t' : TI} (h : PI X tg iter t) (k : ∀ σ H R, t' σ H R → t σ H R) : PI X tg iter t' := ⟨fun pins s σ H R I q => h.run pins s σ H R I (k σ H R q)⟩

/-! ### loops -/
def forLoop (nx : Nat → Sto → Option (Option D)) (T : Tg) (b : SD) : Nat → Nat → SD
  | 0, _, _, _ => .stuck
  | n + 1, i, ρ, S => match nx i S with
    | none => .stuck
    | some none => .ok .nx ρ S
    | some (some d) => match asg T d ρ with
      | none => .stuck
      | some ρ' => match b ρ' S with
        | .ok .nx ρ2 S2 => forLoop nx T b n (i + 1) ρ2 S2
        | .ok .cnt ρ2 S2 => forLoop nx T b n (i + 1) ρ2 S2
        | .ok .brk ρ2 S2 => .ok .nx ρ2 S2
        | r => r
def sFor (im : IM) (T : Tg) (b : SD) : SD := fun ρ S => (im ρ S).to ρ fun it S' => forLoop it.nx T b it.fu 0 ρ S'
def whLoop (c : BM) (b : SD) : Nat → SD
  | 0, _, _ => .stuck
  | n + 1, ρ, S => (c ρ S).to ρ fun k S1 => if k then (match b ρ S1 with
        | .ok .nx ρ2 S2 => whLoop c b n ρ2 S2
        | .ok .cnt ρ2 S2 => whLoop c b n ρ2 S2
        | .ok .brk ρ2 S2 => .ok .nx ρ2 S2
        | r => r) else .ok .nx ρ S1
/-- how often a while goes at most: a number that is never reckoned -/
@[irreducible] def FU : Nat := 2 ^ 100000
def sWhile (c : BM) (b : SD) : SD := fun ρ S => whLoop c b FU ρ S
/-- a comprehension -/
def wipeD (ρ : Env) : List Nat → Env
  | [] => ρ
  | v :: vs => (wipeD ρ vs).set v none
def bYes : BM := fun _ S => .ok true S
def lcLoop (nx : Nat → Sto → Option (Option D)) (T : Tg) (c : BM) (e : EM) (ρ : Env) : Nat → Nat → List D → M (List D)
  | 0, _, _, _ => .stuck
  | n + 1, i, acc, S => match nx i S with
    | none => .stuck
    | some none => .ok acc S
    | some (some d) => match asg T d ρ with
      | none => .stuck
      | some ρ' => (c ρ' S).bind fun k S1 => if k then (e ρ' S1).bind fun y S2 => (if acc.length < sizeLine then lcLoop nx T c e ρ n (i + 1) (acc ++ [y]) S2 else .stuck) else lcLoop nx T c e ρ n (i + 1) acc S1
/-- no error leaves a comprehension -/
def noX {α : Type} : R α → R α
  | .exc _ _ => .stuck
  | r => r
def eLc (im : IM) (T : Tg) (c : BM) (e : EM) (vs : List Nat) : EM := fun ρ => M.bind (im ρ) fun it S => (noX (lcLoop it.nx T c e (wipeD ρ vs) it.fu 0 [] S)).bind fun xs S' => .ok (.lst xs) S'
def eLcC (im : IM) (T : Tg) (c : BM) (e : EM) (vs : List Nat) : EM := fun ρ => M.bind (im ρ) fun it S => (noX (lcLoop it.nx T c e (wipeD ρ vs) it.fu 0 [] S)).bind fun xs S' => .ok (.cell S'.length) (S' ++ [some (.lst xs)])
abbrev WNo : WX := fun _ _ _ _ => False
theorem Slots.wipe {K : PySem.W.Frag} {as : List Addr} {F : Hp} {σ : L2.St} {ρ : Env} (h : Slots K as F σ ρ) : ∀ vs : List Nat, Slots K as F (L2.wipe σ vs) (wipeD ρ vs)
  | [] => h
  | v :: vs => by
    have ih := Slots.wipe h vs
    refine ⟨by show ((L2.wipe σ vs).set v none).length = ((wipeD ρ vs).set v none).length; simp [ih.len], fun i d e => ?_⟩
    have e : ((wipeD ρ vs).set v none)[i]? = some (some d) := e
    show ∃ u, ((L2.wipe σ vs).set v none)[i]? = some (some u) ∧ _
    by_cases hi : v = i
    · subst hi
      by_cases hl : v < (wipeD ρ vs).length
      · rw [List.getElem?_set_self hl] at e; cases e
      · rw [List.getElem?_eq_none (by simpa using Nat.le_of_not_lt hl)] at e; cases e
    · rw [List.getElem?_set_ne hi] at e ⊢
      exact ih.at_ i d e

section
variable {X : Cx} {W : WX} {c e tg iter : Expr} {body rest orelse : List Stmt} {st : Stmt} {me : EM} {mb : BM} {ms mt : SD} {pos : Pos}
theorem dss_nil : DSs X W [] sNx := PSs.le pss_nil fun Dn σ H ⟨hd, as, ρ, S, rel, po⟩ => po as σ H .refl rel
theorem seq_post {K : PySem.W.Frag} {mg : Str → Option Value} {hd : Hid} {as : List Addr} {S : Sto} {H : Hp} {Dn : Ends} {a : RS} {b : SD} (h : PostS K mg W hd as S H Dn (match a with
  | .ok .nx ρ' S' => b ρ' S'
  | r => r)) : PostS K mg W hd as S H { Dn with nx := tS K mg W b Dn } a := by
  match a, h with
  | .ok .nx ρ' S', h => exact fun as' σ' H' g rel => ⟨hd, as', ρ', S', rel, PostS.later (r := b ρ' S') h g⟩
  | .ok (.ret d) ρ' S', h => exact h
  | .ok .brk ρ' S', h => exact h
  | .ok .cnt ρ' S', h => exact h
  | .exc x ρ' S', h => exact h
  | .stuck, h => exact h
theorem dss_cons (h1 : DS X W st ms) (h2 : DSs X W rest mt) : DSs X W (st :: rest) (sSeq ms mt) := PSs.le (pss_cons h1 h2) fun Dn σ H ⟨hd, as, ρ, S, rel, po⟩ => ⟨hd, as, ρ, S, rel, seq_post po⟩
theorem dss_one (h1 : DS X W st ms) : DSs X W [st] ms := pss_one h1
theorem ds_ret (h : DE X W e me) : DS X W (.Return (some e) pos) (sRet me) := PS.le (ps_ret h) fun Dn σ H ⟨hd, as, ρ, S, rel, po⟩ => tE_to rel po fun as1 S1 H1 v d g rel1 r q => q as1 v H1 .refl rel1.w r
theorem ds_expr (h : DE X W e me) (hs : swapsWith e none pos.line X.env = pure false := by rfl) : DS X W (.Expr e pos) (sExpr me) := PS.le (ps_expr h hs) fun Dn σ H ⟨hd, as, ρ, S, rel, po⟩ => tE_to rel po fun as1 S1 H1 v d g rel1 r q => q as1 σ H1 .refl rel1
theorem ds_if (hc : DT X W c mb) (ha : DSs X W body ms) (hb : DSs X W orelse mt) : DS X W (.If c body orelse pos) (sIf mb ms mt) :=
  PS.le (ps_if hc ha hb) fun Dn σ H ⟨hd, as, ρ, S, rel, po⟩ => tT_to rel po fun as1 S1 H1 b g rel1 q => by
    cases b with
    | true => exact iteT ⟨hd, as1, ρ, S1, rel1, q⟩
    | false => exact iteF ⟨hd, as1, ρ, S1, rel1, q⟩
theorem ds_set (i : Nat) {x : Str} {pos' : Pos} (hN : X.N.Nodup) (h : DE X W e me) (hi : X.N[i]? = some x := by rfl) (hx : Loc X.env.scope x := by first | exact Or.inl rfl | exact Or.inr rfl) (hs : swapsWith e (some (.Name x pos')) pos.line X.env = pure false := by rfl)
    (hf : X.fn x = true ∨ X.env.scope.names.lookup x = some .local := by first | exact .inl rfl | exact .inr rfl | assumption) : DS X W (.Assign [.Name x pos'] e pos) (sSet i me) :=
  PS.le (ps_set hN hi hx h hs hf) fun Dn σ H ⟨hd, as, ρ, S, rel, po⟩ => tE_to rel po fun as1 S1 H1 v d g rel1 r q => q as1 _ H1 .refl ⟨rel1.w, rel1.s.set r i⟩
/-- x = e where CPython stores within a comprehension's frame: given as tAsg -/
theorem ds_setOf {i : Nat} {t : TE} (hp : PS X st (tAsg t (gName i))) (h : ∀ σ H Q, tE X.K X.mg W me σ H Q → t σ H Q) : DS X W st (sSet i me) :=
  PS.le hp fun Dn σ H ⟨hd, as, ρ, S, rel, po⟩ => h σ H _ (tE_to rel po fun as1 S1 H1 v d g rel1 r q => q as1 _ H1 .refl ⟨rel1.w, rel1.s.set r i⟩)
theorem dg_name (i : Nat) {x : Str} (hN : X.N.Nodup) (hi : X.N[i]? = some x := by rfl) (hx : Loc X.env.scope x := by first | exact Or.inl rfl | exact Or.inr rfl) (hf : X.fn x = true ∨ X.env.scope.names.lookup x = some .local := by first | exact .inl rfl | exact .inr rfl | assumption) : DG X (.Name x pos) (.nm i) := pg_name hN hi hx hf
theorem dgs_nil : DGs X [] [] := pgs_nil
theorem dgs_cons {es : List Expr} {t : Tg} {ts : List Tg} (h1 : DG X e t) (h2 : DGs X es ts) (hs : (assignEach (e :: es) X.env).map (·.2) = assign e X.env :: (assignEach es X.env).map (·.2) := by rfl) : DGs X (e :: es) (t :: ts) := pgs_cons h1 h2 hs
end
end DL

set_option Elab.async false
set_option linter.all false
set_option maxRecDepth 100000
/-! DL4: loops, comprehensions, what is walked: the rules. -/
namespace DL
open PySem PySem.Spec PyProof.Rows L2

section
variable {X : Cx} {W : WX} {a b c e tg iter : Expr} {body rest orelse : List Stmt} {st : Stmt} {me ma mb : EM} {mt : BM} {ms : SD} {mr : AM} {im : IM} {T : Tg} {pos : Pos}
theorem ds_asg {es : List Expr} {k : Nat} {tpos : Pos} {ts : List Tg} (h : DE X W e me) (hg : DG X (.Tuple es k tpos) (.tup ts)) (hs : swapsWithSole [.Tuple es k tpos] e pos.line X.env = pure false := by rfl) (hw : swappedStores [.Tuple es k tpos] e X.env = pure none := by rfl)
    (h1 : (assignEach [.Tuple es k tpos] X.env).map (·.2) = [assign (.Tuple es k tpos) X.env] := by rfl) : DS X W (.Assign [.Tuple es k tpos] e pos) (sAsg (.tup ts) me) :=
  PS.le (ps_asg h hg hs hw h1) fun Dn σ H ⟨hd, as, ρ, S, rel, po⟩ => tE_to rel po fun as1 S1 H1 v d g rel1 r q => by
    cases e1 : asg (.tup ts) d ρ with
    | none => rw [e1] at q; exact q.elim
    | some ρ' => rw [e1] at q; exact gOf_ok rel1.s r fz_same e1 fun σ' s' _ => q as1 σ' H1 .refl ⟨rel1.w, s'⟩
theorem dg_tup {es : List Expr} {k : Nat} {ts : List Tg} (hc : X.calm = true) (h : DGs X es ts) (hn : (assignEach es X.env).length = ts.length := by rfl) (hst : (assignEach es X.env).findIdx? (·.1) = none := by rfl) : DG X (.Tuple es k pos) (.tup ts) := pg_tup hc h hn hst
/-- a, b = e, f of two locals -/
def sPar (i j : Nat) (m : AM) : SD := fun ρ S => (m ρ S).to ρ fun ds S1 => match ds with
  | [x, y] => .ok .nx ((ρ.set i (some x)).set j (some y)) S1
  | _ => .stuck
theorem ds_par (i j : Nat) {x y : Str} {px py pt : Pos} {kt k2 pt2} (hc : X.calm = true) (hN : X.N.Nodup) (ha : DA X W [a, b] mr) (hi : X.N[i]? = some x := by rfl) (hj : X.N[j]? = some y := by rfl) (hij : i ≠ j := by decide)
    (hx : X.env.scope.names.lookup x = some .local := by rfl) (hy : X.env.scope.names.lookup y = some .local := by rfl)
    (hw : swappedStores [.Tuple [.Name x px, .Name y py] kt pt] (.Tuple [a, b] k2 pt2) X.env = pure (some [x, y]) := by rfl)
    (hs : swapsWithSole [.Tuple [.Name x px, .Name y py] kt pt] (.Tuple [a, b] k2 pt2) pos.line X.env = pure false := by rfl) :
    DS X W (.Assign [.Tuple [.Name x px, .Name y py] kt pt] (.Tuple [a, b] k2 pt2) pos) (sPar i j mr) :=
  PS.le (ps_par hc hN hi hj hij hx hy ha hw hs) fun Dn σ H ⟨hd, as, ρ, S, rel, po⟩ => tA_to rel po fun as1 S1 H1 vs ds g rel1 r q => by
    match ds, r, q with
    | [d1, d2], .cons r1 (.cons r2 .nil), q => exact ⟨_, _, rfl, q as1 _ H1 .refl ⟨rel1.w, (rel1.s.set r1 i).set r2 j⟩⟩
    | [], _, q => exact q.elim
    | [_], _, q => exact q.elim
    | _ :: _ :: _ :: _, _, q => exact q.elim
/-- xs[i] = e -/
def sSub (f : D → D → D → Sto → Option Sto) (o i m : EM) : SD := fun ρ S => (m ρ S).to ρ fun v S1 => (o ρ S1).to ρ fun x S2 => (i ρ S2).to ρ fun k S3 => match f x k v S3 with
  | some S4 => .ok .nx ρ S4
  | none => .stuck
def ActSet (K : PySem.W.Frag) (t : TSet) (f : D → D → D → Sto → Option Sto) : Prop := ∀ hd as S H o i v x k d S', Wld K hd as S H → Rep K as (fz hd as S H) o x → Rep K as (fz hd as S H) i k → Rep K as (fz hd as S H) v d → f x k d S = some S' →
  ∀ Q : Hp → Prop, (∀ H', Grow hd as S H as S' H' → Wld K hd as S' H' → Q H') → t o i v H Q
theorem ds_sub {o i : Expr} {mo mi : EM} {t : TSet} {f : D → D → D → Sto → Option Sto} {p2 : Pos} (hset : PSet X t) (act : ActSet X.K t f) (h : DE X W e me) (ho : DE X W o mo) (hi : DE X W i mi)
    (hg : PG X (.Subscript o i p2) (gSub (tE X.K X.mg W mo) (tE X.K X.mg W mi) t)) (hs : swapsWithSole [.Subscript o i p2] e pos.line X.env = pure false := by rfl) (hw : swappedStores [.Subscript o i p2] e X.env = pure none := by rfl)
    (h1 : (assignEach [.Subscript o i p2] X.env).map (·.2) = [assign (.Subscript o i p2) X.env] := by rfl) : DS X W (.Assign [.Subscript o i p2] e pos) (sSub f mo mi me) :=
  PS.le (ps_asg h hg hs hw h1) fun Dn σ H ⟨hd, as, ρ, S, rel, po⟩ => tE_to rel po fun as1 S1 H1 v d g1 rel1 r1 q1 => tE_to rel1 q1 fun as2 S2 H2 u x g2 rel2 r2 q2 => tE_to rel2 q2 fun as3 S3 H3 y k g3 rel3 r3 q3 => by
    cases e1 : f x k d S3 with
    | none => rw [e1] at q3; exact q3.elim
    | some S4 => rw [e1] at q3; exact act hd as3 S3 H3 u y v x k d S4 rel3.w (r2.grow g3) r3 ((r1.grow g2).grow g3) e1 _ fun H' g w => q3 as3 σ H' g (rel3.grow g w)
def setD : D → D → D → Sto → Option Sto
  | .cell n, .int i, d, S => match S[n]? with
    | some (some (.lst xs)) => match ixN xs.length i with
      | some j => some (S.set n (some (.lst (xs.set j d))))
      | none => none
    | _ => none
  | _, _, _, _ => none
theorem act_setD {K : PySem.W.Frag} : ActSet K rSetL setD := by
  intro hd as S H o i v x k d S' w ro ri rv h Q q
  cases ro with
  | cell ho =>
    rename_i n p
    cases ri with
    | int z =>
      simp only [setD] at h
      split at h
      · rename_i xs e
        split at h
        · rename_i j ej
          cases h
          obtain ⟨p', vs, e1, e2, r⟩ := w.at_ n xs e
          rw [ho] at e1; cases e1
          obtain ⟨w', g⟩ := w.write e ho (r.set rv j)
          exact ⟨p, vs, z, j, rfl, rfl, e2, by rw [r.length]; exact ej, q _ g w'⟩
        · cases h
      · cases h
    | _ => simp [setD] at h
  | _ => simp [setD] at h
/-- x op= e of a local -/
def sAug (i : Nat) (f : D → D → M D) (m : EM) : SD := fun ρ S => (eVar i ρ S).to ρ fun x _ => (m ρ S).to ρ fun y S1 => (f x y S1).to ρ fun z S2 => .ok .nx (ρ.set i (some z)) S2
/-! ### for -/
theorem for_body {K : PySem.W.Frag} {mg : Str → Option Value} {hd : Hid} {as : List Addr} {S : Sto} {H : Hp} {Dn : Ends} {r : RS} {k : SD} {N : L2.St → Hp → Prop} (h : PostS K mg W hd as S H Dn (match r with
        | .ok .nx ρ2 S2 => k ρ2 S2
        | .ok .cnt ρ2 S2 => k ρ2 S2
        | .ok .brk ρ2 S2 => .ok .nx ρ2 S2
        | r => r)) (hN : ∀ as' σ' ρ' S' H', Grow hd as S H as' S' H' → REL K hd as' ρ' S' σ' H' → PostS K mg W hd as' S' H' Dn (k ρ' S') → N σ' H') : PostS K mg W hd as S H { Dn with nx := N, ct := N, bk := Dn.nx } r := by
  match r, h with
  | .ok .nx ρ' S', h => exact fun as' σ' H' g rel => hN as' σ' ρ' S' H' g rel (PostS.later (r := k ρ' S') h g)
  | .ok .cnt ρ' S', h => exact fun as' σ' H' g rel => hN as' σ' ρ' S' H' g rel (PostS.later (r := k ρ' S') h g)
  | .ok .brk ρ' S', h => exact h
  | .ok (.ret d) ρ' S', h => exact h
  | .exc x ρ' S', h => exact h
  | .stuck, h => exact h
theorem ds_for (hp : PassesOwn (model X.prog X.w) X.A X.env X.xe) (hc : X.calm = true) (hi : DI X W tg iter im) (hg : DG X tg T) (hb : DSs X W body ms) (hs : ∀ x, foldedSetIterable iter X.env x = pure x := by intro _; rfl) : DS X W (.For tg iter body [] pos) (sFor im T ms) :=
  PS.le (ps_for hp hc hi hg hb hs) fun Dn σ H ⟨hd, as, ρ, S, rel, po⟩ => by
    refine ⟨hd, as, ρ, S, rel, (po.toE rel).imp fun it as1 S1 H1 g1 rel1 po1 J hJ => ?_⟩
    refine ⟨fun i m σ H => ∃ as ρ S, REL X.K hd as ρ S σ H ∧ Grow hd as1 S1 H1 as S H ∧ PostS X.K X.mg W hd as S H Dn (forLoop it.nx T ms m i ρ S), ⟨it.fu, as1, ρ, S1, rel1, .refl, po1⟩, ?_⟩
    rintro i m σ2 H2 ⟨as2, ρ2, S2, rel2, g2, po2⟩
    cases m with
    | zero => exact po2.elim
    | succ n =>
      have hj := hJ i hd as2 S2 H2 g2.pre g2.same rel2.w
      unfold forLoop at po2
      cases en : it.nx i S2 with
      | none => rw [en] at po2; exact po2.elim
      | some o =>
        rw [en] at po2 hj
        cases o with
        | none => exact .inl ⟨hj, po2 as2 σ2 H2 .refl rel2⟩
        | some d =>
          refine .inr ⟨hj.1, fun σ' H' => ∃ as ρ S, REL X.K hd as ρ S σ' H' ∧ Grow hd as1 S1 H1 as S H' ∧ PostS X.K X.mg W hd as S H' Dn (forLoop it.nx T ms n (i + 1) ρ S), fun σ' H' h => ⟨n, Nat.lt_succ_self n, h⟩, fun x H' hy => ?_⟩
          obtain ⟨w', g', r'⟩ := hj.2 x H' hy
          dsimp only at po2
          cases ea : asg T d ρ2 with
          | none => rw [ea] at po2; exact po2.elim
          | some ρ' =>
            rw [ea] at po2
            dsimp only at po2
            refine gOf_ok ((rel2.grow g' w').s) r' fz_same ea fun σ' s' _ => ?_
            refine ⟨hd, as2, ρ', S2, ⟨w', s'⟩, for_body (k := fun ρ2 S2 => forLoop it.nx T ms n (i + 1) ρ2 S2) (PostS.later po2 g') fun as3 σ3 ρ3 S3 H3 g3 rel3 po3 => ?_⟩
            exact ⟨as3, ρ3, S3, rel3, (g2.trans g').trans g3, po3⟩
theorem ds_while (hp : PassesOwn (model X.prog X.w) X.A X.env X.xe) (hc : DT X W c mt) (hb : DSs X W body ms) : DS X W (.While c body [] pos) (sWhile mt ms) :=
  PS.le (ps_while hp hc hb) fun Dn σ H ⟨hd, as, ρ, S, rel, po⟩ => by
    unfold sWhile at po
    generalize FU = fu at po
    refine ⟨fun m σ H => ∃ as ρ S, REL X.K hd as ρ S σ H ∧ PostS X.K X.mg W hd as S H Dn (whLoop mt ms m ρ S), ⟨fu, as, ρ, S, rel, po⟩, ?_⟩
    rintro m σ2 H2 ⟨as2, ρ2, S2, rel2, po2⟩
    cases m with
    | zero => exact po2.elim
    | succ n =>
      refine tT_to (Dn := Dn) rel2 (k := fun k S1 => if k then (match ms ρ2 S1 with
        | .ok .nx ρ2 S2 => whLoop mt ms n ρ2 S2
        | .ok .cnt ρ2 S2 => whLoop mt ms n ρ2 S2
        | .ok .brk ρ2 S2 => .ok .nx ρ2 S2
        | r => r) else .ok .nx ρ2 S1) (by unfold whLoop at po2; exact po2) fun as3 S3 H3 b g3 rel3 po3 => ?_
      cases b with
      | false => exact iteF (po3 as3 σ2 H3 .refl rel3)
      | true =>
        refine iteT ⟨fun σ' H' => ∃ as ρ S, REL X.K hd as ρ S σ' H' ∧ PostS X.K X.mg W hd as S H' Dn (whLoop mt ms n ρ S), fun σ' H' h => ⟨n, Nat.lt_succ_self n, h⟩, ?_⟩
        exact ⟨hd, as3, ρ2, S3, rel3, for_body (k := fun ρ S => whLoop mt ms n ρ S) po3 fun as4 σ4 ρ4 S4 H4 g4 rel4 po4 => ⟨as4, ρ4, S4, rel4, po4⟩⟩
end
end DL

set_option Elab.async false
set_option linter.all false
set_option maxRecDepth 100000
/-! DL5: comprehensions; what is walked. -/
namespace DL
open PySem PySem.Spec PyProof.Rows L2

/-! ### hidden lists -/
section
variable {K : PySem.W.Frag} {hd : Hid} {as : List Addr} {S : Sto} {H : Hp} {Dl : Addr} {o o' : HO}
theorem fz_hide (hn : H Dl = none) : fz ((Dl, o) :: hd) as S (upd H Dl o) = fz hd as S H := by
  funext b
  unfold fz
  by_cases hb : b = Dl
  · subst hb
    rw [if_pos (.inr (by simp))]
    split
    · rfl
    · exact hn.symm
  · by_cases h : b ∈ live as S ∨ b ∈ hd.map (·.1)
    · rw [if_pos h, if_pos (h.elim .inl fun z => .inr (List.mem_cons_of_mem _ z))]
    · rw [if_neg h, if_neg (fun z => h (z.elim .inl fun z => .inr ((List.mem_cons.mp z).elim (fun e => absurd e hb) id))), upd_ne hb]
theorem Wld.hide (w : Wld K hd as S H) (hn : H Dl = none) : Wld K ((Dl, o) :: hd) as S (upd H Dl o) := by
  refine ⟨w.len, w.inj, fun q hq => ?_, fun n xs e => ?_⟩
  · rcases List.mem_cons.mp hq with rfl | hq
    · exact ⟨upd_same, w.new_live hn⟩
    · exact ⟨by rw [upd_ne (fun z => by have := (w.hid q hq).1; rw [z, hn] at this; cases this)]; exact (w.hid q hq).1, (w.hid q hq).2⟩
  · obtain ⟨a, vs, e1, e2, r⟩ := w.atC n xs e
    exact ⟨a, vs, e1, by rw [upd_ne (fun z => by rw [z, hn] at e2; cases e2)]; exact e2, by rw [fz_hide hn]; exact r⟩
theorem fz_rewrite : fz ((Dl, o') :: hd) as S (upd H Dl o') = fz ((Dl, o) :: hd) as S H := by
  funext b
  unfold fz
  by_cases hb : b = Dl
  · subst hb
    rw [if_pos (.inr (by simp)), if_pos (.inr (by simp))]
  · by_cases h : b ∈ live as S ∨ b ∈ ((Dl, o) :: hd).map (·.1)
    · rw [if_pos h, if_pos (h.elim .inl fun z => .inr (by simpa using z))]
    · rw [if_neg h, if_neg (fun z => h (z.elim .inl fun z => .inr (by simpa using z))), upd_ne hb]
theorem Wld.rewrite (w : Wld K ((Dl, o) :: hd) as S H) (nd : Dl ∉ hd.map (·.1)) : Wld K ((Dl, o') :: hd) as S (upd H Dl o') := by
  have h0 := w.hid (Dl, o) (by simp)
  refine ⟨w.len, w.inj, fun q hq => ?_, fun n xs e => ?_⟩
  · rcases List.mem_cons.mp hq with rfl | hq
    · exact ⟨upd_same, h0.2⟩
    · have k := w.hid q (List.mem_cons_of_mem _ hq)
      exact ⟨by rw [upd_ne (fun z => nd (List.mem_map.mpr ⟨q, hq, z⟩))]; exact k.1, k.2⟩
  · obtain ⟨a, vs, e1, e2, r⟩ := w.atC n xs e
    have la : a ∈ live as S := mem_live.mpr ⟨n, _, e1, e⟩
    exact ⟨a, vs, e1, by rw [upd_ne (fun z => h0.2 (by rw [← z]; exact la))]; exact e2, by rw [fz_rewrite (o := o)]; exact r⟩
theorem fz_show (nh : Dl ∉ hd.map (·.1)) : Same (fz ((Dl, o) :: hd) as S H) (fz hd as S H) := fun b u e =>
  fz_of (fz_same _ _ e) (fz_not e) fun z => fz_nh e (List.mem_cons_of_mem _ z)
theorem Wld.show_ (w : Wld K ((Dl, o) :: hd) as S H) (nh : Dl ∉ hd.map (·.1)) : Wld K hd as S H ∧ fz hd as S H Dl = some o := by
  refine ⟨⟨w.len, w.inj, fun q hq => w.hid q (List.mem_cons_of_mem _ hq), fun n xs e => ?_⟩, fz_of (w.hid (Dl, o) (by simp)).1 (w.hid (Dl, o) (by simp)).2 nh⟩
  obtain ⟨a, vs, e1, e2, r⟩ := w.atC n xs e
  exact ⟨a, vs, e1, e2, r.mono (fun _ _ h => h) (fz_show nh)⟩
theorem live_app {c : CO} (hl : as.length = S.length) {b : Addr} : b ∈ live (as ++ [Dl]) (S ++ [some c]) ↔ b ∈ live as S ∨ b = Dl := by
  rw [mem_live, mem_live]
  constructor
  · rintro ⟨n, d, h1, h2⟩
    by_cases hn : n < S.length
    · rw [List.getElem?_append_left hn] at h2
      rw [List.getElem?_append_left (by omega)] at h1
      exact .inl ⟨n, d, h1, h2⟩
    · rw [List.getElem?_append_right (by omega)] at h1
      have : n - as.length = 0 := by
        have := (List.getElem?_eq_some_iff.mp h1).1
        simp at this; omega
      rw [this] at h1
      simp at h1
      exact .inr h1.symm
  · rintro (⟨n, d, h1, h2⟩ | rfl)
    · exact ⟨n, d, by rw [List.getElem?_append_left (List.getElem?_eq_some_iff.mp h1).1]; exact h1, by rw [List.getElem?_append_left (List.getElem?_eq_some_iff.mp h2).1]; exact h2⟩
    · exact ⟨S.length, c, by rw [← hl]; simp, by simp⟩
/-- what was hidden becomes a cell -/
theorem Wld.celled {vF : List V} {acc : List D} (w : Wld K ((Dl, .lst vF) :: hd) as S H) (nh : Dl ∉ hd.map (·.1)) (r : RepL K as (fz ((Dl, .lst vF) :: hd) as S H) vF acc) :
    Wld K hd (as ++ [Dl]) (S ++ [some (.lst acc)]) H ∧ fz hd (as ++ [Dl]) (S ++ [some (.lst acc)]) H = fz ((Dl, .lst vF) :: hd) as S H ∧ (as ++ [Dl])[S.length]? = some Dl := by
  have h0 := w.hid (Dl, .lst vF) (by simp)
  have hf : fz hd (as ++ [Dl]) (S ++ [some (.lst acc)]) H = fz ((Dl, .lst vF) :: hd) as S H := by
    funext b
    unfold fz
    by_cases h : b ∈ live as S ∨ b ∈ ((Dl, .lst vF) :: hd).map (·.1)
    · rw [if_pos h, if_pos]
      rw [live_app w.len]
      rcases h with h | h
      · exact .inl (.inl h)
      · rcases List.mem_cons.mp h with e | h
        · exact .inl (.inr e)
        · exact .inr h
    · rw [if_neg h, if_neg]
      rw [live_app w.len]
      rintro ((z | z) | z)
      · exact h (.inl z)
      · exact h (.inr (by simp [z]))
      · exact h (.inr (List.mem_cons_of_mem _ z))
  have hlast : (as ++ [Dl])[S.length]? = some Dl := by rw [← w.len]; simp
  have split : ∀ {n : Nat} {c : CO} {a : Addr}, (S ++ [some (CO.lst acc)])[n]? = some (some c) → (as ++ [Dl])[n]? = some a → (S[n]? = some (some c) ∧ as[n]? = some a) ∨ (n = S.length ∧ c = .lst acc ∧ a = Dl) := fun {n c a} e1 e2 => by
    by_cases hn : n < S.length
    · rw [List.getElem?_append_left hn] at e1
      rw [List.getElem?_append_left (by rw [w.len]; exact hn)] at e2
      exact .inl ⟨e1, e2⟩
    · have hz : n = S.length := by
        have := (List.getElem?_eq_some_iff.mp e1).1
        simp at this; omega
      subst hz
      rw [hlast] at e2
      simp at e1 e2
      exact .inr ⟨rfl, e1.symm, e2.symm⟩
  refine ⟨⟨by simp [w.len], fun i j a c c' h1 h2 h3 h4 => ?_, fun q hq => ⟨(w.hid q (List.mem_cons_of_mem _ hq)).1, fun z => ?_⟩, fun n xs e => ?_⟩, hf, hlast⟩
  · rcases split h3 h1 with ⟨g3, g1⟩ | ⟨rfl, _, rfl⟩ <;> rcases split h4 h2 with ⟨g4, g2⟩ | ⟨rfl, _, e2⟩
    · exact w.inj i j a c c' g1 g2 g3 g4
    · subst e2
      exact absurd (mem_live.mpr ⟨i, c, g1, g3⟩) h0.2
    · exact absurd (mem_live.mpr ⟨j, c', g2, g4⟩) h0.2
    · rfl
  · rcases (live_app w.len).mp z with z | z
    · exact (w.hid q (List.mem_cons_of_mem _ hq)).2 z
    · exact nh (List.mem_map.mpr ⟨q, hq, z⟩)
  · have ha : ∃ a, (as ++ [Dl])[n]? = some a := by
      have : n < (as ++ [Dl]).length := by
        have := (List.getElem?_eq_some_iff.mp e).1
        simp at this; simp [w.len]; omega
      exact ⟨_, List.getElem?_eq_getElem this⟩
    obtain ⟨a, ea⟩ := ha
    have pre : ∀ n a : Nat, as[n]? = some a → (as ++ [Dl])[n]? = some a := fun n a h => by rw [List.getElem?_append_left (List.getElem?_eq_some_iff.mp h).1]; exact h
    rcases split e ea with ⟨g1, g2⟩ | ⟨rfl, e1, rfl⟩
    · obtain ⟨b, vs, e1, e2, r'⟩ := w.atC n xs g1
      exact ⟨b, vs, pre _ _ e1, e2, by rw [hf]; exact r'.mono pre (Same.refl _)⟩
    · cases e1
      exact ⟨a, _, hlast, h0.1, by rw [hf]; exact CRep.mono (c := .lst acc) (o := .lst vF) pre (Same.refl _) r⟩
end
abbrev DTs (X : Cx) (ifs : List Expr) (m : BM) : Prop := PTs X ifs (tT X.K X.mg WNo m)
theorem PTs.le {X : Cx} {ifs : List Expr} {t t' : TT} (h : PTs X ifs t) (k : ∀ σ H Q, t' σ H Q → t σ H Q) : PTs X ifs t' := ⟨fun pins s σ H Q I q => h.run pins s σ H Q I (k σ H Q q)⟩
theorem dts_nil {X : Cx} : DTs X [] bYes := PTs.le pts_nil fun σ H Q ⟨hd, as, ρ, S, rel, po⟩ => po as H .refl rel
theorem dts_one {X : Cx} {c : Expr} {m : BM} (h : DT X WNo c m) : DTs X [c] m := pts_one h

/-- the loop of a comprehension: from its start to its end -/
theorem lc_turns {K : PySem.W.Frag} {mg : Str → Option Value} {hd : Hid} {as1 : List Addr} {ρ : Env} {S1 : Sto} {σ : L2.St} {H1 : Hp} {J : It} {it : ItD} {T : Tg} {mt : BM} {me : EM} {vs : List Nat} {Dl : Addr} {Q : VK} {accF : List D} {SF : Sto}
    (rel1 : REL K hd as1 ρ S1 σ H1) (hJ : JOk K as1 (fz hd as1 S1 H1) J it) (hv : ∀ i ∈ T.slots, i ∈ vs) (hD : H1 Dl = none) (hl : lcLoop it.nx T mt me (wipeD ρ vs) it.fu 0 [] S1 = .ok accF SF)
    (hQ : ∀ as' H' vF, (∀ n a : Nat, as1[n]? = some a → as'[n]? = some a) → Same (fz hd as1 S1 H1) (fz ((Dl, .lst vF) :: hd) as' SF H') → Wld K ((Dl, .lst vF) :: hd) as' SF H' → RepL K as' (fz ((Dl, .lst vF) :: hd) as' SF H') vF accF → Q (.ref Dl) H') :
    ∃ W : Nat → Nat → Hp → Prop, (∃ m, W 0 m (upd H1 Dl (.lst []))) ∧ ∀ i m H, W i m H →
      (J.stop i H ∧ Q (.ref Dl) H) ∨ (J.go i H ∧ ∃ Nx : Hp → Prop, (∀ H', Nx H' → ∃ m', m' < m ∧ W (i + 1) m' H') ∧ ∀ x H', J.yld i H x H' → gOf K T x (wipe σ vs) H' fun σ2 H2 => wipe σ2 vs = wipe σ vs ∧ tT K mg WNo mt σ2 H2 fun b H3 =>
        if b = true then tE K mg WNo me σ2 H3 fun y H4 => ∃ acc, H4 Dl = some (.lst acc) ∧ acc.length < sizeLine ∧ Nx (upd H4 Dl (.lst (acc ++ [y]))) else Nx H3) := by
  have nh : Dl ∉ hd.map (·.1) := rel1.w.hid_ne hD
  -- the state at a turn
  refine ⟨fun i m H => ∃ as S acc vacc, REL K ((Dl, .lst vacc) :: hd) as (wipeD ρ vs) S (wipe σ vs) H ∧ (∀ n a : Nat, as1[n]? = some a → as[n]? = some a) ∧ Same (fz hd as1 S1 H1) (fz ((Dl, .lst vacc) :: hd) as S H) ∧
    RepL K as (fz ((Dl, .lst vacc) :: hd) as S H) vacc acc ∧ lcLoop it.nx T mt me (wipeD ρ vs) m i acc S = .ok accF SF, ⟨it.fu, as1, S1, [], [], ⟨rel1.w.hide hD, by rw [fz_hide hD]; exact rel1.s.wipe vs⟩, fun _ _ h => h, by rw [fz_hide hD]; exact Same.refl _, .nil, hl⟩, ?_⟩
  rintro i m H ⟨as, S, acc, vacc, rel, pre, sm, racc, el⟩
  cases m with
  | zero => cases el
  | succ n =>
    have hj := hJ i _ as S H pre sm rel.w
    unfold lcLoop at el
    cases en : it.nx i S with
    | none => rw [en] at el; cases el
    | some od =>
      rw [en] at el hj
      cases od with
      | none =>
        cases el
        exact .inl ⟨hj, hQ as H vacc pre sm rel.w racc⟩
      | some d =>
        refine .inr ⟨hj.1, fun H' => ∃ as S acc vacc, REL K ((Dl, .lst vacc) :: hd) as (wipeD ρ vs) S (wipe σ vs) H' ∧ (∀ n a : Nat, as1[n]? = some a → as[n]? = some a) ∧ Same (fz hd as1 S1 H1) (fz ((Dl, .lst vacc) :: hd) as S H') ∧
          RepL K as (fz ((Dl, .lst vacc) :: hd) as S H') vacc acc ∧ lcLoop it.nx T mt me (wipeD ρ vs) n (i + 1) acc S = .ok accF SF, fun H' h => ⟨n, Nat.lt_succ_self n, h⟩, fun x H' hy => ?_⟩
        obtain ⟨w', g', r'⟩ := hj.2 x H' hy
        dsimp only at el
        cases ea : asg T d (wipeD ρ vs) with
        | none => rw [ea] at el; cases el
        | some ρ' =>
          rw [ea] at el
          dsimp only at el
          have relY := rel.grow g' w'
          refine gOf_ok relY.s r' fz_same ea fun σ2 s2 hw => ⟨by rw [hw vs hv, wipe_wipe], ?_⟩
          refine ⟨_, as, ρ', S, ⟨w', s2⟩, ?_⟩
          cases ec : mt ρ' S with
          | exc z S2 => rw [ec] at el; cases el
          | stuck => rw [ec] at el; cases el
          | ok b S2 =>
            rw [ec] at el
            intro as3 H3 g3 rel3
            have gg := g'.trans g3
            cases b with
            | false =>
              refine iteF ⟨as3, S2, acc, vacc, rel.grow gg rel3.w, fun n a h => gg.pre n a (pre n a h), sm.trans gg.same, racc.grow gg, ?_⟩
              simpa using el
            | true =>
              refine iteT ⟨_, as3, ρ', S2, rel3, ?_⟩
              have el : (me ρ' S2).bind (fun y S2 => (if acc.length < sizeLine then lcLoop it.nx T mt me (wipeD ρ vs) n (i + 1) (acc ++ [y]) S2 else .stuck)) = .ok accF SF := by simpa using el
              cases ee : me ρ' S2 with
              | exc z S4 => rw [ee] at el; cases el
              | stuck => rw [ee] at el; cases el
              | ok y S4 =>
                rw [ee] at el
                intro as4 H4 g4 rel4 v rv
                have el : (if acc.length < sizeLine then lcLoop it.nx T mt me (wipeD ρ vs) n (i + 1) (acc ++ [y]) S4 else .stuck) = .ok accF SF := el
                split at el
                · rename_i hz
                  have g5 := gg.trans g4
                  have hh := rel4.w.hid (Dl, .lst vacc) (by simp)
                  refine ⟨vacc, hh.1, by rw [racc.length]; exact hz, as4, S4, acc ++ [y], vacc ++ [v], ⟨rel4.w.rewrite nh, ?_⟩, fun n a h => g5.pre n a (pre n a h), ?_, ?_, el⟩
                  · rw [fz_rewrite (o := .lst vacc)]
                    exact (rel.grow g5 rel4.w).s
                  · rw [fz_rewrite (o := .lst vacc)]
                    exact sm.trans g5.same
                  · rw [fz_rewrite (o := .lst vacc)]
                    exact (racc.grow g5).append (.cons rv .nil)
                · cases el

section
variable {X : Cx} {W : WX} {elt tg iter : Expr} {ifs : List Expr} {scope : Scope} {own : List (Str × Nat)} {pos spos : Pos} {im : IM} {T : Tg} {mt : BM} {me : EM}
/-- the contexts in which a comprehension's block is run -/
abbrev InBlk (X : Cx) (scope : Scope) (P : Cx → Prop) : Prop := ∀ (s : Shared) (H : Hp) (C : Addr) (cl : List (Str × Addr)) (fp : List Addr), P (X.blk s H scope (compEnvC scope cl C X.env) fp)
theorem lc_le {K : PySem.W.Frag} {mg : Str → Option Value} (hv : ∀ i ∈ T.slots, i ∈ own.map (·.2)) {σ : L2.St} {H : Hp} {Q : VK} (h : tE K mg W (eLc im T mt me (own.map (·.2))) σ H Q) : tLc (tI K mg W im) (gOf K T) (tT K mg WNo mt) (tE K mg WNo me) (own.map (·.2)) σ H Q := by
  obtain ⟨hd, as, ρ, S, rel, po⟩ := h
  refine ⟨hd, as, ρ, S, rel, po.bind.imp fun it as1 S1 H1 g1 rel1 po1 J hJ Dl hD => ?_⟩
  cases el : lcLoop it.nx T mt me (wipeD ρ (own.map (·.2))) it.fu 0 [] S1 with
  | exc z S2 => simp only [el, noX, R.bind_stuck] at po1; exact po1.elim
  | stuck => simp only [el, noX, R.bind_stuck] at po1; exact po1.elim
  | ok accF SF =>
    simp only [el, noX, R.bind_ok] at po1
    have nh := rel1.w.hid_ne hD
    refine lc_turns rel1 hJ hv hD el fun as' H' vF pre sm w r => ?_
    obtain ⟨w', e'⟩ := w.show_ nh
    have g : Grow hd as1 S1 H1 as' SF H' := ⟨pre, sm.trans (fz_show nh)⟩
    exact po1 as' H' g (rel1.grow g w') _ (.lst e' (r.mono (fun _ _ h => h) (fz_show nh)))
theorem lcC_le {K : PySem.W.Frag} {mg : Str → Option Value} (hv : ∀ i ∈ T.slots, i ∈ own.map (·.2)) {σ : L2.St} {H : Hp} {Q : VK} (h : tE K mg W (eLcC im T mt me (own.map (·.2))) σ H Q) : tLc (tI K mg W im) (gOf K T) (tT K mg WNo mt) (tE K mg WNo me) (own.map (·.2)) σ H Q := by
  obtain ⟨hd, as, ρ, S, rel, po⟩ := h
  refine ⟨hd, as, ρ, S, rel, po.bind.imp fun it as1 S1 H1 g1 rel1 po1 J hJ Dl hD => ?_⟩
  cases el : lcLoop it.nx T mt me (wipeD ρ (own.map (·.2))) it.fu 0 [] S1 with
  | exc z S2 => simp only [el, noX, R.bind_stuck] at po1; exact po1.elim
  | stuck => simp only [el, noX, R.bind_stuck] at po1; exact po1.elim
  | ok accF SF =>
    simp only [el, noX, R.bind_ok] at po1
    have nh := rel1.w.hid_ne hD
    refine lc_turns rel1 hJ hv hD el fun as' H' vF pre sm w r => ?_
    obtain ⟨w', e', el'⟩ := w.celled nh r
    have g : Grow hd as1 S1 H1 (as' ++ [Dl]) (SF ++ [some (.lst accF)]) H' := ⟨fun n a h => by rw [List.getElem?_append_left (List.getElem?_eq_some_iff.mp (pre n a h)).1]; exact pre n a h, by rw [e']; exact sm⟩
    exact po1 _ H' g (rel1.grow g w') _ (.cell el')
theorem de_lc (own : List (Str × Nat)) (hc : X.calm = true) (hN : X.N.Nodup) (hi : DI X W tg iter im) (ok : BlkOk X.N X.env.scope scope own) (hg : InBlk X scope fun Y => DG Y tg T) (ht : InBlk X scope fun Y => DTs Y ifs mt) (he : InBlk X scope fun Y => DE Y WNo elt me)
    (hv : ∀ i ∈ T.slots, i ∈ own.map (·.2) := by decide) (hs : ∀ x, foldedSetIterable iter X.env x = pure x := by intro _; rfl) : DE X W (.ListComp elt [⟨tg, iter, ifs, 0⟩] scope pos) (eLc im T mt me (own.map (·.2))) :=
  PE.le (pe_lc hc hN hi ok hg ht he hs) fun σ H Q h => lc_le hv h
theorem de_lcC (own : List (Str × Nat)) (hc : X.calm = true) (hN : X.N.Nodup) (hi : DI X W tg iter im) (ok : BlkOk X.N X.env.scope scope own) (hg : InBlk X scope fun Y => DG Y tg T) (ht : InBlk X scope fun Y => DTs Y ifs mt) (he : InBlk X scope fun Y => DE Y WNo elt me)
    (hv : ∀ i ∈ T.slots, i ∈ own.map (·.2) := by decide) (hs : ∀ x, foldedSetIterable iter X.env x = pure x := by intro _; rfl) : DE X W (.ListComp elt [⟨tg, iter, ifs, 0⟩] scope pos) (eLcC im T mt me (own.map (·.2))) :=
  PE.le (pe_lc hc hN hi ok hg ht he hs) fun σ H Q h => lcC_le hv h
/-- y = [..] alone on a row, y a local -/
theorem ds_setLc (i : Nat) {y : Str} {py : Pos} (own : List (Str × Nat)) (hc : X.calm = true) (hN : X.N.Nodup) (hi : DI X W tg iter im) (ok : BlkOk X.N X.env.scope scope own) (hg : InBlk X scope fun Y => DG Y tg T) (ht : InBlk X scope fun Y => DTs Y ifs mt) (he : InBlk X scope fun Y => DE Y WNo elt me)
    (hy : X.N[i]? = some y := by rfl) (hyl : X.env.scope.names.lookup y = some .local := by rfl) (hsw : swapsWith (.ListComp elt [⟨tg, iter, ifs, 0⟩] scope pos) (some (.Name y py)) spos.line X.env = pure true := by exact sw_true rfl rfl rfl (by decide +kernel))
    (hv : ∀ i ∈ T.slots, i ∈ own.map (·.2) := by decide) (hs : ∀ x, foldedSetIterable iter X.env x = pure x := by intro _; rfl) :
    DS X W (.Assign [.Name y py] (.ListComp elt [⟨tg, iter, ifs, 0⟩] scope pos) spos) (sSet i (eLc im T mt me (own.map (·.2)))) := ds_setOf (ps_setLc hc hN hy hyl hsw hi ok hg ht he hs) fun σ H Q h => lc_le hv h
end

/-! ### what is walked -/
def frozenL : D → Option (List D)
  | .lst xs => some xs
  | .ro xs => some xs
  | _ => none
def mItL (d : D) : M ItD := match d with
  | .lst xs => fun S => .ok (itL xs) S
  | .ro xs => fun S => .ok (itL xs) S
  | .cell n => fun S => match S[n]? with
    | some (some (.lst xs)) => .ok (itC n xs.length) S
    | _ => .stuck
  | _ => fun _ => .stuck
def mItT (d : D) : M ItD := match d with
  | .tup xs => fun S => .ok (itL xs) S
  | _ => fun _ => .stuck
def mItR1 : List D → M ItD
  | [.int j] => fun S => if -(2 ^ 62) ≤ j ∧ j < 2 ^ 62 then .ok (itL ((List.range j.toNat).map fun i : Nat => D.int i)) S else .stuck
  | _ => fun _ => .stuck
def mItR2 : List D → M ItD
  | [.int i, .int j] => fun S => if -(2 ^ 62) ≤ i ∧ i < 2 ^ 62 ∧ -(2 ^ 62) ≤ j ∧ j < 2 ^ 62 then .ok (itL ((List.range (j - i).toNat).map fun k : Nat => D.int (i + k))) S else .stuck
  | _ => fun _ => .stuck
def zipD : List D → List D → List D
  | x :: xs, y :: ys => .tup [x, y] :: zipD xs ys
  | _, _ => []
def enumD (xs : List D) : List D := (xs.zipIdx).map fun p => .tup [.int p.2, p.1]
def itZ (d e : D) (k : Nat) : ItD := ⟨fun i S => match listOf S d, listOf S e with
  | some xs, some ys => some ((zipD xs ys)[i]?)
  | _, _ => none, k + 1⟩
def itE (d : D) (k : Nat) : ItD := ⟨fun i S => match listOf S d with
  | some xs => some ((enumD xs)[i]?)
  | _ => none, k + 1⟩
def mItZ : List D → M ItD
  | [d, e] => fun S => match frozenL d, frozenL e with
    | some xs, some ys => .ok (itL (zipD xs ys)) S
    | _, _ => match listOf S d, listOf S e with
      | some xs, some ys => .ok (itZ d e (zipD xs ys).length) S
      | _, _ => .stuck
  | _ => fun _ => .stuck
def mItE : List D → M ItD
  | [d] => fun S => match frozenL d with
    | some xs => .ok (itL (enumD xs)) S
    | _ => match listOf S d with
      | some xs => .ok (itE d (enumD xs).length) S
      | _ => .stuck
  | _ => fun _ => .stuck
def imOf (f : D → M ItD) (m : EM) : IM := fun ρ => M.bind (m ρ) f
def imOfA (f : List D → M ItD) (m : AM) : IM := fun ρ => M.bind (m ρ) f
theorem zipD_get : ∀ (xs ys : List D) (i : Nat), (zipD xs ys)[i]? = (match xs[i]?, ys[i]? with
  | some x, some y => some (.tup [x, y])
  | _, _ => none)
  | [], _, i => by simp [zipD]
  | x :: xs, [], i => by simp [zipD]
  | x :: xs, y :: ys, 0 => by simp [zipD]
  | x :: xs, y :: ys, i + 1 => by simpa [zipD] using zipD_get xs ys i
theorem enumD_get (xs : List D) (i : Nat) : (enumD xs)[i]? = xs[i]?.map fun x => .tup [.int i, x] := by
  unfold enumD
  rw [List.getElem?_map, List.getElem?_zipIdx]
  cases xs[i]? <;> simp
section
variable {K : PySem.W.Frag} {hd : Hid} {as : List Addr} {S : Sto} {H : Hp} {a b : Addr} {d e : D}
theorem jok_list (ra : Rep K as (fz hd as S H) (.ref a) d) (f : ItD) (hf : ∀ i S' hd' as' H', Wld K hd' as' S' H' → (∀ n x : Nat, as[n]? = some x → as'[n]? = some x) → ∀ o, f.nx i S' = some o → ∃ xs, listOf S' d = some xs ∧ o = xs[i]?) : JOk K as (fz hd as S H) (Itl K a) f := by
  intro i hd' as' S' H' pre sm w
  cases en : f.nx i S' with
  | none => trivial
  | some o =>
    obtain ⟨xs, e1, e2⟩ := hf i S' hd' as' H' w pre o en
    obtain ⟨a', vs, e3, hq, r⟩ := seqL w (ra.mono pre sm) e1
    cases e3
    cases o with
    | none =>
      refine ⟨vs, hq, ?_⟩
      rw [r.length]
      exact List.getElem?_eq_none_iff.mp e2.symm
    | some x =>
      obtain ⟨v, ev, rv⟩ := r.get e2.symm
      refine ⟨⟨vs, v, hq, ev⟩, fun y H2 hy => ?_⟩
      obtain ⟨rfl, hy⟩ := hy
      have := hy vs hq
      rw [ev] at this; cases this
      exact ⟨w, .refl, rv⟩
theorem jok_rng {lo : Int} {n : Nat} : JOk K as (fz hd as S H) (Itr lo n) (itL ((List.range n).map fun i : Nat => D.int (lo + i))) := by
  intro i hd' as' S' H' pre sm w
  show match some ((List.range n).map fun i : Nat => D.int (lo + i))[i]? with
    | none => True
    | some none => _
    | some (some d) => _
  rw [List.getElem?_map]
  by_cases hi : i < n
  · rw [List.getElem?_range hi]
    refine ⟨hi, fun y H2 hy => ?_⟩
    obtain ⟨rfl, rfl⟩ := hy
    exact ⟨w, .refl, .int _⟩
  · rw [List.getElem?_eq_none (by simpa using hi)]
    exact Nat.le_of_not_lt hi
theorem jok_zip (ra : Rep K as (fz hd as S H) (.ref a) d) (rb : Rep K as (fz hd as S H) (.ref b) e) (f : ItD) (hf : ∀ i S' hd' as' H', Wld K hd' as' S' H' → (∀ n x : Nat, as[n]? = some x → as'[n]? = some x) → ∀ o, f.nx i S' = some o → ∃ xs ys, listOf S' d = some xs ∧ listOf S' e = some ys ∧ o = (zipD xs ys)[i]?) :
    JOk K as (fz hd as S H) (Itz K a b) f := by
  intro i hd' as' S' H' pre sm w
  cases en : f.nx i S' with
  | none => trivial
  | some o =>
    obtain ⟨xs, ys, e1, e1', e2⟩ := hf i S' hd' as' H' w pre o en
    obtain ⟨a', vs, e3, hq, r⟩ := seqL w (ra.mono pre sm) e1
    cases e3
    obtain ⟨b', us, e3, hq', r'⟩ := seqL w (rb.mono pre sm) e1'
    cases e3
    rw [zipD_get] at e2
    cases ex : xs[i]? with
    | none =>
      rw [ex] at e2; subst e2
      exact ⟨vs, us, hq, hq', .inl (by rw [r.length]; exact List.getElem?_eq_none_iff.mp ex)⟩
    | some x =>
      cases ey : ys[i]? with
      | none =>
        rw [ex, ey] at e2; subst e2
        exact ⟨vs, us, hq, hq', .inr (by rw [r'.length]; exact List.getElem?_eq_none_iff.mp ey)⟩
      | some y =>
        rw [ex, ey] at e2; subst e2
        obtain ⟨v, ev, rv⟩ := r.get ex
        obtain ⟨u, eu, ru⟩ := r'.get ey
        refine ⟨⟨vs, us, v, u, hq, hq', ev, eu⟩, fun z H2 hy => ?_⟩
        obtain ⟨Tt, x1, y1, rfl, hT, rfl, k1, k2⟩ := hy
        have q1 := k1 vs hq
        have q2 := k2 us hq'
        rw [ev] at q1; cases q1
        rw [eu] at q2; cases q2
        obtain ⟨w', g, e⟩ := w.fresh (o := .tup [v, u]) hT
        exact ⟨w', g, .tup (.inl (.inl e)) (.cons (rv.grow g) (.cons (ru.grow g) .nil))⟩
theorem jok_enum (ra : Rep K as (fz hd as S H) (.ref a) d) (f : ItD) (hf : ∀ i S' hd' as' H', Wld K hd' as' S' H' → (∀ n x : Nat, as[n]? = some x → as'[n]? = some x) → ∀ o, f.nx i S' = some o → ∃ xs, listOf S' d = some xs ∧ o = (enumD xs)[i]?) : JOk K as (fz hd as S H) (Ite K a) f := by
  intro i hd' as' S' H' pre sm w
  cases en : f.nx i S' with
  | none => trivial
  | some o =>
    obtain ⟨xs, e1, e2⟩ := hf i S' hd' as' H' w pre o en
    obtain ⟨a', vs, e3, hq, r⟩ := seqL w (ra.mono pre sm) e1
    cases e3
    rw [enumD_get] at e2
    cases ex : xs[i]? with
    | none =>
      rw [ex] at e2; subst e2
      exact ⟨vs, hq, by rw [r.length]; exact List.getElem?_eq_none_iff.mp ex⟩
    | some x =>
      rw [ex] at e2; subst e2
      obtain ⟨v, ev, rv⟩ := r.get ex
      refine ⟨⟨vs, v, hq, ev⟩, fun z H2 hy => ?_⟩
      obtain ⟨Tt, x1, rfl, hT, rfl, k1⟩ := hy
      have q1 := k1 vs hq
      rw [ev] at q1; cases q1
      obtain ⟨w', g, e⟩ := w.fresh (o := .tup [.int (i : Nat), v]) hT
      exact ⟨w', g, .tup (.inl (.inl e)) (.cons (.int _) (.cons (rv.grow g) .nil))⟩
end
section
variable {X : Cx} {W : WX} {tg e e2 : Expr} {me : EM} {mr : AM} {pos tpos p : Pos} {elts : List Expr} {kk : Nat}
theorem di_list (h : DE X W e me) : DI X W tg e (imOf mItL me) := PI.le (pi_list h) fun σ H Rk ⟨hd, as, ρ, S, rel, po⟩ => tE_seq rel po fun as1 S1 H1 v d g1 rel1 r po1 => by
  cases r with
  | lst q r => exact ⟨_, rfl, ⟨_, .inl (.inl (fz_same _ _ q))⟩, po1 as1 H1 .refl rel1 _ (jok_list (.lst q r) _ fun i S' _ _ _ _ _ o h => ⟨_, rfl, (Option.some.inj h).symm⟩)⟩
  | ro q r => exact ⟨_, rfl, ⟨_, same_l fz_same q⟩, po1 as1 H1 .refl rel1 _ (jok_list (.ro q r) _ fun i S' _ _ _ _ _ o h => ⟨_, rfl, (Option.some.inj h).symm⟩)⟩
  | cell q =>
    rename_i n a
    cases e : S1[n]? with
    | none => simp only [mItL, e] at po1; exact po1.elim
    | some z =>
      cases z with
      | none => simp only [mItL, e] at po1; exact po1.elim
      | some c =>
        cases c with
        | ins _ _ => simp only [mItL, e] at po1; exact po1.elim
        | dK _ => simp only [mItL, e] at po1; exact po1.elim
        | lst xs =>
          simp only [mItL, e] at po1
          obtain ⟨a', vs, e1, hq, r⟩ := seqL rel1.w (.cell q) (show listOf S1 (.cell n) = some xs by simp [listOf, e])
          cases e1
          refine ⟨_, rfl, ⟨_, hq⟩, po1 as1 H1 .refl rel1 _ (jok_list (.cell q) _ fun i S' _ _ _ _ _ o h => ?_)⟩
          simp only [itC] at h
          split at h
          · rename_i ys e'
            exact ⟨ys, by simp [listOf, e'], (Option.some.inj h).symm⟩
          · cases h
  | _ => exact po1.elim
end
end DL

set_option Elab.async false
set_option linter.all false
set_option maxRecDepth 100000
/-! DL6: operations on data and their rules. -/
namespace DL
open PySem PySem.Spec PyProof.Rows L2
noncomputable section

/-! ### data as the library has it -/
mutual
def D.py : D → PyData
  | .non => .none
  | .bl b => .bool b
  | .int i => .int i
  | .str s => .str s
  | .tup xs => .tuple (D.pyL xs)
  | .lst xs => .list (D.pyL xs)
  | .ro xs => .list (D.pyL xs)
  | .cell _ => .none
  | .ty _ => .none
  | .err _ _ _ => .none
  | .cls _ => .none
  | .dE => .dict []
def D.pyL : List D → List PyData
  | [] => []
  | x :: xs => D.py x :: D.pyL xs
end
mutual
/-- data without cells, at most k deep -/
def D.pl : Nat → D → Bool
  | _, .non => true
  | _, .bl _ => true
  | _, .int _ => true
  | _, .str s => PyData.strOk s
  | k, .tup xs => decide (0 < k) && D.plL (k - 1) xs
  | k, .lst xs => decide (0 < k) && D.plL (k - 1) xs
  | k, .ro xs => decide (0 < k) && D.plL (k - 1) xs
  | _, .cell _ => false
  | _, .ty _ => false
  | _, .err _ _ _ => false
  | _, .cls _ => false
  | _, .dE => false
def D.plL : Nat → List D → Bool
  | _, [] => true
  | k, x :: xs => D.pl k x && D.plL k xs
end
section
variable {K : PySem.W.Frag} {as : List Addr} {F : Hp}
mutual
theorem Rep.dp : ∀ {d : D} {v : V} {k : Nat}, d.pl k = true → Rep K as F v d → Dp K F v d.py
  | .non, _, _, _, h => by cases h; simp only [D.py]; exact .non
  | .bl b, _, _, _, h => by cases h; simp only [D.py]; exact .bl b
  | .int i, _, _, _, h => by cases h; simp only [D.py]; exact .int i
  | .str s, _, _, _, h => by cases h; simp only [D.py]; exact .str s
  | .tup xs, _, k, p, h => by
    cases h with
    | tup q r => simp only [D.py]; exact .tup q (RepL.dp (k := k - 1) (by simp only [D.pl, Bool.and_eq_true] at p; exact p.2) r)
  | .lst xs, _, k, p, h => by
    cases h with
    | lst q r => simp only [D.py]; exact .lst (.inl (.inl q)) (RepL.dp (k := k - 1) (by simp only [D.pl, Bool.and_eq_true] at p; exact p.2) r)
  | .ro xs, _, k, p, h => by
    cases h with
    | ro q r => simp only [D.py]; exact .lst q (RepL.dp (k := k - 1) (by simp only [D.pl, Bool.and_eq_true] at p; exact p.2) r)
  | .cell n, _, _, p, _ => by simp [D.pl] at p
  | .ty n, _, _, p, _ => by simp [D.pl] at p
  | .err _ _ _, _, _, p, _ => by simp [D.pl] at p
  | .cls _, _, _, p, _ => by simp [D.pl] at p
  | .dE, _, _, p, _ => by simp [D.pl] at p
theorem RepL.dp : ∀ {ds : List D} {vs : List V} {k : Nat}, D.plL k ds = true → RepL K as F vs ds → DpAll K F vs (D.pyL ds)
  | [], _, _, _, h => by cases h; simp only [D.pyL]; exact .nil
  | d :: ds, _, k, p, h => by
    simp only [D.plL, Bool.and_eq_true] at p
    cases h with | cons q r => simp only [D.pyL]; exact .cons (Rep.dp p.1 q) (RepL.dp p.2 r)
end
end
mutual
theorem D.pl_shape : ∀ {d : D} {k : Nat}, d.pl k = true → d.py.canLay0 = true ∧ d.py.depth ≤ k ∧ d.py.hasDict = false
  | .non, _, _ => by simp [D.py, PyData.canLay0, PyData.depth, PyData.hasDict]
  | .bl b, _, _ => by simp [D.py, PyData.canLay0, PyData.depth, PyData.hasDict]
  | .int i, _, _ => by simp [D.py, PyData.canLay0, PyData.depth, PyData.hasDict]
  | .str s, _, h => by simpa [D.py, PyData.canLay0, PyData.depth, PyData.hasDict, D.pl] using h
  | .tup xs, k, h => by
    simp only [D.pl, Bool.and_eq_true, decide_eq_true_eq] at h
    have := D.plL_shape h.2
    simp only [D.py, PyData.canLay0, PyData.depth, PyData.hasDict]
    exact ⟨this.1, by omega, this.2.2⟩
  | .lst xs, k, h => by
    simp only [D.pl, Bool.and_eq_true, decide_eq_true_eq] at h
    have := D.plL_shape h.2
    simp only [D.py, PyData.canLay0, PyData.depth, PyData.hasDict]
    exact ⟨this.1, by omega, this.2.2⟩
  | .ro xs, k, h => by
    simp only [D.pl, Bool.and_eq_true, decide_eq_true_eq] at h
    have := D.plL_shape h.2
    simp only [D.py, PyData.canLay0, PyData.depth, PyData.hasDict]
    exact ⟨this.1, by omega, this.2.2⟩
  | .cell n, _, h => by simp [D.pl] at h
  | .ty n, _, h => by simp [D.pl] at h
  | .err _ _ _, _, h => by simp [D.pl] at h
  | .cls _, _, h => by simp [D.pl] at h
  | .dE, _, h => by simp [D.pl] at h
theorem D.plL_shape : ∀ {ds : List D} {k : Nat}, D.plL k ds = true → PyData.canLayAll0 (D.pyL ds) = true ∧ PyData.depthAll (D.pyL ds) ≤ k ∧ PyData.hasDictAll (D.pyL ds) = false
  | [], _, _ => by simp [D.pyL, PyData.canLayAll0, PyData.depthAll, PyData.hasDictAll]
  | d :: ds, k, h => by
    simp only [D.plL, Bool.and_eq_true] at h
    have h1 := D.pl_shape h.1
    have h2 := D.plL_shape h.2
    simp only [D.pyL, PyData.canLayAll0, PyData.depthAll, PyData.hasDictAll, Bool.and_eq_true, Bool.or_eq_false_iff]
    exact ⟨⟨h1.1, h2.1⟩, by omega, h1.2.2, h2.2.2⟩
end
theorem D.pl_shaped {d : D} (h : d.pl 60 = true) : SeqAt.shaped d.py = true := by
  obtain ⟨h1, h2, _⟩ := D.pl_shape h
  unfold SeqAt.shaped
  rw [h1]
  simp only [Bool.true_and, decide_eq_true_eq]
  omega
theorem dp_mono {K : PySem.W.Frag} {F F' : Hp} (e : Same F F') : (∀ {d : PyData} {v : V}, Dp K F v d → Dp K F' v d) := by
  intro d v h
  exact Dp.rec (motive_1 := fun v d _ => Dp K F' v d) (motive_2 := fun vs ds _ => DpAll K F' vs ds) .non .bl .int .str (fun q _ r => .lst (same_l e q) r) (fun q _ r => .tup (same_t e q) r) .nil (fun _ _ a b => .cons a b) h

/-- what a value is now: a cell is read -/
def topD (S : Sto) : D → D
  | .cell n => match S[n]? with
    | some (some (.lst xs)) => .lst xs
    | _ => .cell n
  | d => d
theorem Rep.dpNow {K : PySem.W.Frag} {hd : Hid} {as : List Addr} {S : Sto} {H : Hp} {v : V} {d : D} (w : Wld K hd as S H) (r : Rep K as (fz hd as S H) v d) (p : (topD S d).pl 60 = true) : Dp K H v (topD S d).py := by
  have r0 := r
  cases r with
  | cell q =>
    rename_i n a
    cases e : S[n]? with
    | none => simp [topD, e, D.pl] at p
    | some z =>
      cases z with
      | none => simp [topD, e, D.pl] at p
      | some c =>
        cases c with
        | ins _ _ => simp [topD, e, D.pl] at p
        | dK _ => simp [topD, e, D.pl] at p
        | lst xs =>
          simp only [topD, e, D.pl, Bool.and_eq_true] at p ⊢
          obtain ⟨b, vs, e1, e2, r⟩ := w.at_ n xs e
          rw [q] at e1; cases e1
          simp only [D.py]
          have := RepL.dp p.2 r
          exact dp_mono (F := H) (Same.refl _) (.lst (.inl (.inl e2)) (by
            have k : ∀ {ds : List PyData} {us : List V}, DpAll K (fz hd as S H) us ds → DpAll K H us ds := by
              intro ds
              induction ds with
              | nil => intro us h; cases h; exact .nil
              | cons d ds ih => intro us h; cases h with | cons a b => exact .cons (dp_mono fz_same a) (ih b)
            exact k this))
  | non => exact dp_mono fz_same (Rep.dp p r0)
  | bl b => exact dp_mono fz_same (Rep.dp p r0)
  | int i => exact dp_mono fz_same (Rep.dp p r0)
  | str x => exact dp_mono fz_same (Rep.dp p r0)
  | ty x => simp [topD, D.pl] at p
  | err => simp [topD, D.pl] at p
  | cls => simp [topD, D.pl] at p
  | dE _ => simp [topD, D.pl] at p
  | tup q r => exact dp_mono fz_same (Rep.dp p r0)
  | lst q r => exact dp_mono fz_same (Rep.dp p r0)
  | ro q r => exact dp_mono fz_same (Rep.dp p r0)

/-! ### ints -/
open Classical in
def opI (C : Int → Int → Prop) (g : Int → Int → D) : D → D → M D
  | .int i, .int j => fun S => if C i j then .ok (g i j) S else .stuck
  | _, _ => fun _ => .stuck
theorem act_I {K : PySem.W.Frag} {C : Int → Int → Prop} {g : Int → Int → V} {g' : Int → Int → D} (h : ∀ i j as F, Rep K as F (g i j) (g' i j)) : Act2 K (rI C g) (opI C g') := by
  intro hd as S H v u d e w r1 r2
  cases r1 with
  | int i =>
    cases r2 with
    | int j =>
      simp only [opI]
      split
      · rename_i hc
        exact .now w (h i j _ _) fun Q q => ⟨i, j, rfl, rfl, hc, q⟩
      · trivial
    | _ => trivial
  | _ => trivial
def opI0 (g : Int → Int → D) : D → D → M D
  | .int i, .int j => fun S => .ok (g i j) S
  | _, _ => fun _ => .stuck
theorem act_I0 {K : PySem.W.Frag} {g : Int → Int → V} {g' : Int → Int → D} (h : ∀ i j as F, Rep K as F (g i j) (g' i j)) : Act2 K (rI0 g) (opI0 g') := by
  intro hd as S H v u d e w r1 r2
  cases r1 with
  | int i =>
    cases r2 with
    | int j => exact .now w (h i j _ _) fun Q q => ⟨i, j, rfl, rfl, q⟩
    | _ => trivial
  | _ => trivial
def CDivA (i j : Int) : Prop := j ≠ 0 ∧ j.natAbs.log2 < 9000
abbrev oSub := opI0 fun i j => .int (i - j)
abbrev oFdiv := opI CDivA fun i j => .int (i.fdiv j)
abbrev oMod := opI (fun _ j => j ≠ 0) fun i j => .int (i.fmod j)
abbrev oPow := opI CPow fun i j => .int (i ^ j.toNat)
abbrev oLt := opI0 fun i j => .bl (decide (i < j))
abbrev oLe := opI0 fun i j => .bl (decide (i ≤ j))
abbrev oGt := opI0 fun i j => .bl (decide (j < i))
abbrev oGe := opI0 fun i j => .bl (decide (j ≤ i))
def oNeg : D → M D
  | .int i => fun S => .ok (.int (-i)) S
  | _ => fun _ => .stuck
section
variable {X : Cx}
theorem opr_fdiv : OpR X (binaryOp .FloorDiv) (rI CDivA fun i j => .int (i.fdiv j)) := L2.opI fun _ _ _ _ _ _ _ hc q => floordiv_int hc.1 q (.inl (PyProof.noPylong_of_log2 hc.2))
theorem act_sub {K : PySem.W.Frag} : Act2 K (rI0 fun i j => .int (i - j)) oSub := act_I0 fun _ _ _ _ => .int _
theorem act_fdiv {K : PySem.W.Frag} : Act2 K (rI CDivA fun i j => .int (i.fdiv j)) oFdiv := act_I fun _ _ _ _ => .int _
theorem act_mod {K : PySem.W.Frag} : Act2 K (rI (fun _ j => j ≠ 0) fun i j => .int (i.fmod j)) oMod := act_I fun _ _ _ _ => .int _
theorem act_pow {K : PySem.W.Frag} : Act2 K (rI CPow fun i j => .int (i ^ j.toNat)) oPow := act_I fun _ _ _ _ => .int _
theorem act_lt {K : PySem.W.Frag} : Act2 K (rI0 fun i j => .bl (decide (i < j))) oLt := act_I0 fun _ _ _ _ => .bl _
theorem act_gt {K : PySem.W.Frag} : Act2 K (rI0 fun i j => .bl (decide (j < i))) oGt := act_I0 fun _ _ _ _ => .bl _
theorem act_ge {K : PySem.W.Frag} : Act2 K (rI0 fun i j => .bl (decide (j ≤ i))) oGe := act_I0 fun _ _ _ _ => .bl _
theorem act_neg {K : PySem.W.Frag} : Act1 K (rU fun i => .int (-i)) oNeg := by
  intro hd as S H v d w r
  cases r with
  | int i => exact .now w (.int _) fun Q q => ⟨i, rfl, q⟩
  | _ => trivial
end

/-! ### +, * -/
def oAddInt : D → D → M D
  | .int i, .int j => fun S => .ok (.int (i + j)) S
  | _, _ => fun _ => .stuck
def oAddStr : D → D → M D
  | .str a, .str b => fun S => if a.length + b.length ≤ sizeLine then .ok (.str (a ++ b)) S else .stuck
  | _, _ => fun _ => .stuck
def oAddTup : D → D → M D
  | .tup xs, .tup ys => fun S => if xs.isEmpty = false ∧ ys.isEmpty = false ∧ xs.length + ys.length ≤ sizeLine then .ok (.tup (xs ++ ys)) S else .stuck
  | _, _ => fun _ => .stuck
def oCat (d e : D) : M D := fun S => match listOw S d, listOw S e with
  | some xs, some ys => if xs.length + ys.length ≤ sizeLine then .ok (.lst (xs ++ ys)) S else .stuck
  | _, _ => .stuck
def oAdd : D → D → M D
  | .int i, .int j => fun S => .ok (.int (i + j)) S
  | .str a, .str b => oAddStr (.str a) (.str b)
  | .tup xs, .tup ys => oAddTup (.tup xs) (.tup ys)
  | d, e => oCat d e
def rAddA (K : PySem.W.Frag) : R2 := fun x y H Q => rI0 (fun i j => .int (i + j)) x y H Q ∨ ((∃ i j, x = .str i ∧ y = .str j ∧ i.length + j.length ≤ sizeLine ∧ Q (.str (i ++ j)) H) ∨ (rCat x y H Q ∨ rCatT K x y H Q))
theorem opr_add {X : Cx} : OpR X (binaryOp .Add) (rAddA X.K) := op_add.or (op_add_str.or (op_cat.or op_catT))
theorem act_cat {K : PySem.W.Frag} : Act2 K rCat oCat := by
  intro hd as S H v u d e w r1 r2
  unfold oCat
  cases e1 : listOw S d with
  | none => trivial
  | some xs =>
    cases e2 : listOw S e with
    | none => trivial
    | some ys =>
      dsimp only
      split
      · rename_i hz
        obtain ⟨a, vs, rfl, ha, ra⟩ := seqO w r1 e1
        obtain ⟨b, us, rfl, hb, rb⟩ := seqO w r2 e2
        exact .fresh w (fun p ep g => .lst ep ((ra.append rb).grow g)) fun Q q => ⟨a, b, vs, us, rfl, rfl, ha, hb, by rw [ra.length, rb.length]; exact hz, q⟩
      · trivial
theorem Ret.map {K : PySem.W.Frag} {hd : Hid} {as : List Addr} {S : Sto} {H : Hp} {r : R D} {run run' : VK → Prop} (h : Ret K hd as S H r run) (f : ∀ Q, run Q → run' Q) : Ret K hd as S H r run' := by
  cases r with
  | ok d S' => exact fun Q q => f Q (h Q q)
  | exc x S' => exact h
  | stuck => trivial
theorem act_add {K : PySem.W.Frag} : Act2 K (rAddA K) oAdd := by
  intro hd as S H v u d e w r1 r2
  have cat : Ret K hd as S H (oCat d e S) (rAddA K v u H) := (act_cat hd as S H v u d e w r1 r2).map fun Q q => .inr (.inr (.inl q))
  cases r1 with
  | int i =>
    cases r2 with
    | int j => exact .now w (.int _) fun Q q => .inl ⟨i, j, rfl, rfl, q⟩
    | _ => exact cat
  | str i =>
    cases r2 with
    | str j =>
      simp only [oAdd, oAddStr]
      split
      · rename_i hz
        exact .now w (.str _) fun Q q => .inr (.inl ⟨i, j, rfl, rfl, hz, q⟩)
      · trivial
    | _ => exact cat
  | tup q r =>
    cases r2 with
    | tup q' r' =>
      simp only [oAdd, oAddTup]
      split
      · rename_i hz
        obtain ⟨h1, h2, h3⟩ := hz
        refine .fresh w (fun p ep g => .tup (.inl (.inl ep)) ((r.append r').grow g)) fun Q q2 => .inr (.inr (.inr ⟨_, _, _, _, rfl, rfl, same_t fz_same q, same_t fz_same q', ?_, by rw [r.length, r'.length]; exact h3, fun z => ?_, fun _ => q2⟩))
        · intro z; subst z
          have := r.length
          cases r
          simp at h1
        · subst z
          cases r'
          simp at h2
      · trivial
    | _ => exact cat
  | _ => cases r2 <;> exact cat
open Classical in
def oMul : D → D → M D
  | .int i, .int j => fun S => if IntMulOk i j then .ok (.int (i * j)) S else .stuck
  | d, .int k => fun S => match listOw S d with
    | some xs => if -(2 ^ 63) ≤ k ∧ k < 2 ^ 63 ∧ xs.length * k.toNat ≤ sizeLine then .ok (.lst (List.replicate k.toNat xs).flatten) S else .stuck
    | none => .stuck
  | _, _ => fun _ => .stuck
def rMulA : R2 := fun x y H Q => rI IntMulOk (fun i j => .int (i * j)) x y H Q ∨ rRep x y H Q
theorem opr_mul {X : Cx} : OpR X (binaryOp .Mult) rMulA := OpR.or (L2.opI fun _ _ _ _ _ _ _ hc q => mul_int q hc) op_rep
theorem RepL.rep {K : PySem.W.Frag} {as : List Addr} {F : Hp} {vs : List V} {ds : List D} (h : RepL K as F vs ds) : ∀ n : Nat, RepL K as F (List.replicate n vs).flatten (List.replicate n ds).flatten
  | 0 => .nil
  | n + 1 => by simpa [List.replicate_succ] using h.append (RepL.rep h n)
theorem act_mul {K : PySem.W.Frag} : Act2 K rMulA oMul := by
  intro hd as S H v u d e w r1 r2
  have rep : ∀ k : Int, u = .int k → (∀ i, d ≠ .int i) → Ret K hd as S H (match listOw S d with
    | some xs => if -(2 ^ 63) ≤ k ∧ k < 2 ^ 63 ∧ xs.length * k.toNat ≤ sizeLine then .ok (.lst (List.replicate k.toNat xs).flatten) S else .stuck
    | none => .stuck) (rMulA v u H) := fun k eu _ => by
    subst eu
    cases e1 : listOw S d with
    | none => trivial
    | some xs =>
      dsimp only
      split
      · rename_i hz
        obtain ⟨h1, h2, h3⟩ := hz
        obtain ⟨a, vs, rfl, ha, ra⟩ := seqO w r1 e1
        exact .fresh w (fun p ep g => .lst ep ((ra.rep _).grow g)) fun Q q => .inr ⟨a, k, vs, rfl, rfl, ha, h1, h2, by rw [ra.length]; exact h3, q⟩
      · trivial
  cases r2 with
  | int j =>
    cases r1 with
    | int i =>
      simp only [oMul]
      split
      · rename_i hc
        exact .now w (.int _) fun Q q => .inl ⟨i, j, rfl, rfl, hc, q⟩
      · trivial
    | non => exact rep j rfl fun _ z => nomatch z
    | bl b => exact rep j rfl fun _ z => nomatch z
    | str x => exact rep j rfl fun _ z => nomatch z
    | ty x => exact rep j rfl fun _ z => nomatch z
    | err => exact rep j rfl fun _ z => nomatch z
    | cls => exact rep j rfl fun _ z => nomatch z
    | dE q => exact rep j rfl fun _ z => nomatch z
    | tup q r => exact rep j rfl fun _ z => nomatch z
    | lst q r => exact rep j rfl fun _ z => nomatch z
    | ro q r => exact rep j rfl fun _ z => nomatch z
    | cell q => exact rep j rfl fun _ z => nomatch z
  | _ => cases r1 <;> trivial

/-! ### == and != -/
def eqD : D → D → D → D → Option Bool
  | .str a, .str b, _, _ => some (decide (a = b))
  | _, _, d, e => if d.pl 60 && e.pl 60 then some (PyData.eqv d.py e.py) else none
def oEq (d e : D) : M D := fun S => match eqD d e (topD S d) (topD S e) with
  | some b => .ok (.bl b) S
  | none => .stuck
def oNe (d e : D) : M D := fun S => match eqD d e (topD S d) (topD S e) with
  | some b => .ok (.bl (!b)) S
  | none => .stuck
def rEqA (K : PySem.W.Frag) : R2 := fun x y H Q => rEq x y H Q ∨ rEqD K x y H Q
def rNeA (K : PySem.W.Frag) : R2 := fun x y H Q => rNe x y H Q ∨ rNeD K x y H Q
theorem opr_eq {X : Cx} (hu : X.A.units + 64 < cLine) : OpR X (compareOp .Eq) (rEqA X.K) := op_eq.or (op_eqD hu)
theorem opr_ne {X : Cx} (hu : X.A.units + 64 < cLine) : OpR X (compareOp .NotEq) (rNeA X.K) := op_ne.or (op_neD hu)
theorem eqD_cases {d e d' e' : D} {b : Bool} (h : eqD d e d' e' = some b) : (∃ x y, d = .str x ∧ e = .str y ∧ b = decide (x = y)) ∨ (d'.pl 60 = true ∧ e'.pl 60 = true ∧ b = PyData.eqv d'.py e'.py) := by
  unfold eqD at h
  split at h
  · exact .inl ⟨_, _, rfl, rfl, (Option.some.inj h).symm⟩
  · split at h
    · rename_i hp
      simp only [Bool.and_eq_true] at hp
      exact .inr ⟨hp.1, hp.2, (Option.some.inj h).symm⟩
    · cases h
theorem act_eq {K : PySem.W.Frag} : Act2 K (rEqA K) oEq := by
  intro hd as S H v u d e w r1 r2
  unfold oEq
  cases eb : eqD d e (topD S d) (topD S e) with
  | none => trivial
  | some b =>
    dsimp only
    rcases eqD_cases eb with ⟨x, y, rfl, rfl, rfl⟩ | ⟨h1, h2, rfl⟩
    · cases r1; cases r2
      refine .now w (.bl _) fun Q q => .inl ⟨rfl, ?_⟩
      have : decide (V.str x = V.str y) = decide (x = y) := by simp
      rw [this]; exact q
    · exact .now w (.bl _) fun Q q => .inr ⟨_, _, r1.dpNow w h1, r2.dpNow w h2, D.pl_shaped h1, D.pl_shaped h2, q⟩
theorem act_ne {K : PySem.W.Frag} : Act2 K (rNeA K) oNe := by
  intro hd as S H v u d e w r1 r2
  unfold oNe
  cases eb : eqD d e (topD S d) (topD S e) with
  | none => trivial
  | some b =>
    dsimp only
    rcases eqD_cases eb with ⟨x, y, rfl, rfl, rfl⟩ | ⟨h1, h2, rfl⟩
    · cases r1; cases r2
      refine .now w (.bl _) fun Q q => .inl ⟨rfl, ?_⟩
      have : decide (V.str x = V.str y) = decide (x = y) := by simp
      rw [this]; exact q
    · exact .now w (.bl _) fun Q q => .inr ⟨_, _, r1.dpNow w h1, r2.dpNow w h2, D.pl_shaped h1, D.pl_shaped h2, q⟩
end
end DL

set_option Elab.async false
set_option linter.all false
set_option maxRecDepth 100000
/-! DL7: built-in functions, subscripts, slices, list methods. -/
namespace DL
open PySem PySem.Spec PyProof.Rows L2
noncomputable section

/-! ### in -/
def flatD : D → Bool
  | .non | .bl _ | .int _ | .str _ => true
  | _ => false
def eqF : D → D → Bool
  | .non, .non => true
  | .bl a, .bl b => a == b
  | .bl a, .int b => (if a then 1 else 0) == b
  | .int a, .bl b => a == (if b then 1 else 0)
  | .int a, .int b => a == b
  | .str a, .str b => a == b
  | _, _ => false
def seqOf (S : Sto) : D → Option (List D)
  | .tup xs => some xs
  | d => listOf S d
def inD (S : Sto) (d e : D) : Option Bool := match seqOf S e with
  | some xs => if flatD d && xs.all flatD then some (xs.any fun y => eqF y d) else none
  | none => match d, e with
    | .str a, .str b => some (!(Builtin.Str.occurrences b a 0 b.length 1).isEmpty)
    | _, _ => none
def oIn (d e : D) : M D := fun S => match inD S d e with
  | some b => .ok (.bl b) S
  | none => .stuck
def oNotIn (d e : D) : M D := fun S => match inD S d e with
  | some b => .ok (.bl (!b)) S
  | none => .stuck
section
variable {K : PySem.W.Frag} {hd : Hid} {as : List Addr} {S : Sto} {H : Hp}
theorem Rep.flat {F : Hp} {v : V} {d : D} (r : Rep K as F v d) (h : flatD d = true) : flatV v = true := by
  cases r <;> first | rfl | (simp [flatD] at h)
theorem RepL.flat {F : Hp} : ∀ {ds : List D} {vs : List V}, RepL K as F vs ds → ds.all flatD = true → vs.all flatV = true
  | [], _, r, _ => by cases r; rfl
  | d :: ds, _, r, h => by
    simp only [List.all_cons, Bool.and_eq_true] at h
    cases r with | cons a b => simp only [List.all_cons, a.flat h.1, RepL.flat b h.2, Bool.and_self]
theorem seqS {v : V} {d : D} {xs : List D} (w : Wld K hd as S H) (r : Rep K as (fz hd as S H) v d) (h : seqOf S d = some xs) : ∃ a vs, v = .ref a ∧ (SqL K H a vs ∨ SqT K H a vs) ∧ RepL K as (fz hd as S H) vs xs := by
  have r0 := r
  cases r with
  | tup q r =>
    cases h
    exact ⟨_, _, rfl, .inr (same_t fz_same q), r⟩
  | lst q r => obtain ⟨a, vs, e, q, r⟩ := seqL w r0 h; exact ⟨a, vs, e, .inl q, r⟩
  | ro q r => obtain ⟨a, vs, e, q, r⟩ := seqL w r0 h; exact ⟨a, vs, e, .inl q, r⟩
  | cell q => obtain ⟨a, vs, e, q, r⟩ := seqL w r0 h; exact ⟨a, vs, e, .inl q, r⟩
  | _ => cases h
end
def rInA (K : PySem.W.Frag) (neg : Bool) : R2 := fun x y H Q => rIn K neg x y H Q ∨ (∃ i j, x = .str i ∧ y = .str j ∧ Q (.bl (if neg then !(!(Builtin.Str.occurrences j i 0 j.length 1).isEmpty) else !(Builtin.Str.occurrences j i 0 j.length 1).isEmpty)) H)
/-! ### is -/
def oIsN : D → D → M D
  | d, .non => fun S => match d with
    | .non => .ok (.bl true) S
    | _ => .ok (.bl false) S
  | _, _ => fun _ => .stuck
def oNotN : D → D → M D
  | d, .non => fun S => match d with
    | .non => .ok (.bl false) S
    | _ => .ok (.bl true) S
  | _, _ => fun _ => .stuck
theorem act_isN {K : PySem.W.Frag} : Act2 K (fun x y H Q => y = .non ∧ Q (.bl (decide (x = .non))) H) oIsN := by
  intro hd as S H v u d e w r1 r2
  cases r2 with
  | non => cases r1 <;> exact .now w (.bl _) fun Q q => ⟨rfl, q⟩
  | _ => cases r1 <;> trivial
theorem act_notN {K : PySem.W.Frag} : Act2 K (fun x y H Q => y = .non ∧ Q (.bl (!decide (x = .non))) H) oNotN := by
  intro hd as S H v u d e w r1 r2
  cases r2 with
  | non => cases r1 <;> exact .now w (.bl _) fun Q q => ⟨rfl, q⟩
  | _ => cases r1 <;> trivial
def oIsB : D → D → M D
  | .bl a, .bl b => fun S => .ok (.bl (decide (a = b))) S
  | _, _ => fun _ => .stuck
def oNotB : D → D → M D
  | .bl a, .bl b => fun S => .ok (.bl (!decide (a = b))) S
  | _, _ => fun _ => .stuck
theorem act_notB {K : PySem.W.Frag} : Act2 K rNotB oNotB := by
  intro hd as S H v u d e w r1 r2
  cases r1 with
  | bl a =>
    cases r2 with
    | bl b => exact .now w (.bl _) fun Q q => ⟨a, b, rfl, rfl, q⟩
    | _ => trivial
  | _ => trivial

/-! ### built-in functions -/
def fLen : List D → M D
  | [.str z] => fun S => if z.length ≤ sizeLine then .ok (.int z.length) S else .stuck
  | [d] => fun S => match seqOf S d with
    | some xs => .ok (.int xs.length) S
    | none => .stuck
  | _ => fun _ => .stuck
theorem act_len {K : PySem.W.Frag} : ActL K (fun xs H Q => ∃ x n, xs = [x] ∧ LenV K x H n ∧ Q (.int n) H) fLen := by
  intro hd as S H vs ds w r
  match ds, r with
  | [], _ => trivial
  | [d], .cons r .nil =>
    rename_i v
    have seq : ∀ xs, seqOf S d = some xs → ∀ Q : VK, Q (.int xs.length) H → ∃ x n, [v] = [x] ∧ LenV K x H n ∧ Q (.int n) H := fun xs e Q q => by
      obtain ⟨a, vs, ev, sq, rr⟩ := seqS w r e
      subst ev
      rw [← rr.length] at q
      exact ⟨.ref a, vs.length, rfl, sq.elim (fun z => .inl ⟨vs, z, rfl⟩) (fun z => .inr ⟨vs, z, rfl⟩), q⟩
    cases d with
    | str z =>
      simp only [fLen]
      split
      · rename_i hz
        cases r
        exact .now w (.int _) fun Q q => ⟨_, z.length, rfl, ⟨hz, rfl⟩, q⟩
      · trivial
    | non => trivial
    | bl b => trivial
    | int i => trivial
    | ty n => trivial
    | err => trivial
    | cls => trivial
    | dE => trivial
    | tup xs => exact .now w (.int _) (seq _ rfl)
    | lst xs => exact .now w (.int _) (seq _ rfl)
    | ro xs => exact .now w (.int _) (seq _ rfl)
    | cell n =>
      simp only [fLen]
      cases e : seqOf S (.cell n) with
      | none => trivial
      | some xs => exact .now w (.int _) (seq _ e)
  | a :: b :: c, _ => cases a <;> trivial
def fAbs : List D → M D
  | [.int i] => fun S => .ok (.int (if i < 0 then -i else i)) S
  | _ => fun _ => .stuck
def fMax2 : List D → M D
  | [.int i, .int j] => fun S => .ok (.int (if j > i then j else i)) S
  | _ => fun _ => .stuck
def fMin2 : List D → M D
  | [.int i, .int j] => fun S => .ok (.int (if j < i then j else i)) S
  | _ => fun _ => .stuck
def fInt : List D → M D
  | [.int i] => fun S => .ok (.int i) S
  | [.bl k] => fun S => .ok (.int (if k then 1 else 0)) S
  | _ => fun _ => .stuck
def fStr : List D → M D
  | [.int i] => fun S => if i.natAbs.log2 < 1920 then .ok (.str (toString i)) S else .stuck
  | _ => fun _ => .stuck
theorem rep1 {K : PySem.W.Frag} {as : List Addr} {F : Hp} {vs : List V} {d : D} (r : RepL K as F vs [d]) : ∃ v, vs = [v] ∧ Rep K as F v d := by
  cases r with | cons a b => cases b; exact ⟨_, rfl, a⟩
theorem rep2 {K : PySem.W.Frag} {as : List Addr} {F : Hp} {vs : List V} {d e : D} (r : RepL K as F vs [d, e]) : ∃ v u, vs = [v, u] ∧ Rep K as F v d ∧ Rep K as F u e := by
  cases r with | cons a b => cases b with | cons b c => cases c; exact ⟨_, _, rfl, a, b⟩
theorem act_abs {K : PySem.W.Frag} : ActL K (fun xs H Q => ∃ i, xs = [.int i] ∧ Q (.int (if i < 0 then -i else i)) H) fAbs := by
  intro hd as S H vs ds w r
  unfold fAbs
  split
  · obtain ⟨v, rfl, a⟩ := rep1 r
    cases a
    exact .now w (.int _) fun Q q => ⟨_, rfl, q⟩
  · trivial
theorem act_max2 {K : PySem.W.Frag} : ActL K (fun xs H Q => ∃ i j, xs = [.int i, .int j] ∧ Q (.int (if j > i then j else i)) H) fMax2 := by
  intro hd as S H vs ds w r
  unfold fMax2
  split
  · obtain ⟨v, u, rfl, a, b⟩ := rep2 r
    cases a; cases b
    exact .now w (.int _) fun Q q => ⟨_, _, rfl, q⟩
  · trivial
theorem act_min2 {K : PySem.W.Frag} : ActL K (fun xs H Q => ∃ i j, xs = [.int i, .int j] ∧ Q (.int (if j < i then j else i)) H) fMin2 := by
  intro hd as S H vs ds w r
  unfold fMin2
  split
  · obtain ⟨v, u, rfl, a, b⟩ := rep2 r
    cases a; cases b
    exact .now w (.int _) fun Q q => ⟨_, _, rfl, q⟩
  · trivial
theorem act_int {K : PySem.W.Frag} : ActL K (fun xs H Q => (∃ i, xs = [.int i] ∧ Q (.int i) H) ∨ ∃ k, xs = [.bl k] ∧ Q (.int (if k then 1 else 0)) H) fInt := by
  intro hd as S H vs ds w r
  unfold fInt
  split
  · obtain ⟨v, rfl, a⟩ := rep1 r
    cases a
    exact .now w (.int _) fun Q q => .inl ⟨_, rfl, q⟩
  · obtain ⟨v, rfl, a⟩ := rep1 r
    cases a
    exact .now w (.int _) fun Q q => .inr ⟨_, rfl, q⟩
  · trivial
/-! repr -/
/-- no repr runs around; the modules' table is a table -/
structure Qt (A : Around) (base : Heap) : Prop where
  g : A.guards = some []
  s : ∃ mm, base.Ns sysModules mm
mutual
/-- as data, an empty table among them -/
inductive Dr (K : PySem.W.Frag) (H : Hp) : V → PyData → Prop
  | non : Dr K H .non .none
  | bl (b : Bool) : Dr K H (.bl b) (.bool b)
  | int (i : Int) : Dr K H (.int i) (.int i)
  | str (x : Str) : Dr K H (.str x) (.str x)
  | lst {a : Addr} {xs : List V} {ds : List PyData} : SqL K H a xs → DrL K H xs ds → Dr K H (.ref a) (.list ds)
  | tup {a : Addr} {xs : List V} {ds : List PyData} : SqT K H a xs → DrL K H xs ds → Dr K H (.ref a) (.tuple ds)
  | dE {a : Addr} : Rd H a (.dK []) → Dr K H (.ref a) (.dict [])
inductive DrL (K : PySem.W.Frag) (H : Hp) : List V → List PyData → Prop
  | nil : DrL K H [] []
  | cons {v : V} {vs : List V} {d : PyData} {ds : List PyData} : Dr K H v d → DrL K H vs ds → DrL K H (v :: vs) (d :: ds)
end
section
variable {X : Cx} {pins : List (Addr × Obj)} {σ : L2.St} {H : Hp} {s : Shared}
mutual
theorem Dr.reads (I : Inv X pins σ H s) (hs : ∃ mm, X.base.Ns sysModules mm) : ∀ (d : PyData) (v : V) (u : Value), Dr X.K H v d → RelV v u → ∃ as, Reads s.heap u d as ∧ sysModules ∉ as
  | .none, _, _, h, r => by
    cases h; cases r
    exact ⟨_, Reads.none, by simp⟩
  | .bool b, _, _, h, r => by
    cases h; cases r
    exact ⟨_, Reads.bool b, by simp⟩
  | .int i, _, _, h, r => by
    cases h
    obtain ⟨t, rfl⟩ := r
    exact ⟨_, Reads.int i t, by simp⟩
  | .str x, _, _, h, r => by
    cases h
    obtain ⟨t, rfl⟩ := r
    exact ⟨_, Reads.str x t, by simp⟩
  | .list ds, _, _, h, r => by
    cases h with
    | lst hq ha =>
      cases r
      obtain ⟨its, rv, ⟨o, n, ho, hc, _, hd⟩, _⟩ := I.list hq
      obtain ⟨as, hr, hn⟩ := DrL.reads I hs ds _ its ha rv
      refine ⟨_, Reads.list ho hc hd hr, ?_⟩
      intro hm
      rcases List.mem_cons.mp hm with e | e
      · obtain ⟨mm, o', es, ep, e1, e2, _⟩ := hs
        have e3 := I.bk _ _ e1
        rw [e] at e3
        rw [ho] at e3
        cases e3
        rw [hd] at e2; cases e2
      · exact hn e
  | .tuple ds, _, _, h, r => by
    cases h with
    | tup hq ha =>
      cases r
      obtain ⟨its, rv, ⟨o, ho, hc, n, hd⟩, _⟩ := I.tuple hq
      obtain ⟨as, hr, hn⟩ := DrL.reads I hs ds _ its ha rv
      exact ⟨_, Reads.tuple ho hc hd hr, hn⟩
  | .dict _, _, _, h, r => by
    cases h with
    | dE hq =>
      cases r
      obtain ⟨_, hne, vs, kv, o, es, ep, e1, e2, e3, _, e4, _⟩ := dk_rd I.hok hq
      cases kv
      have hz : es.toList = [] := by
        generalize es.toList = l at e4
        cases e4; rfl
      refine ⟨_, Reads.dict (kvs := []) e1 e2.1 e3 (by rw [hz]; exact ReadsAll.nil) (by rw [hz]; exact ReadsAll.nil), ?_⟩
      intro hm
      simp at hm
      rw [hm] at hne
      simp at hne
theorem DrL.reads (I : Inv X pins σ H s) (hs : ∃ mm, X.base.Ns sysModules mm) : ∀ (ds : List PyData) (vs : List V) (us : List Value), DrL X.K H vs ds → Vals vs us → ∃ as, ReadsAll s.heap us ds as ∧ sysModules ∉ as
  | [], _, _, h, r => by
    cases h; cases r
    exact ⟨_, ReadsAll.nil, by simp⟩
  | d :: ds, _, _, h, r => by
    cases h with
    | cons h1 h2 =>
      cases r with
      | cons r1 r2 =>
        obtain ⟨as, q1, n1⟩ := Dr.reads I hs d _ _ h1 r1
        obtain ⟨bs, q2, n2⟩ := DrL.reads I hs ds _ _ h2 r2
        exact ⟨_, ReadsAll.cons q1 q2, fun z => (List.mem_append.mp z).elim n1 n2⟩
end
end
mutual
/-- data without cells, at most k deep, an empty table among them -/
def D.pr : Nat → D → Bool
  | _, .non => true
  | _, .bl _ => true
  | _, .int _ => true
  | _, .str s => PyData.strOk s
  | k, .tup xs => decide (0 < k) && D.prL (k - 1) xs
  | k, .lst xs => decide (0 < k) && D.prL (k - 1) xs
  | k, .ro xs => decide (0 < k) && D.prL (k - 1) xs
  | _, .cell _ => false
  | _, .ty _ => false
  | _, .err _ _ _ => false
  | _, .cls _ => false
  | k, .dE => decide (0 < k)
def D.prL : Nat → List D → Bool
  | _, [] => true
  | k, x :: xs => D.pr k x && D.prL k xs
end
mutual
theorem D.pr_of : ∀ {d : D} {k : Nat}, d.pl k = true → d.pr k = true
  | .non, _, _ => rfl
  | .bl b, _, _ => rfl
  | .int i, _, _ => rfl
  | .str s, _, h => by simpa [D.pr, D.pl] using h
  | .tup xs, k, h => by
    simp only [D.pl, Bool.and_eq_true] at h
    simp only [D.pr, Bool.and_eq_true]
    exact ⟨h.1, D.prL_of h.2⟩
  | .lst xs, k, h => by
    simp only [D.pl, Bool.and_eq_true] at h
    simp only [D.pr, Bool.and_eq_true]
    exact ⟨h.1, D.prL_of h.2⟩
  | .ro xs, k, h => by
    simp only [D.pl, Bool.and_eq_true] at h
    simp only [D.pr, Bool.and_eq_true]
    exact ⟨h.1, D.prL_of h.2⟩
  | .cell n, _, h => by simp [D.pl] at h
  | .ty n, _, h => by simp [D.pl] at h
  | .err _ _ _, _, h => by simp [D.pl] at h
  | .cls _, _, h => by simp [D.pl] at h
  | .dE, _, h => by simp [D.pl] at h
theorem D.prL_of : ∀ {ds : List D} {k : Nat}, D.plL k ds = true → D.prL k ds = true
  | [], _, _ => rfl
  | d :: ds, k, h => by
    simp only [D.plL, Bool.and_eq_true] at h
    simp only [D.prL, D.pr_of h.1, D.prL_of h.2, Bool.and_self]
end
mutual
theorem D.pr_depth : ∀ {d : D} {k : Nat}, d.pr k = true → d.py.depth ≤ k
  | .non, _, _ => by simp [D.py, PyData.depth]
  | .bl b, _, _ => by simp [D.py, PyData.depth]
  | .int i, _, _ => by simp [D.py, PyData.depth]
  | .str s, _, h => by simp [D.py, PyData.depth]
  | .tup xs, k, h => by
    simp only [D.pr, Bool.and_eq_true, decide_eq_true_eq] at h
    have := D.prL_depth h.2
    simp only [D.py, PyData.depth]
    omega
  | .lst xs, k, h => by
    simp only [D.pr, Bool.and_eq_true, decide_eq_true_eq] at h
    have := D.prL_depth h.2
    simp only [D.py, PyData.depth]
    omega
  | .ro xs, k, h => by
    simp only [D.pr, Bool.and_eq_true, decide_eq_true_eq] at h
    have := D.prL_depth h.2
    simp only [D.py, PyData.depth]
    omega
  | .cell n, _, h => by simp [D.pr] at h
  | .ty n, _, h => by simp [D.pr] at h
  | .err _ _ _, _, h => by simp [D.pr] at h
  | .cls _, _, h => by simp [D.pr] at h
  | .dE, k, h => by
    simp only [D.pr, decide_eq_true_eq] at h
    simp only [D.py, PyData.depth, PyData.depthKv]
    omega
theorem D.prL_depth : ∀ {ds : List D} {k : Nat}, D.prL k ds = true → PyData.depthAll (D.pyL ds) ≤ k
  | [], _, _ => by simp [D.pyL, PyData.depthAll]
  | d :: ds, k, h => by
    simp only [D.prL, Bool.and_eq_true] at h
    have h1 := D.pr_depth h.1
    have h2 := D.prL_depth h.2
    simp only [D.pyL, PyData.depthAll]
    omega
end
section
variable {K : PySem.W.Frag} {as : List Addr} {F H : Hp}
mutual
theorem Rep.dr (e : Same F H) : ∀ {d : D} {v : V} {k : Nat}, d.pr k = true → Rep K as F v d → Dr K H v d.py
  | .non, _, _, _, h => by cases h; simp only [D.py]; exact .non
  | .bl b, _, _, _, h => by cases h; simp only [D.py]; exact .bl b
  | .int i, _, _, _, h => by cases h; simp only [D.py]; exact .int i
  | .str s, _, _, _, h => by cases h; simp only [D.py]; exact .str s
  | .tup xs, _, k, p, h => by
    cases h with
    | tup q r => simp only [D.py]; exact .tup (same_t e q) (RepL.dr e (k := k - 1) (by simp only [D.pr, Bool.and_eq_true] at p; exact p.2) r)
  | .lst xs, _, k, p, h => by
    cases h with
    | lst q r => simp only [D.py]; exact .lst (.inl (.inl (e _ _ q))) (RepL.dr e (k := k - 1) (by simp only [D.pr, Bool.and_eq_true] at p; exact p.2) r)
  | .ro xs, _, k, p, h => by
    cases h with
    | ro q r => simp only [D.py]; exact .lst (same_l e q) (RepL.dr e (k := k - 1) (by simp only [D.pr, Bool.and_eq_true] at p; exact p.2) r)
  | .cell n, _, _, p, _ => by simp [D.pr] at p
  | .ty n, _, _, p, _ => by simp [D.pr] at p
  | .err _ _ _, _, _, p, _ => by simp [D.pr] at p
  | .cls _, _, _, p, _ => by simp [D.pr] at p
  | .dE, _, _, p, h => by
    cases h with
    | dE q => simp only [D.py]; exact .dE (same_rd e q)
theorem RepL.dr (e : Same F H) : ∀ {ds : List D} {vs : List V} {k : Nat}, D.prL k ds = true → RepL K as F vs ds → DrL K H vs (D.pyL ds)
  | [], _, _, _, h => by cases h; simp only [D.pyL]; exact .nil
  | d :: ds, _, k, p, h => by
    simp only [D.prL, Bool.and_eq_true] at p
    cases h with | cons q r => simp only [D.pyL]; exact .cons (Rep.dr e p.1 q) (RepL.dr e p.2 r)
end
end
def rRepr (K : PySem.W.Frag) : List V → Hp → VK → Prop := fun xs H Q => ∃ v d, xs = [v] ∧ Dr K H v d ∧ d.showable = true ∧ d.depth ≤ 64 ∧ d.shown.length ≤ sizeLine ∧ Q (.str d.shown) H
/-- what repr tells of data -/
def D.shown (d : D) : Str := d.py.shown
def D.shows (d : D) : Bool := d.py.showable && decide (d.py.shown.length ≤ sizeLine)
def fRepr : List D → M D
  | [d] => fun S => if (topD S d).pr 60 && (topD S d).shows then .ok (.str (topD S d).shown) S else .stuck
  | _ => fun _ => .stuck
/-! isinstance with a built-in class -/
def kindD (S : Sto) : D → Option String
  | .non => some "NoneType"
  | .bl _ => some "bool"
  | .int _ => some "int"
  | .str _ => some "str"
  | .tup _ => some "tuple"
  | .lst _ => some "list"
  | .ro _ => some "list"
  | .cell n => match S[n]? with
    | some (some (.lst _)) => some "list"
    | _ => none
  | .ty _ => none
  | .err _ _ _ => none
  | .cls _ => none
  | .dE => some "dict"
theorem Rep.kind {K : PySem.W.Frag} {hd : Hid} {as : List Addr} {S : Sto} {H : Hp} {v : V} {d : D} {k : String} (w : Wld K hd as S H) (r : Rep K as (fz hd as S H) v d) (h : kindD S d = some k) : TyX K H v (.type k) := by
  have ofL : ∀ {a : Addr} {vs : List V}, SqL K H a vs → TyX K H (.ref a) (.type "list") := fun {a vs} q => by
    rcases q with (q | ⟨o, q⟩) | ⟨o, its, n, q1, q2, _⟩
    · exact .base (.lst q)
    · exact .base (.frz q)
    · exact .kList q1 q2
  have ofT : ∀ {a : Addr} {vs : List V}, SqT K H a vs → TyX K H (.ref a) (.type "tuple") := fun {a vs} q => by
    rcases q with (q | ⟨o, q⟩) | ⟨o, its, n, q1, q2, _⟩
    · exact .base (.tup q)
    · exact .fTuple q
    · exact .kTuple q1 q2
  have r0 := r
  cases r with
  | non => cases h; exact .base .non
  | bl b => cases h; exact .base (.bl b)
  | int i => cases h; exact .base (.int i)
  | str x => cases h; exact .base (.str x)
  | ty x => cases h
  | err => cases h
  | cls => cases h
  | dE q =>
    cases h
    rcases same_rd fz_same q with q | ⟨o, q⟩
    · exact .base (.dK q)
    · exact .fDict q
  | tup q r => cases h; exact ofT (same_t fz_same q)
  | lst q r => cases h; exact ofL (.inl (.inl (fz_same _ _ q)))
  | ro q r => cases h; exact ofL (same_l fz_same q)
  | cell q =>
    simp only [kindD] at h
    split at h
    · rename_i xs e
      cases h
      obtain ⟨a, vs, e1, hq, r⟩ := seqL w r0 (show listOf S _ = some xs by simp [listOf, e])
      cases e1
      exact ofL hq
    · cases h
def fIsi : List D → M D
  | [d, .ty c] => fun S => match kindD S d with
    | some k => match kitB k c with
      | some b => .ok (.bl b) S
      | none => .stuck
    | none => .stuck
  | _ => fun _ => .stuck
theorem act_isi {K : PySem.W.Frag} : ActL K (rIsi K) fIsi := by
  intro hd as S H vs ds w r
  unfold fIsi
  split
  · rename_i d c
    cases ek : kindD S d with
    | none => trivial
    | some k =>
      dsimp only
      cases eb : kitB k c with
      | none => trivial
      | some b =>
        obtain ⟨v, u, rfl, a, b'⟩ := rep2 r
        cases b'
        exact .now w (.bl _) fun Q q => ⟨_, _, _, _, b, rfl, .ty c, a.kind w ek, kit_ty eb, q⟩
  · trivial
/-! sum, all, any -/
def intsOf : List D → Option (List Int)
  | [] => some []
  | .int i :: r => (intsOf r).map (i :: ·)
  | _ :: _ => none
def blsOf : List D → Option (List Bool)
  | [] => some []
  | .bl i :: r => (blsOf r).map (i :: ·)
  | _ :: _ => none
theorem RepL.ints {K : PySem.W.Frag} {as : List Addr} {F : Hp} : ∀ {ds : List D} {vs : List V} {ns : List Int}, RepL K as F vs ds → intsOf ds = some ns → vs = ns.map V.int
  | [], _, _, r, h => by cases r; cases h; rfl
  | .int i :: ds, _, ns, r, h => by
    cases r with
    | cons a b =>
      cases a
      simp only [intsOf, Option.map_eq_some_iff] at h
      obtain ⟨ms, e, rfl⟩ := h
      rw [RepL.ints b e] <;> rfl
  | .non :: _, _, _, _, h | .bl _ :: _, _, _, _, h | .str _ :: _, _, _, _, h | .tup _ :: _, _, _, _, h | .lst _ :: _, _, _, _, h | .ro _ :: _, _, _, _, h | .cell _ :: _, _, _, _, h | .ty _ :: _, _, _, _, h => by simp [intsOf] at h
theorem RepL.bls {K : PySem.W.Frag} {as : List Addr} {F : Hp} : ∀ {ds : List D} {vs : List V} {ns : List Bool}, RepL K as F vs ds → blsOf ds = some ns → vs = ns.map V.bl
  | [], _, _, r, h => by cases r; cases h; rfl
  | .bl i :: ds, _, ns, r, h => by
    cases r with
    | cons a b =>
      cases a
      simp only [blsOf, Option.map_eq_some_iff] at h
      obtain ⟨ms, e, rfl⟩ := h
      rw [RepL.bls b e] <;> rfl
  | .non :: _, _, _, _, h | .int _ :: _, _, _, _, h | .str _ :: _, _, _, _, h | .tup _ :: _, _, _, _, h | .lst _ :: _, _, _, _, h | .ro _ :: _, _, _, _, h | .cell _ :: _, _, _, _, h | .ty _ :: _, _, _, _, h => by simp [blsOf] at h
def fSum : List D → M D
  | [d] => fun S => match (listOf S d).bind intsOf with
    | some ns => .ok (.int ns.sum) S
    | none => .stuck
  | _ => fun _ => .stuck
def fAll : List D → M D
  | [d] => fun S => match (listOf S d).bind blsOf with
    | some ns => .ok (.bl (ns.all id)) S
    | none => .stuck
  | _ => fun _ => .stuck
def fAny : List D → M D
  | [d] => fun S => match (listOf S d).bind blsOf with
    | some ns => .ok (.bl (ns.any id)) S
    | none => .stuck
  | _ => fun _ => .stuck
theorem act_sum {K : PySem.W.Frag} : ActL K (rSum K) fSum := by
  intro hd as S H vs ds w r
  match ds, r with
  | [], _ => trivial
  | [d], r =>
    obtain ⟨v, rfl, a⟩ := rep1 r
    simp only [fSum]
    cases e : (listOf S d).bind intsOf with
    | none => trivial
    | some ns =>
      obtain ⟨xs, e1, e2⟩ := Option.bind_eq_some_iff.mp e
      obtain ⟨p, vs, rfl, hq, r⟩ := seqL w a e1
      rw [r.ints e2] at hq
      exact .now w (.int _) fun Q q => ⟨p, ns, rfl, hq, q⟩
  | _ :: _ :: _, _ => trivial
theorem act_all {K : PySem.W.Frag} : ActL K (rAll K) fAll := by
  intro hd as S H vs ds w r
  match ds, r with
  | [], _ => trivial
  | [d], r =>
    obtain ⟨v, rfl, a⟩ := rep1 r
    simp only [fAll]
    cases e : (listOf S d).bind blsOf with
    | none => trivial
    | some ns =>
      obtain ⟨xs, e1, e2⟩ := Option.bind_eq_some_iff.mp e
      obtain ⟨p, vs, rfl, hq, r⟩ := seqL w a e1
      rw [r.bls e2] at hq
      exact .now w (.bl _) fun Q q => ⟨p, ns, rfl, hq, q⟩
  | _ :: _ :: _, _ => trivial
/-! list(..), tuple(..) -/
def fList : List D → M D
  | [d] => fun S => match seqOf S d with
    | some xs => .ok (.lst xs) S
    | none => .stuck
  | _ => fun _ => .stuck
def fListC : List D → M D
  | [d] => fun S => match seqOf S d with
    | some xs => .ok (.cell S.length) (S ++ [some (.lst xs)])
    | none => .stuck
  | _ => fun _ => .stuck
def fTuple : List D → M D
  | [.tup xs] => fun S => .ok (.tup xs) S
  | [d] => fun S => match listOf S d with
    | some xs => .ok (.tup xs) S
    | none => .stuck
  | _ => fun _ => .stuck
/-! ### subscripts, slices -/
def oIx : D → D → M D
  | .str z, .int i => fun S => if z.length ≤ sizeLine then match atI z.cps.toList i with
      | some c => .ok (.str ⟨#[c]⟩) S
      | none => .stuck
    else .stuck
  | d, .int i => fun S => match (seqOf S d).bind fun xs => atI xs i with
    | some x => .ok x S
    | none => .stuck
  | _, _ => fun _ => .stuck
theorem atI_rep {K : PySem.W.Frag} {as : List Addr} {F : Hp} {ds : List D} {vs : List V} {i : Int} {d : D} (r : RepL K as F vs ds) (h : atI ds i = some d) : ∃ v, atI vs i = some v ∧ Rep K as F v d := by
  unfold atI at h ⊢
  rw [r.length]
  obtain ⟨j, e1, e2⟩ := Option.bind_eq_some_iff.mp h
  obtain ⟨v, ev, rv⟩ := r.get e2
  exact ⟨v, by rw [e1]; exact ev, rv⟩
theorem act_ix {K : PySem.W.Frag} : Act2 K (rIx K) oIx := by
  intro hd as S H v u d e w r1 r2
  have seq : ∀ i, u = .int i → Ret K hd as S H (match (seqOf S d).bind fun xs => atI xs i with
    | some x => .ok x S
    | none => .stuck) (rIx K v u H) := fun i eu => by
    subst eu
    cases e : (seqOf S d).bind fun xs => atI xs i with
    | none => trivial
    | some x =>
      obtain ⟨xs, e1, e2⟩ := Option.bind_eq_some_iff.mp e
      obtain ⟨a, vs, rfl, hq, r⟩ := seqS w r1 e1
      obtain ⟨y, ey, ry⟩ := atI_rep r e2
      exact .now w ry fun Q q => hq.elim (fun z => .inl ⟨a, vs, i, y, rfl, rfl, z, ey, q⟩) fun z => .inr (.inl ⟨a, vs, i, y, rfl, rfl, z, ey, q⟩)
  cases r2 with
  | int i =>
    cases r1 with
    | str z =>
      simp only [oIx]
      split
      · rename_i hz
        cases ec : atI z.cps.toList i with
        | none => trivial
        | some c => exact .now w (.str _) fun Q q => .inr (.inr ⟨z, i, c, rfl, rfl, hz, ec, q⟩)
      · trivial
    | non => trivial
    | bl b => trivial
    | int i => trivial
    | ty n => trivial
    | err => trivial
    | cls => trivial
    | dE q => trivial
    | tup q r => exact seq i rfl
    | lst q r => exact seq i rfl
    | ro q r => exact seq i rfl
    | cell q => exact seq i rfl
  | _ => cases r1 <;> trivial
def cutD (xs : List D) (lo hi : Option Int) : List D := (xs.drop (HT.sIx xs.length 0 lo)).take (HT.sIx xs.length xs.length hi - HT.sIx xs.length 0 lo)
def oSlL (d : D) (lo hi : Option Int) : M D := fun S => match listOf S d with
  | some xs => .ok (.lst (cutD xs lo hi)) S
  | none => .stuck
def oSlT (d : D) (lo hi : Option Int) : M D := fun S => match d with
  | .tup xs => if ¬ (HT.sIx xs.length 0 lo = 0 ∧ HT.sIx xs.length xs.length hi = xs.length) then .ok (.tup (cutD xs lo hi)) S else .stuck
  | _ => .stuck
def oSlS (d : D) (lo hi : Option Int) : M D := fun S => match d with
  | .str z => if z.length ≤ sizeLine then .ok (.str (cutS z lo hi)) S else .stuck
  | _ => .stuck
theorem RepL.cut_ {K : PySem.W.Frag} {as : List Addr} {F : Hp} {ds : List D} {vs : List V} (r : RepL K as F vs ds) (lo hi : Option Int) : RepL K as F (cutV vs lo hi) (cutD ds lo hi) := by
  unfold cutV cutD
  rw [r.length]
  exact (r.drop _).take _
theorem act_slL {K : PySem.W.Frag} : ActS K (rSlL K) oSlL := by
  intro hd as S H v d lo hi w r
  unfold oSlL
  cases e : listOf S d with
  | none => trivial
  | some xs =>
    obtain ⟨a, vs, rfl, hq, r⟩ := seqL w r e
    exact .fresh w (fun p ep g => .lst ep ((r.cut_ lo hi).grow g)) fun Q q => ⟨a, vs, rfl, hq, q⟩
theorem act_slT {K : PySem.W.Frag} : ActS K (rSlT K) oSlT := by
  intro hd as S H v d lo hi w r
  unfold oSlT
  split
  · split
    · rename_i hn
      obtain ⟨a, vs, rfl, hq, r⟩ := seqT r
      exact .fresh w (fun p ep g => .tup (.inl (.inl ep)) ((r.cut_ lo hi).grow g)) fun Q q => ⟨a, vs, rfl, hq, by rw [r.length]; exact hn, q⟩
    · trivial
  · trivial
theorem act_slS {K : PySem.W.Frag} : ActS K rSlS oSlS := by
  intro hd as S H v d lo hi w r
  unfold oSlS
  split
  · split
    · rename_i hz
      cases r
      exact .now w (.str _) fun Q q => ⟨_, rfl, hz, q⟩
    · trivial
  · trivial
/-! ### list methods -/
def chkL (d : D) (S : Sto) : Bool := (listOf S d).isSome
theorem ty_list {K : PySem.W.Frag} : TyOk K "list" chkL := by
  intro hd as S H v d w r h
  obtain ⟨xs, e⟩ := Option.isSome_iff_exists.mp h
  obtain ⟨a, vs, rfl, hq, _⟩ := seqL w r e
  exact .inl ⟨rfl, vs, hq⟩
def mAppend : D → List D → M D
  | .cell n, [x] => fun S => match S[n]? with
    | some (some (.lst xs)) => if xs.length < sizeLine then .ok .non (S.set n (some (.lst (xs ++ [x])))) else .stuck
    | _ => .stuck
  | _, _ => fun _ => .stuck
theorem act_append {K : PySem.W.Frag} : ActM K rAppend mAppend := by
  intro hd as S H v vs d ds w r rs
  unfold mAppend
  split
  · rename_i n x
    split
    · rename_i xs e
      split
      · rename_i hz
        obtain ⟨u, rfl, ru⟩ := rep1 rs
        cases r with
        | cell q =>
          obtain ⟨a, ws, e1, e2, r⟩ := w.at_ n xs e
          rw [q] at e1; cases e1
          obtain ⟨w', g⟩ := w.write e q (r.append (.cons ru .nil))
          exact fun Q k => ⟨_, ws, u, rfl, rfl, e2, by rw [r.length]; exact hz, k _ _ _ g w' .non⟩
      · trivial
    · trivial
  · trivial
def mExtend : D → List D → M D
  | .cell n, [d] => fun S => match S[n]?, listOw S d with
    | some (some (.lst xs)), some ys => if xs.length + ys.length ≤ sizeLine then .ok .non (S.set n (some (.lst (xs ++ ys)))) else .stuck
    | _, _ => .stuck
  | _, _ => fun _ => .stuck
/-! ### more that is walked -/
section
variable {X : Cx} {W : WX} {tg e e2 : Expr} {me : EM} {mr : AM} {pos tpos p : Pos} {elts : List Expr} {kk : Nat}
theorem di_rng1 (hg : Gl X "range") (hm : X.mg "range" = none) (h : DA X W [e] mr) (hq : starEach [e] X.env = [(false, eval e X.env)] := by rfl) : DI X W tg (.Call (.Name "range" p) [e] [] pos) (imOfA mItR1 mr) := PI.le (pi_range1 hg hm h hq) fun σ H Rk ⟨hd, as, ρ, S, rel, po⟩ => tA_seq rel po fun as1 S1 H1 vs ds g1 rel1 r po1 => by
  unfold mItR1 at po1
  split at po1
  · rename_i j
    split at po1
    · rename_i hz
      obtain ⟨v, rfl, a⟩ := rep1 r
      cases a
      refine ⟨_, rfl, hz.1, hz.2, po1 as1 H1 .refl rel1 _ ?_⟩
      have := jok_rng (K := X.K) (hd := hd) (as := as1) (S := S1) (H := H1) (lo := 0) (n := j.toNat)
      simpa using this
    · exact po1.elim
  · exact po1.elim
theorem frozen_list {S : Sto} {d : D} {xs : List D} (h : frozenL d = some xs) : listOf S d = some xs := by
  cases d <;> first | exact h | cases h
theorem di_zip (hg : Gl X "zip") (hm : X.mg "zip" = none) (h : DA X W [e, e2] mr) (hq : starEach [e, e2] X.env = (false, eval e X.env) :: starEach [e2] X.env := by rfl) (hpl : (backTo pos (starEach [e2] X.env)).any (·.1) = false := by rfl) : DI X W (.Tuple elts kk tpos) (.Call (.Name "zip" p) [e, e2] [] pos) (imOfA mItZ mr) :=
  PI.le (pi_zip hg hm h hq hpl) fun σ H Rk ⟨hd, as, ρ, S, rel, po⟩ => tA_seq rel po fun as1 S1 H1 vs ds g1 rel1 r po1 => by
  unfold mItZ at po1
  split at po1
  · rename_i d e
    obtain ⟨v, u, rfl, ra, rb⟩ := rep2 r
    split at po1
    · rename_i xs ys e1 e2
      obtain ⟨a, vs, rfl, ha, _⟩ := seqL rel1.w ra (frozen_list e1)
      obtain ⟨b, us, rfl, hb, _⟩ := seqL rel1.w rb (frozen_list e2)
      exact ⟨a, b, vs, us, rfl, ha, hb, po1 as1 H1 .refl rel1 _ (jok_zip ra rb _ fun i S' _ _ _ _ _ o h => ⟨xs, ys, frozen_list e1, frozen_list e2, (Option.some.inj h).symm⟩)⟩
    · split at po1
      · rename_i xs ys e1 e2
        obtain ⟨a, vs, rfl, ha, _⟩ := seqL rel1.w ra e1
        obtain ⟨b, us, rfl, hb, _⟩ := seqL rel1.w rb e2
        refine ⟨a, b, vs, us, rfl, ha, hb, po1 as1 H1 .refl rel1 _ (jok_zip ra rb _ fun i S' _ _ _ _ _ o h => ?_)⟩
        simp only [itZ] at h
        split at h
        · rename_i xs' ys' e1' e2'
          exact ⟨xs', ys', e1', e2', (Option.some.inj h).symm⟩
        · cases h
      · exact po1.elim
  · exact po1.elim
theorem di_enum (hg : Gl X "enumerate") (hm : X.mg "enumerate" = none) (h : DA X W [e] mr) (hq : starEach [e] X.env = [(false, eval e X.env)] := by rfl) : DI X W (.Tuple elts kk tpos) (.Call (.Name "enumerate" p) [e] [] pos) (imOfA mItE mr) :=
  PI.le (pi_enum hg hm h hq) fun σ H Rk ⟨hd, as, ρ, S, rel, po⟩ => tA_seq rel po fun as1 S1 H1 vs ds g1 rel1 r po1 => by
  unfold mItE at po1
  split at po1
  · rename_i d
    obtain ⟨v, rfl, ra⟩ := rep1 r
    split at po1
    · rename_i xs e1
      obtain ⟨a, vs, rfl, ha, _⟩ := seqL rel1.w ra (frozen_list e1)
      exact ⟨a, vs, rfl, ha, po1 as1 H1 .refl rel1 _ (jok_enum ra _ fun i S' _ _ _ _ _ o h => ⟨xs, frozen_list e1, (Option.some.inj h).symm⟩)⟩
    · split at po1
      · rename_i xs e1
        obtain ⟨a, vs, rfl, ha, _⟩ := seqL rel1.w ra e1
        refine ⟨a, vs, rfl, ha, po1 as1 H1 .refl rel1 _ (jok_enum ra _ fun i S' _ _ _ _ _ o h => ?_)⟩
        simp only [itE] at h
        split at h
        · rename_i xs' e1'
          exact ⟨xs', e1', (Option.some.inj h).symm⟩
        · cases h
      · exact po1.elim
  · exact po1.elim
end
end
end DL

set_option Elab.async false
set_option linter.all false
set_option maxRecDepth 100000
/-! DL8: defs by their bodies, calls of defs. -/
namespace DL
open PySem PySem.Spec PyProof.Rows L2
noncomputable section

/-! ### what is left of the cells behind a call -/
def Cut (S : Sto) (d : D) (S' : Sto) : Prop := d.bel S.length = true ∧ ∀ (i : Nat) c, i < S.length → S'[i]? = some (some c) → S[i]? = some (some c) ∨ c.bel S.length = true
open Classical in
def trim (S : Sto) (d : D) (S' : Sto) : Sto := if Cut S d S' then S'.take S.length else S'
theorem trim_same {S : Sto} {d : D} {S' : Sto} (h : S'.length = S.length) : trim S d S' = S' := by
  unfold trim
  split
  · rw [← h, List.take_length]
  · rfl
theorem trim_cut {S : Sto} {d : D} {S' : Sto} (h : Cut S d S') : trim S d S' = S'.take S.length := if_pos h
section
variable {K : PySem.W.Frag} {hd : Hid} {as as' : List Addr} {S S' : Sto} {H H' : Hp} {v : V} {d : D}
theorem live_take {n : Nat} {b : Addr} (h : b ∈ live (as'.take n) (S'.take n)) : b ∈ live as' S' := by
  obtain ⟨i, c, h1, h2⟩ := mem_live.mp h
  have hi : i < n := by
    have := (List.getElem?_eq_some_iff.mp h1).1
    simp at this; omega
  rw [List.getElem?_take_of_lt hi] at h1 h2
  exact mem_live.mpr ⟨i, c, h1, h2⟩
theorem fz_take {n : Nat} : Same (fz hd as' S' H') (fz hd (as'.take n) (S'.take n) H') := fun b u e => fz_of (fz_same _ _ e) (fun z => fz_not e (live_take z)) (fz_nh e)
theorem Wld.trim (w0 : Wld K hd as S H) (g : Grow hd as S H as' S' H') (w : Wld K hd as' S' H') (r : Rep K as' (fz hd as' S' H') v d) :
    ∃ as2, Wld K hd as2 (DL.trim S d S') H' ∧ Grow hd as S H as2 (DL.trim S d S') H' ∧ Rep K as2 (fz hd as2 (DL.trim S d S') H') v d := by
  unfold DL.trim
  split
  · rename_i hc
    have hn : S.length ≤ S'.length := by
      rw [← w0.len, ← w.len]
      by_cases h0 : as.length = 0
      · omega
      · obtain ⟨a, ha⟩ : ∃ a, as[as.length - 1]? = some a := ⟨_, List.getElem?_eq_getElem (by omega)⟩
        have := (List.getElem?_eq_some_iff.mp (g.pre _ _ ha)).1
        omega
    refine ⟨as'.take S.length, ⟨by simp [w.len], fun i j a c c' h1 h2 h3 h4 => ?_, fun q hq => ⟨(w.hid q hq).1, fun z => (w.hid q hq).2 (live_take z)⟩, fun n xs e => ?_⟩, ⟨fun n a h => ?_, g.same.trans fz_take⟩, ?_⟩
    · have lt : ∀ {i : Nat} {a : Addr}, (as'.take S.length)[i]? = some a → i < S.length := fun {i a} h => by
        have := (List.getElem?_eq_some_iff.mp h).1
        simp at this; omega
      have l1 := lt h1
      have l2 := lt h2
      rw [List.getElem?_take_of_lt l1] at h1 h3
      rw [List.getElem?_take_of_lt l2] at h2 h4
      exact w.inj i j a c c' h1 h2 h3 h4
    · have hl : n < S.length := by
        have := (List.getElem?_eq_some_iff.mp e).1
        simp at this; omega
      rw [List.getElem?_take_of_lt hl] at e
      obtain ⟨a, vs, e1, e2, r⟩ := w.atC n xs e
      refine ⟨a, vs, by rw [List.getElem?_take_of_lt hl]; exact e1, e2, ?_⟩
      have hb : xs.bel S.length = true := by
        rcases hc.2 n _ hl e with h | h
        · obtain ⟨b, us, _, _, r0⟩ := w0.atC n xs h
          have := r0.bel_of
          rw [w0.len] at this; exact this
        · exact h
      exact (r.cut hb).mono (fun _ _ h => h) fz_take
    · have hl : n < S.length := by
        rw [← w0.len]; exact (List.getElem?_eq_some_iff.mp h).1
      rw [List.getElem?_take_of_lt hl]
      exact g.pre n a h
    · exact (r.cut hc.1).mono (fun _ _ h => h) fz_take
  · exact ⟨as', w, g, r⟩
end

/-! ### defs -/
abbrev FM := List D → M D
def endFn (S : Sto) : RS → R D
  | .ok .nx _ S' => .ok .non (trim S .non S')
  | .ok (.ret d) _ S' => .ok d (trim S d S')
  | .exc x _ S' => .exc x S'
  | _ => .stuck
/-- n slots, of these np parameters -/
def runFn (n np : Nat) (m : SD) : FM := fun ds S => if ds.length = np then endFn S (m (ds.map some ++ List.replicate (n - ds.length) none) S) else .stuck
def spM (K : PySem.W.Frag) (mg : Str → Option Value) (m : FM) : Sp := fun vs H Q E => ∃ hd as S ds, Wld K hd as S H ∧ RepL K as (fz hd as S H) vs ds ∧ (match m ds S with
  | .ok d S' => ∀ as' v H', Grow hd as S H as' S' H' → Wld K hd as' S' H' → Rep K as' (fz hd as' S' H') v d → Q v H'
  | .exc x S' => ∀ as' cls dd H', Grow hd as S H as' S' H' → Wld K hd as' S' H' → XRep K mg as' (fz hd as' S' H') x cls dd → E cls dd H'
  | .stuck => False)
/-- the def at f does to data what m does; no repr runs around it -/
structure FnG (P : Program) (w : World) (K : PySem.W.Frag) (mg : Str → Option Value) (base : Heap) (k : Nat) (f : Addr) (fd : FuncData) (ps : List Str) (m : FM) : Prop where
  ar : ∀ ds S, m ds S = .stuck ∨ ds.length = ps.length
  run : ∀ (A : Around) (outer : List PySem.Env) (s : Shared) (H : Hp) (args : Args) (us : List Value) (vs : List V) (Q : VK) (E : XK), Room k A → Qt A base → Env0 P w K mg base A outer s H → BindsTo s fd args (ps.zip us) → Vals vs us →
    spM K mg m vs H Q E → codeAny (model P w) A (.call (.ref f) args) (CR (L2.CX P w) outer P w H s Q E) s
theorem FnG.mono {P : Program} {w : World} {K : PySem.W.Frag} {mg : Str → Option Value} {base : Heap} {j k : Nat} {f : Addr} {fd : FuncData} {ps : List Str} {m : FM} (F : FnG P w K mg base j f fd ps m) (h : j ≤ k) : FnG P w K mg base k f fd ps m :=
  ⟨F.ar, fun A outer s H args us vs Q E hr => F.run A outer s H args us vs Q E (hr.mono h)⟩
abbrev WOf (E : XK) : WX := fun cls d _ H => E cls d H
theorem start_slots {K : PySem.W.Frag} {as : List Addr} {F : Hp} {N : List Str} {vs : List V} {ds : List D} (r : RepL K as F vs ds) : Slots K as F (L2.start N vs) (ds.map some ++ List.replicate (N.length - ds.length) none) := by
  unfold L2.start
  refine ⟨by simp [r.length], fun i d e => ?_⟩
  by_cases hi : i < ds.length
  · rw [List.getElem?_append_left (by simpa using hi), List.getElem?_map] at e
    obtain ⟨d', e1, e2⟩ := Option.map_eq_some_iff.mp e
    cases e2
    obtain ⟨v, ev, rv⟩ := r.get e1
    exact ⟨v, by rw [List.getElem?_append_left (by simp [r.length]; exact hi), List.getElem?_map, ev]; rfl, rv⟩
  · rw [List.getElem?_append_right (by simpa using Nat.le_of_not_lt hi), List.getElem?_replicate] at e
    split at e <;> cases e
section
variable {P : Program} {w : World} {K : PySem.W.Frag} {mg : Str → Option Value} {base : Heap}
/-- a def's body, walked -/
theorem Fun.okG {x qual : Str} {st : Stmt} {f : Addr} {fd : FuncData} {N ps : List Str} {k : Nat} {m : SD} (F : Fun K x qual st f fd) (Sc : FnScope N ps (defScope st))
    (hbody : ∀ (cdv : Value) (A : Around) (outer : List PySem.Env) (s : Shared) (H : Hp) (E : XK), Room k (A.deeper (envOfC qual (defScope st) s.heap.objs.size f cdv)) → Qt (A.deeper (envOfC qual (defScope st) s.heap.objs.size f cdv)) base →
      DSs (cxOf (L2.CX P w) P w K mg base N qual (defScope st) f cdv A outer s H E) (WOf E) (defBody st) m) : FnG P w K mg base (k + 1) f fd ps (runFn N.length ps.length m) := by
  obtain ⟨oc, od, kV, doc, pm, an, cdv, ct, osl, rfl, lk, hcd⟩ := F.ex
  refine ⟨fun ds S => ?_, fun A outer s H args us vs Q E hr hg e0 hb r hsp => ?_⟩
  · unfold runFn
    split
    · exact .inr (by assumption)
    · exact .inl rfl
  have hin : K.In s.heap := e0.mod.kin.keeps fun b o e => (e0.bs b o e).1
  have hnl : s.heap.NoLimit := e0.mod.nolimit.keeps fun b o e => (e0.bs b o e).1
  have kinds : ∀ y ∈ ps.zip us, (defScope st).names.lookup y.1 = some .local ∨ ((defScope st).names.lookup y.1 = some .cell ∧ ((cellsFrom (s.heap.objs.size + 1) (defScope st).names []).lookup y.1).isSome = true) := fun y hy =>
    (Sc.par y.1 (List.of_mem_zip hy).1).imp id fun q => ⟨q, PySem.W.cellsFrom_some _ _ _ (.inl q)⟩
  refine codeAny_call_function hr.depth (hin _ _ lk) rfl Sc.co Sc.gen rfl (PySem.W.codeRec_of hin hcd) (hb _ _ _ _ (wpAny_newFunctionEnv_cells Sc.kind kinds fun env he s1 ic => ?_))
  subst he
  refine ⟨hnl.keeps ic.toInCall.keep, codeAny_func ?_⟩
  have dl := hbody cdv A outer s H E (hr.deeper _) ⟨by simpa [Around.deeper] using hg.g, hg.s⟩
  obtain ⟨hd, as, S, ds, wl, rd, ms⟩ := hsp
  have hn : ds.length = ps.length := by
    by_cases hn : ds.length = ps.length
    · exact hn
    · unfold runFn at ms
      rw [if_neg hn] at ms; exact ms.elim
  have hl : vs.length = ps.length := by rw [rd.length]; exact hn
  have I : Inv (cxOf (L2.CX P w) P w K mg base N qual (defScope st) f cdv A outer s H E) [] (L2.start N vs) H s1 := inv_start Sc hr.hd e0 hl r ic
  have rel : REL K hd as (ds.map some ++ List.replicate (N.length - ds.length) none) S (L2.start N vs) H := ⟨wl, start_slots rd⟩
  have fin : ∀ {d : D} {S' : Sto}, (∀ as' v H', Grow hd as S H as' (trim S d S') H' → Wld K hd as' (trim S d S') H' → Rep K as' (fz hd as' (trim S d S') H') v d → Q v H') →
      ∀ as' v H', Grow hd as S H as' S' H' → Wld K hd as' S' H' → Rep K as' (fz hd as' S' H') v d → Q v H' := fun {d S'} h as' v H' g w' r' => by
    obtain ⟨as2, w2, g2, r2⟩ := wl.trim g w' r'
    exact h as2 v H' g2 w2 r2
  have run := dl.run [] s1 (L2.start N vs) H { nx := fun _ H' => Q .non H', rt := Q } I ⟨hd, as, _, S, rel, ?_⟩
  · refine wpAny_mono run (fun fl s' hs => ?_) fun e s' hs => hs
    cases fl with
    | ret u =>
      obtain ⟨v, σ', H', J, rv, q⟩ := hs
      exact ⟨v, H', J.os, J.bare, J.base, J.hok, rv, q⟩
    | next =>
      obtain ⟨σ', H', J, q⟩ := hs
      exact ⟨V.non, H', J.os, J.bare, J.base, J.hok, rfl, q⟩
    | brk => obtain ⟨_, _, _, q⟩ := hs; exact q.elim
    | cont => obtain ⟨_, _, _, q⟩ := hs; exact q.elim
  · unfold runFn at ms
    rw [if_pos hn] at ms
    cases em : m (ds.map some ++ List.replicate (N.length - ds.length) none) S with
    | ok fl ρ' S' =>
      rw [em] at ms
      cases fl with
      | nx => exact fun as' σ' H' g rel' => fin ms as' .non H' g rel'.w .non
      | ret d => exact fun as' v H' g w' r' => fin ms as' v H' g w' r'
      | brk => exact ms.elim
      | cnt => exact ms.elim
    | exc x ρ' S' =>
      rw [em] at ms
      exact fun as' cls dd σ' H' g rel' xr => ms as' cls dd H' g rel'.w xr
    | stuck => rw [em] at ms; exact ms.elim
end

/-! ### calls -/
section
variable {X : Cx} {W : WX} {k : Nat} {f : Addr} {fd : FuncData} {ps ks : List Str} {m : FM} {x : Str} {p pos : Pos} {e : Expr} {es : List Expr} {kws : List Keyword} {mr mk : AM}
/-- what a callee lets out is taken here -/
theorem takes_xe {pins : List (Addr × Obj)} {σ : L2.St} {H : Hp} {s s' : Shared} {E : XK} {u : Value} (tk : Takes X W) (I : Inv X pins σ H s) (hW : ∀ cls d H', E cls d H' → W cls d σ H') (c : L2.CX X.prog X.w X.stack H s E u s') : X.xe u s' := tk u s' (XE.of_call I hW c)
theorem run_fnG {pins : List (Addr × Obj)} {σ : L2.St} {H : Hp} {s : Shared} {Q : VK} {args : Args} {us : List Value} {vs : List V} {E : XK} (F : FnG X.prog X.w X.K X.mg X.base k f fd ps m) (hr : Room k X.A) (hg : Qt X.A X.base) (tk : Takes X W) (hb : BindsTo s fd args (ps.zip us))
    (I : Inv X pins σ H s) (r : Vals vs us) (hW : ∀ cls d H', E cls d H' → W cls d σ H') (h : spM X.K X.mg m vs H Q E) : wpAny (model X.prog X.w) X.A (call (.ref f) args.pos args.kw) (EP X pins σ Q) X.xe s := by
  refine wpAny_call (codeAny_mono (F.run X.A X.stack s H args us vs Q E hr hg I.env0 hb r h) fun rr s' hq => ?_)
  match rr, hq with
  | .error e, hq => exact takes_xe tk I hW hq
  | .ok (.ret u), hq => exact I.after hq
/-- from the reading of the arguments -/
theorem sp_of {hd : Hid} {as : List Addr} {S : Sto} {H : Hp} {ρ : Env} {σ : L2.St} {Q : VK} {vs : List V} {ds : List D} (rel : REL X.K hd as ρ S σ H) (r : RepL X.K as (fz hd as S H) vs ds) (po : Post X.K X.mg W σ ρ hd as S H (m ds S) fun d as' S' H' => ∀ v, Rep X.K as' (fz hd as' S' H') v d → Q v H') :
    spM X.K X.mg m vs H Q fun cls d H' => W cls d σ H' := by
  refine ⟨hd, as, S, ds, rel.w, r, ?_⟩
  cases em : m ds S with
  | ok d S' => rw [em] at po; exact fun as' v H' g w' r' => po as' H' g (rel.grow g w') v r'
  | exc z S' => rw [em] at po; exact fun as' cls dd H' g w' xr => po as' cls dd H' g (rel.grow g w') xr
  | stuck => rw [em] at po; exact po.elim
theorem sp_len (F : FnG X.prog X.w X.K X.mg X.base k f fd ps m) {vs : List V} {H : Hp} {Q : VK} {E : XK} (h : spM X.K X.mg m vs H Q E) : vs.length = ps.length := by
  obtain ⟨hd, as, S, ds, wl, rd, ms⟩ := h
  rcases F.ar ds S with e | e
  · rw [e] at ms; exact ms.elim
  · rw [rd.length]; exact e
/-- f(e, ..) -/
theorem de_call (F : FnG X.prog X.w X.K X.mg X.base k f fd ps m) (hr : Room k X.A) (hgd : Qt X.A X.base) (tk : Takes X W) (hg : Gl X x) (hm : X.mg x = some (.ref f)) (hk : PySem.W.keepIn X.K (.ref f) = true) (hb : Binds X.K fd ps []) (ha : DA X W (e :: es) mr)
    (hdb : (x == ("__debug__" : Str)) = false := by decide) (he : starEach (e :: es) X.env = (false, eval e X.env) :: starEach es X.env := by rfl) (hpl : (backTo pos (starEach es X.env)).any (·.1) = false := by rfl) : DE X W (.Call (.Name x p) (e :: es) [] pos) (eL m mr) :=
  ⟨fun pins s σ H Q I ⟨hd, as, ρ, S, rel, po⟩ => wpAny_Call_Name_kw (ld_glob I hg hm (PySem.W.callWith_K (h₀ := X.base) I.ok.mod.kin hk (thn (ha.run pos pins s σ H (fun vs H1 => spM X.K X.mg m vs H1 Q fun cls d H' => W cls d σ H') I
    (tA_seq rel po fun as1 S1 H1 vs ds g1 rel1 r1 po1 => sp_of rel1 r1 po1)) fun us s1 ⟨vs, H1, I1, r, q⟩ => ⟨I1.kIn, by
      have hl : (us ++ []).length = ps.length := by rw [List.append_nil, ← r.length]; exact sp_len F q
      exact run_fnG F hr hgd tk (args := ⟨us, []⟩) (us := us) (by simpa using hb s1 us I1.kIn hl) I1 r (fun _ _ _ z => z) q⟩) he hpl) hdb)⟩
/-- f() -/
theorem de_call0 (F : FnG X.prog X.w X.K X.mg X.base k f fd ps m) (hr : Room k X.A) (hgd : Qt X.A X.base) (tk : Takes X W) (hg : Gl X x) (hm : X.mg x = some (.ref f)) (hk : PySem.W.keepIn X.K (.ref f) = true) (hb : Binds X.K fd ps [])
    (hdb : (x == ("__debug__" : Str)) = false := by decide) : DE X W (.Call (.Name x p) [] [] pos) (eL m aNil) :=
  ⟨fun pins s σ H Q I ⟨hd, as, ρ, S, rel, po⟩ => wpAny_Call_Name_kw (ld_glob I hg hm (PySem.W.callWith_K0 I.kIn hk (by
      have q : spM X.K X.mg m [] H Q fun cls d H' => W cls d σ H' := sp_of rel .nil po
      have hl : ([] ++ [] : List Value).length = ps.length := by have := sp_len F q; simpa using this
      exact run_fnG F hr hgd tk (args := ⟨[], []⟩) (us := []) (by simpa using hb s [] I.kIn hl) I .nil (fun _ _ _ z => z) q)) hdb)⟩
/-! keywords -/
abbrev DK (X : Cx) (W : WX) (kws : List Keyword) (m : AM) : Prop := PK X kws (tA X.K X.mg W m)
theorem PK.le {t t' : TA} (h : PK X kws t) (k : ∀ σ H Q, t' σ H Q → t σ H Q) : PK X kws t' := ⟨fun p pins s σ H Q I q => h.run p pins s σ H Q I (k σ H Q q)⟩
/-- positional values and keywords' values in the parameters' order -/
def eK (m : FM) (g : List D → List D → List D) (a b : AM) : EM := fun ρ => M.bind (a ρ) fun ds => M.bind (b ρ) fun es => m (g ds es)
/-- the order, for values of any kind: as the places tell -/
def byIx {α : Type} (ix : List Nat) (us ws : List α) : List α := ix.filterMap fun i => (us ++ ws)[i]?
/-- how a call with keywords binds -/
def KB (K : PySem.W.Frag) (fd : FuncData) (ps : List Str) (n : Nat) (ks : List Str) (ix : List Nat) : Prop := ∀ (s : Shared) (us ws : List Value), K.In s.heap → us.length = n → ws.length = ks.length → BindsTo s fd ⟨us, ks.zip ws⟩ (ps.zip (byIx ix us ws))
end
end
end DL

set_option Elab.async false
set_option linter.all false
set_option maxRecDepth 100000
/-! DL9: the law's own call: from what m tells of the script to the row's claim. -/
namespace DL
open PySem PySem.Spec PyProof.Rows L2
noncomputable section

theorem rep_ints {K : PySem.W.Frag} {as : List Addr} {F : Hp} : ∀ ns : List Int, RepL K as F (ns.map V.int) (ns.map D.int)
  | [] => .nil
  | n :: ns => .cons (.int n) (rep_ints ns)
section
variable {P : Program} {w : World} {K : PySem.W.Frag} {mg mb : Str → Option Value} {k : Nat} {fa a : Addr} {fd : FuncData} {x : Str} {m : FM} {s₁ : Shared} {vs : List Value} {ns : List Int}
/-- the heap behind the top, less what is tracked -/
theorem law_core (KX : K.In s₁.heap) (hns : s₁.heap.Ns mainGlobals mg) (hb : s₁.heap.Ns builtinsNs mb) (hbb : ∀ x : Str, x ≠ "__name__" → mb x = bootBuiltins x) (hlim : s₁.heap.NoLimit) (hsm : ∃ mm, s₁.heap.Ns sysModules mm) (hg : s₁.gens = #[])
    (ha : s₁.heap.get? a = some { cls := .type "list", data := .seq vs.toArray }) (hr : Room k callerA) (F : ∀ base : Heap, K.In base → base.Ns mainGlobals mg → FnG P w K mg base k fa fd [x] m) (hbind : ∀ (s : Shared) (u : Value), BindsTo s fd ⟨[u], []⟩ [(x, u)])
    {S' : Sto} (hm : m [.ro (ns.map D.int)] [] = .ok (.bl true) S') {H : Hp} (hS : SqL K H a (ns.map V.int)) (hok : HOk P w H s₁.heap) (hO : ∀ b u, H b = some u → b = a ∧ K.lookup a = none ∧ ∃ o xs, u = .frz o (.lst xs)) :
    codeAny (model P w) callerA (.call (.ref fa) ⟨[.ref a], []⟩) (fun r s' => r = .ok (.ret (.bool true)) ∧ OldK s₁.heap s'.heap ∧ s'.os = s₁.os ∧ AllBare s'.gens) s₁ := by
  have out : ∀ {b : Addr}, b ≠ a ∨ K.lookup a ≠ none → H b = none := fun {b} h => by
    cases q : H b with
    | none => rfl
    | some u => exact absurd (hO b u q) fun z => h.elim (fun n => n z.1) fun n => n z.2.1
  have seen : ∀ {b : Addr} {o : Obj}, s₁.heap.get? b = some o → b ≠ a ∨ K.lookup a ≠ none → (hidT s₁.heap H).get? b = some o := fun e h => hidT_get e (out h)
  have dict_ne : ∀ {b : Addr} {o : Obj} {es : Array DictEntry} {ep : Nat}, s₁.heap.get? b = some o → o.data = .dict es ep → b ≠ a := fun {b o es ep} e d z => by
    subst z
    rw [ha] at e
    cases e
    exact nomatch (show Data.seq vs.toArray _ = Data.dict es ep from d)
  have ns_seen : ∀ {b : Addr} {g : Str → Option Value}, s₁.heap.Ns b g → (hidT s₁.heap H).Ns b g := fun {b g} ⟨o, es, ep, e, d, r⟩ => ⟨o, es, ep, seen e (.inl (dict_ne e d)), d, r⟩
  have k_seen : K.In (hidT s₁.heap H) := fun b o e => seen (KX b o e) (by
    by_cases hb : b = a
    · subst hb; exact .inr (by rw [e]; simp)
    · exact .inl hb)
  have md : Mod K mg (hidT s₁.heap H) := ⟨k_seen, ns_seen hns, ⟨mb, ns_seen hb, hbb⟩, hlim.elim fun mc h => ⟨mc, ns_seen h.1, h.2⟩⟩
  have no : ∀ b : Addr, b ∉ frs ([] : List PySem.Env) := fun b hb => by simp [frs] at hb
  have e0 : Env0 P w K mg (hidT s₁.heap H) callerA [] s₁ H := ⟨rfl, md, fun b o e => of_hidT e, by rw [hidT_size]; exact Nat.le_refl _, trivial, fun b hb => (no b hb).elim, hok, .of_eq hg⟩
  have fz0 : fz [] [] [] H = H := by
    funext b
    unfold fz
    rw [if_neg (by simp [live])]
  have sp : spM K mg m [.ref a] H (fun v _ => v = .bl true) fun _ _ _ => False := by
    refine ⟨[], [], [], [.ro (ns.map D.int)], ⟨rfl, fun i j a c c' h => by simp at h, fun p hp => by simp at hp, fun n xs h => by simp at h⟩, .cons (.ro (by rw [fz0]; exact hS) (rep_ints ns)) .nil, ?_⟩
    rw [hm]
    intro as' v H' g w' r
    cases r; rfl
  refine codeAny_mono ((F _ k_seen (ns_seen hns)).run callerA [] s₁ H ⟨[.ref a], []⟩ [.ref a] [.ref a] _ _ hr ⟨rfl, hsm.elim fun mm h => ⟨mm, ns_seen h⟩⟩ e0 (hbind s₁ (.ref a)) (.cons rfl .nil) sp) fun r s' h => ?_
  match r, h with
  | .error e, h => obtain ⟨_, _, _, _, _, _, _, _, _, _, _, _, h⟩ := h; exact h.elim
  | .ok (.ret u), h =>
    obtain ⟨v, H', os, bare, un, hok', r', q⟩ := h
    cases (show v = .bl true from q)
    cases (show u = Value.bool true from r')
    refine ⟨rfl, OldK.of_keep fun b o e => ?_, os, bare⟩
    cases q : H b with
    | none => exact un.keep b o e q (no b) (by simp)
    | some u =>
      obtain ⟨_, _, o', xs, rfl⟩ := hO b u q
      obtain ⟨e1, _⟩ := hok b _ q
      obtain ⟨e2, _⟩ := hok' b _ (un.frzs b o' _ q)
      rw [e] at e1
      cases e1
      exact e2
theorem law_callG (KX : K.In s₁.heap) (hns : s₁.heap.Ns mainGlobals mg) (hb : s₁.heap.Ns builtinsNs mb) (hbb : ∀ x : Str, x ≠ "__name__" → mb x = bootBuiltins x) (hlim : s₁.heap.NoLimit) (hsm : ∃ mm, s₁.heap.Ns sysModules mm) (hg : s₁.gens = #[])
    (ha : s₁.heap.get? a = some { cls := .type "list", data := .seq vs.toArray }) (hi : IntsAre vs ns) (hl : ns.length ≤ sizeLine) (hr : Room k callerA) (F : ∀ base : Heap, K.In base → base.Ns mainGlobals mg → FnG P w K mg base k fa fd [x] m)
    (hbind : ∀ (s : Shared) (u : Value), BindsTo s fd ⟨[u], []⟩ [(x, u)]) {S' : Sto} (hm : m [.ro (ns.map D.int)] [] = .ok (.bl true) S') :
    codeAny (model P w) callerA (.call (.ref fa) ⟨[.ref a], []⟩) (fun r s' => r = .ok (.ret (.bool true)) ∧ OldK s₁.heap s'.heap ∧ s'.os = s₁.os ∧ AllBare s'.gens) s₁ := by
  have rv := vals_ints hi
  have lv := hi.length
  cases hk : K.lookup a with
  | some o =>
    have e := KX a o hk
    rw [ha] at e
    cases e
    exact law_core KX hns hb hbb hlim hsm hg ha hr F hbind hm (H := fun _ => none) (.inr ⟨_, vs.toArray, _, hk, rfl, rfl, rfl, by rw [List.size_toArray, lv]; exact hl, by simpa using rv⟩) (fun b u z => nomatch (show (none : Option HO) = some u from z)) fun b u z => nomatch (show (none : Option HO) = some u from z)
  | none =>
    refine law_core KX hns hb hbb hlim hsm hg ha hr F hbind hm (H := fun b => if b = a then some (.frz { cls := .type "list", data := .seq vs.toArray } (.lst (ns.map V.int))) else none) (.inl (.inr ⟨{ cls := .type "list", data := .seq vs.toArray }, if_pos rfl⟩)) (fun b u z => ?_) fun b u z => ?_
    all_goals
      by_cases hb : b = a
      · subst hb
        cases (if_pos rfl).symm.trans z
        first
          | exact ⟨ha, by rw [List.length_map]; exact hl, vs, _, rv, ha⟩
          | exact ⟨rfl, hk, _, _, rfl⟩
      · exact nomatch (if_neg hb).symm.trans z
end
/-- the goal that k_head leaves, from what m tells of every script -/
theorem walk_ofG {l : PySem.W.OpenLaw} {n k : Nat} {q : Program} {loose : List Str} {XP : (Str → Option Value) → Heap → Prop} {YP : World → Heap → Prop} {d : DefRec} {K : Params → PySem.W.Frag} {m : FM} {x : Str}
    (hi : importsNone q = true) (hn : l.most = some n) (hn2 : n ≤ sizeLine) (hdf : d.params.defaults = []) (hr : Room k callerA) (hY : ∀ (w : World) (h : Heap), YP w h → (K w.params).In h)
    (F : ∀ (w : World) (mg : Str → Option Value) (fa : Addr) (h : Heap), (K w.params).In h → h.Ns mainGlobals mg → mg d.name = some (.ref fa) →
      ∃ fd : FuncData, (∀ (s : Shared) (u : Value), BindsTo s fd ⟨[u], []⟩ [(x, u)]) ∧ ∀ base : Heap, (K w.params).In base → base.Ns mainGlobals mg → FnG l.prog w (K w.params) mg base k fa fd [x] m)
    (hm : ∀ ns : List Int, ns.length ≤ n → ∃ S', m [.ro (ns.map D.int)] [] = .ok (.bl true) S') : PySem.W.WalkO q loose XP YP l.row.toRowW d [] (fun f vs => PySem.call f vs) :=
  Att.attach_call hn hdf fun w s₀ s₁ mg mb fa o pm cd doc a vs ns G Y ho hd hcd hmg hobj hints hlen hg => by
    obtain ⟨fd, hb, hF⟩ := F w mg fa _ (hY w _ Y) G.T.g hmg
    obtain ⟨S', e⟩ := hm ns hlen
    exact law_callG (hY w _ Y) G.T.g G.T.b G.T.builtins G.T.nolimit ((G.T.seer hi).mods.elim fun mm h => ⟨mm, h.1⟩) hg hobj hints (Nat.le_trans hlen hn2) hr hF hb e
end
end DL

set_option Elab.async false
set_option linter.all false
set_option maxRecDepth 100000
/-! DLH: a def of the text with what m it does; calls of such; more slices. -/
namespace DL
open PySem PySem.Spec PyProof.Rows L2
noncomputable section
/-- the def stands at the top of the module -/
structure DefAt (K : PySem.W.Frag) (mg : Str → Option Value) (x : Str) (st : Stmt) (ps : List Str) : Prop where
  ex : ∃ f fd, Fun K x x st f fd ∧ mg x = some (.ref f) ∧ Binds K fd ps []
structure Has (P : Program) (w : World) (K : PySem.W.Frag) (mg : Str → Option Value) (base : Heap) (k : Nat) (x : Str) (st : Stmt) (ps : List Str) (m : FM) : Prop where
  ex : ∃ f fd, FnG P w K mg base k f fd ps m ∧ mg x = some (.ref f) ∧ Fun K x x st f fd ∧ Binds K fd ps []
theorem has_of {P : Program} {w : World} {K : PySem.W.Frag} {mg : Str → Option Value} {base : Heap} {k : Nat} {x : Str} {st : Stmt} {N ps : List Str} {m : SD} (h : DefAt K mg x st ps) (Sc : FnScope N ps (defScope st))
    (hbody : ∀ (f : Addr) (cdv : Value) (A : Around) (outer : List PySem.Env) (s : Shared) (H : Hp) (E : XK), Room k (A.deeper (envOfC x (defScope st) s.heap.objs.size f cdv)) → Qt (A.deeper (envOfC x (defScope st) s.heap.objs.size f cdv)) base →
      DSs (cxOf (L2.CX P w) P w K mg base N x (defScope st) f cdv A outer s H E) (WOf E) (defBody st) m) : Has P w K mg base (k + 1) x st ps (runFn N.length ps.length m) := by
  obtain ⟨f, fd, F, hm, hb⟩ := h.ex
  exact ⟨f, fd, Fun.okG F Sc (hbody f), hm, F, hb⟩
section
variable {X : Cx} {W : WX} {j k n : Nat} {ps ks : List Str} {m : FM} {x : Str} {st : Stmt} {p pos : Pos} {e : Expr} {es : List Expr} {kws : List Keyword} {mr mk : AM} {ix : List Nat}
theorem de_fn (h : Has X.prog X.w X.K X.mg X.base k x st ps m) (hr : Room j X.A) (hj : k ≤ j) (hgd : Qt X.A X.base) (tk : Takes X W) (hg : Gl X x) (ha : DA X W (e :: es) mr)
    (hdb : (x == ("__debug__" : Str)) = false := by decide) (he : starEach (e :: es) X.env = (false, eval e X.env) :: starEach es X.env := by rfl) (hpl : (backTo pos (starEach es X.env)).any (·.1) = false := by rfl) : DE X W (.Call (.Name x p) (e :: es) [] pos) (eL m mr) := by
  obtain ⟨f, fd, F, hm, Fu, hb⟩ := h.ex
  exact de_call F (hr.mono hj) hgd tk hg hm Fu.kp hb ha hdb he hpl
/-- what the text's own binding of such a call is -/
abbrev KwOk (x : Str) (st : Stmt) (ps : List Str) (n : Nat) (ks : List Str) (ix : List Nat) : Prop := ∀ (kV doc pm : Value) (an : Option Addr) (cdv ct : Value) (us ws : List Value), us.length = n → ws.length = ks.length →
  bindArgs (PySem.W.fnOf x x (defArgs st) (defBody st) (defScope st) .none kV doc pm an cdv ct) ⟨us, ks.zip ws⟩ = pure (ps.zip (byIx ix us ws))
/-- a built-in class as a value -/
theorem de_ty {T : String} (hg : Gl X x) (hm : X.mg x = none) (hv : bootBuiltins x = some (.type T)) (hn : x ≠ "__name__" := by decide) (hd : (x == ("__debug__" : Str)) = false := by decide) : DE X W (.Name x pos) (eC (.ty T)) := PE.const (pe_bltn hg hm hv (show RelV (.ty T) _ from rfl) hn hd) fun _ _ => .ty T
end
theorem takes_no {X : Cx} : Takes X WNo := takes_none5
/-! slices of any kind -/
def oSl (d : D) (lo hi : Option Int) : M D := match d with
  | .tup xs => oSlT (.tup xs) lo hi
  | .str z => oSlS (.str z) lo hi
  | d => oSlL d lo hi
def rSlA (K : PySem.W.Frag) : V → Option Int → Option Int → Hp → VK → Prop := fun x lo hi H Q => rSlL K x lo hi H Q ∨ (rSlT K x lo hi H Q ∨ rSlS x lo hi H Q)
theorem slr_all {X : Cx} : SlR X (rSlA X.K) := sl_list.or (sl_tup.or sl_str)
theorem act_sl {K : PySem.W.Frag} : ActS K (rSlA K) oSl := by
  intro hd as S H v d lo hi w r
  have l : Ret K hd as S H (oSlL d lo hi S) (rSlA K v lo hi H) := (act_slL hd as S H v d lo hi w r).map fun Q q => .inl q
  cases d with
  | tup xs => exact (act_slT hd as S H v _ lo hi w r).map fun Q q => .inr (.inl q)
  | str z => exact (act_slS hd as S H v _ lo hi w r).map fun Q q => .inr (.inr q)
  | _ => exact l
/-- a test by truth -/
def truD (S : Sto) : D → Option Bool
  | .non => some false
  | .bl b => some b
  | .int i => some (i != 0)
  | .str z => if z.length ≤ sizeLine then some ((z.length : Int) != 0) else none
  | d => (seqOf S d).map fun xs => !xs.isEmpty
def bTru (a : EM) : BM := fun ρ => M.bind (a ρ) fun d S => match truD S d with
  | some b => .ok b S
  | none => .stuck
/-! comparisons as tests -/
section
variable {X : Cx} {W : WX} {a b c : Expr} {ma mb mc : EM} {pos : Pos}
theorem test_of {K : PySem.W.Frag} {mg : Str → Option Value} {W : WX} {me : EM} {hd : Hid} {as : List Addr} {ρ : DL.Env} {S : Sto} {σ : L2.St} {H : Hp} {Q : Bool → Hp → Prop} (rel : REL K hd as ρ S σ H) (po : Post K mg W σ ρ hd as S H (bVal me ρ S) fun b _ _ H' => Q b H') :
    Post K mg W σ ρ hd as S H (me ρ S) fun d as' S' H' => ∀ v, Rep K as' (fz hd as' S' H') v d → ∃ k, v = .bl k ∧ Q k H' := by
  unfold bVal at po
  refine (Post.bind po).imp fun d as1 S1 H1 g rel1 po1 v r => ?_
  rcases mBool_bl r (S := S1) with z | ⟨b, rfl, rfl⟩
  · rw [z] at po1; exact po1.elim
  · exact ⟨b, rfl, po1 as1 H1 .refl rel1⟩
theorem dt_cmp {op : CmpOp} {r : R2} {f : D → D → M D} (ho : OpR X (compareOp op) r) (act : Act2 X.K r f) (ha : DE X W a ma) (hb : DE X W b mb) (hm : behindInMarks op b = false) : DT X W (.Compare a [op] [b] pos) (bVal (e2 f ma mb)) :=
  PT.le (pt_cmpR ho ha hb hm) fun σ H Q ⟨hd, as, ρ, S, rel, po⟩ => tE_seq rel (test_of rel po) fun as1 S1 H1 v1 d1 g1 rel1 r1 po1 => tE_seq rel1 po1 fun as2 S2 H2 v2 d2 g2 rel2 r2 po2 =>
    (act hd as2 S2 H2 v1 v2 d1 d2 rel2.w (r1.grow g2) r2).out (Q := fun z H' => ∃ k, z = V.bl k ∧ Q k H') rel2 po2
theorem dt_chain {op op' : CmpOp} {r r' : R2} {f g : D → D → M D} (ho : OpR X (compareOp op) r) (ho' : OpR X (compareOp op') r') (act : Act2 X.K r f) (act' : Act2 X.K r' g) (ha : DE X W a ma) (hb : DE X W b mb) (hc : DE X W c mc) (hl : lastMarks [op, op'] [b, c] = false := by with_unfolding_all rfl) :
    DT X W (.Compare a [op, op'] [b, c] pos) (bVal (eChain f g ma mb mc)) :=
  PT.le (pt_chain ho ho' ha hb hc hl) fun σ H Q ⟨hd, as, ρ, S, rel, po⟩ => tE_seq rel (test_of rel po) fun as1 S1 H1 v1 d1 g1 rel1 r1 po1 => tE_seq rel1 po1 fun as2 S2 H2 v2 d2 g2 rel2 r2 po2 =>
    tR_seq (act hd as2 S2 H2 v1 v2 d1 d2 rel2.w (r1.grow g2) r2) rel2 po2 fun as3 S3 H3 v3 d3 g3 rel3 r3 po3 => by
      rcases mBool_bl r3 (S := S3) with z | ⟨b, rfl, rfl⟩
      · rw [bind_ap, z] at po3; exact po3.elim
      · refine ⟨b, rfl, ?_⟩
        cases b with
        | true => exact iteT (tE_seq rel3 po3 fun as4 S4 H4 v4 d4 g4 rel4 r4 po4 => (act' hd as4 S4 H4 v2 v4 d2 d4 rel4.w ((r2.grow g3).grow g4) r4).out (Q := fun z H' => ∃ k, z = V.bl k ∧ Q k H') rel4 po4)
        | false => exact iteF (po3 as3 H3 .refl rel3 _ (.bl false))
end
/-! ### sums and products of lists that are changed later -/
def oAddC : D → D → M D := fun d e S => match listOw S d, listOw S e with
  | some xs, some ys => if xs.length + ys.length ≤ sizeLine then .ok (.cell S.length) (S ++ [some (.lst (xs ++ ys))]) else .stuck
  | _, _ => .stuck
theorem act_addC {K : PySem.W.Frag} : Act2 K (rAddA K) oAddC := by
  intro hd as S H v u d e w r1 r2
  unfold oAddC
  cases e1 : listOw S d with
  | none => trivial
  | some xs =>
    cases e2 : listOw S e with
    | none => trivial
    | some ys =>
      dsimp only
      split
      · rename_i hz
        obtain ⟨a, vs, rfl, ha, ra⟩ := seqO w r1 e1
        obtain ⟨b, us, rfl, hb, rb⟩ := seqO w r2 e2
        exact fun Q q => .inr (.inr (.inl ⟨a, b, vs, us, rfl, rfl, ha, hb, by rw [ra.length, rb.length]; exact hz, fun p hp => by
          obtain ⟨w', g, ee⟩ := w.newCell hp (ra.append rb)
          exact q _ _ _ g w' (.cell ee)⟩))
      · trivial
def oMulC : D → D → M D := fun d e S => match listOw S d, e with
  | some xs, .int k => if -(2 ^ 63) ≤ k ∧ k < 2 ^ 63 ∧ xs.length * k.toNat ≤ sizeLine then .ok (.cell S.length) (S ++ [some (.lst (List.replicate k.toNat xs).flatten)]) else .stuck
  | _, _ => .stuck
theorem act_mulC {K : PySem.W.Frag} : Act2 K rMulA oMulC := by
  intro hd as S H v u d e w r1 r2
  unfold oMulC
  cases e1 : listOw S d with
  | none => trivial
  | some xs =>
    cases r2 with
    | int k =>
      dsimp only
      split
      · rename_i hz
        obtain ⟨h1, h2, h3⟩ := hz
        obtain ⟨a, vs, rfl, ha, ra⟩ := seqO w r1 e1
        exact fun Q q => .inr ⟨a, k, vs, rfl, rfl, ha, h1, h2, by rw [ra.length]; exact h3, fun p hp => by
          obtain ⟨w', g, ee⟩ := w.newCell hp (ra.rep k.toNat)
          exact q _ _ _ g w' (.cell ee)⟩
      · trivial
    | _ => trivial
/-! ### a comprehension in a comprehension -/
theorem relab {env : PySem.Env} : ∀ {names : List (Str × NameKind)} {x : Str}, (names.lookup x = some .cell ∨ names.lookup x = some .free) →
    ((names.map fun (n, k) => if (k == NameKind.free && env.scope.kind == .function && env.kindOf n == some .cell) then (n, NameKind.cell) else (n, k)).lookup x = some .cell ∨
    (names.map fun (n, k) => if (k == NameKind.free && env.scope.kind == .function && env.kindOf n == some .cell) then (n, NameKind.cell) else (n, k)).lookup x = some .free)
  | [], _, h => by simp at h
  | (n, k) :: r, x, h => by
    have ih := @relab env r x
    show List.lookup x ((if (k == NameKind.free && env.scope.kind == .function && env.kindOf n == some .cell) = true then (n, NameKind.cell) else (n, k)) :: _) = _ ∨ List.lookup x ((if (k == NameKind.free && env.scope.kind == .function && env.kindOf n == some .cell) = true then (n, NameKind.cell) else (n, k)) :: _) = _
    cases hx : x == n with
    | true =>
      simp only [List.lookup_cons, hx] at h
      by_cases hc : (k == NameKind.free && env.scope.kind == .function && env.kindOf n == some .cell) = true
      · rw [if_pos hc]; simp [List.lookup_cons, hx]
      · rw [if_neg hc]; simpa [List.lookup_cons, hx] using h
    | false =>
      simp only [List.lookup_cons, hx] at h
      by_cases hc : (k == NameKind.free && env.scope.kind == .function && env.kindOf n == some .cell) = true
      · rw [if_pos hc]; simp only [List.lookup_cons, hx]; exact ih h
      · rw [if_neg hc]; simp only [List.lookup_cons, hx]; exact ih h
theorem blkOk_in {N : List Str} {sc scope : Scope} {own : List (Str × Nat)} {cl : List (Str × Addr)} {C : Addr} {env : PySem.Env} (h : blkC N sc scope own = true) : BlkOk N (compEnvC sc cl C env).scope scope own := by
  obtain ⟨h1, h2, h3, h4, h5⟩ := blkOk_by h
  exact ⟨h1, h2, h3, fun y hy e => relab (h4 y hy e), h5⟩
end
end DL

set_option Elab.async false
set_option linter.all false
set_option maxRecDepth 100000
/-! DLS: first, *others = a list. -/
namespace DL
open PySem PySem.Spec PyProof.Rows L2
noncomputable section
section
variable {prog : Program} {w : World} {A : Around} {E : Value → Shared → Prop} {s : Shared}
end
/-- x, *y = a list -/
def gStar (K : PySem.W.Frag) (i j : Nat) : TG := fun v σ H Q => ∃ a x xs, v = .ref a ∧ SqL K H a (x :: xs) ∧ xs.length < 16000 ∧ ∀ p, H p = none → Q ((σ.set i (some x)).set j (some (.ref p))) (upd H p (.lst xs))
section
variable {X : Cx} {pos : Pos}
end
/-- the data -/
def sStar (i j : Nat) (m : EM) : SD := fun ρ S => (m ρ S).to ρ fun d S' => match listOf S' d with
  | some (x :: xs) => if xs.length < 16000 then .ok .nx ((ρ.set i (some x)).set j (some (.lst xs))) S' else .stuck
  | _ => .stuck
section
variable {X : Cx} {W : WX} {e : Expr} {me : EM} {pos tpos p1 p2 sp : Pos} {x y : Str} {i j k : Nat}
end
/-! ### a slot's list is changed no more -/
def frzSlot (i : Nat) : RS → RS
  | .ok .nx ρ S => match ρ[i]? with
    | some (some (.cell n)) => match S[n]? with
      | some (some (.lst xs)) => .ok .nx (ρ.set i (some (.lst xs))) (S.set n none)
      | _ => .stuck
    | _ => .stuck
  | r => r
def sThenFrz (i : Nat) (m : SD) : SD := fun ρ S => frzSlot i (m ρ S)
end
end DL

set_option Elab.async false
set_option linter.all false
set_option maxRecDepth 100000
set_option maxHeartbeats 2000000
/-! DX: errors as data: raised, caught, kept, asked. -/
namespace DL
open PySem PySem.Spec PyProof.Rows L2
/-! ### a caught error is kept -/
theorem erO_at {P : Program} {w : World} {H : Hp} {h : Heap} {a : Addr} {cls : Value} {d : Option Addr} (hok : HOk P w H h) (he : H a = some (ErO cls d a)) : ∃ (oe : Obj) (vs : Array Value), h.get? a = some oe ∧ Zc cls d oe ∧ oe.data = .fields vs := by
  have x : ObjOk P w H h a (.ext fun h => ∃ (oe : Obj) (vs : Array Value), h.get? a = some oe ∧ Zc cls d oe ∧ oe.data = .fields vs) := hok a _ he
  exact x.1
section
variable {X : Cx} {pins : List (Addr × Obj)} {σ : L2.St} {H : Hp} {s : Shared}
end
/-- what the clause 'except x as n' wishes of an error of the body: slot i is n's; the error is kept -/
def wKeep (K : PySem.W.Frag) (c : Value) (i : Nat) (ts : TS) (Wout : WX) (D : Ends) : WX := fun cls d σ H =>
  ∃ b, PySem.W.exmOne K cls c = some b ∧ (b = true → ∀ a, H a = none → ts { nx := fun σ' H' => D.nx (σ'.set i none) H', rt := D.rt, bk := fun σ' H' => D.bk (σ'.set i none) H', ct := fun σ' H' => D.ct (σ'.set i none) H' } (σ.set i (some (.ref a))) (upd H a (ErO cls d a))) ∧
    (b = false → Wout cls d σ H)
section
variable {X : Cx} {x n : Str} {c : Value} {i : Nat} {body suite : List Stmt} {b₀ : Stmt} {np pos pos' : Pos} {tb : WX → TS} {ts : TS} {Wout : WX}
end
end DL

set_option Elab.async false
set_option linter.all false
set_option maxRecDepth 100000
set_option maxHeartbeats 2000000
/-! DX2: errors, as the text's statements do to data. -/
namespace DL
open PySem PySem.Spec PyProof.Rows L2
/-! ### try .. except X as n -/
def goneS (i : Nat) : RS → RS
  | .ok f ρ S => .ok f (ρ.set i none) S
  | _ => .stuck
def sTryAs (tbl : Str → Option Bool) (i : Nat) (b h : SD) : SD := fun ρ S => match b ρ S with
  | .exc x ρ1 S1 => match tbl x.name with
    | some true => goneS i (h (ρ1.set i (some (.err x.name x.ks x.vs))) S1)
    | some false => .exc x ρ1 S1
    | none => .stuck
  | r => r
def TblX (K : PySem.W.Frag) (c : Value) (tbl : Str → Option Bool) : Prop := ∀ n b, tbl n = some b → ∀ cls, ClsK K n cls → PySem.W.exmOne K cls c = some b
theorem Slots.put {K : PySem.W.Frag} {as : List Addr} {F : Hp} {σ : L2.St} {ρ : Env} {v : V} {d : D} (h : Slots K as F σ ρ) (i : Nat) (r : Rep K as F v d) : Slots K as F (σ.set i (some v)) (ρ.set i (some d)) := h.set r i
section
variable {X : Cx} {W : WX} {x n : Str} {c : Value} {i : Nat} {body suite : List Stmt} {b₀ : Stmt} {np pos pos' : Pos} {mb mh : SD} {tbl : Str → Option Bool}
end
/-! ### the text's classes -/
/-! ### isinstance of an error -/
def ErIs (H : Hp) (a C : Addr) (d : Option Addr) : Prop := H a = some (ErO (.ref C) d a) ∧ (d = none ∨ ∃ dd fs, d = some dd ∧ H dd = some (.xd fs))
theorem erIs_inst {X : Cx} {pins : List (Addr × Obj)} {σ : L2.St} {H : Hp} {s : Shared} {a C : Addr} {d : Option Addr} (I : Inv X pins σ H s) (h : ErIs H a C d) : ∃ oe od, PySem.W.InstAt s.heap a oe C od := by
  obtain ⟨ha, hd⟩ := h
  obtain ⟨oe, vs, e, z, hf⟩ := erO_at I.hok ha
  rcases hd with rfl | ⟨dd, fs, rfl, hx⟩
  · refine ⟨oe, none, ⟨e, z.1, by unfold PySem.W.notCls; rw [hf] <;> rfl, by rw [z.2]; trivial⟩⟩
  · have ox : ObjOk X.prog X.w H s.heap dd (.xd fs) := I.hok dd _ hx
    obtain ⟨mA, hns, hr⟩ := ox
    obtain ⟨od, ho, hl⟩ := lookIn_ns hns
    exact ⟨oe, some od, ⟨e, z.1, by unfold PySem.W.notCls; rw [hf] <;> rfl, by rw [z.2]; exact ho⟩⟩
def rIsX (K : PySem.W.Frag) : List V → Hp → VK → Prop := fun xs H Q => ∃ (a C : Addr) (d : Option Addr) (c : V) (cv : Value) (b : Bool), xs = [.ref a, c] ∧ ErIs H a C d ∧ ExcC K C ∧ (PySem.W.clsIn K C).isSome = true ∧ (∀ u, RelV c u → u = cv) ∧ PySem.W.kitOne K (.ref C) cv = some b ∧ Q (.bl b) H
theorem call_isX {X : Cx} : CallR X (.builtin "isinstance") (rIsX X.K) := by
  intro pins s σ H xs us Q I r h
  obtain ⟨a, C, d, c, cv, b, rfl, hE, hC, hcl, hcv, e, q⟩ := h
  cases r with
  | cons rx rr =>
    cases rr with
    | cons rt rr =>
      cases rr
      cases rx
      have ec := hcv _ rt
      subst ec
      obtain ⟨oe, od, J⟩ := erIs_inst I hE
      exact PySem.W.kia_one (PySem.W.kitx_exc hcl hC.hg hC.hk hC.hs hC.ha hC.hn hC.ht hC.hm) I.kIn J e (fun z => nomatch z) fun tk => ⟨.bl b, H, I.kept (t' := tk) fun _ _ z => z, rfl, q⟩
/-- tc: of the text's classes; tt: of built-in ones -/
def fIsiX (tc : Str → Str → Option Bool) (tt : Str → String → Option Bool) : List D → M D := fun ds => match ds with
  | [.err n _ _, .cls c] => fun S => match tc n c with
    | some b => .ok (.bl b) S
    | none => .stuck
  | [.err n _ _, .ty c] => fun S => match tt n c with
    | some b => .ok (.bl b) S
    | none => .stuck
  | _ => fIsi ds
structure TblI (K : PySem.W.Frag) (tc : Str → Str → Option Bool) (tt : Str → String → Option Bool) : Prop where
  c : ∀ n c b, tc n c = some b → ∀ cls, ClsK K n cls → ∃ C, cls = .ref C ∧ ExcC K C ∧ (PySem.W.clsIn K C).isSome = true ∧ ∀ D, ClsK K c (.ref D) → PySem.W.kitOne K (.ref C) (.ref D) = some b
  t : ∀ n t b, tt n t = some b → ∀ cls, ClsK K n cls → ∃ C, cls = .ref C ∧ ExcC K C ∧ (PySem.W.clsIn K C).isSome = true ∧ PySem.W.kitOne K (.ref C) (.type t) = some b
/-! ### an error's field -/
def oFld (ok : Str → Str → Bool) (f : Str) : D → M D
  | .err n ks vs => fun S => if ok n f then (match (ks.zip vs).lookup f with
    | some d => .ok d S
    | none => .stuck) else .stuck
  | _ => fun _ => .stuck
def TblF (K : PySem.W.Frag) (ok : Str → Str → Bool) : Prop := ∀ n f, ok n f = true → ∀ cls, ClsK K n cls → ∃ C, cls = .ref C ∧ XfC K C ∧ PySem.W.findIn K (.ref C) f = some none
def tXfA (K : PySem.W.Frag) (f : Str) (te : TE) : TE := fun σ H Q => te σ H fun x H1 => ∃ (a C dd : Addr) (fs : List (Str × V)) (v : V), x = .ref a ∧ H1 a = some (ErO (.ref C) (some dd) a) ∧ XfC K C ∧ PySem.W.findIn K (.ref C) f = some none ∧ H1 dd = some (.xd fs) ∧ fs.lookup f = some v ∧ Q v H1
end DL

set_option Elab.async false
set_option linter.all false
set_option maxRecDepth 100000
set_option maxHeartbeats 2000000
/-! DX3: errors are made and raised. -/
namespace DL
open PySem PySem.Spec PyProof.Rows L2
/-! ### a class without an own __init__ -/
def sRaise0 (n : Str) : SD := fun ρ S => .exc ⟨n, [], []⟩ ρ S
/-! ### a class with an own __init__ -/
/-- what the text says of the base class -/
structure BaseK (K : PySem.W.Frag) (mg : Str → Option Value) (B : Str) (CB : Addr) : Prop where
  gB : mg B = some (.ref CB)
  sp : PySem.W.specialIn K (.ref CB) "__getattribute__" = some (some (.builtin "type.__getattribute__"))
  rd : PySem.W.readsIn K CB (.type "type") = true
  fc : PySem.W.findCls K (.ref CB) (.type "type") "__init__" = some (.val (.builtin "ValueError.__init__"))
/-- __init__(self, f): .. self.f = f -/
def spI1 (C : Addr) (f : Str) : Sp := fun vs H Q _ => ∃ (a : Addr) (y : V), vs = [.ref a, y] ∧ H a = some (exo a C none) ∧ ∀ dx, H dx = none → dx ≠ a → Q .non (upd (upd H dx (exd dx [(f, y)])) a (exo a C (some dx)))
def spI2 (C : Addr) (f g : Str) : Sp := fun vs H Q _ => ∃ (a : Addr) (y z : V), vs = [.ref a, y, z] ∧ H a = some (exo a C none) ∧ ∀ dx, H dx = none → dx ≠ a → Q .non (upd (upd (upd H dx (exd dx [(f, y)])) a (exo a C (some dx))) dx (exd dx [(g, z), (f, y)]))
section
variable {P : Program} {w : World} {K : PySem.W.Frag} {mg : Str → Option Value} {base : Heap}
end
/-- what the text says of a class of errors with an own __init__ of these fields -/
structure ErK (P : Program) (w : World) (K : PySem.W.Frag) (mg : Str → Option Value) (base : Heap) (n : Str) (ps : List Str) (sp : Addr → Sp) : Prop where
  ex : ∃ (C fI : Addr) (fd : FuncData), mg n = some (.ref C) ∧ ClsK K n (.ref C) ∧ OexC K C ∧ PySem.W.findIn K (.ref C) "__init__" = some (some (.ref fI)) ∧ PySem.W.typeIn K (.ref fI) = some (.type "function") ∧
    FnOk P w K mg base (L2.CX P w) 1 fI fd ps (sp C) ∧ Binds K fd ps []
def sRaise1 (n f : Str) (a : AM) : SD := fun ρ S => (a ρ S).to ρ fun ds S1 => match ds with
  | [d] => .exc ⟨n, [f], [d]⟩ ρ S1
  | _ => .stuck
def sRaise2 (n f g : Str) (a : AM) : SD := fun ρ S => (a ρ S).to ρ fun ds S1 => match ds with
  | [d, e] => .exc ⟨n, [g, f], [e, d]⟩ ρ S1
  | _ => .stuck
section
variable {X : Cx} {W : WX} {n f g : Str} {e : Expr} {es : List Expr} {ma : AM} {p pos pos2 : Pos} {j : Nat}
end
end DL
namespace DL
open PySem PySem.Spec PyProof.Rows L2
/-! ### tables, from facts -/
theorem clsK_eq {K : PySem.W.Frag} {n : Str} {cls : Value} {C : Addr} (h : ClsK K n cls) (a : PySem.W.nsIn K mainGlobals n = some (some (.ref C))) : cls = .ref C := by
  have := h.symm.trans a
  simpa using this
theorem kit_ty {K : PySem.W.Frag} {C : Addr} {T : String} {b : Bool} (km : PySem.W.kitMeta T = true) (s : PySem.W.subIn K (.ref C) (.type T) = some b) : PySem.W.kitOne K (.ref C) (.type T) = some b := by
  unfold PySem.W.kitOne
  rw [if_neg (by simp)]
  show (if PySem.W.kitMeta T = true then PySem.W.subIn K (.ref C) (.type T) else none) = some b
  rw [if_pos km]; exact s
/-- a class statement's body -/
def clsBody : Stmt → List Stmt
  | .ClassDef _ _ _ b .. => b
  | _ => []
end DL

set_option Elab.async false
set_option linter.all false
set_option maxRecDepth 100000
set_option maxHeartbeats 2000000
/-! DY: str of what can be shown; == with an empty list. -/
namespace DL
open PySem PySem.Spec PyProof.Rows L2
def rStrR (K : PySem.W.Frag) : List V → Hp → VK → Prop := fun xs H Q => (∃ a, xs = [.str a] ∧ Q (.str a) H) ∨ ∃ v d, xs = [v] ∧ (∀ a, v ≠ .str a) ∧ Dr K H v d ∧ d.showable = true ∧ d.depth ≤ 62 ∧ d.shown.length ≤ sizeLine ∧ Q (.str d.shown) H
def isStrD : D → Bool
  | .str _ => true
  | _ => false
def fStrR : List D → M D
  | [d] => fun S => match d with
    | .str x => .ok (.str x) S
    | _ => if (topD S d).pr 60 && (topD S d).shows then .ok (.str (topD S d).shown) S else .stuck
  | _ => fun _ => .stuck
/-! == with an empty list -/
def rEqZ (K : PySem.W.Frag) : R2 := fun x y H Q => ∃ a b xs, x = .ref a ∧ y = .ref b ∧ SqL K H a xs ∧ SqL K H b [] ∧ Q (.bl xs.isEmpty) H
theorem opr_eqZ {X : Cx} (hu : X.A.units + 64 < cLine) : OpR X (compareOp .Eq) (rEqZ X.K) := by
  intro pins s σ H x y v u Q I rx ry h
  obtain ⟨a, b, xs, rfl, rfl, ha, hb, q⟩ := h
  cases rx; cases ry
  obtain ⟨its, rv, hl, _⟩ := I.list ha
  obtain ⟨its2, rv2, hl2, _⟩ := I.list hb
  have e1 := rv.length
  have e2 := rv2.length
  have hl' : s.heap.IsList a its.toArray := let ⟨o, n, ho, hc, _, hd⟩ := hl; ⟨o, ho, hc, n, hd⟩
  have hl2' : s.heap.IsList b its2.toArray := let ⟨o, n, ho, hc, _, hd⟩ := hl2; ⟨o, ho, hc, n, hd⟩
  cases xs with
  | nil =>
    simp only [List.length_nil] at e1 e2
    have z1 := List.eq_nil_of_length_eq_zero (by omega : its.length = 0)
    have z2 := List.eq_nil_of_length_eq_zero (by omega : its2.length = 0)
    subst z1 z2
    exact SeqAt.eq_listAt (e := fun _ => true) hl' hl2' rfl (by omega) (fun j h1 h2 => absurd h1 (by simp)) ⟨.bl _, H, I, rfl, q⟩
  | cons z zs =>
    simp only [List.length_nil, List.length_cons] at e1 e2
    exact SeqAt.eq_list_lengthsAt hl' hl2' (by simp; omega) (by omega) ⟨.bl _, H, I, rfl, q⟩
def oEqZ : D → D → M D
  | d, .lst [] => fun S => match listOf S d with
    | some xs => .ok (.bl xs.isEmpty) S
    | none => .stuck
  | _, _ => fun _ => .stuck
theorem act_eqZ {K : PySem.W.Frag} : Act2 K (rEqZ K) oEqZ := by
  intro hd as S H v u d e w r1 r2
  unfold oEqZ
  split
  · cases e1 : listOf S d with
    | none => trivial
    | some xs =>
      obtain ⟨a, vs, rfl, q, rr⟩ := seqL w r1 e1
      have rz := r2
      obtain ⟨b, us, rfl, q2, rr2⟩ := seqL w r2 (show listOf S (.lst []) = some [] from rfl)
      cases rr2
      have e3 : xs.isEmpty = vs.isEmpty := by cases rr <;> rfl
      dsimp only
      exact .now w (.bl _) fun Q q3 => ⟨a, b, vs, rfl, rfl, q, q2, by rw [← e3]; exact q3⟩
  · trivial
end DL

set_option Elab.async false
set_option linter.all false
set_option maxRecDepth 100000
set_option maxHeartbeats 2000000
/-! DD: defs with defaults, and their calls. -/
namespace DL
open PySem PySem.Spec PyProof.Rows L2
noncomputable section
section
variable {P : Program} {w : World} {K : PySem.W.Frag} {mg : Str → Option Value} {base : Heap}
/-- a def's body, walked -/
theorem FunD.okG {x qual : Str} {st : Stmt} {f : Addr} {fd : FuncData} {N ps : List Str} {k : Nat} {m : SD} {dvs : List V} {kws : List (Str × V)} (F : L2.FunD K x qual (defArgs st) (defBody st) (defScope st) dvs kws f fd) (Sc : FnScope N ps (defScope st))
    (hbody : ∀ (cdv : Value) (A : Around) (outer : List PySem.Env) (s : Shared) (H : Hp) (E : XK), Room k (A.deeper (envOfC qual (defScope st) s.heap.objs.size f cdv)) → Qt (A.deeper (envOfC qual (defScope st) s.heap.objs.size f cdv)) base →
      DSs (cxOf (L2.CX P w) P w K mg base N qual (defScope st) f cdv A outer s H E) (WOf E) (defBody st) m) : FnG P w K mg base (k + 1) f fd ps (runFn N.length ps.length m) := by
  obtain ⟨oc, od, dV, kV, doc, pm, an, cdv, ct, osl, rfl, lk, hcd, _, _⟩ := F.ex
  refine ⟨fun ds S => ?_, fun A outer s H args us vs Q E hr hg e0 hb r hsp => ?_⟩
  · unfold runFn
    split
    · exact .inr (by assumption)
    · exact .inl rfl
  have hin : K.In s.heap := e0.mod.kin.keeps fun b o e => (e0.bs b o e).1
  have hnl : s.heap.NoLimit := e0.mod.nolimit.keeps fun b o e => (e0.bs b o e).1
  have kinds : ∀ y ∈ ps.zip us, (defScope st).names.lookup y.1 = some .local ∨ ((defScope st).names.lookup y.1 = some .cell ∧ ((cellsFrom (s.heap.objs.size + 1) (defScope st).names []).lookup y.1).isSome = true) := fun y hy =>
    (Sc.par y.1 (List.of_mem_zip hy).1).imp id fun q => ⟨q, PySem.W.cellsFrom_some _ _ _ (.inl q)⟩
  refine codeAny_call_function hr.depth (hin _ _ lk) rfl Sc.co Sc.gen rfl (PySem.W.codeRec_of hin hcd) (hb _ _ _ _ (wpAny_newFunctionEnv_cells Sc.kind kinds fun env he s1 ic => ?_))
  subst he
  refine ⟨hnl.keeps ic.toInCall.keep, codeAny_func ?_⟩
  have dl := hbody cdv A outer s H E (hr.deeper _) ⟨by simpa [Around.deeper] using hg.g, hg.s⟩
  obtain ⟨hd, as, S, ds, wl, rd, ms⟩ := hsp
  have hn : ds.length = ps.length := by
    by_cases hn : ds.length = ps.length
    · exact hn
    · unfold runFn at ms
      rw [if_neg hn] at ms; exact ms.elim
  have hl : vs.length = ps.length := by rw [rd.length]; exact hn
  have I : Inv (cxOf (L2.CX P w) P w K mg base N qual (defScope st) f cdv A outer s H E) [] (L2.start N vs) H s1 := inv_start Sc hr.hd e0 hl r ic
  have rel : REL K hd as (ds.map some ++ List.replicate (N.length - ds.length) none) S (L2.start N vs) H := ⟨wl, start_slots rd⟩
  have fin : ∀ {d : D} {S' : Sto}, (∀ as' v H', Grow hd as S H as' (trim S d S') H' → Wld K hd as' (trim S d S') H' → Rep K as' (fz hd as' (trim S d S') H') v d → Q v H') →
      ∀ as' v H', Grow hd as S H as' S' H' → Wld K hd as' S' H' → Rep K as' (fz hd as' S' H') v d → Q v H' := fun {d S'} h as' v H' g w' r' => by
    obtain ⟨as2, w2, g2, r2⟩ := wl.trim g w' r'
    exact h as2 v H' g2 w2 r2
  have run := dl.run [] s1 (L2.start N vs) H { nx := fun _ H' => Q .non H', rt := Q } I ⟨hd, as, _, S, rel, ?_⟩
  · refine wpAny_mono run (fun fl s' hs => ?_) fun e s' hs => hs
    cases fl with
    | ret u =>
      obtain ⟨v, σ', H', J, rv, q⟩ := hs
      exact ⟨v, H', J.os, J.bare, J.base, J.hok, rv, q⟩
    | next =>
      obtain ⟨σ', H', J, q⟩ := hs
      exact ⟨V.non, H', J.os, J.bare, J.base, J.hok, rfl, q⟩
    | brk => obtain ⟨_, _, _, q⟩ := hs; exact q.elim
    | cont => obtain ⟨_, _, _, q⟩ := hs; exact q.elim
  · unfold runFn at ms
    rw [if_pos hn] at ms
    cases em : m (ds.map some ++ List.replicate (N.length - ds.length) none) S with
    | ok fl ρ' S' =>
      rw [em] at ms
      cases fl with
      | nx => exact fun as' σ' H' g rel' => fin ms as' .non H' g rel'.w .non
      | ret d => exact fun as' v H' g w' r' => fin ms as' v H' g w' r'
      | brk => exact ms.elim
      | cnt => exact ms.elim
    | exc x ρ' S' =>
      rw [em] at ms
      exact fun as' cls dd σ' H' g rel' xr => ms as' cls dd H' g rel'.w xr
    | stuck => rw [em] at ms; exact ms.elim
end
/-- positional values, keywords' values, and the defaults behind them, in the parameters' order -/
def byIxD {α : Type} (ix : List Nat) (dd : List α) (us ws : List α) : List α := byIx ix us (ws ++ dd)
def KBD (K : PySem.W.Frag) (fd : FuncData) (ps : List Str) (n : Nat) (ks : List Str) (ix : List Nat) (zd : List V) : Prop := ∃ dus : List Value, Vals zd dus ∧ ∀ (s : Shared) (us ws : List Value), K.In s.heap → us.length = n → ws.length = ks.length → BindsTo s fd ⟨us, ks.zip ws⟩ (ps.zip (byIx ix us (ws ++ dus)))
section
variable {X : Cx} {W : WX} {k : Nat} {f : Addr} {fd : FuncData} {ps ks : List Str} {m : FM} {x : Str} {p pos : Pos} {e : Expr} {es : List Expr} {kws : List Keyword} {mr mk : AM}
end
structure HasD (P : Program) (w : World) (K : PySem.W.Frag) (mg : Str → Option Value) (base : Heap) (k : Nat) (x : Str) (st : Stmt) (ps : List Str) (dvs : List V) (kds : List (Str × V)) (m : FM) : Prop where
  ex : ∃ f fd, FnG P w K mg base k f fd ps m ∧ mg x = some (.ref f) ∧ L2.FunD K x x (defArgs st) (defBody st) (defScope st) dvs kds f fd
structure DefAtD (K : PySem.W.Frag) (mg : Str → Option Value) (x : Str) (st : Stmt) (ps : List Str) (dvs : List V) (kds : List (Str × V)) : Prop where
  ex : ∃ f fd, L2.FunD K x x (defArgs st) (defBody st) (defScope st) dvs kds f fd ∧ mg x = some (.ref f)
section
variable {K : PySem.W.Frag} {x : Str} {st : Stmt} {ps ks : List Str} {n : Nat} {ix : List Nat} {dvs : List V} {kds : List (Str × V)} {f : Addr} {fd : FuncData}
end
section
variable {X : Cx} {W : WX} {j k n : Nat} {ps ks : List Str} {m : FM} {x : Str} {st : Stmt} {p pos : Pos} {e : Expr} {es : List Expr} {kws : List Keyword} {mr mk : AM} {dvs zd : List V} {kds : List (Str × V)} {dd : List D}
end
end
end DL

set_option Elab.async false
set_option linter.all false
set_option maxRecDepth 100000
set_option maxHeartbeats 2000000
/-! DT: texts: methods, signs one by one, f-strings, int of a text, or between values. -/
namespace DL
open PySem PySem.Spec PyProof.Rows L2
noncomputable section
/-! ### methods -/
def chkS (d : D) (_ : Sto) : Bool := match d with
  | .str _ => true
  | _ => false
def mSplit : D → List D → M D
  | .str a, [.str b] => fun S => if (b.length == 0) = false ∧ a.length + 2 ≤ sizeLine then .ok (.lst ((Txt.split a b).map .str)) S else .stuck
  | _, _ => fun _ => .stuck
def mWords : D → List D → M D
  | .str a, [] => fun S => if a.length + 2 ≤ sizeLine then .ok (.lst ((Txt.words a).map .str)) S else .stuck
  | _, _ => fun _ => .stuck
def mPart : D → List D → M D
  | .str a, [.str b] => fun S => if (b.length == 0) = false ∧ a.length ≤ sizeLine then .ok (.tup [.str (Txt.partition a b).1, .str (Txt.partition a b).2.1, .str (Txt.partition a b).2.2]) S else .stuck
  | _, _ => fun _ => .stuck
def mStarts : D → List D → M D
  | .str a, [.str b] => fun S => .ok (.bl (Txt.startswith a b)) S
  | _, _ => fun _ => .stuck
def mEnds : D → List D → M D
  | .str a, [.str b] => fun S => .ok (.bl (Txt.endswith a b)) S
  | _, _ => fun _ => .stuck
def mStrip : D → List D → M D
  | .str a, [] => fun S => if a.length ≤ sizeLine then .ok (.str (Txt.strip a)) S else .stuck
  | _, _ => fun _ => .stuck
def strsD : List D → Option (List Str)
  | [] => some []
  | .str x :: ds => (strsD ds).map (x :: ·)
  | _ :: _ => none
def mJoin : D → List D → M D
  | .str a, [d] => fun S => match (seqOf S d).bind strsD with
    | some ys => if (ys.map (·.length)).sum + ys.length * a.length ≤ 16777216 then .ok (.str (Txt.join a ys)) S else .stuck
    | none => .stuck
  | _, _ => fun _ => .stuck
section
variable {K : PySem.W.Frag}
end
/-! ### int of a text -/
def fIntX : List D → M D
  | [.int i] => fun S => .ok (.int i) S
  | [.bl k] => fun S => .ok (.int (if k then 1 else 0)) S
  | [.str a] => fun S => match PySem.intText? a with
    | some n => if a.length ≤ 640 then .ok (.int n) S else .stuck
    | none => .stuck
  | _ => fun _ => .stuck
def rIntX : List V → Hp → VK → Prop := fun xs H Q => ((∃ i, xs = [.int i] ∧ Q (.int i) H) ∨ ∃ k, xs = [.bl k] ∧ Q (.int (if k then 1 else 0)) H) ∨ ∃ a n, xs = [.str a] ∧ PySem.intText? a = some n ∧ a.length ≤ 640 ∧ Q (.int n) H
/-! ### or between values -/
def eOrV (a b : EM) : EM := fun ρ => M.bind (a ρ) fun d S => match truD S d with
  | some true => .ok d S
  | some false => b ρ S
  | none => .stuck
section
variable {X : Cx} {W : WX} {e e2 : Expr} {me : EM} {es rest : List Expr} {pos : Pos} {ma mb : EM}
end
/-! ### f-strings -/
def fmtD : D → Option Str
  | .str y => if y.length ≤ sizeLine then some y else none
  | .int i => if i.natAbs.log2 < 1920 then some (toString i) else none
  | _ => none
def eFmt (a : EM) : EM := fun ρ => M.bind (a ρ) fun d S => match fmtD d with
  | some y => .ok (.str y) S
  | none => .stuck
def jsL : List EM → Str → EM
  | [], acc => fun _ S => .ok (.str acc) S
  | m :: ms, acc => fun ρ => M.bind (m ρ) fun d => match d with
    | .str y => if (acc ++ y).length ≤ sizeLine then jsL ms (acc ++ y) ρ else fun _ => .stuck
    | _ => fun _ => .stuck
def eJs (ms : List EM) : EM := jsL ms Str.empty
section
variable {X : Cx} {W : WX} {e : Expr} {me : EM} {es : List Expr} {pos : Pos}
inductive DJ (X : Cx) (W : WX) : List Expr → List EM → Prop where
  | nil : DJ X W [] []
  | cons {e : Expr} {m : EM} {es : List Expr} {ms : List EM} (h : DE X W e m) (r : DJ X W es ms) : DJ X W (e :: es) (m :: ms)
end
/-! ### signs one by one -/
def signsD (z : Str) : List D := z.cps.toList.map fun c => .str ⟨#[c]⟩
def mItS (d : D) : M ItD := match d with
  | .str z => fun S => .ok (itL (signsD z)) S
  | _ => fun _ => .stuck
end
end DL

set_option Elab.async false
set_option linter.all false
set_option maxRecDepth 100000
set_option maxHeartbeats 2000000
/-! DR: a range with a step; list.count of truths. -/
namespace DL
open PySem PySem.Spec PyProof.Rows L2
noncomputable section
def mItR3 : List D → M ItD
  | [.int i, .int j, .int c] => fun S => if c ≠ 0 ∧ c.natAbs < 1073741824 ∧ Builtin.Range.small i j c = true ∧ Builtin.Range.rangeSize i j c = ((Builtin.Range.rangeSize i j c).toNat : Int) then .ok (itL ((List.range (Builtin.Range.rangeSize i j c).toNat).map fun k : Nat => D.int (i + k * c))) S else .stuck
  | _ => fun _ => .stuck
/-! ### list.count of a truth -/
def eqbl (k : Bool) (v : Value) : Bool := match v with
  | .bool n => n == k
  | _ => false
def rCntB (K : PySem.W.Frag) : V → List V → Hp → VK → Prop := fun x xs H Q => ∃ (p : Addr) (bs : List Bool) (k : Bool), x = .ref p ∧ xs = [.bl k] ∧ SqL K H p (bs.map V.bl) ∧ Q (.int (bs.count k : Nat)) H
def mCountB : D → List D → M D
  | d, [.bl k] => fun S => match (listOf S d).bind blsOf with
    | some bs => .ok (.int (bs.count k : Nat)) S
    | none => .stuck
  | _, _ => fun _ => .stuck
end
end DL

set_option Elab.async false
set_option linter.all false
set_option maxRecDepth 100000
/-! DU: a, b, .. = a list. -/
namespace DL
open PySem PySem.Spec PyProof.Rows L2
noncomputable section
/-- (a, b, ..) = a list of that length -/
def gLstT (K : PySem.W.Frag) (n : Nat) (t : TGs) : TG := fun v σ H Q => ∃ a xs, v = .ref a ∧ SqL K H a xs ∧ xs.length = n ∧ t xs σ H Q
def sAsgL (ts : List Tg) (m : EM) : SD := fun ρ S => (m ρ S).to ρ fun d S' => match listOf S' d with
  | some ds => if ds.length = ts.length then (match asgL ts ds ρ with
    | some ρ' => .ok .nx ρ' S'
    | none => .stuck) else .stuck
  | none => .stuck
section
variable {X : Cx} {W : WX} {e : Expr} {me : EM} {pos tpos : Pos} {es : List Expr} {ts : List Tg} {k n : Nat}
end
end
end DL

set_option Elab.async false
set_option linter.all false
set_option maxRecDepth 100000
set_option maxHeartbeats 1000000
/-! DO: objects of own classes: fields, methods, made. -/
namespace DL
open PySem PySem.Spec PyProof.Rows L2
noncomputable section
/-- which fields of which classes are the object's own -/
def TblO (K : PySem.W.Frag) (fi : Str → Str → Bool) : Prop := ∀ n f, fi n f = true → ∀ Ca, ClsK K n (.ref Ca) → Cls K Ca ∧ NoAttr K Ca f
theorem Wld.insAt {K : PySem.W.Frag} {hd : Hid} {as : List Addr} {S : Sto} {H : Hp} {n a : Nat} {C : Str} {fs : List (Str × D)} (w : Wld K hd as S H) (ha : as[n]? = some a) (e : S[n]? = some (some (.ins C fs))) :
    ∃ Ca dx ws, H a = some (.ins Ca dx ws) ∧ ClsK K C (.ref Ca) ∧ ws.map (·.1) = fs.map (·.1) ∧ RepL K as (fz hd as S H) (ws.map (·.2)) (fs.map (·.2)) := by
  obtain ⟨b, o, e1, e2, r⟩ := w.atC n _ e
  rw [ha] at e1; cases e1
  cases o with
  | ins Ca dx ws => exact ⟨Ca, dx, ws, e2, r.1, r.2.1, r.2.2⟩
  | _ => exact r.elim
def putD (f : Str) (v : D) : List (Str × D) → List (Str × D)
  | [] => [(f, v)]
  | (g, x) :: r => if g = f then (g, v) :: r else (g, x) :: putD f v r
section
variable {K : PySem.W.Frag} {as : List Addr} {F : Hp} {f : Str}
theorem look_rep {d : D} : ∀ {fs : List (Str × D)} {ws : List (Str × V)}, ws.map (·.1) = fs.map (·.1) → RepL K as F (ws.map (·.2)) (fs.map (·.2)) → fs.lookup f = some d → ∃ v, ws.lookup f = some v ∧ Rep K as F v d
  | [], ws, _, _, h => by simp at h
  | (g, x) :: fs, [], e, _, _ => by simp at e
  | (g, x) :: fs, (g', y) :: ws, e, r, h => by
    simp only [List.map_cons, List.cons.injEq] at e r
    obtain ⟨rfl, e⟩ := e
    cases r with
    | cons r0 r1 =>
      simp only [List.lookup] at h ⊢
      cases q : f == g' with
      | true => rw [q] at h; simp only at h ⊢; cases h; exact ⟨y, rfl, r0⟩
      | false => rw [q] at h; exact look_rep e r1 h
theorem look_none : ∀ {fs : List (Str × D)} {ws : List (Str × V)}, ws.map (·.1) = fs.map (·.1) → fs.lookup f = none → ws.lookup f = none
  | [], [], _, _ => rfl
  | [], _ :: _, e, _ => by simp at e
  | (g, x) :: fs, [], e, _ => by simp at e
  | (g, x) :: fs, (g', y) :: ws, e, h => by
    simp only [List.map_cons, List.cons.injEq] at e
    obtain ⟨rfl, e⟩ := e
    simp only [List.lookup] at h ⊢
    cases q : f == g' with
    | true => rw [q] at h; cases h
    | false => rw [q] at h; exact look_none e h
theorem put_rep {v : V} {d : D} (rv : Rep K as F v d) : ∀ {fs : List (Str × D)} {ws : List (Str × V)}, ws.map (·.1) = fs.map (·.1) → RepL K as F (ws.map (·.2)) (fs.map (·.2)) →
    (putF f v ws).map (·.1) = (putD f d fs).map (·.1) ∧ RepL K as F ((putF f v ws).map (·.2)) ((putD f d fs).map (·.2))
  | [], [], _, _ => ⟨rfl, .cons rv .nil⟩
  | [], _ :: _, e, _ => by simp at e
  | (g, x) :: fs, [], e, _ => by simp at e
  | (g, x) :: fs, (g', y) :: ws, e, r => by
    simp only [List.map_cons, List.cons.injEq] at e r
    obtain ⟨rfl, e⟩ := e
    cases r with
    | cons r0 r1 =>
      unfold putF putD
      by_cases q : g' = f
      · rw [if_pos q, if_pos q]
        exact ⟨by simp [e], .cons rv r1⟩
      · rw [if_neg q, if_neg q]
        obtain ⟨h1, h2⟩ := put_rep rv e r1
        exact ⟨by simp [h1], .cons r0 h2⟩
end
/-! fields -/
def oFldI (fi : Str → Str → Bool) (f : Str) : D → M D := fun d S => match d with
  | .cell n => match S[n]? with
    | some (some (.ins C fs)) => if fi C f = true then (match fs.lookup f with
      | some v => .ok v S
      | none => .stuck) else .stuck
    | _ => .stuck
  | _ => .stuck
def sFldI (fi : Str → Str → Bool) (f : Str) (mo mv : EM) : SD := fun ρ S => (mv ρ S).to ρ fun d S1 => (mo ρ S1).to ρ fun o S2 => match o with
  | .cell n => match S2[n]? with
    | some (some (.ins C fs)) => if fi C f = true ∧ fs.length < 1000 then .ok .nx ρ (S2.set n (some (.ins C (putD f d fs)))) else .stuck
    | _ => .stuck
  | _ => .stuck
section
variable {X : Cx} {W : WX} {e o value : Expr} {me mo mv : EM} {pos pos' : Pos} {f : Str} {fi : Str → Str → Bool}
theorem de_fldI (T : TblO X.K fi) (he : DE X W e me) (hb : attributeBase e f X.env (eval e X.env) = eval e X.env := by rfl) : DE X W (.Attribute e f pos) (e1 (oFldI fi f) me) :=
  PE.le (pe_fld he hb) fun σ H Q ⟨hd, as, ρ, S, rel, po⟩ => tE_seq rel po fun as1 S1 H1 v1 d g1 rel1 r1 po1 => by
    cases r1 with
    | cell q =>
      rename_i n a
      unfold oFldI at po1
      dsimp only at po1
      split at po1
      · rename_i C fs e1
        split at po1
        · rename_i hok
          cases el : fs.lookup f with
          | none => rw [el] at po1; exact po1.elim
          | some d =>
            rw [el] at po1
            obtain ⟨Ca, dx, ws, ea, hk, hn, r⟩ := rel1.w.insAt q e1
            obtain ⟨v, ev, rv⟩ := look_rep hn r el
            obtain ⟨c, na⟩ := T C f hok Ca hk
            exact ⟨a, Ca, dx, ws, v, rfl, ea, c, na, ev, po1 as1 H1 .refl rel1 v rv⟩
        · exact po1.elim
      · exact po1.elim
    | _ => exact po1.elim
theorem ds_fldI (T : TblO X.K fi) (ho : DE X W o mo) (hv : DE X W value mv) (hs : swapsWith value (some (.Attribute o f pos')) pos.line X.env = pure false := by rfl) : DS X W (.Assign [.Attribute o f pos'] value pos) (sFldI fi f mo mv) :=
  PS.le (ps_fld ho hv hs) fun Dn σ H ⟨hd, as, ρ, S, rel, po⟩ => tE_to rel po fun as1 S1 H1 v d g1 rel1 r1 po1 => tE_to rel1 po1 fun as2 S2 H2 vo od g2 rel2 r2 po2 => by
    cases r2 with
    | cell q =>
      rename_i n a
      dsimp only at po2
      split at po2
      · rename_i C fs e1
        split at po2
        · rename_i hok
          obtain ⟨Ca, dx, ws, ea, hk, hn, r⟩ := rel2.w.insAt q e1
          obtain ⟨c, na⟩ := T C f hok.1 Ca hk
          obtain ⟨h1, h2⟩ := put_rep (f := f) (r1.grow g2) hn r
          obtain ⟨w', g'⟩ := rel2.w.writeC (c2 := .ins C (putD f d fs)) (o := .ins Ca dx (putF f v ws)) e1 q ⟨hk, h1, h2⟩
          refine ⟨a, Ca, dx, ws, rfl, ea, c, na, ?_, po2 as2 σ _ g' (rel2.grow g' w')⟩
          have : ws.length = fs.length := by simpa using congrArg List.length hn
          omega
        · exact po2.elim
      · exact po2.elim
    | _ => exact po2.elim
end
/-! methods -/
def eMo (C m : Str) (fm : FM) (mo : EM) (ma : AM) : EM := fun ρ => M.bind (mo ρ) fun o S => match o with
  | .cell n => match S[n]? with
    | some (some (.ins C' fs)) => if C' = C ∧ fs.lookup m = none then (ma ρ S).bind fun ds S1 => fm (.cell n :: ds) S1 else .stuck
    | _ => .stuck
  | _ => .stuck
/-- what the text says of a method -/
structure MethD (P : Program) (w : World) (K : PySem.W.Frag) (mg : Str → Option Value) (base : Heap) (k : Nat) (C m : Str) (ps : List Str) (fm : FM) : Prop where
  ex : ∃ (Ca f : Addr) (fd : FuncData), ClsK K C (.ref Ca) ∧ Cls K Ca ∧ Meth K Ca m f ∧ FnG P w K mg base k f fd ps fm ∧ Binds K fd ps []
section
variable {X : Cx} {W : WX} {k j : Nat} {C m : Str} {fm : FM} {o e : Expr} {es : List Expr} {mo : EM} {ma : AM} {pos apos : Pos} {ps : List Str} {pl : Sem Bool}
theorem de_meth (T : MethD X.prog X.w X.K X.mg X.base k C m ps fm) (hr : Room j X.A) (hj : k ≤ j) (hgd : Qt X.A X.base) (tk : Takes X W) (ho : DE X W o mo) (ha : DA X W (e :: es) ma)
    (hst : starEach (e :: es) X.env = (false, eval e X.env) :: starEach es X.env := by rfl) (hpl : (backTo pos (starEach es X.env)).any (·.1) = false := by rfl)
    (ht : eval (.Call (.Attribute o m apos) (e :: es) [] pos) X.env = (do
      let ov ← eval o X.env
      standAt apos.atName
      let (f, first) ← holding [ov] (getMethod ov m pl)
      callWith pos f first (backTo pos (starEach (e :: es) X.env)) (backToKw pos (keywordEach [] X.env))) := by rfl) :
    DE X W (.Call (.Attribute o m apos) (e :: es) [] pos) (eMo C m fm mo ma) := by
  obtain ⟨Ca, f, fd, hk, c, hm, F, hb⟩ := T.ex
  refine ⟨fun pins s σ H Q I ⟨hd, as, ρ, S, rel, po⟩ => PySem.W.methodCall_KW (pl := pl) (thn (ho.run pins s σ H (fun x H1 => ∃ a dx fs, x = .ref a ∧ H1 a = some (.ins Ca dx fs) ∧ fs.lookup m = none ∧
    tA X.K X.mg W ma σ H1 fun vs H2 => spM X.K X.mg fm (.ref a :: vs) H2 Q fun cls d H' => W cls d σ H') I (tE_seq rel po fun as1 S1 H1 v1 d1 g1 rel1 r1 po1 => ?_)) fun u s1 ⟨x, H1, I1, rx, a, dx, fs, ex, ea, l, q⟩ => ?_) ht⟩
  · cases r1 with
    | cell q =>
      rename_i n a
      dsimp only at po1
      split at po1
      · rename_i C' fs e1
        split at po1
        · rename_i hok
          obtain ⟨rfl, hnone⟩ := hok
          obtain ⟨Ca', dx, ws, ea, hk', hn, r⟩ := rel1.w.insAt q e1
          have : Value.ref Ca' = Value.ref Ca := by
            have := hk'.symm.trans hk
            simpa using this
          cases this
          refine ⟨a, dx, ws, rfl, ea, look_none hn hnone, tA_seq rel1 po1 fun as2 S2 H2 vs ds g2 rel2 r2 po2 => ?_⟩
          exact sp_of rel2 (.cons (.cell (g2.pre _ _ q)) r2) po2
        · exact po1.elim
      · exact po1.elim
    | _ => exact po1.elim
  · subst ex
    obtain rfl : u = Value.ref a := rx
    refine getmeth_ok I1 ea c hm l ?_
    refine PySem.W.callWith_K (first := [.ref a]) (h₀ := X.base) I.ok.mod.kin hm.kp (thn (ha.run pos pins s1 σ H1 _ I1 q) fun us s2 ⟨vs, H2, I2, r, q2⟩ => ⟨I2.kIn, ?_⟩) hst hpl
    have hl : (Value.ref a :: us ++ []).length = ps.length := by
      have e := sp_len F q2
      rw [List.append_nil, List.length_cons, ← r.length]; simpa using e
    exact run_fnG F (hr.mono hj) hgd tk (args := ⟨.ref a :: us, []⟩) (us := .ref a :: us) (vs := .ref a :: vs) (by simpa using hb s2 (.ref a :: us) I2.kIn hl) I2 (.cons rfl r) (fun _ _ _ z => z) q2
theorem de_meth0 (T : MethD X.prog X.w X.K X.mg X.base k C m ps fm) (hr : Room j X.A) (hj : k ≤ j) (hgd : Qt X.A X.base) (tk : Takes X W) (ho : DE X W o mo)
    (ht : eval (.Call (.Attribute o m apos) [] [] pos) X.env = (do
      let ov ← eval o X.env
      standAt apos.atName
      let (f, first) ← holding [ov] (getMethod ov m pl)
      callWith pos f first (backTo pos (starEach [] X.env)) (backToKw pos (keywordEach [] X.env))) := by rfl) :
    DE X W (.Call (.Attribute o m apos) [] [] pos) (eMo C m fm mo aNil) := by
  obtain ⟨Ca, f, fd, hk, c, hm, F, hb⟩ := T.ex
  refine ⟨fun pins s σ H Q I ⟨hd, as, ρ, S, rel, po⟩ => PySem.W.methodCall_KW (pl := pl) (thn (ho.run pins s σ H (fun x H1 => ∃ a dx fs, x = .ref a ∧ H1 a = some (.ins Ca dx fs) ∧ fs.lookup m = none ∧
    spM X.K X.mg fm [.ref a] H1 Q fun cls d H' => W cls d σ H') I (tE_seq rel po fun as1 S1 H1 v1 d1 g1 rel1 r1 po1 => ?_)) fun u s1 ⟨x, H1, I1, rx, a, dx, fs, ex, ea, l, q⟩ => ?_) ht⟩
  · cases r1 with
    | cell q =>
      rename_i n a
      dsimp only at po1
      split at po1
      · rename_i C' fs e1
        split at po1
        · rename_i hok
          obtain ⟨rfl, hnone⟩ := hok
          obtain ⟨Ca', dx, ws, ea, hk', hn, r⟩ := rel1.w.insAt q e1
          have : Value.ref Ca' = Value.ref Ca := by
            have := hk'.symm.trans hk
            simpa using this
          cases this
          exact ⟨a, dx, ws, rfl, ea, look_none hn hnone, sp_of rel1 (.cons (.cell q) .nil) po1⟩
        · exact po1.elim
      · exact po1.elim
    | _ => exact po1.elim
  · subst ex
    obtain rfl : u = Value.ref a := rx
    refine getmeth_ok I1 ea c hm l ?_
    refine PySem.W.callWith_K0 (first := [.ref a]) I1.kIn hm.kp ?_
    have hl : (Value.ref a :: [] ++ []).length = ps.length := by
      have e := sp_len F q
      simpa using e
    exact run_fnG F (hr.mono hj) hgd tk (args := ⟨[.ref a], []⟩) (us := [.ref a]) (vs := [.ref a]) (by simpa using hb s1 [.ref a] I1.kIn hl) I1 (.cons rfl .nil) (fun _ _ _ z => z) q
end
/-! made -/
def eMk (C : Str) (fm : FM) (ma : AM) : EM := fun ρ => M.bind (ma ρ) fun ds S => (fm (.cell S.length :: ds) (S ++ [some (.ins C [])])).bind fun d S' => match d with
  | .non => .ok (.cell S.length) S'
  | _ => .stuck
structure MakeD (P : Program) (w : World) (K : PySem.W.Frag) (mg : Str → Option Value) (base : Heap) (k : Nat) (C : Str) (ps : List Str) (fm : FM) : Prop where
  ex : ∃ (Ca f : Addr) (fd : FuncData), mg C = some (.ref Ca) ∧ ClsK K C (.ref Ca) ∧ Mk K Ca f ∧ FnG P w K mg base k f fd ps fm ∧ Binds K fd ps []
section
variable {X : Cx} {W : WX} {k j : Nat} {C : Str} {fm : FM} {e : Expr} {es : List Expr} {ma : AM} {pos p : Pos} {ps : List Str}
theorem Qt.under {A : Around} {base : Heap} {x : Value} {us : List Value} (h : Qt A base) : Qt (A.under (.builtin "type.__call__" ⟨x :: us, []⟩)) base := ⟨by
  have e := h.g
  have g : ("type.__call__" ∈ guardIds) = False := by simp [guardIds]
  simp [Around.under, Code.guards, pushGuards, e, Code.isGuard, g], h.s⟩
theorem run_makeG {Ca f : Addr} {fd : FuncData} {pins : List (Addr × Obj)} {σ : L2.St} {H : Hp} {s : Shared} {Q : VK} {us : List Value} {vs : List V} {E : XK} (M0 : Mk X.K Ca f) (F : FnG X.prog X.w X.K X.mg X.base k f fd ps fm) (hr : Room (k + 1) X.A) (hgd : Qt X.A X.base) (tk : Takes X W) (hb : Binds X.K fd ps [])
    (I : Inv X pins σ H s) (r : Vals vs us) (hW : ∀ x dx cls d H', H x = none → H dx = none → dx ≠ x → E cls d H' → W cls d σ H')
    (h : ∀ x dx, H x = none → H dx = none → dx ≠ x → spM X.K X.mg fm (.ref x :: vs) (upd (upd H dx (.own x)) x (.ins Ca dx [])) (fun v H2 => v = .non ∧ Q (.ref x) H2) E) :
    wpAny (model X.prog X.w) X.A (call (.ref Ca) us) (EP X pins σ Q) X.xe s := by
  have hx0 := I.hok.fresh (Nat.le_succ s.heap.objs.size)
  have hx1 := I.hok.fresh (Nat.le_refl s.heap.objs.size)
  have hq := h (s.heap.objs.size + 1) s.heap.objs.size hx0 hx1 (Nat.ne_of_lt (Nat.lt_succ_self _))
  have I2 := Inv.made (C := Ca) I
  have r2 : Vals (V.ref (s.heap.objs.size + 1) :: vs) (Value.ref (s.heap.objs.size + 1) :: us) := .cons rfl r
  have hl : (Value.ref (s.heap.objs.size + 1) :: us ++ []).length = ps.length := by
    have e := sp_len F hq
    rw [r2.length] at e
    simpa using e
  refine wpAny_call (make_map (f := f) I.kIn M0.makes M0.init (beq_iff_eq.mp M0.fn) (codeAny_mono (F.run _ X.stack _ _ ⟨Value.ref (s.heap.objs.size + 1) :: us, []⟩ (Value.ref (s.heap.objs.size + 1) :: us) _ _ E (hr.make Ca us []) hgd.under
    (I2.env0.make Ca us []) (by simpa using hb _ (Value.ref (s.heap.objs.size + 1) :: us) I2.kIn hl) r2 hq) fun r s' hq' => ?_))
  match r, hq' with
  | .error e, hq' => exact takes_xe tk I2 (fun cls d H' q => hW _ _ cls d H' hx0 hx1 (Nat.ne_of_lt (Nat.lt_succ_self _)) q) hq'
  | .ok (.ret u), hq' =>
    obtain ⟨v, H', I3, rv, ev, q3⟩ := I2.after hq'
    subst ev
    exact ⟨rv, ⟨V.ref (s.heap.objs.size + 1), H', I3, rfl, q3⟩⟩
theorem de_make (T : MakeD X.prog X.w X.K X.mg X.base k C ps fm) (hr : Room j X.A) (hj : k + 1 ≤ j) (hgd : Qt X.A X.base) (tk : Takes X W) (hg : Gl X C) (ha : DA X W (e :: es) ma)
    (hdb : (C == ("__debug__" : Str)) = false := by decide) (he : starEach (e :: es) X.env = (false, eval e X.env) :: starEach es X.env := by rfl) (hpl : (backTo pos (starEach es X.env)).any (·.1) = false := by rfl) :
    DE X W (.Call (.Name C p) (e :: es) [] pos) (eMk C fm ma) := by
  obtain ⟨Ca, f, fd, gC, hk, M0, F, hb⟩ := T.ex
  refine ⟨fun pins s σ H Q I ⟨hd, as, ρ, S, rel, po⟩ => wpAny_Call_Name_kw (ld_glob I hg gC (PySem.W.callWith_K (h₀ := X.base) I.ok.mod.kin M0.kp (thn (ha.run pos pins s σ H (fun vs H1 => ∀ x dx, H1 x = none → H1 dx = none → dx ≠ x →
    spM X.K X.mg fm (.ref x :: vs) (upd (upd H1 dx (.own x)) x (.ins Ca dx [])) (fun v H2 => v = .non ∧ Q (.ref x) H2) fun cls d H' => W cls d σ H') I (tA_seq rel po fun as1 S1 H1 vs ds g1 rel1 r1 po1 x dx nx nd ne => ?_)) fun us s1 ⟨vs, H1, I1, r, q⟩ => ⟨I1.kIn, ?_⟩) he hpl) hdb)⟩
  · obtain ⟨w1, g2, e2⟩ := rel1.w.fresh (o := .own x) nd
    have nx' : upd H1 dx (.own x) x = none := by rw [upd_ne (Ne.symm ne)]; exact nx
    obtain ⟨w2, g3, e3⟩ := w1.newC (co := .ins C []) (o := .ins Ca dx []) nx' ⟨hk, rfl, .nil⟩
    have rel2 : REL X.K hd (as1 ++ [x]) ρ (S1 ++ [some (.ins C [])]) σ (upd (upd H1 dx (.own x)) x (.ins Ca dx [])) := rel1.grow (g2.trans g3) w2
    refine ⟨hd, as1 ++ [x], _, .cell S1.length :: ds, w2, .cons (.cell e3) ((r1.grow g2).grow g3), ?_⟩
    cases em : fm (.cell S1.length :: ds) (S1 ++ [some (.ins C [])]) with
    | stuck => rw [em] at po1; exact po1.elim
    | exc z S' =>
      rw [em] at po1
      exact fun as' cls dd H' g w' xr => po1 as' cls dd H' ((g2.trans g3).trans g) ((rel2.grow g w')) xr
    | ok d S' =>
      rw [em] at po1
      intro as' v H' g w' r'
      cases r' with
      | non => exact ⟨rfl, po1 as' H' ((g2.trans g3).trans g) (rel2.grow g w') (.ref x) (.cell (g.pre _ _ e3))⟩
      | _ => exact po1.elim
  · exact run_makeG M0 F (hr.mono hj) hgd tk hb I1 r (fun _ _ _ _ _ _ _ _ z => z) q
end
/-! what the text says of methods -/
structure MethAt (K : PySem.W.Frag) (C m : Str) (qual : Str) (st : Stmt) (ps : List Str) : Prop where
  ex : ∃ (Ca f : Addr) (fd : FuncData), ClsK K C (.ref Ca) ∧ Cls K Ca ∧ Meth K Ca m f ∧ Fun K m qual st f fd ∧ Binds K fd ps []
structure MakeAt (K : PySem.W.Frag) (mg : Str → Option Value) (C : Str) (qual : Str) (st : Stmt) (ps : List Str) : Prop where
  ex : ∃ (Ca f : Addr) (fd : FuncData), mg C = some (.ref Ca) ∧ ClsK K C (.ref Ca) ∧ Mk K Ca f ∧ Fun K "__init__" qual st f fd ∧ Binds K fd ps []
section
variable {P : Program} {w : World} {K : PySem.W.Frag} {mg : Str → Option Value} {base : Heap} {k : Nat} {C x qual : Str} {st : Stmt} {N ps : List Str} {m : SD}
theorem meth_of (h : MethAt K C x qual st ps) (Sc : FnScope N ps (defScope st))
    (hbody : ∀ (f : Addr) (cdv : Value) (A : Around) (outer : List PySem.Env) (s : Shared) (H : Hp) (E : XK), Room k (A.deeper (envOfC qual (defScope st) s.heap.objs.size f cdv)) → Qt (A.deeper (envOfC qual (defScope st) s.heap.objs.size f cdv)) base →
      DSs (cxOf (L2.CX P w) P w K mg base N qual (defScope st) f cdv A outer s H E) (WOf E) (defBody st) m) : MethD P w K mg base (k + 1) C x ps (runFn N.length ps.length m) := by
  obtain ⟨Ca, f, fd, h1, h2, h3, F, h4⟩ := h.ex
  exact ⟨Ca, f, fd, h1, h2, h3, Fun.okG F Sc (hbody f), h4⟩
theorem make_of (h : MakeAt K mg C qual st ps) (Sc : FnScope N ps (defScope st))
    (hbody : ∀ (f : Addr) (cdv : Value) (A : Around) (outer : List PySem.Env) (s : Shared) (H : Hp) (E : XK), Room k (A.deeper (envOfC qual (defScope st) s.heap.objs.size f cdv)) → Qt (A.deeper (envOfC qual (defScope st) s.heap.objs.size f cdv)) base →
      DSs (cxOf (L2.CX P w) P w K mg base N qual (defScope st) f cdv A outer s H E) (WOf E) (defBody st) m) : MakeD P w K mg base (k + 1) C ps (runFn N.length ps.length m) := by
  obtain ⟨Ca, f, fd, h1, h2, h3, F, h4⟩ := h.ex
  exact ⟨Ca, f, fd, h1, h2, h3, Fun.okG F Sc (hbody f), h4⟩
end
theorem tblO_mk {K : PySem.W.Frag} {l : List (Str × Str)} (h : ∀ p ∈ l, ∀ Ca, ClsK K p.1 (.ref Ca) → Cls K Ca ∧ NoAttr K Ca p.2) : TblO K (fun n f => decide ((n, f) ∈ l)) := fun n f e => h (n, f) (of_decide_eq_true e)
/-! a told tuple whose lists are changed no more -/
def mFrzL : List D → M (List D)
  | [] => fun S => .ok [] S
  | d :: ds => fun S => (mFrz d S).bind fun x S1 => (mFrzL ds S1).bind fun xs S2 => .ok (x :: xs) S2
def mFrzT : D → M D
  | .tup xs => fun S => (mFrzL xs S).bind fun ys S1 => .ok (.tup ys) S1
  | d => fun S => .ok d S
/-- f() -/
theorem de_fn0 {X : Cx} {W : WX} {k j : Nat} {x : Str} {st : Stmt} {ps : List Str} {m : FM} {p pos : Pos} (h : Has X.prog X.w X.K X.mg X.base k x st ps m) (hr : Room j X.A) (hj : k ≤ j) (hgd : Qt X.A X.base) (tk : Takes X W) (hg : Gl X x)
    (hdb : (x == ("__debug__" : Str)) = false := by decide) : DE X W (.Call (.Name x p) [] [] pos) (eL m aNil) := by
  obtain ⟨f, fd, F, hm, Fu, hb⟩ := h.ex
  exact de_call0 F (hr.mono hj) hgd tk hg hm Fu.kp hb hdb
end
end DL

set_option Elab.async false
set_option linter.all false
set_option maxRecDepth 100000
set_option maxHeartbeats 1000000
/-! DV: isinstance by a tuple of classes; more methods of lists. -/
namespace DL
open PySem PySem.Spec PyProof.Rows L2
noncomputable section
/-! ### isinstance of an error, by a tuple of classes -/
def rIsXT (K : PySem.W.Frag) : List V → Hp → VK → Prop := fun xs H Q => ∃ (a C : Addr) (d : Option Addr) (tp : Addr) (cs : List V) (us : List Value) (b : Bool), xs = [.ref a, .ref tp] ∧ ErIs H a C d ∧ ExcC K C ∧ (PySem.W.clsIn K C).isSome = true ∧ SqT K H tp cs ∧ (∀ its, Vals cs its → its = us) ∧ PySem.W.kitAny K (.ref C) us = some b ∧ Q (.bl b) H
theorem call_isXT {X : Cx} : CallR X (.builtin "isinstance") (rIsXT X.K) := by
  intro pins s σ H xs us Q I r h
  obtain ⟨a, C, d, tp, cs, ws, b, rfl, hE, hC, hcl, hT, hcv, e, q⟩ := h
  obtain ⟨u1, u2, rfl, r1, r2⟩ := vals2 r
  cases (show u1 = Value.ref a from r1)
  cases (show u2 = Value.ref tp from r2)
  obtain ⟨oe, od, J⟩ := erIs_inst I hE
  obtain ⟨its, rv, ⟨o, h1, h2, n, h3⟩, _⟩ := I.tuple hT
  have e3 := hcv its rv
  subst e3
  obtain ⟨oc, od', dt, sl⟩ := o
  simp only at h2 h3
  subst h2 h3
  exact PySem.W.kia_tup (PySem.W.kitx_exc hcl hC.hg hC.hk hC.hs hC.ha hC.hn hC.ht hC.hm) I.kIn J h1 e (fun z => nomatch z) fun tk => ⟨.bl b, H, I.kept (t' := tk) fun _ _ z => z, rfl, q⟩
/-- of classes in a row -/
def anyT (tc : Str → Str → Option Bool) (tt : Str → String → Option Bool) (n : Str) : List D → Option Bool
  | [] => some false
  | .cls c :: r => match tc n c, anyT tc tt n r with
    | some b, some b' => some (b || b')
    | _, _ => none
  | .ty c :: r => match tt n c, anyT tc tt n r with
    | some b, some b' => some (b || b')
    | _, _ => none
  | _ :: _ => none
def fIsiT (tc : Str → Str → Option Bool) (tt : Str → String → Option Bool) : List D → M D := fun ds => match ds with
  | [.err n _ _, .tup (c :: cs)] => fun S => match anyT tc tt n (c :: cs) with
    | some b => .ok (.bl b) S
    | none => .stuck
  | _ => fun _ => .stuck
/-! ### methods of lists -/
def mInsert : D → List D → M D
  | .cell n, [.int i, x] => fun S => match S[n]? with
    | some (some (.lst xs)) => if xs.length < sizeLine ∧ 0 ≤ i ∧ i < 2 ^ 63 then .ok .non (S.set n (some (.lst (xs.take i.toNat ++ [x] ++ xs.drop i.toNat)))) else .stuck
    | _ => .stuck
  | _, _ => fun _ => .stuck
def rInsert : V → List V → Hp → VK → Prop := fun x vs H Q => ∃ (l : Addr) (xs : List V) (i : Int) (y : V), x = .ref l ∧ vs = [.int i, y] ∧ H l = some (.lst xs) ∧ xs.length < sizeLine ∧ 0 ≤ i ∧ i < 2 ^ 63 ∧
    Q .non (upd H l (.lst (xs.take i.toNat ++ [y] ++ xs.drop i.toNat)))
def mPop : D → List D → M D
  | .cell n, [] => fun S => match S[n]? with
    | some (some (.lst xs)) => match xs[xs.length - 1]? with
      | some y => .ok y (S.set n (some (.lst xs.dropLast)))
      | none => .stuck
    | _ => .stuck
  | _, _ => fun _ => .stuck
theorem RepL.dropLast {K : PySem.W.Frag} {as : List Addr} {F : Hp} {ds : List D} {vs : List V} (h : RepL K as F vs ds) : RepL K as F vs.dropLast ds.dropLast := by
  rw [List.dropLast_eq_take, List.dropLast_eq_take, h.length]
  exact h.take _
def mClear : D → List D → M D
  | .cell n, [] => fun S => match S[n]? with
    | some (some (.lst _)) => .ok .non (S.set n (some (.lst [])))
    | _ => .stuck
  | _, _ => fun _ => .stuck
end
end DL

set_option Elab.async false
set_option linter.all false
set_option maxRecDepth 100000
/-! slices with a step; str.rpartition; list.index; a module's table of texts: its items, its look-up -/
namespace DL
open PySem PySem.Spec PyProof.Rows L2

/-! ### xs[lo:hi:c] -/
/-- the places that a slice picks -/
def ixs3 (lo hi st : Option Int) (n : Nat) : List Nat := sliceRange (sliceBounds lo hi st n).1 (sliceBounds lo hi st n).2.1 (sliceBounds lo hi st n).2.2
def pick3 {α : Type} (xs : List α) (lo hi st : Option Int) : List α := (ixs3 lo hi st xs.length).filterMap (xs[·]?)
def rSl3 (K : PySem.W.Frag) (c : Int) : V → Option Int → Option Int → Hp → VK → Prop := fun x lo hi H Q => ∃ a xs, x = .ref a ∧ SqL K H a xs ∧ ∀ p, H p = none → Q (.ref p) (upd H p (.lst (pick3 xs lo hi (some c))))
/-- a step that is written: what it is -/
def StepIs (X : Cx) (e : Expr) (c : Int) : Prop := PO X (some e) fun _ H Q => Q (some c) H
section
variable {X : Cx} {W : WX}
end
def oSl3 (c : Int) (d : D) (lo hi : Option Int) : M D := fun S => match listOf S d with
  | some xs => .ok (.lst (pick3 xs lo hi (some c))) S
  | none => .stuck
section
variable {X : Cx} {W : WX}
end

/-! ### str.rpartition, list.index of a text -/
def mRPart : D → List D → M D
  | .str a, [.str b] => fun S => if (b.length == 0) = false ∧ a.length ≤ sizeLine then .ok (.tup [.str (Txt.rpartition a b).1, .str (Txt.rpartition a b).2.1, .str (Txt.rpartition a b).2.2]) S else .stuck
  | _, _ => fun _ => .stuck
def mIndexS : D → List D → M D
  | d, [.str b] => fun S => match (listOf S d).bind strsD with
    | some ys => (match ys.findIdx? (· == b) with
      | some j => .ok (.int (j : Nat)) S
      | none => .stuck)
    | none => .stuck
  | _, _ => fun _ => .stuck
/-! ### a module's table of texts -/
def RowsK (P : Params) : List DictEntry → List (Str × Str) → Prop
  | [], [] => True
  | e :: r, kv :: q => (∃ t t2, e.key = .str kv.1 t ∧ e.hash = PyData.keyHash P kv.1 ∧ e.val = .str kv.2 t2) ∧ RowsK P r q
  | _, _ => False
structure KTab (K : PySem.W.Frag) (w : World) (a : Addr) (tb : List (Str × Str)) : Prop where
  ex : ∃ es n, K.lookup a = some ⟨.type "dict", none, .dict es n, #[]⟩ ∧ RowsK w.params es.toList tb
  low : (a == sysModules) = false
  nd : (tb.map (·.1)).Nodup
  get : ∀ kv ∈ tb, ∃ t, PySem.W.nsIn K a kv.1 = some (some (.str kv.2 t))
section
variable {X : Cx} {pins : List (Addr × Obj)} {σ : L2.St} {H : Hp} {s : Shared} {d : Addr} {tb : List (Str × Str)}
end
/-- the table's items, each in a new pair -/
def Itb (tb : List (Str × Str)) : It :=
  ⟨fun i _ => i < tb.length, fun i H x H' => ∃ T k v, tb[i]? = some (k, v) ∧ x = .ref T ∧ H T = none ∧ H' = upd H T (.tup [.str k, .str v]), fun i _ => tb.length ≤ i⟩
section
variable {X : Cx} {W : WX} {tb : List (Str × Str)} {d : Addr}
def imTab (tb : List (Str × Str)) : IM := fun _ S => .ok (itL (tb.map fun kv => .tup [.str kv.1, .str kv.2])) S
def oTab (tb : List (Str × Str)) : D → M D
  | .str k => fun S => match tb.lookup k with
    | some v => .ok (.str v) S
    | none => .stuck
  | _ => fun _ => .stuck
end
end DL

set_option Elab.async false
set_option linter.all false
set_option maxRecDepth 100000
set_option maxHeartbeats 4000000
/-! DX4: errors of own classes that keep things, over other built-in classes than ValueError (after HandS' ExcInit, for any root). -/
namespace DL
open PySem PySem.Spec PyProof.Rows L2
/-! ### a root of errors -/
structure RootR (B newId initId : String) (tl : List Value) : Prop where
  F : ExcBaseFacts B newId initId tl
  st : StoreFacts B tl "object.__setattr__" "object"
  ty : typeOf (.type B) = pure (.type "type")
section
open PySem.W PySem.HandSPX Builtin Builtin.ObjectAttr
variable {prog : Program} {w : World} {A : Around} {R : Result → Shared → Prop} {h0 : Heap} {gs : Array GenState} {dr : Drawn} {tk0 : Nat} {os : OsState}
variable {B newId initId : String} {tl : List Value}
end
/-! ### a class over such a root -/
structure OexR (newId : String) (tl : List Value) (K : PySem.W.Frag) (C : Addr) : Prop where
  cls : ∃ nm q N bs sn sub ab col dd k0 k1 k2 k3 k5, K.lookup C = some (excClassObj nm q C N bs tl true sn sub ab col dd k0 k1 k2 k3 k5 newId)
  sa : PySem.W.findIn K (.ref C) "__setattr__" = some (some (.builtin "object.__setattr__"))
  exC : PySem.W.subIn K (.ref C) (.type "BaseException") = some true
  tyC : PySem.W.typeIn K (.ref C) = some (.type "type")
  kC : PySem.W.keepIn K (.ref C) = true
section
variable {B newId initId : String} {tl : List Value}
variable {X : Cx} {pins : List (Addr × Obj)} {σ : L2.St} {H : Hp} {s : Shared} {a C : Addr} {f : Str} {y : V} {u : Value} {Q : Unit → Shared → Prop} {E : Value → Shared → Prop} {A : Around}
end
/-! ### readings and rules -/
def tRtI (newId : String) (tl : List Value) (K : PySem.W.Frag) (ta : TA) : TE := fun σ H Q => ta σ H fun vs H1 => ∃ (a C : Addr) (ws : List V), vs = .ref a :: ws ∧ ws.length ≤ 1000 ∧ OexR newId tl K C ∧ H1 a = some (exo a C none) ∧ Q .non H1
def tRtO (newId : String) (tl : List Value) (K : PySem.W.Frag) (f : Str) (to te : TE) : TS := fun D σ H => te σ H fun y H1 => to σ H1 fun x H2 => ∃ a C : Addr, x = .ref a ∧ OexR newId tl K C ∧ PySem.W.findIn K (.ref C) f = some none ∧
  H2 a = some (exo a C none) ∧ ∀ dx, H2 dx = none → dx ≠ a → D.nx σ (upd (upd H2 dx (exd dx [(f, y)])) a (exo a C (some dx)))
section
variable {B newId initId : String} {tl : List Value}
variable {X : Cx} {o e : Expr} {es : List Expr} {to te : TE} {ta : TA} {f : Str} {p p' p1 p2 pos : Pos}
end
section
variable {P : Program} {w : World} {K : PySem.W.Frag} {mg : Str → Option Value} {base : Heap}
variable {B newId initId : String} {tl : List Value}
/-- what the text says of a class of errors over another root, with one thing kept -/
structure ErR (newId : String) (tl : List Value) (P : Program) (w : World) (K : PySem.W.Frag) (mg : Str → Option Value) (base : Heap) (n f : Str) : Prop where
  ex : ∃ (C fI : Addr) (fd : FuncData), mg n = some (.ref C) ∧ ClsK K n (.ref C) ∧ OexR newId tl K C ∧ PySem.W.findIn K (.ref C) "__init__" = some (some (.ref fI)) ∧ PySem.W.typeIn K (.ref fI) = some (.type "function") ∧
    FnOk P w K mg base (L2.CX P w) 1 fI fd ["self", f] (spI1 C f) ∧ Binds K fd ["self", f] []
end
section
variable {B newId initId : String} {tl : List Value}
variable {X : Cx} {W : WX} {n f : Str} {e : Expr} {es : List Expr} {ma : AM} {p pos pos2 : Pos} {j : Nat}
end
end DL

set_option Elab.async false
set_option linter.all false
set_option maxRecDepth 100000
set_option maxHeartbeats 4000000
/-! DX5: zip(xs, ys, strict=True), after the kit's way with zip(xs, ys). -/
namespace DL
open PySem PySem.Spec PyProof.Rows L2
/-! ### a type called with keywords -/
section
variable {M : Model} {A : Around} {E : Value → Shared → Prop} {s : Shared}
end
section
variable {prog : Program} {w : World} {A : Around} {E : Value → Shared → Prop} {s : Shared}
end
/-! ### the strict zip's object -/
abbrev IsZs (h : Heap) (z TI TO : Addr) (f0 : Value) : Prop :=
  h.get? z = some { cls := .type "zip", dict := none, data := .fields #[f0, .bool false, .bool true, .ref TI, .ref TO], slots := #[] }
section
variable {prog : Program} {w : World} {A : Around} {E : Value → Shared → Prop} {s : Shared}
end
/-! ### made -/
abbrev kwS : List (Str × Value) := [(Str.ofString "strict", .bool true)]
abbrev zsH5 (h : Heap) (l1 l2 : Addr) : Heap := (zipH4 h l1 l2).push { cls := .type "zip", data := .fields #[.none, .bool false, .bool true, .ref (zipH2 h l1 l2).objs.size, .ref (zipH3 h l1 l2).objs.size] }
section
variable {prog : Program} {w : World} {A : Around} {E : Value → Shared → Prop} {s : Shared}
end
/-! ### walked -/
def Itzs (K : PySem.W.Frag) (a b : Addr) : It :=
  ⟨(Itz K a b).go, (Itz K a b).yld, fun i H => ∃ xs ys : List V, SqL K H a xs ∧ SqL K H b ys ∧ xs.length ≤ i ∧ ys.length ≤ i⟩
def iZs (K : PySem.W.Frag) (ta tk : TA) : TI := fun σ H R => ta σ H fun vs H1 => tk σ H1 fun ks H2 => ∃ a b xs ys, vs = [.ref a, .ref b] ∧ ks = [.bl true] ∧ SqL K H2 a xs ∧ SqL K H2 b ys ∧ R (Itzs K a b) H2
/-! ### as data -/
def itZS (d e : D) (k : Nat) : ItD := ⟨fun i S => match listOf S d, listOf S e with
  | some xs, some ys => if xs.length = ys.length then some ((zipD xs ys)[i]?) else none
  | _, _ => none, k + 1⟩
def mItZS : List D → M ItD
  | [d, e] => fun S => match frozenL d, frozenL e with
    | some xs, some ys => if xs.length = ys.length then .ok (itL (zipD xs ys)) S else .stuck
    | _, _ => match listOf S d, listOf S e with
      | some xs, some ys => .ok (itZS d e (zipD xs ys).length) S
      | _, _ => .stuck
  | _ => fun _ => .stuck
def imZS (m k : AM) : IM := fun ρ => M.bind (m ρ) fun ds => M.bind (k ρ) fun ks => match ks with
  | [.bl true] => mItZS ds
  | _ => fun _ => .stuck
end DL

set_option Elab.async false
set_option linter.all false
set_option maxRecDepth 100000
set_option maxHeartbeats 4000000
/-! DX6: defs that call themselves; list(range(..)); [f, g][i](..); tables made by a comprehension, asked by in; xs[i], y = .. -/
namespace DL
open PySem PySem.Spec PyProof.Rows L2
noncomputable section
/-! ### a def that calls itself -/
theorem FnG.none {P : Program} {w : World} {K : PySem.W.Frag} {mg : Str → Option Value} {base : Heap} {k : Nat} {f : Addr} {fd : FuncData} {ps : List Str} : FnG P w K mg base k f fd ps (fun _ _ => .stuck) :=
  ⟨fun _ _ => .inl rfl, fun _ _ _ _ _ _ _ _ _ _ _ _ _ _ ⟨_, _, _, _, _, _, z⟩ => z.elim⟩
theorem Has.none {P : Program} {w : World} {K : PySem.W.Frag} {mg : Str → Option Value} {base : Heap} {k : Nat} {x : Str} {st : Stmt} {ps : List Str} (h : DefAt K mg x st ps) : Has P w K mg base k x st ps (fun _ _ => .stuck) := by
  obtain ⟨f, fd, F, hm, hb⟩ := h.ex
  exact ⟨f, fd, .none, hm, F, hb⟩
/-- n turns of a body with a hole -/
def recF (n np : Nat) (d : FM → SD) : Nat → FM
  | 0 => fun _ _ => .stuck
  | k + 1 => runFn n np (d (recF n np d k))
/-! ### list(range(..)) -/
def mLRng : List D → M D
  | [.int j] => fun S => if -(2 ^ 62) ≤ j ∧ j < 2 ^ 62 ∧ j.toNat ≤ 2 ^ 24 then .ok (.lst ((List.range j.toNat).map fun i : Nat => D.int i)) S else .stuck
  | _ => fun _ => .stuck
def mLRngC : List D → M D
  | [.int j] => fun S => if -(2 ^ 62) ≤ j ∧ j < 2 ^ 62 ∧ j.toNat ≤ 2 ^ 24 then .ok (.cell S.length) (S ++ [some (.lst ((List.range j.toNat).map fun i : Nat => D.int i))]) else .stuck
  | _ => fun _ => .stuck
section
variable {X : Cx} {W : WX} {e : Expr} {me : EM} {p p2 pos pos2 : Pos}
end
/-! ### [f, g][i](..) -/
def eCs (fs : List FM) (ix : EM) (a : AM) : EM := fun ρ S => (ix ρ S).bind fun d S1 => match d with
  | .int i => match L2.atI fs i with
    | some m => (a ρ S1).bind m
    | none => .stuck
  | _ => .stuck
section
variable {X : Cx} {W : WX} {j k1 k2 : Nat} {ps1 ps2 : List Str} {m1 m2 : FM} {x1 x2 : Str} {st1 st2 : Stmt} {p1 p2 lp sp pos : Pos} {ie e : Expr} {es : List Expr} {mi : EM} {mr : AM}
end
end
end DL

set_option Elab.async false
set_option linter.all false
set_option maxRecDepth 100000
set_option maxHeartbeats 4000000
/-! DX7: tables made by a comprehension; in, not in. -/
namespace DL
open PySem PySem.Spec PyProof.Rows L2
noncomputable section
def keyD : D → Option Key
  | .int i => some (.inl i)
  | .str s => some (.inr s)
  | _ => none
def putKD (kvs : List (Key × D)) (k : Key) (v : D) : List (Key × D) :=
  if (kvs.any fun kv => decide (kv.1 = k)) = true then kvs.map (fun kv => if kv.1 = k then (kv.1, v) else kv) else kvs ++ [(k, v)]
def dcLoop (nx : Nat → Sto → Option (Option D)) (T : Tg) (c : BM) (ek ev : EM) (ρ : Env) : Nat → Nat → List (Key × D) → M (List (Key × D))
  | 0, _, _, _ => .stuck
  | n + 1, i, acc, S => match nx i S with
    | none => .stuck
    | some none => .ok acc S
    | some (some d) => match asg T d ρ with
      | none => .stuck
      | some ρ' => (c ρ' S).bind fun b S1 => if b then (ek ρ' S1).bind fun x S2 => (ev ρ' S2).bind fun y S3 => (match keyD x with
          | some k => if acc.length < sizeLine then dcLoop nx T c ek ev ρ n (i + 1) (putKD acc k y) S3 else .stuck
          | none => .stuck) else dcLoop nx T c ek ev ρ n (i + 1) acc S1
def eDc (im : IM) (T : Tg) (c : BM) (ek ev : EM) (vs : List Nat) : EM := fun ρ => M.bind (im ρ) fun it S => (noX (dcLoop it.nx T c ek ev (wipeD ρ vs) it.fu 0 [] S)).bind fun kvs S' => .ok (.cell S'.length) (S' ++ [some (.dK kvs)])
section
variable {X : Cx} {W : WX} {kx vx tg iter : Expr} {ifs : List Expr} {scope : Scope} {own : List (Str × Nat)} {pos spos : Pos} {im : IM} {T : Tg} {mt : BM} {mk me : EM}
end
/-! ### in, not in -/
def inK (neg : Bool) (x t : D) (S : Sto) : R Bool := match keyD x, t with
  | some k, .cell n => match S[n]? with
    | some (some (.dK kvs)) => .ok ((kvs.any fun kv => decide (kv.1 = k)) != neg) S
    | _ => .stuck
  | _, _ => .stuck
def bInK (neg : Bool) (a b : EM) : BM := fun ρ => M.bind (a ρ) fun x => M.bind (b ρ) fun t => inK neg x t
section
variable {X : Cx} {W : WX} {a b : Expr} {ma mb : EM} {pos : Pos}
end
/-! ### a def with keyword-only parameters that must be given -/
end
end DL

set_option Elab.async false
set_option linter.all false
set_option maxRecDepth 100000
set_option maxHeartbeats 2000000
/-! DX8: lists that are changed within others: shown, compared, changed no more. -/
namespace DL
open PySem PySem.Spec PyProof.Rows L2
noncomputable section
/-- what a value is now, cells read to a depth -/
def deepD (S : Sto) : Nat → D → D
  | 0, d => d
  | n + 1, d => match d with
    | .cell m => (match S[m]? with
      | some (some (.lst xs)) => .lst (xs.map (deepD S n))
      | _ => .cell m)
    | .tup xs => .tup (xs.map (deepD S n))
    | .lst xs => .lst (xs.map (deepD S n))
    | .ro xs => .ro (xs.map (deepD S n))
    | d => d
mutual
theorem deep_pr {S : Sto} : ∀ {d : D} {n k : Nat}, d.pr k = true → deepD S n d = d
  | d, 0, _, _ => rfl
  | .non, n + 1, _, _ => rfl
  | .bl b, n + 1, _, _ => rfl
  | .int i, n + 1, _, _ => rfl
  | .str s, n + 1, _, _ => rfl
  | .dE, n + 1, _, _ => rfl
  | .tup xs, n + 1, k, h => by
    simp only [D.pr, Bool.and_eq_true] at h
    show D.tup (xs.map (deepD S n)) = .tup xs
    rw [deep_prL h.2]
  | .lst xs, n + 1, k, h => by
    simp only [D.pr, Bool.and_eq_true] at h
    show D.lst (xs.map (deepD S n)) = .lst xs
    rw [deep_prL h.2]
  | .ro xs, n + 1, k, h => by
    simp only [D.pr, Bool.and_eq_true] at h
    show D.ro (xs.map (deepD S n)) = .ro xs
    rw [deep_prL h.2]
  | .cell m, n + 1, k, h => by simp [D.pr] at h
  | .ty _, n + 1, k, h => by simp [D.pr] at h
  | .err _ _ _, n + 1, k, h => by simp [D.pr] at h
  | .cls _, n + 1, k, h => by simp [D.pr] at h
theorem deep_prL {S : Sto} : ∀ {xs : List D} {n k : Nat}, D.prL k xs = true → xs.map (deepD S n) = xs
  | [], _, _, _ => rfl
  | x :: xs, n, k, h => by
    simp only [D.prL, Bool.and_eq_true] at h
    rw [List.map_cons, deep_pr h.1, deep_prL h.2]
end
section
variable {K : PySem.W.Frag} {hd : Hid} {as : List Addr} {S : Sto} {H : Hp}
end
/-! ### repr, == and != of such -/
def fReprD : List D → M D
  | [d] => fun S => if (deepD S 12 d).pr 60 && (deepD S 12 d).shows then .ok (.str (deepD S 12 d).shown) S else .stuck
  | _ => fun _ => .stuck
def oEqDp (d e : D) : M D := fun S => match eqD d e (deepD S 12 d) (deepD S 12 e) with
  | some b => .ok (.bl b) S
  | none => .stuck
def oNeDp (d e : D) : M D := fun S => match eqD d e (deepD S 12 d) (deepD S 12 e) with
  | some b => .ok (.bl (!b)) S
  | none => .stuck
/-! ### changed no more, to a depth -/
def frzM (f : D → Sto → Option (D × Sto)) : List D → Sto → Option (List D × Sto)
  | [], S => some ([], S)
  | x :: xs, S => (f x S).bind fun p => (frzM f xs p.2).map fun q => (p.1 :: q.1, q.2)
def frzN : Nat → D → Sto → Option (D × Sto)
  | 0, d, S => some (d, S)
  | n + 1, d, S => match d with
    | .cell m => (match S[m]? with
      | some (some (.lst xs)) => (frzM (frzN n) xs (S.set m none)).map fun p => (.lst p.1, p.2)
      | _ => none)
    | .tup xs => (frzM (frzN n) xs S).map fun p => (.tup p.1, p.2)
    | .lst xs => (frzM (frzN n) xs S).map fun p => (.lst p.1, p.2)
    | d => some (d, S)
def mFrzDp (d : D) : M D := fun S => match frzN 12 d S with
  | some (e, S') => .ok e S'
  | none => .stuck
section
variable {K : PySem.W.Frag} {hd : Hid} {as : List Addr}
def FrzOk (K : PySem.W.Frag) (hd : Hid) (as : List Addr) (f : D → Sto → Option (D × Sto)) : Prop := ∀ {d e : D} {S S' : Sto} {H : Hp} {v : V}, Wld K hd as S H → Rep K as (fz hd as S H) v d → f d S = some (e, S') → Wld K hd as S' H ∧ Grow hd as S H as S' H ∧ Rep K as (fz hd as S' H) v e
end
end
end DL

set_option Elab.async false
set_option linter.all false
set_option maxRecDepth 100000
set_option maxHeartbeats 2000000
/-! DX9: a name's data is changed no more behind a statement, cells within it too. -/
namespace DL
open PySem PySem.Spec PyProof.Rows L2
noncomputable section
def frzSlotD (i : Nat) : RS → RS
  | .ok .nx ρ S => match ρ[i]? with
    | some (some d) => match frzN 12 d S with
      | some (e, S') => .ok .nx (ρ.set i (some e)) S'
      | none => .stuck
    | _ => .stuck
  | r => r
def sThenFrzD (i : Nat) (m : SD) : SD := fun ρ S => frzSlotD i (m ρ S)
/-! ### != with an empty list -/
def rNeZ (K : PySem.W.Frag) : R2 := fun x y H Q => ∃ a b xs, x = .ref a ∧ y = .ref b ∧ SqL K H a xs ∧ SqL K H b [] ∧ Q (.bl (!xs.isEmpty)) H
def oNeZ : D → D → M D
  | d, .lst [] => fun S => match listOf S d with
    | some xs => .ok (.bl (!xs.isEmpty)) S
    | none => .stuck
  | _, _ => fun _ => .stuck
/-! ### t + u for tuples of any length -/
def oAddU : D → D → M D
  | .tup xs, .tup ys => fun S => if xs.length + ys.length ≤ sizeLine then .ok (.tup (xs ++ ys)) S else .stuck
  | d, e => oAdd d e
def rAddU (K : PySem.W.Frag) : R2 := fun x y H Q => rAddA K x y H Q ∨ rCatA K x y H Q
end
end DL

set_option Elab.async false
set_option linter.all false
set_option maxRecDepth 100000
set_option maxHeartbeats 2000000
/-! DY1: an int times a list. -/
namespace DL
open PySem PySem.Spec PyProof.Rows L2
noncomputable section
def rRepR : R2 := fun x y H Q => ∃ l k xs, y = .ref l ∧ x = .int k ∧ H l = some (.lst xs) ∧ -(2 ^ 63) ≤ k ∧ k < 2 ^ 63 ∧ xs.length * k.toNat ≤ sizeLine ∧
  ∀ p, H p = none → Q (.ref p) (upd H p (.lst (List.replicate k.toNat xs).flatten))
def oMulR : D → D → M D
  | .int k, d => fun S => match listOw S d with
    | some xs => if -(2 ^ 63) ≤ k ∧ k < 2 ^ 63 ∧ xs.length * k.toNat ≤ sizeLine then .ok (.lst (List.replicate k.toNat xs).flatten) S else .stuck
    | none => .stuck
  | _, _ => fun _ => .stuck
end
end DL

set_option Elab.async false
set_option linter.all false
set_option maxRecDepth 100000
set_option maxHeartbeats 2000000
/-! DY2: o[i], x = a list of two. -/
namespace DL
open PySem PySem.Spec PyProof.Rows L2
noncomputable section
def sAsgSN (mo mi : EM) (k : Nat) (m : EM) : SD := fun ρ S => (m ρ S).to ρ fun d S1 => match listOf S1 d with
  | some [x, y] => (mo ρ S1).to ρ fun o S2 => (mi ρ S2).to ρ fun i S3 => match setD o i x S3 with
    | some S4 => .ok .nx (ρ.set k (some y)) S4
    | none => .stuck
  | _ => .stuck
section
variable {X : Cx} {W : WX} {e o i : Expr} {me mo mi : EM} {pos tpos p2 p3 : Pos} {kk : Nat} {x : Str}
end
end
end DL

set_option Elab.async false
set_option linter.all false
set_option maxRecDepth 100000
set_option maxHeartbeats 4000000
/-! DY3: sorted(set(xs)) of a list of ints. -/
namespace DL
open PySem PySem.Spec PyProof.Rows L2
noncomputable section
section
variable {P : Program} {w : World} {A : Around} {E : Value → Shared → Prop} {s : Shared}
end

/-- put into a rising list -/
def insS (x : Int) : List Int → List Int
  | [] => [x]
  | y :: ys => if x < y then x :: y :: ys else if x = y then y :: ys else y :: insS x ys
def sortSet (ns : List Int) : List Int := ns.foldr insS []
def rSS (K : PySem.W.Frag) : V → Hp → VK → Prop := fun x H1 Q => ∃ (l : Addr) (ns : List Int), x = .ref l ∧ SqL K H1 l (ns.map V.int) ∧ ns.length < 64 ∧ ∀ p : Addr, H1 p = none → Q (.ref p) (upd H1 p (.lst ((sortSet ns).map V.int)))
def tSS (K : PySem.W.Frag) (ta : TE) : TE := fun σ H Q => ta σ H fun x H1 => rSS K x H1 Q
def mSortSet (d : D) : M D := fun S => match (listOf S d).bind intsOf with
  | some ns => if ns.length < 64 then .ok (.lst ((sortSet ns).map .int)) S else .stuck
  | none => .stuck
def mIndexI : D → List D → M D
  | d, [.int b] => fun S => match (listOf S d).bind intsOf with
    | some ys => (match ys.findIdx? (· == b) with
      | some j => .ok (.int (j : Nat)) S
      | none => .stuck)
    | none => .stuck
  | _, _ => fun _ => .stuck
end
end DL

set_option Elab.async false
set_option linter.all false
set_option maxRecDepth 100000
set_option maxHeartbeats 2000000
/-! DY4: for x, (y, *others) in ... -/
namespace DL
open PySem PySem.Spec PyProof.Rows L2
noncomputable section
def asgSt (i0 i1 i2 : Nat) (d : D) (ρ : Env) (S : Sto) : Option Env := match d with
  | .tup [x, y] => match listOf S y with
    | some (p :: fs) => if fs.length < 16000 then some (((ρ.set i0 (some x)).set i1 (some p)).set i2 (some (.lst fs))) else none
    | _ => none
  | _ => none
def forLoopSt (nx : Nat → Sto → Option (Option D)) (i0 i1 i2 : Nat) (b : SD) : Nat → Nat → SD
  | 0, _, _, _ => .stuck
  | n + 1, i, ρ, S => match nx i S with
    | none => .stuck
    | some none => .ok .nx ρ S
    | some (some d) => match asgSt i0 i1 i2 d ρ S with
      | none => .stuck
      | some ρ' => match b ρ' S with
        | .ok .nx ρ2 S2 => forLoopSt nx i0 i1 i2 b n (i + 1) ρ2 S2
        | .ok .cnt ρ2 S2 => forLoopSt nx i0 i1 i2 b n (i + 1) ρ2 S2
        | .ok .brk ρ2 S2 => .ok .nx ρ2 S2
        | r => r
def sForSt (im : IM) (i0 i1 i2 : Nat) (b : SD) : SD := fun ρ S => (im ρ S).to ρ fun it S' => forLoopSt it.nx i0 i1 i2 b it.fu 0 ρ S'
def gSt3 (K : PySem.W.Frag) (i0 i1 i2 : Nat) : TG := gTup K 2 (gCons (gName i0) (gCons (gStar K i1 i2) gNil))
section
variable {X : Cx} {W : WX} {tg iter : Expr} {body : List Stmt} {im : IM} {ms : SD} {pos tpos p0 p1 p2 sp : Pos} {x y z : Str} {i0 i1 i2 k k2 : Nat}
end
end
end DL

set_option Elab.async false
set_option linter.all false
set_option maxRecDepth 100000
/-! DZ1: a def that is called by another name of it (y = x at the module's top, x bound anew later). -/
namespace DL
open PySem PySem.Spec PyProof.Rows L2
noncomputable section
structure DefAtA (K : PySem.W.Frag) (mg : Str → Option Value) (y x : Str) (st : Stmt) (ps : List Str) : Prop where
  ex : ∃ f fd, Fun K x x st f fd ∧ mg y = some (.ref f) ∧ Binds K fd ps []
structure HasA (P : Program) (w : World) (K : PySem.W.Frag) (mg : Str → Option Value) (base : Heap) (k : Nat) (y x : Str) (st : Stmt) (ps : List Str) (m : FM) : Prop where
  ex : ∃ f fd, FnG P w K mg base k f fd ps m ∧ mg y = some (.ref f) ∧ Fun K x x st f fd ∧ Binds K fd ps []
section
variable {X : Cx} {W : WX} {j k n : Nat} {ps ks : List Str} {m : FM} {y x : Str} {st : Stmt} {p pos : Pos} {e : Expr} {es : List Expr} {kws : List Keyword} {mr mk : AM} {ix : List Nat}
end
end
end DL

set_option Elab.async false
set_option linter.all false
set_option maxRecDepth 100000
/-! DZ2: lists that are changed, lent as data to an expression that tells something flat and leaves no trace. -/
namespace DL
open PySem PySem.Spec PyProof.Rows L2
noncomputable section
def D.flat : D → Bool
  | .non | .bl _ | .int _ | .str _ => true
  | _ => false
def offS (S : Sto) : Sto := S.map fun _ => none
def asD (S : Sto) (ρ : Env) : Env := ρ.map (Option.map (deepD S 12))
open Classical in
/-- every list that is changed is data meanwhile -/
def eBor (m : EM) : EM := fun ρ S => match m (asD S ρ) (offS S) with
  | .ok d S' => if D.flat d = true ∧ S' = offS S then .ok d S else .stuck
  | _ => .stuck
/-- what is no list is hidden meanwhile -/
def hidL (as : List Addr) (S : Sto) (H : Hp) : Hid := (List.range S.length).filterMap fun n => match S[n]? with
  | some (some (.lst _)) => none
  | some (some _) => match as[n]? with
    | some a => (H a).map fun o => (a, o)
    | none => none
  | _ => none
section
variable {K : PySem.W.Frag} {hd : Hid} {as : List Addr} {S : Sto} {H : Hp}
theorem rep_flat {as' : List Addr} {F F' : Hp} {v : V} {d : D} (h : D.flat d = true) (r : Rep K as F v d) : Rep K as' F' v d := by
  cases r with
  | non => exact .non
  | bl b => exact .bl b
  | int i => exact .int i
  | str s => exact .str s
  | _ => cases h
end
end
end DL

set_option Elab.async false
set_option linter.all false
set_option maxRecDepth 100000
set_option maxHeartbeats 2000000
/-! DZ3: several except clauses, each of which keeps the error in a name. -/
namespace DL
open PySem PySem.Spec PyProof.Rows L2
/-- what the clauses wish of an error of the body, one after the other -/
def wKeeps (K : PySem.W.Frag) (Wout : WX) (D : Ends) : List (Value × Nat × TS) → WX
  | [] => Wout
  | (c, i, ts) :: r => wKeep K c i ts (wKeeps K Wout D r) D
inductive HdsK (X : Cx) : List ExceptHandler → List (Value × Nat × TS) → Prop
  | nil : HdsK X [] []
  | cons {x n : Str} {c : Value} {i : Nat} {ts : TS} {b₀ : Stmt} {suite : List Stmt} {np pos' : Pos} {hds : List ExceptHandler} {l : List (Value × Nat × TS)} (hi : X.N[i]? = some n) (hln : X.env.kindOf n = some .local) (hc : Names X x c)
      (hsu : ∀ (a : Addr) (pn : List (Addr × Obj)), PSs (X.suite a pn) (b₀ :: suite) ts) (r : HdsK X hds l) :
      HdsK X (.ExceptHandler (some (.Name x np)) (some n) (b₀ :: suite) pos' :: hds) ((c, i, ts) :: l)
section
variable {X : Cx} {body : List Stmt} {h₀ : ExceptHandler} {hds : List ExceptHandler} {l : List (Value × Nat × TS)} {pos : Pos} {tb : WX → TS} {Wout : WX}
end
/-! ### as data -/
abbrev TryL := List ((Str → Option Bool) × Nat × SD)
def sTries (b : SD) : TryL → SD
  | [] => b
  | (tbl, i, h) :: r => sTries (sTryAs tbl i b h) r
inductive HdsD (X : Cx) : List ExceptHandler → TryL → List (Value × Nat × TS) → Prop
  | nil : HdsD X [] [] []
  | cons {x n : Str} {c : Value} {i : Nat} {tbl : Str → Option Bool} {mh : SD} {b₀ : Stmt} {suite : List Stmt} {np pos' : Pos} {hds : List ExceptHandler} {l : TryL} {l2 : List (Value × Nat × TS)} (hi : X.N[i]? = some n) (hln : X.env.kindOf n = some .local) (hc : Names X x c) (ht : TblX X.K c tbl)
      (hsu : ∀ (a : Addr) (pn : List (Addr × Obj)), DSs (X.suite a pn) WNo (b₀ :: suite) mh) (r : HdsD X hds l l2) :
      HdsD X (.ExceptHandler (some (.Name x np)) (some n) (b₀ :: suite) pos' :: hds) ((tbl, i, mh) :: l) ((c, i, tS X.K X.mg WNo mh) :: l2)
theorem HdsD.keeps {X : Cx} {hds : List ExceptHandler} {l : TryL} {l2 : List (Value × Nat × TS)} (h : HdsD X hds l l2) : HdsK X hds l2 := by
  induction h with
  | nil => exact .nil
  | cons hi hln hc ht hsu r ih => exact .cons hi hln hc hsu ih
end DL

set_option Elab.async false
set_option linter.all false
set_option maxRecDepth 100000
set_option maxHeartbeats 4000000
/-! DZ4: zip(xs, ys, zs, strict=True). Printed by mkdz4.py. -/
namespace DL
open PySem PySem.Spec PyProof.Rows L2
structure Z3Apart (z TI TO i1 i2 i3 l1 l2 l3 : Addr) : Prop where
  TIz : TI ≠ z
  TOz : TO ≠ z
  i1z : i1 ≠ z
  i2z : i2 ≠ z
  i3z : i3 ≠ z
  TITO : TI ≠ TO
  TIi1 : TI ≠ i1
  TIi2 : TI ≠ i2
  TIi3 : TI ≠ i3
  TOi1 : TO ≠ i1
  TOi2 : TO ≠ i2
  TOi3 : TO ≠ i3
  i1i2 : i1 ≠ i2
  i1i3 : i1 ≠ i3
  i2i3 : i2 ≠ i3
  l1z : l1 ≠ z
  l1TO : l1 ≠ TO
  l1i1 : l1 ≠ i1
  l1i2 : l1 ≠ i2
  l1i3 : l1 ≠ i3
  l2z : l2 ≠ z
  l2TO : l2 ≠ TO
  l2i1 : l2 ≠ i1
  l2i2 : l2 ≠ i2
  l2i3 : l2 ≠ i3
  l3z : l3 ≠ z
  l3TO : l3 ≠ TO
  l3i1 : l3 ≠ i1
  l3i2 : l3 ≠ i2
  l3i3 : l3 ≠ i3
abbrev IsTri (h : Heap) (T : Addr) (a b c : Value) : Prop := h.get? T = some { cls := .type "tuple", data := .seq #[a, b, c] }
section
variable {prog : Program} {w : World} {A : Around} {E : Value → Shared → Prop} {s : Shared}
end
/-! ### made -/
abbrev z3H1 (h : Heap) (l1 : Addr) : Heap := h.push { cls := .type "list_iterator", data := .fields #[.ref l1, .int 0 0] }
abbrev z3H2 (h : Heap) (l1 l2 : Addr) : Heap := (z3H1 h l1).push { cls := .type "list_iterator", data := .fields #[.ref l2, .int 0 0] }
abbrev z3H3 (h : Heap) (l1 l2 l3 : Addr) : Heap := (z3H2 h l1 l2).push { cls := .type "list_iterator", data := .fields #[.ref l3, .int 0 0] }
abbrev z3H4 (h : Heap) (l1 l2 l3 : Addr) : Heap := (z3H3 h l1 l2 l3).push { cls := .type "tuple", data := .seq #[.ref h.objs.size, .ref (z3H1 h l1).objs.size, .ref (z3H2 h l1 l2).objs.size] }
abbrev z3H5 (h : Heap) (l1 l2 l3 : Addr) : Heap := (z3H4 h l1 l2 l3).push { cls := .type "tuple", data := .seq #[.none, .none, .none] }
abbrev z3H6 (h : Heap) (l1 l2 l3 : Addr) : Heap := (z3H5 h l1 l2 l3).push { cls := .type "zip", data := .fields #[.none, .bool false, .bool true, .ref (z3H3 h l1 l2 l3).objs.size, .ref (z3H4 h l1 l2 l3).objs.size] }
section
variable {prog : Program} {w : World} {A : Around} {E : Value → Shared → Prop} {s : Shared}
end
/-! ### walked -/
def Itz3 (K : PySem.W.Frag) (a b c : Addr) : It :=
  ⟨fun i H => ∃ (xs ys us : List V) (x y u : V), SqL K H a xs ∧ SqL K H b ys ∧ SqL K H c us ∧ xs[i]? = some x ∧ ys[i]? = some y ∧ us[i]? = some u,
    fun i H v H' => ∃ T x y u, v = .ref T ∧ H T = none ∧ H' = upd H T (.tup [x, y, u]) ∧ (∀ xs, SqL K H a xs → xs[i]? = some x) ∧ (∀ ys, SqL K H b ys → ys[i]? = some y) ∧ ∀ us, SqL K H c us → us[i]? = some u,
    fun i H => ∃ xs ys us : List V, SqL K H a xs ∧ SqL K H b ys ∧ SqL K H c us ∧ xs.length ≤ i ∧ ys.length ≤ i ∧ us.length ≤ i⟩
def iZ3 (K : PySem.W.Frag) (ta tk : TA) : TI := fun σ H R => ta σ H fun vs H1 => tk σ H1 fun ks H2 => ∃ a b c xs ys us, vs = [.ref a, .ref b, .ref c] ∧ ks = [.bl true] ∧ SqL K H2 a xs ∧ SqL K H2 b ys ∧ SqL K H2 c us ∧ R (Itz3 K a b c) H2
/-! ### as data -/
def zip3D : List D → List D → List D → List D
  | x :: xs, y :: ys, z :: zs => .tup [x, y, z] :: zip3D xs ys zs
  | _, _, _ => []
def mItZ3 : List D → M ItD
  | [d, e, f] => fun S => match frozenL d, frozenL e, frozenL f with
    | some xs, some ys, some zs => if xs.length = ys.length ∧ ys.length = zs.length then .ok (itL (zip3D xs ys zs)) S else .stuck
    | _, _, _ => .stuck
  | _ => fun _ => .stuck
def imZ3 (m k : AM) : IM := fun ρ => M.bind (m ρ) fun ds => M.bind (k ρ) fun ks => match ks with
  | [.bl true] => mItZ3 ds
  | _ => fun _ => .stuck
end DL

set_option Elab.async false
set_option linter.all false
set_option maxRecDepth 100000
set_option maxHeartbeats 2000000
/-! DZ5: isinstance(None, a class of the text). -/
namespace DL
open PySem PySem.Spec PyProof.Rows L2
def fIsiN (tn : List Str) (tc : Str → Str → Option Bool) (tt : Str → String → Option Bool) : List D → M D
  | [.non, .cls c] => fun S => if c ∈ tn then .ok (.bl false) S else .stuck
  | ds => fIsiX tc tt ds
def TblN (K : PySem.W.Frag) (tn : List Str) : Prop := ∀ c ∈ tn, ∀ D, ClsK K c (.ref D) → PySem.W.kitOne K (.type "NoneType") (.ref D) = some false
def rIsN (K : PySem.W.Frag) : List V → Hp → VK → Prop := fun xs H Q => ∃ (c : V) (cv : Value), xs = [.non, c] ∧ (∀ u, RelV c u → u = cv) ∧ PySem.W.kitOne K (.type "NoneType") cv = some false ∧ Q (.bl false) H
theorem call_isN {X : Cx} : CallR X (.builtin "isinstance") (rIsN X.K) := by
  intro pins s σ H xs us Q I r h
  obtain ⟨c, cv, rfl, hcv, e, q⟩ := h
  cases r with
  | cons rx rr =>
    cases rr with
    | cons rt rr =>
      cases rr
      cases rx
      have ec := hcv _ rt
      subst ec
      exact PySem.W.kia_one PySem.W.kitx_none I.kIn trivial e (fun z => nomatch z) fun tk => ⟨.bl false, H, I.kept (t' := tk) fun _ _ z => z, rfl, q⟩
end DL

set_option Elab.async false
set_option linter.all false
set_option maxRecDepth 100000
set_option maxHeartbeats 2000000
/-! DZ6: t[::-1] of a tuple. -/
namespace DL
open PySem PySem.Spec PyProof.Rows L2 HT
section
variable {prog : Program} {w : World} {A : Around} {E : Value → Shared → Prop} {s : Shared}
end
def rSlR (K : PySem.W.Frag) : V → Option Int → Option Int → Hp → VK → Prop := fun x lo hi H Q => ∃ a xs, x = .ref a ∧ lo = none ∧ hi = none ∧ SqT K H a xs ∧ ∀ p, H p = none → Q (.ref p) (upd H p (.tup xs.reverse))
section
variable {X : Cx} {W : WX}
end
def oSlR (d : D) (lo hi : Option Int) : M D := match d, lo, hi with
  | .tup xs, none, none => fun S => .ok (.tup xs.reverse) S
  | _, _, _ => fun _ => .stuck
section
variable {X : Cx} {W : WX}
end
end DL

set_option Elab.async false
set_option linter.all false
set_option maxRecDepth 100000
set_option maxHeartbeats 4000000
/-! DZ7: sorted({x for x in xs}), xs a list of ints (after the kit's walk for a set of truth values). -/
namespace DL
open PySem PySem.Spec PyProof.Rows L2
noncomputable section
section
variable {X : Cx}
/-- the set's walk: the set of the ints met -/
def rScI (w : World) (K : PySem.W.Frag) (Q : VK) : It → Hp → Prop := fun J H1 => ∃ (l : Addr) (ns : List Int), J = Itl K l ∧ SqL K H1 l (ns.map V.int) ∧ ns.length + 1 < scanBound ∧
  ∀ D c, H1 D = none → c ≤ ns.length → Q (.ref D) (upd H1 D (SetO w D (fun j => decide (j ∈ ns)) c))
def tScI (w : World) (K : PySem.W.Frag) (te : TE) : TE := fun σ H Q => iList K te σ H (rScI w K Q)
end
/-! ### sorted of it -/
section
variable {X : Cx}
def rSC (w : World) (K : PySem.W.Frag) (Q : VK) : It → Hp → Prop := rScI w K fun v H => ∃ (D : Addr) (ns : List Int) (c : Nat), v = .ref D ∧ H D = some (SetO w D (fun j => decide (j ∈ ns)) c) ∧ c < 64 ∧ ∀ p : Addr, H p = none → Q (.ref p) (upd H p (.lst ((sortSet ns).map V.int)))
def tSC (w : World) (K : PySem.W.Frag) (te : TE) : TE := fun σ H Q => iList K te σ H (rSC w K Q)
end
end
end DL

set_option Elab.async false
set_option linter.all false
set_option maxRecDepth 100000
/-! DZ8: a test to which lists are lent (after DZ2's de_bor). -/
namespace DL
open PySem PySem.Spec PyProof.Rows L2
noncomputable section
end
end DL

set_option Elab.async false
set_option linter.all false
set_option maxRecDepth 100000
set_option maxHeartbeats 2000000
/-! DZ9: xs[i] += e, ints, the place told from the front. -/
namespace DL
open PySem PySem.Spec PyProof.Rows L2
noncomputable section
def rGetL (K : PySem.W.Frag) : V → V → Hp → VK → Prop := fun x y H Q => ∃ p xs i z, x = .ref p ∧ y = .int i ∧ 0 ≤ i ∧ SqL K H p xs ∧ xs[i.toNat]? = some z ∧ Q z H
def mGetN (x k : D) : M D := fun S => match listOf S x, k with
  | some xs, .int i => if 0 ≤ i then (match xs[i.toNat]? with
    | some z => .ok z S
    | none => .stuck) else .stuck
  | _, _ => .stuck
def sSubAug (f : D → D → M D) (mo mi mv : EM) : SD := fun ρ S => (mo ρ S).to ρ fun x S1 => (mi ρ S1).to ρ fun k S2 => (mGetN x k S2).to ρ fun z S3 => (mv ρ S3).to ρ fun y S4 => (f z y S4).to ρ fun w S5 => match setD x k w S5 with
  | some S6 => .ok .nx ρ S6
  | none => .stuck
end
end DL

set_option Elab.async false
set_option linter.all false
set_option maxRecDepth 100000
set_option maxHeartbeats 2000000
/-! DZ10: for x, *others in .. (after DY4). -/
namespace DL
open PySem PySem.Spec PyProof.Rows L2
noncomputable section
def asgS2 (i1 i2 : Nat) (d : D) (ρ : Env) (S : Sto) : Option Env := match listOf S d with
  | some (p :: fs) => if fs.length < 16000 then some ((ρ.set i1 (some p)).set i2 (some (.lst fs))) else none
  | _ => none
def forLoopS2 (nx : Nat → Sto → Option (Option D)) (i1 i2 : Nat) (b : SD) : Nat → Nat → SD
  | 0, _, _, _ => .stuck
  | n + 1, i, ρ, S => match nx i S with
    | none => .stuck
    | some none => .ok .nx ρ S
    | some (some d) => match asgS2 i1 i2 d ρ S with
      | none => .stuck
      | some ρ' => match b ρ' S with
        | .ok .nx ρ2 S2 => forLoopS2 nx i1 i2 b n (i + 1) ρ2 S2
        | .ok .cnt ρ2 S2 => forLoopS2 nx i1 i2 b n (i + 1) ρ2 S2
        | .ok .brk ρ2 S2 => .ok .nx ρ2 S2
        | r => r
def sForS2 (im : IM) (i1 i2 : Nat) (b : SD) : SD := fun ρ S => (im ρ S).to ρ fun it S' => forLoopS2 it.nx i1 i2 b it.fu 0 ρ S'
section
variable {X : Cx} {W : WX} {tg iter : Expr} {body : List Stmt} {im : IM} {ms : SD} {pos tpos p0 p1 p2 sp : Pos} {x y z : Str} {i1 i2 k k2 : Nat}
end
end
end DL

set_option Elab.async false
set_option linter.all false
set_option maxRecDepth 100000
set_option maxHeartbeats 2000000
/-! DZ11: x, (y, *others) = e. -/
namespace DL
open PySem PySem.Spec PyProof.Rows L2
noncomputable section
def sAsgSt (i0 i1 i2 : Nat) (m : EM) : SD := fun ρ S => (m ρ S).to ρ fun d S' => match asgSt i0 i1 i2 d ρ S' with
  | some ρ' => .ok .nx ρ' S'
  | none => .stuck
section
variable {X : Cx} {W : WX} {e : Expr} {me : EM} {pos tpos p0 p1 p2 sp p3 : Pos} {x y z : Str} {i0 i1 i2 k k2 : Nat}
end
end
end DL

set_option Elab.async false
set_option linter.all false
set_option maxRecDepth 100000
set_option maxHeartbeats 2000000
/-! DZ12: except clauses with and without a name for the error. -/
namespace DL
open PySem PySem.Spec PyProof.Rows L2
def wKeep0 (K : PySem.W.Frag) (c : Value) (ts : TS) (Wout : WX) (D : Ends) : WX := fun cls d σ H =>
  ∃ b, PySem.W.exmOne K cls c = some b ∧ (b = true → ts D σ H) ∧ (b = false → Wout cls d σ H)
/-- what the clauses wish of an error of the body, one after the other -/
def wKeeps0 (K : PySem.W.Frag) (Wout : WX) (D : Ends) : List (Value × Option Nat × TS) → WX
  | [] => Wout
  | (c, some i, ts) :: r => wKeep K c i ts (wKeeps0 K Wout D r) D
  | (c, none, ts) :: r => wKeep0 K c ts (wKeeps0 K Wout D r) D
inductive HdsK0 (X : Cx) : List ExceptHandler → List (Value × Option Nat × TS) → Prop
  | nil : HdsK0 X [] []
  | cons {x n : Str} {c : Value} {i : Nat} {ts : TS} {b₀ : Stmt} {suite : List Stmt} {np pos' : Pos} {hds : List ExceptHandler} {l : List (Value × Option Nat × TS)} (hi : X.N[i]? = some n) (hln : X.env.kindOf n = some .local) (hc : Names X x c)
      (hsu : ∀ (a : Addr) (pn : List (Addr × Obj)), PSs (X.suite a pn) (b₀ :: suite) ts) (r : HdsK0 X hds l) :
      HdsK0 X (.ExceptHandler (some (.Name x np)) (some n) (b₀ :: suite) pos' :: hds) ((c, some i, ts) :: l)
  | cons0 {x : Str} {c : Value} {ts : TS} {b₀ : Stmt} {suite : List Stmt} {np pos' : Pos} {hds : List ExceptHandler} {l : List (Value × Option Nat × TS)} (hc : Names X x c)
      (hsu : ∀ (a : Addr) (pn : List (Addr × Obj)), PSs (X.suite a pn) (b₀ :: suite) ts) (r : HdsK0 X hds l) :
      HdsK0 X (.ExceptHandler (some (.Name x np)) none (b₀ :: suite) pos' :: hds) ((c, none, ts) :: l)
section
variable {X : Cx} {body : List Stmt} {h₀ : ExceptHandler} {hds : List ExceptHandler} {l : List (Value × Option Nat × TS)} {pos : Pos} {tb : WX → TS} {Wout : WX}
end
/-! ### as data -/
/-- a clause that gives the error no name -/
def sTryN (tbl : Str → Option Bool) (b h : SD) : SD := fun ρ S => match b ρ S with
  | .exc x ρ1 S1 => match tbl x.name with
    | some true => (match h ρ1 S1 with
      | .exc _ _ _ => .stuck
      | r => r)
    | some false => .exc x ρ1 S1
    | none => .stuck
  | r => r
abbrev TryL0 := List ((Str → Option Bool) × Option Nat × SD)
def sTries0 (b : SD) : TryL0 → SD
  | [] => b
  | (tbl, some i, h) :: r => sTries0 (sTryAs tbl i b h) r
  | (tbl, none, h) :: r => sTries0 (sTryN tbl b h) r
inductive HdsD0 (X : Cx) : List ExceptHandler → TryL0 → List (Value × Option Nat × TS) → Prop
  | nil : HdsD0 X [] [] []
  | cons {x n : Str} {c : Value} {i : Nat} {tbl : Str → Option Bool} {mh : SD} {b₀ : Stmt} {suite : List Stmt} {np pos' : Pos} {hds : List ExceptHandler} {l : TryL0} {l2 : List (Value × Option Nat × TS)} (hi : X.N[i]? = some n) (hln : X.env.kindOf n = some .local) (hc : Names X x c) (ht : TblX X.K c tbl)
      (hsu : ∀ (a : Addr) (pn : List (Addr × Obj)), DSs (X.suite a pn) WNo (b₀ :: suite) mh) (r : HdsD0 X hds l l2) :
      HdsD0 X (.ExceptHandler (some (.Name x np)) (some n) (b₀ :: suite) pos' :: hds) ((tbl, some i, mh) :: l) ((c, some i, tS X.K X.mg WNo mh) :: l2)
  | cons0 {x : Str} {c : Value} {tbl : Str → Option Bool} {mh : SD} {b₀ : Stmt} {suite : List Stmt} {np pos' : Pos} {hds : List ExceptHandler} {l : TryL0} {l2 : List (Value × Option Nat × TS)} (hc : Names X x c) (ht : TblX X.K c tbl)
      (hsu : ∀ (a : Addr) (pn : List (Addr × Obj)), DSs (X.suite a pn) WNo (b₀ :: suite) mh) (r : HdsD0 X hds l l2) :
      HdsD0 X (.ExceptHandler (some (.Name x np)) none (b₀ :: suite) pos' :: hds) ((tbl, none, mh) :: l) ((c, none, tS X.K X.mg WNo mh) :: l2)
theorem HdsD0.keeps {X : Cx} {hds : List ExceptHandler} {l : TryL0} {l2 : List (Value × Option Nat × TS)} (h : HdsD0 X hds l l2) : HdsK0 X hds l2 := by
  induction h with
  | nil => exact .nil
  | cons hi hln hc ht hsu r ih => exact .cons hi hln hc hsu ih
  | cons0 hc ht hsu r ih => exact .cons0 hc hsu ih
end DL

set_option Elab.async false
set_option linter.all false
set_option maxRecDepth 100000
set_option maxHeartbeats 2000000
/-! DZ13: a slice of a list as a list that is changed. -/
namespace DL
open PySem PySem.Spec PyProof.Rows L2
def oSlC (d : D) (lo hi : Option Int) : M D := fun S => match listOf S d with
  | some xs => .ok (.cell S.length) (S ++ [some (.lst (cutD xs lo hi))])
  | none => .stuck
end DL

set_option Elab.async false
set_option linter.all false
set_option maxRecDepth 100000
set_option maxHeartbeats 2000000
/-! DZ14: methods called with keywords, with defaults; objects made with keywords. -/
namespace DL
open PySem PySem.Spec PyProof.Rows L2
noncomputable section
def eMoK (C m : Str) (fm : FM) (ix : List Nat) (dd : List D) (mo : EM) (mr mk : AM) : EM := fun ρ => M.bind (mo ρ) fun o S => match o with
  | .cell n => match S[n]? with
    | some (some (.ins C' fs)) => if C' = C ∧ fs.lookup m = none then (mr ρ S).bind fun ds S1 => (mk ρ S1).bind fun es S2 => fm (byIxD ix dd (.cell n :: ds) es) S2 else .stuck
    | _ => .stuck
  | _ => .stuck
/-- what the text says of a method with defaults -/
structure MethDD (P : Program) (w : World) (K : PySem.W.Frag) (mg : Str → Option Value) (base : Heap) (k : Nat) (C m qual : Str) (st : Stmt) (ps : List Str) (dvs : List V) (kds : List (Str × V)) (fm : FM) : Prop where
  ex : ∃ (Ca f : Addr) (fd : FuncData), ClsK K C (.ref Ca) ∧ Cls K Ca ∧ Meth K Ca m f ∧ FnG P w K mg base k f fd ps fm ∧ L2.FunD K m qual (defArgs st) (defBody st) (defScope st) dvs kds f fd
structure MethAtD (K : PySem.W.Frag) (C m : Str) (qual : Str) (st : Stmt) (dvs : List V) (kds : List (Str × V)) : Prop where
  ex : ∃ (Ca f : Addr) (fd : FuncData), ClsK K C (.ref Ca) ∧ Cls K Ca ∧ Meth K Ca m f ∧ L2.FunD K m qual (defArgs st) (defBody st) (defScope st) dvs kds f fd
structure MakeDD (P : Program) (w : World) (K : PySem.W.Frag) (mg : Str → Option Value) (base : Heap) (k : Nat) (C qual : Str) (st : Stmt) (ps : List Str) (dvs : List V) (kds : List (Str × V)) (fm : FM) : Prop where
  ex : ∃ (Ca f : Addr) (fd : FuncData), mg C = some (.ref Ca) ∧ ClsK K C (.ref Ca) ∧ Mk K Ca f ∧ FnG P w K mg base k f fd ps fm ∧ L2.FunD K "__init__" qual (defArgs st) (defBody st) (defScope st) dvs kds f fd
structure MakeAtD (K : PySem.W.Frag) (mg : Str → Option Value) (C : Str) (qual : Str) (st : Stmt) (dvs : List V) (kds : List (Str × V)) : Prop where
  ex : ∃ (Ca f : Addr) (fd : FuncData), mg C = some (.ref Ca) ∧ ClsK K C (.ref Ca) ∧ Mk K Ca f ∧ L2.FunD K "__init__" qual (defArgs st) (defBody st) (defScope st) dvs kds f fd
section
variable {P : Program} {w : World} {K : PySem.W.Frag} {mg : Str → Option Value} {base : Heap} {k : Nat} {C x qual : Str} {st : Stmt} {N ps : List Str} {m : SD} {dvs : List V} {kds : List (Str × V)}
end
section
variable {K : PySem.W.Frag} {x qual : Str} {st : Stmt} {ps ks : List Str} {n : Nat} {ix : List Nat} {dvs : List V} {kds : List (Str × V)} {f : Addr} {fd : FuncData}
end
section
variable {X : Cx} {W : WX} {k j n : Nat} {C m qual : Str} {st : Stmt} {fm : FM} {o e : Expr} {es : List Expr} {kws : List Keyword} {mo : EM} {mr mk : AM} {pos apos p : Pos} {ps ks : List Str} {pl : Sem Bool} {ix : List Nat} {dvs zd : List V} {kds : List (Str × V)} {dd : List D}
end
/-! made -/
def eMkK (C : Str) (fm : FM) (ix : List Nat) (dd : List D) (mr mk : AM) : EM := fun ρ => M.bind (mr ρ) fun ds S => (mk ρ S).bind fun es S1 => (fm (byIxD ix dd (.cell S1.length :: ds) es) (S1 ++ [some (.ins C [])])).bind fun d S' => match d with
  | .non => .ok (.cell S1.length) S'
  | _ => .stuck
section
variable {X : Cx} {W : WX} {k j n : Nat} {C qual : Str} {st : Stmt} {fm : FM} {e : Expr} {es : List Expr} {kws : List Keyword} {mr mk : AM} {pos p : Pos} {ps ks : List Str} {ix : List Nat} {dvs zd : List V} {kds : List (Str × V)} {dd : List D}
end
end
end DL

set_option Elab.async false
set_option linter.all false
set_option maxRecDepth 100000
set_option maxHeartbeats 2000000
/-! DZ15: len(o), o == p by own __len__, __eq__. -/
namespace DL
open PySem PySem.Spec PyProof.Rows L2
noncomputable section
def rLenO (K : PySem.W.Frag) (mg : Str → Option Value) (fm : FM) (Ca : Addr) : List V → Hp → VK → Prop := fun vs H Q => ∃ a dx fs, vs = [.ref a] ∧ H a = some (.ins Ca dx fs) ∧ spM K mg fm [.ref a] H (fun v H' => ∃ i : Int, v = .int i ∧ 0 ≤ i ∧ i < 2 ^ 63 ∧ Q (.int i) H') fun _ _ _ => False
def fLenO (C : Str) (fm : FM) : List D → M D := fun ds S => match ds with
  | [.cell n] => (match S[n]? with
    | some (some (.ins C' _)) => if C' = C then (match fm [.cell n] S with
      | .ok (.int i) S' => if 0 ≤ i ∧ i < 2 ^ 63 then .ok (.int i) S' else .stuck
      | _ => .stuck) else .stuck
    | _ => .stuck)
  | _ => .stuck
section
variable {X : Cx} {W : WX} {k j : Nat} {C m : Str} {fm : FM} {Ca f : Addr} {fd : FuncData} {ps : List Str}
end
end
end DL

set_option Elab.async false
set_option linter.all false
set_option maxRecDepth 100000
set_option maxHeartbeats 4000000
/-! DZ16: zip(xs, ys, zs) without strict. Printed by mkdz16.py. -/
namespace DL
open PySem PySem.Spec PyProof.Rows L2
section
variable {prog : Program} {w : World} {A : Around} {E : Value → Shared → Prop} {s : Shared}
end
/-! ### made -/
abbrev z3pH1 (h : Heap) (l1 : Addr) : Heap := h.push { cls := .type "list_iterator", data := .fields #[.ref l1, .int 0 0] }
abbrev z3pH2 (h : Heap) (l1 l2 : Addr) : Heap := (z3pH1 h l1).push { cls := .type "list_iterator", data := .fields #[.ref l2, .int 0 0] }
abbrev z3pH3 (h : Heap) (l1 l2 l3 : Addr) : Heap := (z3pH2 h l1 l2).push { cls := .type "list_iterator", data := .fields #[.ref l3, .int 0 0] }
abbrev z3pH4 (h : Heap) (l1 l2 l3 : Addr) : Heap := (z3pH3 h l1 l2 l3).push { cls := .type "tuple", data := .seq #[.ref h.objs.size, .ref (z3pH1 h l1).objs.size, .ref (z3pH2 h l1 l2).objs.size] }
abbrev z3pH5 (h : Heap) (l1 l2 l3 : Addr) : Heap := (z3pH4 h l1 l2 l3).push { cls := .type "tuple", data := .seq #[.none, .none, .none] }
abbrev z3pH6 (h : Heap) (l1 l2 l3 : Addr) : Heap := (z3pH5 h l1 l2 l3).push { cls := .type "zip", data := .fields #[.none, .bool false, .bool false, .ref (z3pH3 h l1 l2 l3).objs.size, .ref (z3pH4 h l1 l2 l3).objs.size] }
section
variable {prog : Program} {w : World} {A : Around} {E : Value → Shared → Prop} {s : Shared}
end
def Itz3p (K : PySem.W.Frag) (a b c : Addr) : It :=
  ⟨fun i H => ∃ (xs ys us : List V) (x y u : V), SqL K H a xs ∧ SqL K H b ys ∧ SqL K H c us ∧ xs[i]? = some x ∧ ys[i]? = some y ∧ us[i]? = some u,
    fun i H v H' => ∃ T x y u, v = .ref T ∧ H T = none ∧ H' = upd H T (.tup [x, y, u]) ∧ (∀ xs, SqL K H a xs → xs[i]? = some x) ∧ (∀ ys, SqL K H b ys → ys[i]? = some y) ∧ ∀ us, SqL K H c us → us[i]? = some u,
    fun i H => ∃ xs ys us : List V, SqL K H a xs ∧ SqL K H b ys ∧ SqL K H c us ∧ (xs.length ≤ i ∨ ys.length ≤ i)⟩
def iZ3p (K : PySem.W.Frag) (ta : TA) : TI := fun σ H R => ta σ H fun vs H2 => ∃ a b c xs ys us, vs = [.ref a, .ref b, .ref c] ∧ SqL K H2 a xs ∧ SqL K H2 b ys ∧ SqL K H2 c us ∧ R (Itz3p K a b c) H2
/-! ### as data -/
def mItZ3p : List D → M ItD
  | [d, e, f] => fun S => match frozenL d, frozenL e, frozenL f with
    | some xs, some ys, some zs => if min xs.length ys.length ≤ zs.length then .ok (itL (zip3D xs ys zs)) S else .stuck
    | _, _, _ => .stuck
  | _ => fun _ => .stuck
end DL

set_option Elab.async false
set_option linter.all false
set_option maxRecDepth 100000
/-! DZ17: len(set(xs)) of ints. -/
namespace DL
open PySem PySem.Spec PyProof.Rows L2
noncomputable section
def rLS (K : PySem.W.Frag) : V → Hp → VK → Prop := fun v H Q => ∃ (l : Addr) (ns : List Int), v = .ref l ∧ SqL K H l (ns.map V.int) ∧ ns.length ≤ 4000 ∧ Q (.int ((PyProof.Rows.firstMet (fun i => ns.getD i 0) ns.length).length : Nat)) H
def mLenSet (d : D) : M D := fun S => match (listOf S d).bind intsOf with
  | some ns => if ns.length ≤ 4000 then .ok (.int ((PyProof.Rows.firstMet (fun i => ns.getD i 0) ns.length).length : Nat)) S else .stuck
  | none => .stuck
end
end DL

set_option Elab.async false
set_option linter.all false
set_option maxRecDepth 100000
/-! DZ18: sorted(xs) of ints. -/
namespace DL
open PySem PySem.Spec PyProof.Rows L2
noncomputable section
def sortI (ns : List Int) : List Int := ns.mergeSort fun a b => decide (a ≤ b)
def fSortI : List D → M D
  | [d] => fun S => match (listOf S d).bind intsOf with
    | some ns => .ok (.lst ((sortI ns).map .int)) S
    | none => .stuck
  | _ => fun _ => .stuck
end
end DL

set_option Elab.async false
set_option linter.all false
set_option maxRecDepth 100000
/-! DZ19: xs.pop(i). -/
namespace DL
open PySem PySem.Spec PyProof.Rows L2
noncomputable section
def mPopAt : D → List D → M D
  | .cell n, [.int i] => fun S => match S[n]? with
    | some (some (.lst xs)) => match xs[i.toNat]? with
      | some y => if 0 ≤ i ∧ i < 2 ^ 63 then .ok y (S.set n (some (.lst (xs.eraseIdx i.toNat)))) else .stuck
      | none => .stuck
    | _ => .stuck
  | _, _ => fun _ => .stuck
end
end DL

set_option Elab.async false
set_option linter.all false
set_option maxRecDepth 100000
/-! DZ20: xs.remove(i), a list of ints. -/
namespace DL
open PySem PySem.Spec PyProof.Rows L2
noncomputable section
def mRemI : D → List D → M D
  | .cell n, [.int k] => fun S => match S[n]? with
    | some (some (.lst xs)) => match intsOf xs with
      | some ns => match ns.findIdx? (· == k) with
        | some j => .ok .non (S.set n (some (.lst (xs.eraseIdx j))))
        | none => .stuck
      | none => .stuck
    | _ => .stuck
  | _, _ => fun _ => .stuck
end
end DL

set_option Elab.async false
set_option linter.all false
set_option maxRecDepth 100000
/-! DP: what a mirror comes to, step by step (a wish behind each step). -/
namespace DL
open PySem PySem.Spec PyProof.Rows
noncomputable section
structure Ok {α : Type} (r : R α) (P : α → Sto → Prop) : Prop where
  out : match r with
    | .ok a S => P a S
    | _ => False
structure OkS (r : RS) (P : Flw → Env → Sto → Prop) : Prop where
  out : match r with
    | .ok f ρ S => P f ρ S
    | _ => False
theorem ok1 {α : Type} {a : α} {S : Sto} {P : α → Sto → Prop} (q : P a S) : Ok (.ok a S) P := ⟨q⟩
theorem okS1 {f : Flw} {ρ : Env} {S : Sto} {P : Flw → Env → Sto → Prop} (q : P f ρ S) : OkS (.ok f ρ S) P := ⟨q⟩
theorem Ok.bind {α β : Type} {r : R α} {f : α → M β} {P : β → Sto → Prop} (h : Ok r fun a S => Ok (f a S) P) : Ok (r.bind f) P := by
  cases r with
  | ok a S => exact h.out
  | exc x S => exact h.out.elim
  | stuck => exact h.out.elim
theorem Ok.to {α : Type} {r : R α} {ρ : Env} {k : α → Sto → RS} {P : Flw → Env → Sto → Prop} (h : Ok r fun a S => OkS (k a S) P) : OkS (r.to ρ k) P := by
  cases r with
  | ok a S => exact h.out
  | exc x S => exact h.out.elim
  | stuck => exact h.out.elim
theorem Ok.imp {α : Type} {r : R α} {P Q : α → Sto → Prop} (h : Ok r P) (k : ∀ a S, P a S → Q a S) : Ok r Q := by
  cases r with
  | ok a S => exact ⟨k a S h.out⟩
  | exc x S => exact h.out.elim
  | stuck => exact h.out.elim
theorem Ok.get {α : Type} {r : R α} {P : α → Sto → Prop} (h : Ok r P) : ∃ a S, r = .ok a S ∧ P a S := by
  cases r with
  | ok a S => exact ⟨a, S, rfl, h.out⟩
  | exc x S => exact h.out.elim
  | stuck => exact h.out.elim
theorem OkS.imp {r : RS} {P Q : Flw → Env → Sto → Prop} (h : OkS r P) (k : ∀ f ρ S, P f ρ S → Q f ρ S) : OkS r Q := by
  cases r with
  | ok f ρ S => exact ⟨k f ρ S h.out⟩
  | exc x ρ S => exact h.out.elim
  | stuck => exact h.out.elim
section
variable {ρ : Env} {S : Sto} {P : D → Sto → Prop} {PB : Bool → Sto → Prop} {PL : List D → Sto → Prop} {PS : Flw → Env → Sto → Prop}
theorem k_var {i : Nat} {d : D} (h : ρ[i]? = some (some d)) (q : P d S) : Ok (eVar i ρ S) P := by unfold eVar; rw [h]; exact ⟨q⟩
theorem k_c {d : D} (q : P d S) : Ok (eC d ρ S) P := ⟨q⟩
theorem k_e1 {f : D → M D} {a : EM} (h : Ok (a ρ S) fun x S1 => Ok (f x S1) P) : Ok (e1 f a ρ S) P := Ok.bind h
theorem k_e2 {f : D → D → M D} {a b : EM} (h : Ok (a ρ S) fun x S1 => Ok (b ρ S1) fun y S2 => Ok (f x y S2) P) : Ok (e2 f a b ρ S) P := Ok.bind (h.imp fun _ _ q => Ok.bind q)
theorem k_nil (q : PL [] S) : Ok (aNil ρ S) PL := ⟨q⟩
theorem k_cons {a : EM} {r : AM} (h : Ok (a ρ S) fun x S1 => Ok (r ρ S1) fun xs S2 => PL (x :: xs) S2) : Ok (aCons a r ρ S) PL := Ok.bind (h.imp fun _ _ q => Ok.bind (q.imp fun _ _ z => ok1 z))
theorem k_L {f : List D → M D} {a : AM} (h : Ok (a ρ S) fun xs S1 => Ok (f xs S1) P) : Ok (eL f a ρ S) P := Ok.bind h
theorem k_K {m : FM} {g : List D → List D → List D} {a b : AM} (h : Ok (a ρ S) fun xs S1 => Ok (b ρ S1) fun ys S2 => Ok (m (g xs ys) S2) P) : Ok (eK m g a b ρ S) P := Ok.bind (h.imp fun _ _ q => Ok.bind q)
theorem k_Mt {chk : D → Sto → Bool} {f : D → List D → M D} {o : EM} {a : AM} (h : Ok (o ρ S) fun x S1 => chk x S1 = true ∧ Ok (a ρ S1) fun xs S2 => Ok (f x xs S2) P) : Ok (eMt chk f o a ρ S) P := Ok.bind (h.imp fun _ _ q => by rw [if_pos q.1]; exact Ok.bind q.2)
theorem k_tup {xs : List D} (hz : xs.length ≤ sizeLine) (q : P (.tup xs) S) : Ok (mTup xs S) P := by unfold mTup; rw [if_pos hz]; exact ⟨q⟩
theorem k_lst {xs : List D} (hz : xs.length ≤ sizeLine) (q : P (.lst xs) S) : Ok (mLst xs S) P := by unfold mLst; rw [if_pos hz]; exact ⟨q⟩
theorem k_cell {xs : List D} (hz : xs.length ≤ sizeLine) (q : P (.cell S.length) (S ++ [some (.lst xs)])) : Ok (mCell xs S) P := by unfold mCell; rw [if_pos hz]; exact ⟨q⟩
theorem k_bVal {a : EM} (h : Ok (a ρ S) fun x S1 => Ok (mBool x S1) PB) : Ok (bVal a ρ S) PB := Ok.bind h
theorem k_mBool {b : Bool} (q : PB b S) : Ok (mBool (.bl b) S) PB := ⟨q⟩
theorem k_bNot {a : BM} (h : Ok (a ρ S) fun b S1 => PB (!b) S1) : Ok (bNot a ρ S) PB := Ok.bind (h.imp fun _ _ q => ok1 q)
theorem k_bAnd {a b : BM} (h : Ok (a ρ S) fun x S1 => if x = true then Ok (b ρ S1) PB else PB false S1) : Ok (bAnd a b ρ S) PB := Ok.bind (h.imp fun x S1 q => by cases x <;> first | exact ok1 q | exact q)
theorem k_bOr {a b : BM} (h : Ok (a ρ S) fun x S1 => if x = true then PB true S1 else Ok (b ρ S1) PB) : Ok (bOr a b ρ S) PB := Ok.bind (h.imp fun x S1 q => by cases x <;> first | exact ok1 q | exact q)
theorem k_eAnd {a b : EM} (h : Ok (a ρ S) fun d S1 => Ok (mBool d S1) fun x S2 => if x = true then Ok (b ρ S2) P else P (.bl false) S2) : Ok (eAnd a b ρ S) P := Ok.bind (h.imp fun d S1 q => Ok.bind (q.imp fun x S2 q => by cases x <;> first | exact ok1 q | exact q))
theorem k_eOr {a b : EM} (h : Ok (a ρ S) fun d S1 => Ok (mBool d S1) fun x S2 => if x = true then P (.bl true) S2 else Ok (b ρ S2) P) : Ok (eOr a b ρ S) P := Ok.bind (h.imp fun d S1 q => Ok.bind (q.imp fun x S2 q => by cases x <;> first | exact ok1 q | exact q))
theorem k_eNot {a : EM} (h : Ok (a ρ S) fun d S1 => Ok (mBool d S1) fun x S2 => P (.bl (!x)) S2) : Ok (eNot a ρ S) P := Ok.bind (h.imp fun d S1 q => Ok.bind (q.imp fun x S2 q => ok1 q))
theorem k_eIf {c : BM} {a b : EM} (h : Ok (c ρ S) fun x S1 => if x = true then Ok (a ρ S1) P else Ok (b ρ S1) P) : Ok (eIf c a b ρ S) P := Ok.bind (h.imp fun x S1 q => by cases x <;> exact q)
theorem k_chain {f g : D → D → M D} {a b c : EM} (h : Ok (a ρ S) fun x S1 => Ok (b ρ S1) fun y S2 => Ok (f x y S2) fun z S3 => Ok (mBool z S3) fun k S4 => if k = true then Ok (c ρ S4) fun w S5 => Ok (g y w S5) P else P (.bl false) S4) : Ok (eChain f g a b c ρ S) P :=
  Ok.bind (h.imp fun x S1 q => Ok.bind (q.imp fun y S2 q => Ok.bind (q.imp fun z S3 q => Ok.bind (q.imp fun k S4 q => by
    cases k with
    | true => exact Ok.bind q
    | false => exact ok1 q))))
theorem k_oNone {PO : Option Int → Sto → Prop} (q : PO none S) : Ok (oNone ρ S) PO := ⟨q⟩
theorem k_oSome {PO : Option Int → Sto → Prop} {a : EM} (h : Ok (a ρ S) fun d S1 => ∃ i, d = .int i ∧ PO (some i) S1) : Ok (oSome a ρ S) PO := Ok.bind (h.imp fun d S1 ⟨i, e, q⟩ => by subst e; exact ⟨q⟩)
theorem k_Sl {f : D → Option Int → Option Int → M D} {a : EM} {l u : OM} (h : Ok (a ρ S) fun x S1 => Ok (l ρ S1) fun i S2 => Ok (u ρ S2) fun j S3 => Ok (f x i j S3) P) : Ok (eSl f a l u ρ S) P := Ok.bind (h.imp fun x S1 q => Ok.bind (q.imp fun i S2 q => Ok.bind q))
theorem k_frzC {n : Nat} {xs : List D} (h : S[n]? = some (some (.lst xs))) (q : P (.lst xs) (S.set n none)) : Ok (mFrz (.cell n) S) P := by unfold mFrz; dsimp only; rw [h]; exact ⟨q⟩
/-! statements -/
theorem k_seq {a b : SD} (h : OkS (a ρ S) fun f ρ1 S1 => match f with
  | .nx => OkS (b ρ1 S1) PS
  | f => PS f ρ1 S1) : OkS (sSeq a b ρ S) PS := by
  unfold sSeq
  cases e : a ρ S with
  | exc x ρ1 S1 => rw [e] at h; exact h.out.elim
  | stuck => rw [e] at h; exact h.out.elim
  | ok f ρ1 S1 => rw [e] at h; cases f <;> first | exact h.out | exact ⟨h.out⟩
theorem k_nx (q : PS .nx ρ S) : OkS (sNx ρ S) PS := ⟨q⟩
theorem k_brk (q : PS .brk ρ S) : OkS (sBrk ρ S) PS := ⟨q⟩
theorem k_cnt (q : PS .cnt ρ S) : OkS (sCnt ρ S) PS := ⟨q⟩
theorem k_ret {m : EM} (h : Ok (m ρ S) fun d S1 => PS (.ret d) ρ S1) : OkS (sRet m ρ S) PS := Ok.to (h.imp fun _ _ => okS1)
theorem k_retN (q : PS (.ret .non) ρ S) : OkS (sRetN ρ S) PS := ⟨q⟩
theorem k_set {i : Nat} {m : EM} (h : Ok (m ρ S) fun d S1 => PS .nx (ρ.set i (some d)) S1) : OkS (sSet i m ρ S) PS := Ok.to (h.imp fun _ _ => okS1)
theorem k_expr {m : EM} (h : Ok (m ρ S) fun d S1 => PS .nx ρ S1) : OkS (sExpr m ρ S) PS := Ok.to (h.imp fun _ _ => okS1)
theorem k_if {c : BM} {a b : SD} (h : Ok (c ρ S) fun k S1 => if k = true then OkS (a ρ S1) PS else OkS (b ρ S1) PS) : OkS (sIf c a b ρ S) PS := Ok.to (h.imp fun k S1 q => by cases k <;> exact q)
theorem k_par {i j : Nat} {m : AM} (h : Ok (m ρ S) fun ds S1 => ∃ x y, ds = [x, y] ∧ PS .nx ((ρ.set i (some x)).set j (some y)) S1) : OkS (sPar i j m ρ S) PS := Ok.to (h.imp fun ds S1 ⟨x, y, e, q⟩ => by subst e; exact ⟨q⟩)
theorem k_asg {T : Tg} {m : EM} (h : Ok (m ρ S) fun d S1 => ∃ ρ1, asg T d ρ = some ρ1 ∧ PS .nx ρ1 S1) : OkS (sAsg T m ρ S) PS := Ok.to (h.imp fun d S1 ⟨ρ1, e, q⟩ => by rw [e]; exact ⟨q⟩)
theorem k_star {i j : Nat} {m : EM} (h : Ok (m ρ S) fun d S1 => ∃ x xs, DL.listOf S1 d = some (x :: xs) ∧ xs.length < 16000 ∧ PS .nx ((ρ.set i (some x)).set j (some (.lst xs))) S1) : OkS (sStar i j m ρ S) PS := Ok.to (h.imp fun d S1 ⟨x, xs, e, hz, q⟩ => by rw [e]; dsimp only; rw [if_pos hz]; exact ⟨q⟩)
theorem k_sub {f : D → D → D → Sto → Option Sto} {o i m : EM} (h : Ok (m ρ S) fun v S1 => Ok (o ρ S1) fun x S2 => Ok (i ρ S2) fun k S3 => ∃ S4, f x k v S3 = some S4 ∧ PS .nx ρ S4) : OkS (sSub f o i m ρ S) PS :=
  Ok.to (h.imp fun v S1 q => Ok.to (q.imp fun x S2 q => Ok.to (q.imp fun k S3 ⟨S4, e, q⟩ => by rw [e]; exact ⟨q⟩)))
/-- a def's call, from its body -/
theorem k_fn {n np : Nat} {m : SD} {ds : List D} (hn : ds.length = np) (h : OkS (m (ds.map some ++ List.replicate (n - np) none) S) fun f ρ' S' => match f with
  | .nx => P .non (trim S .non S')
  | .ret d => P d (trim S d S')
  | _ => False) : Ok (runFn n np m ds S) P := by
  unfold runFn
  rw [if_pos hn, hn]
  cases e : m (ds.map some ++ List.replicate (n - np) none) S with
  | exc x ρ1 S1 => rw [e] at h; exact h.out.elim
  | stuck => rw [e] at h; exact h.out.elim
  | ok f ρ1 S1 => rw [e] at h; cases f <;> first | exact ⟨h.out⟩ | exact h.out.elim
/-! loops over a fixed list -/
theorem k_forL {T : Tg} {b : SD} {xs : List D} (I : Nat → Env → Sto → Prop) (h0 : I 0 ρ S)
    (hs : ∀ i ρ S d, xs[i]? = some d → I i ρ S → ∃ ρ', asg T d ρ = some ρ' ∧ OkS (b ρ' S) fun f ρ2 S2 => match f with
      | .nx => I (i + 1) ρ2 S2
      | .cnt => I (i + 1) ρ2 S2
      | .brk => PS .nx ρ2 S2
      | .ret d => PS (.ret d) ρ2 S2)
    (hd : ∀ ρ S, I xs.length ρ S → PS .nx ρ S) : OkS (forLoop (itL xs).nx T b (itL xs).fu 0 ρ S) PS := by
  have go : ∀ (k i : Nat) (ρ : Env) (S : Sto), k + i = xs.length + 1 → i ≤ xs.length → I i ρ S → OkS (forLoop (itL xs).nx T b k i ρ S) PS := by
    intro k
    induction k with
    | zero => intro i ρ S e l _; omega
    | succ k ih =>
      intro i ρ S e l hI
      unfold forLoop
      show OkS (match some xs[i]? with
        | none => _
        | some none => _
        | some (some d) => _) PS
      by_cases hi : i < xs.length
      · obtain ⟨ρ', ea, hb⟩ := hs i ρ S xs[i] (List.getElem?_eq_getElem hi) hI
        rw [List.getElem?_eq_getElem hi]
        dsimp only
        rw [ea]
        dsimp only
        cases eb : b ρ' S with
        | exc x ρ1 S1 => rw [eb] at hb; exact hb.out.elim
        | stuck => rw [eb] at hb; exact hb.out.elim
        | ok f ρ1 S1 =>
          rw [eb] at hb
          cases f with
          | nx => exact ih (i + 1) ρ1 S1 (by omega) hi hb.out
          | cnt => exact ih (i + 1) ρ1 S1 (by omega) hi hb.out
          | brk => exact ⟨hb.out⟩
          | ret d => exact ⟨hb.out⟩
      · have : i = xs.length := by omega
        subst this
        rw [List.getElem?_eq_none (Nat.le_refl _)]
        exact ⟨hd ρ S hI⟩
  exact go (xs.length + 1) 0 ρ S (by omega) (Nat.zero_le _) h0
theorem k_for {im : IM} {T : Tg} {b : SD} (h : Ok (im ρ S) fun it S1 => OkS (forLoop it.nx T b it.fu 0 ρ S1) PS) : OkS (sFor im T b ρ S) PS := Ok.to h
theorem k_while {c : BM} {b : SD} (I : Env → Sto → Prop) (μ : Env → Sto → Nat) (h0 : I ρ S) (hμ : μ ρ S < FU)
    (hs : ∀ ρ S, I ρ S → Ok (c ρ S) fun k S1 => if k = true then OkS (b ρ S1) fun f ρ2 S2 => match f with
      | .nx => I ρ2 S2 ∧ μ ρ2 S2 < μ ρ S
      | .cnt => I ρ2 S2 ∧ μ ρ2 S2 < μ ρ S
      | .brk => PS .nx ρ2 S2
      | .ret d => PS (.ret d) ρ2 S2 else PS .nx ρ S1) : OkS (sWhile c b ρ S) PS := by
  have go : ∀ (k : Nat) (ρ : Env) (S : Sto), μ ρ S < k → I ρ S → OkS (whLoop c b k ρ S) PS := by
    intro k
    induction k with
    | zero => intro ρ S l _; omega
    | succ k ih =>
      intro ρ S l hI
      unfold whLoop
      refine Ok.to ((hs ρ S hI).imp fun x S1 q => ?_)
      cases x with
      | false => exact ⟨q⟩
      | true =>
        rw [if_pos rfl] at q ⊢
        cases eb : b ρ S1 with
        | exc x ρ1 S1 => rw [eb] at q; exact q.out.elim
        | stuck => rw [eb] at q; exact q.out.elim
        | ok f ρ1 S1 =>
          rw [eb] at q
          cases f with
          | nx => exact ih ρ1 S1 (by have := q.out.2; omega) q.out.1
          | cnt => exact ih ρ1 S1 (by have := q.out.2; omega) q.out.1
          | brk => exact ⟨q.out⟩
          | ret d => exact ⟨q.out⟩
  exact go FU ρ S hμ h0
/-! comprehensions over a fixed list -/
theorem k_lcL {T : Tg} {c : BM} {e : EM} {xs : List D} {ρw : Env} (I : Nat → List D → Sto → Prop) (h0 : I 0 [] S)
    (hs : ∀ i acc S d, xs[i]? = some d → I i acc S → ∃ ρ', asg T d ρw = some ρ' ∧ Ok (c ρ' S) fun k S1 => if k = true then Ok (e ρ' S1) fun y S2 => acc.length < sizeLine ∧ I (i + 1) (acc ++ [y]) S2 else I (i + 1) acc S1)
    (hd : ∀ acc S, I xs.length acc S → PL acc S) : Ok (lcLoop (itL xs).nx T c e ρw (itL xs).fu 0 [] S) PL := by
  have go : ∀ (k i : Nat) (acc : List D) (S : Sto), k + i = xs.length + 1 → i ≤ xs.length → I i acc S → Ok (lcLoop (itL xs).nx T c e ρw k i acc S) PL := by
    intro k
    induction k with
    | zero => intro i acc S e l _; omega
    | succ k ih =>
      intro i acc S el l hI
      unfold lcLoop
      show Ok (match some xs[i]? with
        | none => _
        | some none => _
        | some (some d) => _) PL
      by_cases hi : i < xs.length
      · obtain ⟨ρ', ea, hb⟩ := hs i acc S xs[i] (List.getElem?_eq_getElem hi) hI
        rw [List.getElem?_eq_getElem hi]
        dsimp only
        rw [ea]
        dsimp only
        refine Ok.bind (hb.imp fun k S1 q => ?_)
        cases k with
        | false => exact ih (i + 1) acc S1 (by omega) hi q
        | true => exact Ok.bind (q.imp fun y S2 q2 => by rw [if_pos q2.1]; exact ih (i + 1) _ S2 (by omega) hi q2.2)
      · have : i = xs.length := by omega
        subst this
        rw [List.getElem?_eq_none (Nat.le_refl _)]
        exact ⟨hd acc S hI⟩
  exact go (xs.length + 1) 0 [] S (by omega) (Nat.zero_le _) h0
theorem noX_ok {α : Type} {r : R α} {Q : α → Sto → Prop} (h : Ok r Q) : Ok (noX r) Q := by
  cases r with
  | ok a S => exact h
  | exc x S => exact h.out.elim
  | stuck => exact h.out.elim
theorem k_lc {im : IM} {T : Tg} {c : BM} {e : EM} {vs : List Nat} (h : Ok (im ρ S) fun it S1 => Ok (lcLoop it.nx T c e (wipeD ρ vs) it.fu 0 [] S1) fun xs S2 => P (.lst xs) S2) : Ok (eLc im T c e vs ρ S) P := Ok.bind (h.imp fun it S1 q => Ok.bind ((noX_ok q).imp fun _ _ => ok1))
theorem k_lcC {im : IM} {T : Tg} {c : BM} {e : EM} {vs : List Nat} (h : Ok (im ρ S) fun it S1 => Ok (lcLoop it.nx T c e (wipeD ρ vs) it.fu 0 [] S1) fun xs S2 => P (.cell S2.length) (S2 ++ [some (.lst xs)])) : Ok (eLcC im T c e vs ρ S) P := Ok.bind (h.imp fun it S1 q => Ok.bind ((noX_ok q).imp fun _ _ => ok1))
theorem k_imOf {PI : ItD → Sto → Prop} {f : D → M ItD} {m : EM} (h : Ok (m ρ S) fun d S1 => Ok (f d S1) PI) : Ok (imOf f m ρ S) PI := Ok.bind h
theorem k_imOfA {PI : ItD → Sto → Prop} {f : List D → M ItD} {m : AM} (h : Ok (m ρ S) fun d S1 => Ok (f d S1) PI) : Ok (imOfA f m ρ S) PI := Ok.bind h
theorem k_yes (q : PB true S) : Ok (bYes ρ S) PB := ⟨q⟩
end
/-! operations -/
section
variable {S : Sto} {P : D → Sto → Prop} {i j : Int} {a b : Bool} {x y : Str} {xs ys : List D}
theorem o_add (q : P (.int (i + j)) S) : Ok (oAdd (.int i) (.int j) S) P := ⟨q⟩
theorem o_sub (q : P (.int (i - j)) S) : Ok (oSub (.int i) (.int j) S) P := ⟨q⟩
theorem o_mul (h : IntMulOk i j) (q : P (.int (i * j)) S) : Ok (oMul (.int i) (.int j) S) P := by
  unfold oMul
  dsimp only
  rw [if_pos h]; exact ⟨q⟩
theorem o_fdiv (h : j ≠ 0) (h2 : j.natAbs.log2 < 9000) (q : P (.int (i.fdiv j)) S) : Ok (oFdiv (.int i) (.int j) S) P := by
  show Ok (opI _ _ _ _ S) P
  unfold opI
  dsimp only
  rw [if_pos (show CDivA i j from ⟨h, h2⟩)]; exact ⟨q⟩
theorem o_mod (h : j ≠ 0) (q : P (.int (i.fmod j)) S) : Ok (oMod (.int i) (.int j) S) P := by
  show Ok (opI _ _ _ _ S) P
  unfold opI
  dsimp only
  rw [if_pos h]; exact ⟨q⟩
theorem o_pow (h : L2.CPow i j) (q : P (.int (i ^ j.toNat)) S) : Ok (oPow (.int i) (.int j) S) P := by
  show Ok (opI _ _ _ _ S) P
  unfold opI
  dsimp only
  rw [if_pos h]; exact ⟨q⟩
theorem o_lt (q : P (.bl (decide (i < j))) S) : Ok (oLt (.int i) (.int j) S) P := ⟨q⟩
theorem o_le (q : P (.bl (decide (i ≤ j))) S) : Ok (oLe (.int i) (.int j) S) P := ⟨q⟩
theorem o_gt (q : P (.bl (decide (j < i))) S) : Ok (oGt (.int i) (.int j) S) P := ⟨q⟩
theorem o_ge (q : P (.bl (decide (j ≤ i))) S) : Ok (oGe (.int i) (.int j) S) P := ⟨q⟩
theorem o_neg (q : P (.int (-i)) S) : Ok (oNeg (.int i) S) P := ⟨q⟩
theorem o_addL (hz : xs.length + ys.length ≤ sizeLine) (q : P (.lst (xs ++ ys)) S) : Ok (oAdd (.lst xs) (.lst ys) S) P := by
  show Ok (oCat (.lst xs) (.lst ys) S) P
  unfold oCat
  show Ok (if xs.length + ys.length ≤ sizeLine then _ else _) P
  rw [if_pos hz]; exact ⟨q⟩
theorem o_eqI (q : P (.bl (decide (i = j))) S) : Ok (oEq (.int i) (.int j) S) P := by
  have e : PyData.eqv (D.int i).py (D.int j).py = decide (i = j) := by simp [D.py, PyData.eqv]; rfl
  first | unfold oEq | unfold oNe
  simp only [topD, eqD, D.pl, Bool.and_self, if_true, e]
  exact ⟨q⟩
theorem o_neI (q : P (.bl (!decide (i = j))) S) : Ok (oNe (.int i) (.int j) S) P := by
  have e : PyData.eqv (D.int i).py (D.int j).py = decide (i = j) := by simp [D.py, PyData.eqv]; rfl
  first | unfold oEq | unfold oNe
  simp only [topD, eqD, D.pl, Bool.and_self, if_true, e]
  exact ⟨q⟩
theorem o_eqS (q : P (.bl (decide (x = y))) S) : Ok (oEq (.str x) (.str y) S) P := ⟨q⟩
theorem o_neS (q : P (.bl (!decide (x = y))) S) : Ok (oNe (.str x) (.str y) S) P := ⟨q⟩
theorem o_eqB (q : P (.bl (decide (a = b))) S) : Ok (oEq (.bl a) (.bl b) S) P := by
  have e : PyData.eqv (D.bl a).py (D.bl b).py = decide (a = b) := by cases a <;> cases b <;> simp [D.py, PyData.eqv]
  first | unfold oEq | unfold oNe
  simp only [topD, eqD, D.pl, Bool.and_self, if_true, e]
  exact ⟨q⟩
/-- any data -/
theorem o_eqD {d e : D} (hd : ∀ s, d ≠ .str s) (h1 : (topD S d).pl 60 = true) (h2 : (topD S e).pl 60 = true) (q : P (.bl (PyData.eqv (topD S d).py (topD S e).py)) S) : Ok (oEq d e S) P := by
  unfold oEq
  have : eqD d e (topD S d) (topD S e) = some (PyData.eqv (topD S d).py (topD S e).py) := by
    unfold eqD
    split
    · exact absurd rfl (hd _)
    · rw [h1, h2]; rfl
  rw [this]; exact ⟨q⟩
theorem o_neD {d e : D} (hd : ∀ s, d ≠ .str s) (h1 : (topD S d).pl 60 = true) (h2 : (topD S e).pl 60 = true) (q : P (.bl (!PyData.eqv (topD S d).py (topD S e).py)) S) : Ok (oNe d e S) P := by
  unfold oNe
  have : eqD d e (topD S d) (topD S e) = some (PyData.eqv (topD S d).py (topD S e).py) := by
    unfold eqD
    split
    · exact absurd rfl (hd _)
    · rw [h1, h2]; rfl
  rw [this]; exact ⟨q⟩
theorem o_ix {d v : D} (h : (seqOf S d).bind (fun xs => L2.atI xs i) = some v) (q : P v S) : Ok (oIx d (.int i) S) P := by
  cases d <;> first
    | (simp [seqOf, listOf] at h; done)
    | (show Ok (match (seqOf S _).bind (fun xs => L2.atI xs i) with
        | some x => _
        | none => _) P
       rw [h]; exact ⟨q⟩)
theorem o_lenL {d : D} (h : seqOf S d = some xs) (q : P (.int xs.length) S) : Ok (fLen [d] S) P := by
  cases d <;> first
    | (simp [seqOf, listOf] at h; done)
    | (simp only [fLen, h]; exact ⟨q⟩)
theorem o_abs (q : P (.int i.natAbs) S) : Ok (fAbs [.int i] S) P := by
  refine ⟨?_⟩
  show P (.int (if i < 0 then -i else i)) S
  have : (if i < 0 then -i else i) = (i.natAbs : Int) := by split <;> omega
  rw [this]; exact q
theorem o_max2 (q : P (.int (max i j)) S) : Ok (fMax2 [.int i, .int j] S) P := by
  refine ⟨?_⟩
  show P (.int (if j > i then j else i)) S
  have : (if j > i then j else i) = max i j := by split <;> omega
  rw [this]; exact q
theorem o_min2 (q : P (.int (min i j)) S) : Ok (fMin2 [.int i, .int j] S) P := by
  refine ⟨?_⟩
  show P (.int (if j < i then j else i)) S
  have : (if j < i then j else i) = min i j := by split <;> omega
  rw [this]; exact q
theorem o_intB (q : P (.int (if a then 1 else 0)) S) : Ok (fInt [.bl a] S) P := ⟨q⟩
theorem o_intI (q : P (.int i) S) : Ok (fInt [.int i] S) P := ⟨q⟩
theorem o_sl {d : D} {lo hi : Option Int} (h : listOf S d = some xs) (q : P (.lst (cutD xs lo hi)) S) : Ok (oSl d lo hi S) P := by
  cases d <;> first
    | (simp [seqOf, listOf] at h; done)
    | (simp only [oSl, oSlL, h]; exact ⟨q⟩)
theorem o_app {n : Nat} {d : D} (h : S[n]? = some (some (.lst xs))) (hz : xs.length < sizeLine) (q : P .non (S.set n (some (.lst (xs ++ [d]))))) : Ok (mAppend (.cell n) [d] S) P := by
  unfold mAppend
  dsimp only
  rw [h]
  dsimp only
  rw [if_pos hz]; exact ⟨q⟩
theorem o_repL (h : IntMulOk 0 0 ∨ True) (h1 : -(2 ^ 63) ≤ i) (h2 : i < 2 ^ 63) (hz : xs.length * i.toNat ≤ sizeLine) (q : P (.lst (List.replicate i.toNat xs).flatten) S) : Ok (oMul (.lst xs) (.int i) S) P := by
  unfold oMul
  show Ok (if -(2 ^ 63) ≤ i ∧ i < 2 ^ 63 ∧ xs.length * i.toNat ≤ sizeLine then _ else _) P
  rw [if_pos ⟨h1, h2, hz⟩]; exact ⟨q⟩
theorem o_isi {d : D} {c k : String} {r : Bool} (h : kindD S d = some k) (e : L2.kitB k c = some r) (q : P (.bl r) S) : Ok (fIsi [d, .ty c] S) P := by
  unfold fIsi
  dsimp only
  rw [h]
  dsimp only
  rw [e]; exact ⟨q⟩
theorem o_all {d : D} {bs : List Bool} (h : (listOf S d).bind blsOf = some bs) (q : P (.bl (bs.all id)) S) : Ok (fAll [d] S) P := by
  unfold fAll
  dsimp only
  rw [h]; exact ⟨q⟩
theorem o_sum {d : D} {ns : List Int} (h : (listOf S d).bind intsOf = some ns) (q : P (.int ns.sum) S) : Ok (fSum [d] S) P := by
  unfold fSum
  dsimp only
  rw [h]; exact ⟨q⟩
end
/-! what is walked -/
section
variable {S : Sto} {PI : ItD → Sto → Prop} {i j : Int} {xs ys : List D}
theorem i_list (q : PI (itL xs) S) : Ok (mItL (.lst xs) S) PI := ⟨q⟩
theorem i_ro (q : PI (itL xs) S) : Ok (mItL (.ro xs) S) PI := ⟨q⟩
theorem i_rng1 (h1 : -(2 ^ 62) ≤ j) (h2 : j < 2 ^ 62) (q : PI (itL ((List.range j.toNat).map fun i : Nat => D.int i)) S) : Ok (mItR1 [.int j] S) PI := by
  unfold mItR1
  dsimp only
  rw [if_pos ⟨h1, h2⟩]; exact ⟨q⟩
theorem i_enum (q : PI (itL (enumD xs)) S) : Ok (mItE [.lst xs] S) PI := ⟨q⟩
end
end
end DL

set_option Elab.async false
set_option linter.all false
set_option maxRecDepth 100000
/-! DM: plain mathematics: sizes, fractions in lowest terms. -/
namespace DL
open PySem PySem.Spec PyProof.Rows
noncomputable section
/-! ### sizes -/
/-- below 2 ^ k in size -/
def Sz (k : Nat) (i : Int) : Prop := i.natAbs < 2 ^ k
theorem Sz.mono {k l : Nat} {i : Int} (h : Sz k i) (hl : k ≤ l) : Sz l i := Nat.lt_of_lt_of_le h (Nat.pow_le_pow_right (by decide) hl)
theorem Sz.mul {k l : Nat} {i j : Int} (h : Sz k i) (g : Sz l j) : Sz (k + l) (i * j) := by
  unfold Sz at *
  rw [Int.natAbs_mul, Nat.pow_add]
  exact Nat.mul_lt_mul'' h g
theorem Sz.add {k l : Nat} {i j : Int} (h : Sz k i) (g : Sz l j) : Sz (max k l + 1) (i + j) := by
  have h' := h.mono (Nat.le_max_left k l)
  have g' := g.mono (Nat.le_max_right k l)
  unfold Sz at *
  rw [Nat.pow_succ]
  omega
theorem Sz.neg {k : Nat} {i : Int} (h : Sz k i) : Sz k (-i) := by unfold Sz at *; omega
theorem Sz.of_le {k : Nat} {i j : Int} (h : Sz k j) (hi : i.natAbs ≤ j.natAbs) : Sz k i := Nat.lt_of_le_of_lt hi h
theorem Sz.log {k : Nat} {i : Int} (h : Sz k i) (hk : 0 < k) : i.natAbs.log2 < k := by
  by_cases h0 : i.natAbs = 0
  · rw [h0]; simpa using hk
  · exact (Nat.log2_lt h0).mpr h
theorem Sz.bits {k : Nat} {i : Int} (h : Sz k i) (hk : 0 < k) : Builtin.Int.intBits i ≤ k := by
  unfold Builtin.Int.intBits
  have := h.log hk
  first
    | omega
    | (split <;> omega)
theorem Sz.mulOk {k l : Nat} {i j : Int} (h : Sz k i) (g : Sz l j) (hk : k ≤ 2 ^ 20 := by decide) (hl : l ≤ 2 ^ 20 := by decide) : IntMulOk i j := by
  by_cases h0 : 0 < k
  · by_cases h1 : 0 < l
    · exact .of_bits (Nat.le_trans (h.bits h0) hk) (Nat.le_trans (g.bits h1) hl)
    · exact .of_bits (Nat.le_trans (h.bits h0) hk) (Nat.le_trans ((g.mono (Nat.le_of_lt (by omega : l < 1))).bits (by decide)) (by decide))
  · exact .of_bits (Nat.le_trans ((h.mono (Nat.le_of_lt (by omega : k < 1))).bits (by decide)) (by decide)) (Nat.le_trans ((g.mono (Nat.le_max_left l 1)).bits (by omega)) (by omega))
/-! ### lowest terms -/
abbrev Fr := Int × Int
def Nrm (f : Fr) : Prop := 0 < f.2 ∧ Int.gcd f.1 f.2 = 1
def lowF (t b : Int) : Fr := if b < 0 then (t.fdiv (-(Int.gcd t b : Int)), b.fdiv (-(Int.gcd t b : Int))) else (t.fdiv (Int.gcd t b), b.fdiv (Int.gcd t b))
theorem gcd_pos {t b : Int} (h : b ≠ 0) : 0 < Int.gcd t b := Int.gcd_pos_of_ne_zero_right t h
theorem low_all {t b : Int} (h : b ≠ 0) : Nrm (lowF t b) ∧ (lowF t b).1 * b = t * (lowF t b).2 ∧ (lowF t b).1.natAbs ≤ t.natAbs ∧ (lowF t b).2.natAbs ≤ b.natAbs := by
  have g0 := gcd_pos (t := t) h
  obtain ⟨p, hp⟩ := Int.gcd_dvd_left (a := t) (b := b)
  obtain ⟨q, hq⟩ := Int.gcd_dvd_right (a := t) (b := b)
  generalize hg : Int.gcd t b = g at *
  have gz : (g : Int) ≠ 0 := by omega
  have cop : Int.gcd p q = 1 := by
    have e : Int.gcd t b = g * Int.gcd p q := by
      rw [hp, hq, Int.gcd_mul_left]
      simp
    rw [hg] at e
    have : g * Int.gcd p q = g * 1 := by omega
    exact Nat.eq_of_mul_eq_mul_left g0 this
  have e1 : t.fdiv g = p := by rw [hp]; exact Int.mul_fdiv_cancel_left p gz
  have e2 : b.fdiv g = q := by rw [hq]; exact Int.mul_fdiv_cancel_left q gz
  have e3 : t.fdiv (-(g : Int)) = -p := by
    rw [hp, show (g : Int) * p = -(g : Int) * -p by rw [Int.neg_mul_neg]]
    exact Int.mul_fdiv_cancel_left _ (by omega)
  have e4 : b.fdiv (-(g : Int)) = -q := by
    rw [hq, show (g : Int) * q = -(g : Int) * -q by rw [Int.neg_mul_neg]]
    exact Int.mul_fdiv_cancel_left _ (by omega)
  have qz : q ≠ 0 := fun z => h (by rw [hq, z, Int.mul_zero])
  have np : p.natAbs ≤ t.natAbs := by
    rw [hp, Int.natAbs_mul]
    exact Nat.le_mul_of_pos_left _ (by omega)
  have nq : q.natAbs ≤ b.natAbs := by
    rw [hq, Int.natAbs_mul]
    exact Nat.le_mul_of_pos_left _ (by omega)
  unfold lowF
  rw [hg]
  split
  · rename_i hb
    rw [e3, e4]
    refine ⟨⟨?_, by simpa [Int.gcd_neg, Int.neg_gcd] using cop⟩, ?_, by simpa using np, by simpa using nq⟩
    · have hq0 : q < 0 := by
        rcases Int.lt_or_gt_of_ne qz with z | z
        · exact z
        · exact absurd (show (0 : Int) < b by rw [hq]; exact Int.mul_pos (by omega) z) (by omega)
      show 0 < -q
      omega
    · show -p * b = t * -q
      rw [hp, hq]
      grind
  · rename_i hb
    rw [e1, e2]
    refine ⟨⟨?_, cop⟩, ?_, np, nq⟩
    · rcases Int.lt_or_gt_of_ne qz with z | z
      · exact absurd (show b < 0 by rw [hq]; exact Int.mul_neg_of_pos_of_neg (by omega) z) hb
      · exact z
    · show p * b = t * q
      rw [hp, hq]
      grind
theorem low_spec {t b : Int} (h : b ≠ 0) : Nrm (lowF t b) ∧ (lowF t b).1 * b = t * (lowF t b).2 := ⟨(low_all h).1, (low_all h).2.1⟩
theorem dvd_cop {b a d : Int} (h : b ∣ a * d) (c : Int.gcd b a = 1) : b ∣ d := by
  have h' := Int.natAbs_dvd_natAbs.mpr h
  rw [Int.natAbs_mul] at h'
  exact Int.natAbs_dvd_natAbs.mp (Nat.Coprime.dvd_of_dvd_mul_left (by exact c) h')
/-- lowest terms are one -/
theorem nrm_uniq {f g : Fr} (hf : Nrm f) (hg : Nrm g) (h : f.1 * g.2 = g.1 * f.2) : f = g := by
  obtain ⟨a, b⟩ := f
  obtain ⟨c, d⟩ := g
  obtain ⟨hb, cf⟩ := hf
  obtain ⟨hd, cg⟩ := hg
  dsimp only at *
  have d1 : b ∣ d := by
    have : b ∣ a * d := ⟨c, by rw [h, Int.mul_comm]⟩
    exact dvd_cop this (by rw [Int.gcd_comm]; exact cf)
  have d2 : d ∣ b := by
    have : d ∣ c * b := ⟨a, by rw [← h, Int.mul_comm]⟩
    exact dvd_cop this (by rw [Int.gcd_comm]; exact cg)
  have e : b = d := Int.dvd_antisymm (by omega) (by omega) d1 d2
  subst e
  rw [Int.eq_of_mul_eq_mul_right (by omega) h]
theorem low_eq {t b : Int} {f : Fr} (h : b ≠ 0) (hf : Nrm f) (e : f.1 * b = t * f.2) : lowF t b = f := by
  obtain ⟨n, c⟩ := low_spec (t := t) h
  refine nrm_uniq n hf ?_
  have : ((lowF t b).1 * f.2) * b = (f.1 * (lowF t b).2) * b := by grind
  exact Int.eq_of_mul_eq_mul_right h this
theorem low_self {f : Fr} (hf : Nrm f) : lowF f.1 f.2 = f := low_eq (by have := hf.1; omega) hf rfl
theorem low_natAbs {t b : Int} (h : b ≠ 0) : (lowF t b).1.natAbs ≤ t.natAbs ∧ (lowF t b).2.natAbs ≤ b.natAbs := (low_all h).2.2
def plusF (f g : Fr) : Fr := lowF (f.1 * g.2 + g.1 * f.2) (f.2 * g.2)
def timesF (f g : Fr) : Fr := lowF (f.1 * g.1) (f.2 * g.2)
/-- a fraction, tops below 2 ^ k, bottoms below 2 ^ l -/
structure FrS (k l : Nat) (f : Fr) : Prop where
  n : Nrm f
  t : Sz k f.1
  b : Sz l f.2
theorem FrS.mono {k l k' l' : Nat} {f : Fr} (h : FrS k l f) (hk : k ≤ k') (hl : l ≤ l') : FrS k' l' f := ⟨h.n, h.t.mono hk, h.b.mono hl⟩
theorem FrS.nz {k l : Nat} {f : Fr} (h : FrS k l f) : f.2 ≠ 0 := by have := h.n.1; omega
theorem low_S {k l : Nat} {t b : Int} (h : b ≠ 0) (ht : Sz k t) (hb : Sz l b) : FrS k l (lowF t b) := ⟨(low_spec h).1, ht.of_le (low_natAbs h).1, hb.of_le (low_natAbs h).2⟩
theorem mul_nz {a b : Int} (h : a ≠ 0) (g : b ≠ 0) : a * b ≠ 0 := Int.mul_ne_zero h g
theorem times_S {k l k' l' : Nat} {f g : Fr} (hf : FrS k l f) (hg : FrS k' l' g) : FrS (k + k') (l + l') (timesF f g) := low_S (mul_nz hf.nz hg.nz) (hf.t.mul hg.t) (hf.b.mul hg.b)
theorem nrm_int (i : Int) : Nrm (i, 1) := ⟨show (0 : Int) < 1 by decide, by simp⟩
theorem plus_one {a b : Int} : plusF (a, 1) (b, 1) = (a + b, 1) := by
  unfold plusF
  simp only [Int.mul_one]
  exact low_self (nrm_int _)
end
end DL

set_option Elab.async false
set_option linter.all false
set_option maxRecDepth 100000
/-! DN: data that can be shown; comprehensions. -/
namespace DL
open PySem PySem.Spec PyProof.Rows
noncomputable section
/-- what `repr` needs -/
structure Dat (k b : Nat) (d : D) : Prop where
  pl : d.pl k = true
  sh : d.py.showable = true
  lf : d.py.leavesShort 1921 = true
  bk : d.py.bulk ≤ b
structure DatL (k b : Nat) (xs : List D) : Prop where
  pl : D.plL k xs = true
  sh : PyData.showableAll (D.pyL xs) = true
  lf : PyData.leavesShortAll 1921 (D.pyL xs) = true
  bk : PyData.bulkAll (D.pyL xs) ≤ b
theorem Dat.mono {k b c : Nat} {d : D} (h : Dat k b d) (l : b ≤ c) : Dat k c d := ⟨h.pl, h.sh, h.lf, Nat.le_trans h.bk l⟩
theorem DatL.nil {k : Nat} : DatL k 0 [] := ⟨rfl, rfl, rfl, Nat.le_refl _⟩
theorem DatL.cons {k b c : Nat} {x : D} {xs : List D} (h : Dat k b x) (g : DatL k c xs) : DatL k (b + 1 + c) (x :: xs) := by
  refine ⟨?_, ?_, ?_, ?_⟩
  · simp only [D.plL, h.pl, g.pl, Bool.and_self]
  · simp only [D.pyL, PyData.showableAll, h.sh, g.sh, Bool.and_self]
  · simp only [D.pyL, PyData.leavesShortAll, h.lf, g.lf, Bool.and_self]
  · have := h.bk; have := g.bk
    simp only [D.pyL, PyData.bulkAll]; omega
theorem DatL.all {k b : Nat} : ∀ {xs : List D} {n : Nat}, (∀ x ∈ xs, Dat k b x) → xs.length ≤ n → DatL k (n * (b + 1)) xs
  | [], _, _, _ => ⟨rfl, rfl, rfl, Nat.zero_le _⟩
  | x :: xs, 0, _, l => absurd l (by simp)
  | x :: xs, n + 1, h, l => by
    have g := DatL.cons (h x (by simp)) (DatL.all (xs := xs) (n := n) (fun y hy => h y (by simp [hy])) (by simpa using l))
    rw [Nat.add_mul, Nat.one_mul, Nat.add_comm]
    exact g
theorem DatL.mono {k b c : Nat} {d : List D} (h : DatL k b d) (l : b ≤ c) : DatL k c d := ⟨h.pl, h.sh, h.lf, Nat.le_trans h.bk l⟩
theorem Dat.int {k m : Nat} {i : Int} (h : Sz m i) (hm : 0 < m) (hl : m ≤ 1920) : Dat k 0 (.int i) := by
  have l : i.natAbs.log2 < 1920 := Nat.lt_of_lt_of_le (h.log hm) hl
  refine ⟨rfl, by simp [D.py, PyData.showable, l], ?_, Nat.le_refl _⟩
  simp only [D.py, PyData.leavesShort, decide_eq_true_eq]
  exact PyProof.Rows.int_text_len_1921 l
theorem Dat.bl {k : Nat} {b : Bool} : Dat k 0 (.bl b) := ⟨rfl, rfl, rfl, Nat.le_refl _⟩
theorem Dat.non {k : Nat} : Dat k 0 .non := ⟨rfl, rfl, rfl, Nat.le_refl _⟩
theorem Dat.str {k : Nat} {s : Str} (h : PyData.strOk s = true) : Dat k s.length (.str s) := by
  refine ⟨h, rfl, ?_, Nat.le_refl _⟩
  simp only [D.py, PyData.leavesShort, List.all_eq_true, decide_eq_true_eq]
  intro c hc
  have h' : s.cps.all (· < 0x110000) = true := h
  rw [Array.all_eq_true'] at h'
  have := h' c (by simpa using hc)
  simp only [decide_eq_true_eq] at this
  omega
theorem Dat.lst {k b : Nat} {xs : List D} (h : DatL k b xs) : Dat (k + 1) b (.lst xs) := ⟨by simp only [D.pl, Nat.add_sub_cancel, h.pl]; simp, by simp only [D.py, PyData.showable]; exact h.sh, by simp only [D.py, PyData.leavesShort]; exact h.lf, by simp only [D.py, PyData.bulk]; exact h.bk⟩
theorem Dat.tup {k b : Nat} {xs : List D} (h : DatL k b xs) : Dat (k + 1) b (.tup xs) := ⟨by simp only [D.pl, Nat.add_sub_cancel, h.pl]; simp, by simp only [D.py, PyData.showable]; exact h.sh, by simp only [D.py, PyData.leavesShort]; exact h.lf, by simp only [D.py, PyData.bulk]; exact h.bk⟩
/-- what `repr` needs, an empty table among it -/
structure DatE (k b : Nat) (d : D) : Prop where
  pl : d.pr k = true
  sh : d.py.showable = true
  lf : d.py.leavesShort 1921 = true
  bk : d.py.bulk ≤ b
structure DatEL (k b : Nat) (xs : List D) : Prop where
  pl : D.prL k xs = true
  sh : PyData.showableAll (D.pyL xs) = true
  lf : PyData.leavesShortAll 1921 (D.pyL xs) = true
  bk : PyData.bulkAll (D.pyL xs) ≤ b
theorem DatE.mono {k b c : Nat} {d : D} (h : DatE k b d) (l : b ≤ c) : DatE k c d := ⟨h.pl, h.sh, h.lf, Nat.le_trans h.bk l⟩
theorem DatEL.nil {k : Nat} : DatEL k 0 [] := ⟨rfl, rfl, rfl, Nat.le_refl _⟩
theorem DatEL.cons {k b c : Nat} {x : D} {xs : List D} (h : DatE k b x) (g : DatEL k c xs) : DatEL k (b + 1 + c) (x :: xs) := by
  refine ⟨?_, ?_, ?_, ?_⟩
  · simp only [D.prL, h.pl, g.pl, Bool.and_self]
  · simp only [D.pyL, PyData.showableAll, h.sh, g.sh, Bool.and_self]
  · simp only [D.pyL, PyData.leavesShortAll, h.lf, g.lf, Bool.and_self]
  · have := h.bk; have := g.bk
    simp only [D.pyL, PyData.bulkAll]; omega
theorem DatEL.all {k b : Nat} : ∀ {xs : List D} {n : Nat}, (∀ x ∈ xs, DatE k b x) → xs.length ≤ n → DatEL k (n * (b + 1)) xs
  | [], _, _, _ => ⟨rfl, rfl, rfl, Nat.zero_le _⟩
  | x :: xs, 0, _, l => absurd l (by simp)
  | x :: xs, n + 1, h, l => by
    have g := DatEL.cons (h x (by simp)) (DatEL.all (xs := xs) (n := n) (fun y hy => h y (by simp [hy])) (by simpa using l))
    rw [Nat.add_mul, Nat.one_mul, Nat.add_comm]
    exact g
theorem DatEL.mono {k b c : Nat} {d : List D} (h : DatEL k b d) (l : b ≤ c) : DatEL k c d := ⟨h.pl, h.sh, h.lf, Nat.le_trans h.bk l⟩
theorem DatE.int {k m : Nat} {i : Int} (h : Sz m i) (hm : 0 < m) (hl : m ≤ 1920) : DatE k 0 (.int i) := by
  have l : i.natAbs.log2 < 1920 := Nat.lt_of_lt_of_le (h.log hm) hl
  refine ⟨rfl, by simp [D.py, PyData.showable, l], ?_, Nat.le_refl _⟩
  simp only [D.py, PyData.leavesShort, decide_eq_true_eq]
  exact PyProof.Rows.int_text_len_1921 l
theorem DatE.bl {k : Nat} {b : Bool} : DatE k 0 (.bl b) := ⟨rfl, rfl, rfl, Nat.le_refl _⟩
theorem DatE.non {k : Nat} : DatE k 0 .non := ⟨rfl, rfl, rfl, Nat.le_refl _⟩
theorem DatE.str {k : Nat} {s : Str} (h : PyData.strOk s = true) : DatE k s.length (.str s) := by
  refine ⟨h, rfl, ?_, Nat.le_refl _⟩
  simp only [D.py, PyData.leavesShort, List.all_eq_true, decide_eq_true_eq]
  intro c hc
  have h' : s.cps.all (· < 0x110000) = true := h
  rw [Array.all_eq_true'] at h'
  have := h' c (by simpa using hc)
  simp only [decide_eq_true_eq] at this
  omega
theorem DatE.lst {k b : Nat} {xs : List D} (h : DatEL k b xs) : DatE (k + 1) b (.lst xs) := ⟨by simp only [D.pr, Nat.add_sub_cancel, h.pl]; simp, by simp only [D.py, PyData.showable]; exact h.sh, by simp only [D.py, PyData.leavesShort]; exact h.lf, by simp only [D.py, PyData.bulk]; exact h.bk⟩
theorem DatE.tup {k b : Nat} {xs : List D} (h : DatEL k b xs) : DatE (k + 1) b (.tup xs) := ⟨by simp only [D.pr, Nat.add_sub_cancel, h.pl]; simp, by simp only [D.py, PyData.showable]; exact h.sh, by simp only [D.py, PyData.leavesShort]; exact h.lf, by simp only [D.py, PyData.bulk]; exact h.bk⟩
theorem DatE.dE {k : Nat} : DatE (k + 1) 0 .dE := ⟨by simp [D.pr], rfl, rfl, Nat.le_refl _⟩
theorem Dat.e {k b : Nat} {d : D} (h : Dat k b d) : DatE k b d := ⟨D.pr_of h.pl, h.sh, h.lf, h.bk⟩
theorem DatL.e {k b : Nat} {d : List D} (h : DatL k b d) : DatEL k b d := ⟨D.prL_of h.pl, h.sh, h.lf, h.bk⟩
theorem DatE.shows {b : Nat} {k : Nat} {d : D} (h : DatE k b d) (hb : b ≤ 8000) : d.shows = true := by
  have := PyData.shown_le_bulk 1921 (by decide) d.py h.lf
  have e : (1921 + 2) * d.py.bulk ≤ 1923 * 8000 := Nat.mul_le_mul (Nat.le_refl _) (Nat.le_trans h.bk hb)
  unfold D.shows
  rw [h.sh, sizeLine_eq]
  simp
  omega
theorem Dat.shows {b : Nat} {k : Nat} {d : D} (h : Dat k b d) (hb : b ≤ 8000) : d.shows = true := h.e.shows hb
mutual
theorem pl_up : ∀ {d : D} {k m : Nat}, k ≤ m → d.pl k = true → d.pl m = true
  | .non, _, _, _, _ => rfl
  | .bl b, _, _, _, _ => rfl
  | .int i, _, _, _, _ => rfl
  | .str s, _, _, _, h => by simpa [D.pl] using h
  | .tup xs, k, m, l, h => by
    simp only [D.pl, Bool.and_eq_true, decide_eq_true_eq] at h ⊢
    exact ⟨by omega, plL_up (by omega) h.2⟩
  | .lst xs, k, m, l, h => by
    simp only [D.pl, Bool.and_eq_true, decide_eq_true_eq] at h ⊢
    exact ⟨by omega, plL_up (by omega) h.2⟩
  | .ro xs, k, m, l, h => by
    simp only [D.pl, Bool.and_eq_true, decide_eq_true_eq] at h ⊢
    exact ⟨by omega, plL_up (by omega) h.2⟩
  | .cell n, _, _, _, h => by simp [D.pl] at h
  | .ty n, _, _, _, h => by simp [D.pl] at h
  | .err _ _ _, _, _, _, h => by simp [D.pl] at h
  | .cls _, _, _, _, h => by simp [D.pl] at h
  | .dE, _, _, _, h => by simp [D.pl] at h
theorem plL_up : ∀ {ds : List D} {k m : Nat}, k ≤ m → D.plL k ds = true → D.plL m ds = true
  | [], _, _, _, _ => rfl
  | d :: ds, k, m, l, h => by
    simp only [D.plL, Bool.and_eq_true] at h ⊢
    exact ⟨pl_up l h.1, plL_up l h.2⟩
end
mutual
theorem pr_up : ∀ {d : D} {k m : Nat}, k ≤ m → d.pr k = true → d.pr m = true
  | .non, _, _, _, _ => rfl
  | .bl b, _, _, _, _ => rfl
  | .int i, _, _, _, _ => rfl
  | .str s, _, _, _, h => by simpa [D.pr] using h
  | .tup xs, k, m, l, h => by
    simp only [D.pr, Bool.and_eq_true, decide_eq_true_eq] at h ⊢
    exact ⟨by omega, prL_up (by omega) h.2⟩
  | .lst xs, k, m, l, h => by
    simp only [D.pr, Bool.and_eq_true, decide_eq_true_eq] at h ⊢
    exact ⟨by omega, prL_up (by omega) h.2⟩
  | .ro xs, k, m, l, h => by
    simp only [D.pr, Bool.and_eq_true, decide_eq_true_eq] at h ⊢
    exact ⟨by omega, prL_up (by omega) h.2⟩
  | .cell n, _, _, _, h => by simp [D.pr] at h
  | .ty n, _, _, _, h => by simp [D.pr] at h
  | .err _ _ _, _, _, _, h => by simp [D.pr] at h
  | .cls _, _, _, _, h => by simp [D.pr] at h
  | .dE, k, m, l, h => by
    simp only [D.pr, decide_eq_true_eq] at h ⊢
    omega
theorem prL_up : ∀ {ds : List D} {k m : Nat}, k ≤ m → D.prL k ds = true → D.prL m ds = true
  | [], _, _, _, _ => rfl
  | d :: ds, k, m, l, h => by
    simp only [D.prL, Bool.and_eq_true] at h ⊢
    exact ⟨pr_up l h.1, prL_up l h.2⟩
end
theorem Dat.up {k m b : Nat} {d : D} (h : Dat k b d) (l : k ≤ m) : Dat m b d := ⟨pl_up l h.pl, h.sh, h.lf, h.bk⟩
theorem DatL.up {k m b : Nat} {d : List D} (h : DatL k b d) (l : k ≤ m) : DatL m b d := ⟨plL_up l h.pl, h.sh, h.lf, h.bk⟩
theorem DatE.up {k m b : Nat} {d : D} (h : DatE k b d) (l : k ≤ m) : DatE m b d := ⟨pr_up l h.pl, h.sh, h.lf, h.bk⟩
/-! ### lists of one make -/
theorem made {α : Type} {Q : α → Prop} {g : α → D} : ∀ {xs : List D}, (∀ d ∈ xs, ∃ f, Q f ∧ d = g f) → ∃ l : List α, (∀ f ∈ l, Q f) ∧ xs = l.map g
  | [], _ => ⟨[], by simp, rfl⟩
  | x :: xs, h => by
    obtain ⟨f, q, e⟩ := h x (by simp)
    obtain ⟨l, ql, el⟩ := made (xs := xs) fun d hd => h d (by simp [hd])
    refine ⟨f :: l, ?_, by rw [e, el]; rfl⟩
    intro g hg
    rcases List.mem_cons.mp hg with rfl | hg
    · exact q
    · exact ql g hg
theorem blsOf_map : ∀ bs : List Bool, blsOf (bs.map D.bl) = some bs
  | [] => rfl
  | b :: bs => by simp only [List.map_cons, blsOf, blsOf_map bs]; rfl
theorem intsOf_map : ∀ bs : List Int, intsOf (bs.map D.int) = some bs
  | [] => rfl
  | b :: bs => by simp only [List.map_cons, intsOf, intsOf_map bs]; rfl
theorem cut_from (xs : List D) (k : Nat) : cutD xs (some (k : Int)) none = xs.drop k := by
  unfold cutD
  rw [HT.sIx_nat, HT.sIx_none]
  by_cases h : k ≤ xs.length
  · rw [Nat.min_eq_left h, List.take_of_length_le (by simp)]
  · rw [Nat.min_eq_right (by omega), List.drop_of_length_le (Nat.le_refl _), List.drop_of_length_le (by omega)]; simp
theorem cut_to (xs : List D) (k : Nat) : cutD xs none (some (k : Int)) = xs.take k := by
  unfold cutD
  rw [HT.sIx_nat, HT.sIx_none]
  by_cases h : k ≤ xs.length
  · rw [Nat.min_eq_left h]; simp
  · rw [Nat.min_eq_right (by omega), List.take_of_length_le (by simp), List.take_of_length_le (by omega)]; simp
theorem cut_fromZ {xs : List D} {z : Int} (h : 0 ≤ z) : cutD xs (some z) none = xs.drop z.toNat := by
  have e : z = (z.toNat : Int) := by omega
  rw [e, cut_from]; rfl
theorem zipD_map {α β : Type} (f : α → D) (g : β → D) : ∀ (xs : List α) (ys : List β), zipD (xs.map f) (ys.map g) = (xs.zip ys).map fun p => .tup [f p.1, g p.2]
  | [], _ => rfl
  | _ :: _, [] => rfl
  | x :: xs, y :: ys => by simp only [List.map_cons, zipD, List.zip_cons_cons, zipD_map f g xs ys]
theorem getElem?_map_some {α : Type} {f : α → D} {l : List α} {i : Nat} {d : D} (h : (l.map f)[i]? = some d) : ∃ a, l[i]? = some a ∧ d = f a := by
  rw [List.getElem?_map] at h
  cases e : l[i]? with
  | none => rw [e] at h; exact absurd h (by simp)
  | some a => rw [e] at h; exact ⟨a, rfl, by simpa using h.symm⟩
/-! ### comprehensions -/
section
variable {T : Tg} {c : BM} {e : EM} {ρw : Env} {S : Sto} {PL : List D → Sto → Prop}
theorem lc_map {α : Type} {l : List α} {f g : α → D} (hz : l.length ≤ sizeLine)
    (hs : ∀ a ∈ l, ∃ ρ', asg T (f a) ρw = some ρ' ∧ Ok (e ρ' S) fun y S2 => y = g a ∧ S2 = S) (k : PL (l.map g) S) : Ok (lcLoop (itL (l.map f)).nx T bYes e ρw (itL (l.map f)).fu 0 [] S) PL := by
  refine k_lcL (fun i acc S' => acc = (l.take i).map g ∧ S' = S) ⟨by simp, rfl⟩ ?_ ?_
  · intro i acc S' d hd ⟨e1, e2⟩
    obtain ⟨a, ha, rfl⟩ := getElem?_map_some hd
    have hm := List.mem_of_getElem? ha
    have hi := (List.getElem?_eq_some_iff.mp ha).1
    obtain ⟨ρ', h1, h2⟩ := hs a hm
    refine ⟨ρ', h1, ?_⟩
    refine k_yes ?_
    rw [if_pos rfl, e2]
    refine h2.imp fun y S2 ⟨hy, hS⟩ => ⟨?_, ?_, hS⟩
    · rw [e1]; simp; omega
    · rw [e1, hy, List.take_add_one, ha]; simp
  · intro acc S' ⟨e1, e2⟩
    rw [e1, e2]
    simpa using k
theorem lc_keep {α : Type} {l : List α} {f g : α → D} {b : α → Bool} (hz : l.length ≤ sizeLine)
    (hs : ∀ a ∈ l, ∃ ρ', asg T (f a) ρw = some ρ' ∧ Ok (c ρ' S) fun k S1 => k = b a ∧ S1 = S ∧ (b a = true → Ok (e ρ' S) fun y S2 => y = g a ∧ S2 = S)) (k : PL ((l.filter b).map g) S) : Ok (lcLoop (itL (l.map f)).nx T c e ρw (itL (l.map f)).fu 0 [] S) PL := by
  refine k_lcL (fun i acc S' => acc = ((l.take i).filter b).map g ∧ S' = S) ⟨by simp, rfl⟩ ?_ ?_
  · intro i acc S' d hd ⟨e1, e2⟩
    obtain ⟨a, ha, rfl⟩ := getElem?_map_some hd
    have hm := List.mem_of_getElem? ha
    have hi := (List.getElem?_eq_some_iff.mp ha).1
    obtain ⟨ρ', h1, h2⟩ := hs a hm
    refine ⟨ρ', h1, ?_⟩
    rw [e2]
    refine h2.imp fun z S1 ⟨hk, hS, h3⟩ => ?_
    subst hk hS
    have ht : (l.take (i + 1)).filter b = (l.take i).filter b ++ (if b a = true then [a] else []) := by
      rw [List.take_add_one, ha, List.filter_append]
      simp only [Option.toList_some, List.filter_cons, List.filter_nil]
    have hl : ((l.take i).filter b).length ≤ i := Nat.le_trans (List.length_filter_le _ _) (by simp; omega)
    by_cases hb : b a = true
    · rw [if_pos hb]
      refine (h3 hb).imp fun y S2 ⟨hy, hS⟩ => ⟨?_, ?_, hS⟩
      · rw [e1, List.length_map]; omega
      · rw [e1, hy, ht, if_pos hb, List.map_append]; rfl
    · rw [if_neg hb]
      refine ⟨?_, rfl⟩
      rw [e1, ht, if_neg hb, List.append_nil]
  · intro acc S' ⟨e1, e2⟩
    rw [e1, e2]
    simpa using k
/-- a walk over what stays, kept in a cell or not -/
theorem k_forN {T : Tg} {b : SD} {xs : List D} {nx : Nat → Sto → Option (Option D)} {fu : Nat} {ρ : DL.Env} {PS : Flw → DL.Env → Sto → Prop} (I : Nat → DL.Env → Sto → Prop) (hf : fu = xs.length + 1) (h0 : I 0 ρ S)
    (hx : ∀ i ρ S, I i ρ S → nx i S = some xs[i]?)
    (hs : ∀ i ρ S d, xs[i]? = some d → I i ρ S → ∃ ρ', asg T d ρ = some ρ' ∧ OkS (b ρ' S) fun f ρ2 S2 => match f with
      | .nx => I (i + 1) ρ2 S2
      | .cnt => I (i + 1) ρ2 S2
      | .brk => PS .nx ρ2 S2
      | .ret d => PS (.ret d) ρ2 S2)
    (hd : ∀ ρ S, I xs.length ρ S → PS .nx ρ S) : OkS (forLoop nx T b fu 0 ρ S) PS := by
  have go : ∀ (k i : Nat) (ρ : DL.Env) (S : Sto), k + i = xs.length + 1 → i ≤ xs.length → I i ρ S → OkS (forLoop nx T b k i ρ S) PS := by
    intro k
    induction k with
    | zero => intro i ρ S e l _; omega
    | succ k ih =>
      intro i ρ S e l hI
      unfold forLoop
      rw [hx i ρ S hI]
      by_cases hi : i < xs.length
      · obtain ⟨ρ', ea, hb⟩ := hs i ρ S xs[i] (List.getElem?_eq_getElem hi) hI
        rw [List.getElem?_eq_getElem hi]
        dsimp only
        rw [ea]
        dsimp only
        cases eb : b ρ' S with
        | exc x ρ1 S1 => rw [eb] at hb; exact hb.out.elim
        | stuck => rw [eb] at hb; exact hb.out.elim
        | ok f ρ1 S1 =>
          rw [eb] at hb
          cases f with
          | nx => exact ih (i + 1) ρ1 S1 (by omega) hi hb.out
          | cnt => exact ih (i + 1) ρ1 S1 (by omega) hi hb.out
          | brk => exact ⟨hb.out⟩
          | ret d => exact ⟨hb.out⟩
      · have : i = xs.length := by omega
        subst this
        rw [List.getElem?_eq_none (Nat.le_refl _)]
        exact ⟨hd ρ S hI⟩
  rw [hf]
  exact go (xs.length + 1) 0 ρ S (by omega) (Nat.zero_le _) h0
theorem k_lcN {xs : List D} {nx : Nat → Sto → Option (Option D)} {fu : Nat} (I : Nat → List D → Sto → Prop) (hf : fu = xs.length + 1) (h0 : I 0 [] S) (hx : ∀ i acc S, I i acc S → nx i S = some xs[i]?)
    (hs : ∀ i acc S d, xs[i]? = some d → I i acc S → ∃ ρ', asg T d ρw = some ρ' ∧ Ok (c ρ' S) fun k S1 => if k = true then Ok (e ρ' S1) fun y S2 => acc.length < sizeLine ∧ I (i + 1) (acc ++ [y]) S2 else I (i + 1) acc S1)
    (hd : ∀ acc S, I xs.length acc S → PL acc S) : Ok (lcLoop nx T c e ρw fu 0 [] S) PL := by
  have go : ∀ (k i : Nat) (acc : List D) (S : Sto), k + i = xs.length + 1 → i ≤ xs.length → I i acc S → Ok (lcLoop nx T c e ρw k i acc S) PL := by
    intro k
    induction k with
    | zero => intro i acc S e l _; omega
    | succ k ih =>
      intro i acc S el l hI
      unfold lcLoop
      rw [hx i acc S hI]
      by_cases hi : i < xs.length
      · obtain ⟨ρ', ea, hb⟩ := hs i acc S xs[i] (List.getElem?_eq_getElem hi) hI
        rw [List.getElem?_eq_getElem hi]
        dsimp only
        rw [ea]
        dsimp only
        refine Ok.bind (hb.imp fun k S1 q => ?_)
        cases k with
        | false => exact ih (i + 1) acc S1 (by omega) hi q
        | true => exact Ok.bind (q.imp fun y S2 q2 => by rw [if_pos q2.1]; exact ih (i + 1) _ S2 (by omega) hi q2.2)
      · have : i = xs.length := by omega
        subst this
        rw [List.getElem?_eq_none (Nat.le_refl _)]
        exact ⟨hd acc S hI⟩
  rw [hf]
  exact go (xs.length + 1) 0 [] S (by omega) (Nat.zero_le _) h0
theorem lc_mapN {α : Type} {l : List α} {f g : α → D} {nx : Nat → Sto → Option (Option D)} {fu : Nat} (hf : fu = l.length + 1) (hx : ∀ i, nx i S = some (l.map f)[i]?) (hz : l.length ≤ sizeLine)
    (hs : ∀ a ∈ l, ∃ ρ', asg T (f a) ρw = some ρ' ∧ Ok (e ρ' S) fun y S2 => y = g a ∧ S2 = S) (k : PL (l.map g) S) : Ok (lcLoop nx T bYes e ρw fu 0 [] S) PL := by
  refine k_lcN (xs := l.map f) (fun i acc S' => acc = (l.take i).map g ∧ S' = S) (by simpa using hf) ⟨by simp, rfl⟩ (fun i acc S' h => by rw [h.2]; exact hx i) ?_ ?_
  · intro i acc S' d hd ⟨e1, e2⟩
    obtain ⟨a, ha, rfl⟩ := getElem?_map_some hd
    have hm := List.mem_of_getElem? ha
    have hi := (List.getElem?_eq_some_iff.mp ha).1
    obtain ⟨ρ', h1, h2⟩ := hs a hm
    refine ⟨ρ', h1, ?_⟩
    refine k_yes ?_
    rw [if_pos rfl, e2]
    refine h2.imp fun y S2 ⟨hy, hS⟩ => ⟨?_, ?_, hS⟩
    · rw [e1]; simp; omega
    · rw [e1, hy, List.take_add_one, ha]; simp
  · intro acc S' ⟨e1, e2⟩
    rw [e1, e2]
    simpa using k
theorem lc_keepN {α : Type} {l : List α} {f g : α → D} {b : α → Bool} {nx : Nat → Sto → Option (Option D)} {fu : Nat} (hf : fu = l.length + 1) (hx : ∀ i, nx i S = some (l.map f)[i]?) (hz : l.length ≤ sizeLine)
    (hs : ∀ a ∈ l, ∃ ρ', asg T (f a) ρw = some ρ' ∧ Ok (c ρ' S) fun k S1 => k = b a ∧ S1 = S ∧ (b a = true → Ok (e ρ' S) fun y S2 => y = g a ∧ S2 = S)) (k : PL ((l.filter b).map g) S) : Ok (lcLoop nx T c e ρw fu 0 [] S) PL := by
  refine k_lcN (xs := l.map f) (fun i acc S' => acc = ((l.take i).filter b).map g ∧ S' = S) (by simpa using hf) ⟨by simp, rfl⟩ (fun i acc S' h => by rw [h.2]; exact hx i) ?_ ?_
  · intro i acc S' d hd ⟨e1, e2⟩
    obtain ⟨a, ha, rfl⟩ := getElem?_map_some hd
    have hm := List.mem_of_getElem? ha
    have hi := (List.getElem?_eq_some_iff.mp ha).1
    obtain ⟨ρ', h1, h2⟩ := hs a hm
    refine ⟨ρ', h1, ?_⟩
    rw [e2]
    refine h2.imp fun z S1 ⟨hk, hS, h3⟩ => ?_
    subst hk hS
    have ht : (l.take (i + 1)).filter b = (l.take i).filter b ++ (if b a = true then [a] else []) := by
      rw [List.take_add_one, ha, List.filter_append]
      simp only [Option.toList_some, List.filter_cons, List.filter_nil]
    have hl : ((l.take i).filter b).length ≤ i := Nat.le_trans (List.length_filter_le _ _) (by simp; omega)
    by_cases hb : b a = true
    · rw [if_pos hb]
      refine (h3 hb).imp fun y S2 ⟨hy, hS⟩ => ⟨?_, ?_, hS⟩
      · rw [e1, List.length_map]; omega
      · rw [e1, hy, ht, if_pos hb, List.map_append]; rfl
    · rw [if_neg hb]
      refine ⟨?_, rfl⟩
      rw [e1, ht, if_neg hb, List.append_nil]
  · intro acc S' ⟨e1, e2⟩
    rw [e1, e2]
    simpa using k
theorem lc_anyN {xs : List D} {Q : D → Prop} {R : Sto → Prop} {nx : Nat → Sto → Option (Option D)} {fu : Nat} (hf : fu = xs.length + 1) (hx : ∀ i S', R S' → nx i S' = some xs[i]?) (hz : xs.length ≤ sizeLine) (h0 : R S)
    (hs : ∀ d ∈ xs, ∀ S1, R S1 → ∃ ρ', asg T d ρw = some ρ' ∧ Ok (e ρ' S1) fun y S2 => Q y ∧ R S2) (k : ∀ ys S', ys.length = xs.length → (∀ y ∈ ys, Q y) → R S' → PL ys S') : Ok (lcLoop nx T bYes e ρw fu 0 [] S) PL := by
  refine k_lcN (xs := xs) (fun i acc S' => acc.length = i ∧ (∀ y ∈ acc, Q y) ∧ R S') hf ⟨rfl, by simp, h0⟩ (fun i acc S' h => hx i S' h.2.2) ?_ ?_
  · intro i acc S' d hd ⟨e1, e2, e3⟩
    have hm := List.mem_of_getElem? hd
    have hi := (List.getElem?_eq_some_iff.mp hd).1
    obtain ⟨ρ', h1, h2⟩ := hs d hm S' e3
    refine ⟨ρ', h1, ?_⟩
    refine k_yes ?_
    rw [if_pos rfl]
    refine h2.imp fun y S2 ⟨hy, hS⟩ => ⟨by omega, by simp [e1], ?_, hS⟩
    intro z hz
    rcases List.mem_append.mp hz with hz | hz
    · exact e2 z hz
    · rw [List.mem_singleton.mp hz]; exact hy
  · intro acc S' ⟨e1, e2, e3⟩
    exact k acc S' e1 e2 e3
theorem o_mulC {xs : List D} {i : Int} {P : D → Sto → Prop} (h1 : -(2 ^ 63) ≤ i) (h2 : i < 2 ^ 63) (hz : xs.length * i.toNat ≤ sizeLine) (q : P (.cell S.length) (S ++ [some (.lst (List.replicate i.toNat xs).flatten)])) : Ok (oMulC (.lst xs) (.int i) S) P := by
  unfold oMulC
  show Ok (if -(2 ^ 63) ≤ i ∧ i < 2 ^ 63 ∧ xs.length * i.toNat ≤ sizeLine then _ else _) P
  rw [if_pos ⟨h1, h2, hz⟩]; exact ⟨q⟩
theorem i_cell {n : Nat} {xs : List D} {PI : ItD → Sto → Prop} (h : S[n]? = some (some (.lst xs))) (q : PI (itC n xs.length) S) : Ok (mItL (.cell n) S) PI := by
  unfold mItL
  dsimp only
  rw [h]; exact ⟨q⟩
theorem itC_nx {n i k : Nat} {xs : List D} (h : S[n]? = some (some (.lst xs))) : (itC n k).nx i S = some xs[i]? := by
  unfold itC
  dsimp only
  rw [h]
/-- each step draws, whatever is drawn keeps `R` -/
theorem lc_any {xs : List D} {Q : D → Prop} {R : Sto → Prop} (hz : xs.length ≤ sizeLine) (h0 : R S)
    (hs : ∀ d ∈ xs, ∀ S1, R S1 → ∃ ρ', asg T d ρw = some ρ' ∧ Ok (e ρ' S1) fun y S2 => Q y ∧ R S2) (k : ∀ ys S', ys.length = xs.length → (∀ y ∈ ys, Q y) → R S' → PL ys S') : Ok (lcLoop (itL xs).nx T bYes e ρw (itL xs).fu 0 [] S) PL := by
  refine k_lcL (fun i acc S' => acc.length = i ∧ (∀ y ∈ acc, Q y) ∧ R S') ⟨rfl, by simp, h0⟩ ?_ ?_
  · intro i acc S' d hd ⟨e1, e2, e3⟩
    have hm := List.mem_of_getElem? hd
    have hi := (List.getElem?_eq_some_iff.mp hd).1
    obtain ⟨ρ', h1, h2⟩ := hs d hm S' e3
    refine ⟨ρ', h1, ?_⟩
    refine k_yes ?_
    rw [if_pos rfl]
    refine h2.imp fun y S2 ⟨hy, hS⟩ => ⟨by omega, by simp [e1], ?_, hS⟩
    intro z hz
    rcases List.mem_append.mp hz with hz | hz
    · exact e2 z hz
    · rw [List.mem_singleton.mp hz]; exact hy
  · intro acc S' ⟨e1, e2, e3⟩
    exact k acc S' e1 e2 e3
end
theorem k_ifT {c a b : Prop} [Decidable c] (h : c) (q : a) : if c then a else b := by rw [if_pos h]; exact q
theorem k_ifF {c a b : Prop} [Decidable c] (h : ¬c) (q : b) : if c then a else b := by rw [if_neg h]; exact q
theorem k_seqQ {a b : SD} {ρ : DL.Env} {S : Sto} {PS : Flw → DL.Env → Sto → Prop} (Q : Flw → DL.Env → Sto → Prop) (h : OkS (a ρ S) Q) (k : ∀ f ρ1 S1, Q f ρ1 S1 → match f with
  | .nx => OkS (b ρ1 S1) PS
  | f => PS f ρ1 S1) : OkS (sSeq a b ρ S) PS := k_seq (h.imp k)
/-- two branches meet -/
theorem k_ite {c : Prop} [Decidable c] {r1 r2 : RS} {PS : Flw → DL.Env → Sto → Prop} (Q : Flw → DL.Env → Sto → Prop) (h1 : c → OkS r1 Q) (h2 : ¬c → OkS r2 Q) (h : ∀ f ρ S, Q f ρ S → PS f ρ S) : if c then OkS r1 PS else OkS r2 PS := by
  by_cases hc : c
  · rw [if_pos hc]; exact (h1 hc).imp h
  · rw [if_neg hc]; exact (h2 hc).imp h
/-! ### great numbers of turns -/
theorem FU_gt {k : Nat} {i : Int} (h : Sz k i) (hk : k ≤ 100000) : i.toNat < FU := by
  have : i.natAbs < 2 ^ k := h
  have h2 : 2 ^ k ≤ 2 ^ 100000 := Nat.pow_le_pow_right (by decide) hk
  have e : FU = 2 ^ 100000 := by unfold FU; rfl
  rw [e]
  generalize (2 : Nat) ^ 100000 = z at *
  omega
end
end DL

set_option Elab.async false
set_option linter.all false
set_option maxRecDepth 100000
/-! DQ: rules for the walk that goes by itself. -/
namespace DL
open PySem PySem.Spec PyProof.Rows
noncomputable section
theorem k_condD {p : Prop} [Decidable p] {a b : Prop} (ht : p → a) (hf : ¬p → b) : if decide p = true then a else b := by
  by_cases h : p
  · rw [if_pos (by simpa using h)]; exact ht h
  · rw [if_neg (by simpa using h)]; exact hf h
theorem all_cons {Q : D → Prop} {x : D} {xs : List D} (h : Q x) (g : ∀ d ∈ xs, Q d) : ∀ d ∈ x :: xs, Q d := List.forall_mem_cons.mpr ⟨h, g⟩
/-- an int of a size -/
def In (k : Nat) (d : D) : Prop := ∃ i, Sz k i ∧ d = .int i
mutual
/-- what can be shown holds no cell -/
theorem bel_pr {m : Nat} : ∀ {d : D} {k : Nat}, d.pr k = true → d.bel m = true
  | .non, _, _ => rfl
  | .bl b, _, _ => rfl
  | .int i, _, _ => rfl
  | .str s, _, _ => rfl
  | .tup xs, k, h => by
    simp only [D.pr, Bool.and_eq_true] at h
    simp only [D.bel]; exact belL_pr h.2
  | .lst xs, k, h => by
    simp only [D.pr, Bool.and_eq_true] at h
    simp only [D.bel]; exact belL_pr h.2
  | .ro xs, k, h => by
    simp only [D.pr, Bool.and_eq_true] at h
    simp only [D.bel]; exact belL_pr h.2
  | .cell n, _, h => by simp [D.pr] at h
  | .ty n, _, h => by simp [D.pr] at h
  | .err _ _ _, _, h => by simp [D.pr] at h
  | .cls _, _, h => by simp [D.pr] at h
  | .dE, k, h => rfl
theorem belL_pr {m : Nat} : ∀ {ds : List D} {k : Nat}, D.prL k ds = true → D.belL m ds = true
  | [], _, _ => rfl
  | d :: ds, k, h => by
    simp only [D.prL, Bool.and_eq_true] at h
    simp only [D.belL, Bool.and_eq_true]
    exact ⟨bel_pr h.1, belL_pr h.2⟩
end
end
end DL

set_option Elab.async false
set_option linter.all false
set_option maxRecDepth 100000
/-! DE: what a mirror raises, step by step; a kept error. -/
namespace DL
open PySem PySem.Spec PyProof.Rows
noncomputable section
structure Ex {α : Type} (r : R α) (Q : XD → Sto → Prop) : Prop where
  out : match r with
    | .exc x S => Q x S
    | _ => False
structure ExS (r : RS) (Q : XD → Env → Sto → Prop) : Prop where
  out : match r with
    | .exc x ρ S => Q x ρ S
    | _ => False
theorem Ex.imp {α : Type} {r : R α} {P Q : XD → Sto → Prop} (h : Ex r P) (k : ∀ x S, P x S → Q x S) : Ex r Q := by
  cases r with
  | exc x S => exact ⟨k x S h.out⟩
  | ok a S => exact h.out.elim
  | stuck => exact h.out.elim
theorem ExS.imp {r : RS} {P Q : XD → Env → Sto → Prop} (h : ExS r P) (k : ∀ x ρ S, P x ρ S → Q x ρ S) : ExS r Q := by
  cases r with
  | exc x ρ S => exact ⟨k x ρ S h.out⟩
  | ok f ρ S => exact h.out.elim
  | stuck => exact h.out.elim
section
variable {ρ : Env} {S : Sto} {Q : XD → Sto → Prop} {QS : XD → Env → Sto → Prop} {P : D → Sto → Prop} {PS : Flw → Env → Sto → Prop}
/-! expressions: the call itself raises -/
/-! statements -/
/-! try -/
/-! a kept error is asked -/
end
end
end DL

set_option Elab.async false
set_option linter.all false
set_option maxRecDepth 100000
/-! DQ2: more rules. -/
namespace DL
open PySem PySem.Spec PyProof.Rows
noncomputable section
section
variable {ρ : Env} {S : Sto} {PS : Flw → Env → Sto → Prop}
theorem k_asgL {ts : List Tg} {m : EM} (h : Ok (m ρ S) fun d S1 => ∃ ds ρ1, listOf S1 d = some ds ∧ ds.length = ts.length ∧ asgL ts ds ρ = some ρ1 ∧ PS .nx ρ1 S1) : OkS (sAsgL ts m ρ S) PS := Ok.to (h.imp fun d S1 ⟨ds, ρ1, e1, e2, e3, q⟩ => by simp only [e1, e2, if_true, e3]; exact ⟨q⟩)
theorem k_fldI {fi : Str → Str → Bool} {f : Str} {mo mv : EM} (h : Ok (mv ρ S) fun d S1 => Ok (mo ρ S1) fun o S2 => ∃ n C fs, o = .cell n ∧ S2[n]? = some (some (.ins C fs)) ∧ fi C f = true ∧ fs.length < 1000 ∧ PS .nx ρ (S2.set n (some (.ins C (putD f d fs))))) : OkS (sFldI fi f mo mv ρ S) PS :=
  Ok.to (h.imp fun d S1 q => Ok.to (q.imp fun o S2 ⟨n, C, fs, eo, e, hf, hl, q⟩ => by
    subst eo
    simp only [e, hf, hl, and_self, if_true]
    exact ⟨q⟩))
theorem k_whileN {c : BM} {b : SD} (I : Nat → Env → Sto → Prop) (K : Nat) (hK : K < FU) (h0 : I 0 ρ S)
    (hs : ∀ j ρ S, j ≤ K → I j ρ S → Ok (c ρ S) fun k S1 => if k = true then OkS (b ρ S1) fun f ρ2 S2 => match f with
      | .nx => j < K ∧ I (j + 1) ρ2 S2
      | .cnt => j < K ∧ I (j + 1) ρ2 S2
      | .brk => PS .nx ρ2 S2
      | .ret d => PS (.ret d) ρ2 S2 else PS .nx ρ S1) : OkS (sWhile c b ρ S) PS := by
  have go : ∀ (k j : Nat) (ρ : Env) (S : Sto), j ≤ K → K < j + k → I j ρ S → OkS (whLoop c b k ρ S) PS := by
    intro k
    induction k with
    | zero => intro j ρ S l l2 _; omega
    | succ k ih =>
      intro j ρ S l l2 hI
      unfold whLoop
      refine Ok.to ((hs j ρ S l hI).imp fun x S1 q => ?_)
      cases x with
      | false => exact ⟨q⟩
      | true =>
        rw [if_pos rfl] at q ⊢
        cases eb : b ρ S1 with
        | exc x ρ1 S1 => rw [eb] at q; exact q.out.elim
        | stuck => rw [eb] at q; exact q.out.elim
        | ok f ρ1 S1 =>
          rw [eb] at q
          cases f with
          | nx => exact ih (j + 1) ρ1 S1 q.out.1 (by omega) q.out.2
          | cnt => exact ih (j + 1) ρ1 S1 q.out.1 (by omega) q.out.2
          | brk => exact ⟨q.out⟩
          | ret d => exact ⟨q.out⟩
  exact go FU 0 ρ S (Nat.zero_le _) (by omega) h0
end
section
variable {ρ : Env} {S : Sto} {P : D → Sto → Prop}
theorem o_fldI {fi : Str → Str → Bool} {n : Nat} {C f : Str} {fs : List (Str × D)} {v : D} (h : S[n]? = some (some (.ins C fs))) (hf : fi C f = true) (hl : fs.lookup f = some v) (q : P v S) : Ok (oFldI fi f (.cell n) S) P := by
  unfold oFldI
  simp only [h, hf, if_true, hl]
  exact ⟨q⟩
theorem k_mo {C m : Str} {fm : FM} {mo : EM} {ma : AM} (h : Ok (mo ρ S) fun o S1 => ∃ n fs, o = .cell n ∧ S1[n]? = some (some (.ins C fs)) ∧ fs.lookup m = none ∧ Ok (ma ρ S1) fun ds S2 => Ok (fm (.cell n :: ds) S2) P) : Ok (eMo C m fm mo ma ρ S) P :=
  Ok.bind (h.imp fun o S1 ⟨n, fs, eo, e, hl, q⟩ => by
    subst eo
    simp only [e, hl, and_self, if_true]
    exact Ok.bind q)
theorem k_mk {C : Str} {fm : FM} {ma : AM} (h : Ok (ma ρ S) fun ds S1 => Ok (fm (.cell S1.length :: ds) (S1 ++ [some (.ins C [])])) fun d S2 => d = .non ∧ P (.cell S1.length) S2) : Ok (eMk C fm ma ρ S) P :=
  Ok.bind (h.imp fun ds S1 q => Ok.bind (q.imp fun d S2 ⟨e, q⟩ => by subst e; exact ⟨q⟩))
theorem o_ixC {n j : Nat} {xs : List D} {v : D} {i : Int} (h : S[n]? = some (some (.lst xs))) (hi : i = (j : Int)) (hv : xs[j]? = some v) (q : P v S) : Ok (oIx (.cell n) (.int i) S) P := by
  subst hi
  exact o_ix (by simp only [seqOf, DL.listOf, h, Option.bind_some]; exact L2.atI_nat hv) q
theorem o_ixL {j : Nat} {xs : List D} {v : D} {i : Int} (hi : i = (j : Int)) (hv : xs[j]? = some v) (q : P v S) : Ok (oIx (.lst xs) (.int i) S) P := by
  subst hi
  exact o_ix (by simp only [seqOf, DL.listOf, Option.bind_some]; exact L2.atI_nat hv) q
theorem o_ixCL {n : Nat} {xs : List D} {v : D} (h : S[n]? = some (some (.lst (xs ++ [v])))) (q : P v S) : Ok (oIx (.cell n) (.int (-1)) S) P :=
  o_ix (by simp only [seqOf, DL.listOf, h, Option.bind_some]; exact L2.atI_last xs v) q
theorem o_lenC {n : Nat} {xs : List D} (h : S[n]? = some (some (.lst xs))) (q : P (.int xs.length) S) : Ok (fLen [.cell n] S) P := o_lenL (by simp only [seqOf, DL.listOf, h]) q
theorem setD_at {n j : Nat} {xs : List D} {v : D} {i : Int} (h : S[n]? = some (some (.lst xs))) (hi : i = (j : Int)) (hj : j < xs.length) : setD (.cell n) (.int i) v S = some (S.set n (some (.lst (xs.set j v)))) := by
  subst hi
  have e : L2.ixN xs.length (j : Int) = some j := by unfold L2.ixN; rw [if_pos (by omega), if_pos (by omega)]; simp
  unfold setD
  simp only [h, e]
theorem i_enumC {n : Nat} {xs : List D} {PI : ItD → Sto → Prop} (h : S[n]? = some (some (.lst xs))) (q : PI (itE (.cell n) (enumD xs).length) S) : Ok (mItE [.cell n] S) PI := by
  unfold mItE
  simp only [frozenL, DL.listOf, h]
  exact ⟨q⟩
theorem itE_nx {n i k : Nat} {xs : List D} (h : S[n]? = some (some (.lst xs))) : (itE (.cell n) k).nx i S = some (enumD xs)[i]? := by
  simp only [itE, DL.listOf, h]
theorem i_zipCC {n m : Nat} {xs ys : List D} {PI : ItD → Sto → Prop} (h : S[n]? = some (some (.lst xs))) (h2 : S[m]? = some (some (.lst ys))) (q : PI (itZ (.cell n) (.cell m) (zipD xs ys).length) S) : Ok (mItZ [.cell n, .cell m] S) PI := by
  unfold mItZ
  simp only [frozenL, DL.listOf, h, h2]
  exact ⟨q⟩
theorem itZ_nxCC {n m i k : Nat} {xs ys : List D} (h : S[n]? = some (some (.lst xs))) (h2 : S[m]? = some (some (.lst ys))) : (itZ (.cell n) (.cell m) k).nx i S = some (zipD xs ys)[i]? := by
  simp only [itZ, DL.listOf, h, h2]
end
end
end DL

set_option linter.all false
set_option maxRecDepth 10000
/-! sums, determinants -/
namespace Sx
def sm : Nat → (Nat → Int) → Int
  | 0, _ => 0
  | n + 1, f => sm n f + f n
theorem sm_congr {f g : Nat → Int} : ∀ {n : Nat}, (∀ i, i < n → f i = g i) → sm n f = sm n g
  | 0, _ => rfl
  | n + 1, h => by
    unfold sm
    rw [sm_congr fun i hi => h i (by omega), h n (by omega)]
theorem sm_zero {f : Nat → Int} {n : Nat} (h : ∀ i, i < n → f i = 0) : sm n f = 0 := by
  induction n with
  | zero => rfl
  | succ n ih =>
    unfold sm
    rw [ih fun i hi => h i (by omega), h n (by omega)]
    rfl
theorem sm_add (f g : Nat → Int) : ∀ n : Nat, sm n (fun i => f i + g i) = sm n f + sm n g
  | 0 => rfl
  | n + 1 => by
    unfold sm
    rw [sm_add f g n]; show sm n f + sm n g + (f n + g n) = _; omega
theorem sm_sub (f g : Nat → Int) : ∀ n : Nat, sm n (fun i => f i - g i) = sm n f - sm n g
  | 0 => rfl
  | n + 1 => by
    unfold sm
    rw [sm_sub f g n]; show sm n f - sm n g + (f n - g n) = _; omega
theorem sm_neg (f : Nat → Int) : ∀ n : Nat, sm n (fun i => - f i) = - sm n f
  | 0 => rfl
  | n + 1 => by
    unfold sm
    rw [sm_neg f n]; show - sm n f + - f n = _; omega
theorem sm_mul (c : Int) (f : Nat → Int) : ∀ n : Nat, sm n (fun i => c * f i) = c * sm n f
  | 0 => by simp [sm]
  | n + 1 => by
    unfold sm
    rw [sm_mul c f n, Int.mul_add]
theorem sm_mul2 (c : Int) (f : Nat → Int) (n : Nat) : sm n (fun i => f i * c) = sm n f * c := by
  rw [sm_congr (g := fun i => c * f i) fun i _ => Int.mul_comm _ _, sm_mul, Int.mul_comm]
theorem sm_swap (f : Nat → Nat → Int) (m : Nat) : ∀ n : Nat, sm n (fun i => sm m fun j => f i j) = sm m fun j => sm n fun i => f i j
  | 0 => by
    show (0 : Int) = sm m fun j => 0
    rw [sm_zero fun _ _ => rfl]
  | n + 1 => by
    show sm n (fun i => sm m fun j => f i j) + sm m (fun j => f n j) = sm m fun j => sm n (fun i => f i j) + f n j
    rw [sm_swap f m n, sm_add]
theorem sm_one {f : Nat → Int} {n k : Nat} (hk : k < n) (h : ∀ i, i < n → i ≠ k → f i = 0) : sm n f = f k := by
  induction n with
  | zero => omega
  | succ n ih =>
    unfold sm
    by_cases e : k = n
    · subst e
      rw [sm_zero fun i hi => h i (by omega) (by omega)]; omega
    · rw [ih (by omega) fun i hi => h i (by omega), h n (by omega) (by omega)]; omega
theorem sm_two {f : Nat → Int} {n k l : Nat} (hk : k < n) (hl : l < n) (hkl : k ≠ l) (h : ∀ i, i < n → i ≠ k → i ≠ l → f i = 0) : sm n f = f k + f l := by
  have e : sm n f = sm n (fun i => (if i = k then f i else 0) + (if i = k then 0 else f i)) := sm_congr fun i _ => by
    by_cases z : i = k <;> simp [z]
  rw [e, sm_add, sm_one hk (fun i _ q => by simp [q]), sm_one hl (fun i hi q => by
    by_cases z : i = k
    · simp [z]
    · simp [z]; exact h i hi z q)]
  simp [Ne.symm hkl]
theorem sm_nonneg {f : Nat → Int} {n : Nat} (h : ∀ i, i < n → 0 ≤ f i) : 0 ≤ sm n f := by
  induction n with
  | zero => exact Int.le_refl 0
  | succ n ih =>
    unfold sm
    have := ih fun i hi => h i (by omega)
    have := h n (by omega)
    omega
theorem sm_neg_ex {f : Nat → Int} {n : Nat} (h : sm n f < 0) : ∃ i, i < n ∧ f i < 0 := by
  apply Classical.byContradiction
  intro z
  have : 0 ≤ sm n f := sm_nonneg fun i hi => by
    apply Classical.byContradiction
    intro q
    exact z ⟨i, hi, by omega⟩
  omega
theorem sm_zero_of {f : Nat → Int} {n : Nat} (h : ∀ i, i < n → 0 ≤ f i) (e : sm n f = 0) : ∀ i, i < n → f i = 0 := by
  induction n with
  | zero => intro i hi; omega
  | succ n ih =>
    unfold sm at e
    have h1 := sm_nonneg (f := f) (n := n) fun i hi => h i (by omega)
    have h2 := h n (by omega)
    intro i hi
    by_cases q : i = n
    · subst q; omega
    · exact ih (fun i hi => h i (by omega)) (by omega) i (by omega)
theorem sm_abs {f : Nat → Int} {M : Nat} : ∀ {n : Nat}, (∀ i, i < n → (f i).natAbs ≤ M) → (sm n f).natAbs ≤ n * M
  | 0, _ => by simp [sm]
  | n + 1, h => by
    unfold sm
    have h1 := sm_abs (f := f) (n := n) fun i hi => h i (by omega)
    have h2 := h n (by omega)
    have h3 := Int.natAbs_add_le (sm n f) (f n)
    rw [Nat.succ_mul]; omega
/-! determinants: n columns, V k l: at row l of column k -/
def sg (k : Nat) : Int := if k % 2 = 0 then 1 else -1
def sk (k i : Nat) : Nat := if i < k then i else i + 1
def dt : Nat → (Nat → Nat → Int) → Int
  | 0, _ => 1
  | n + 1, V => sm (n + 1) fun k => sg (n + k) * V k n * dt n fun i => V (sk k i)
def up (V : Nat → Nat → Int) (i : Nat) (w : Nat → Int) : Nat → Nat → Int := fun k => if k = i then w else V k
theorem up_same (V : Nat → Nat → Int) (i : Nat) (w : Nat → Int) : up V i w i = w := by simp [up]
theorem up_ne {V : Nat → Nat → Int} {i k : Nat} {w : Nat → Int} (h : k ≠ i) : up V i w k = V k := by simp [up, h]
theorem sk_ne (k i : Nat) : sk k i ≠ k := by unfold sk; split <;> omega
theorem sk_lt {n k i : Nat} (h : i < n) : sk k i < n + 1 := by unfold sk; split <;> omega
theorem dt_congr : ∀ {n : Nat} {V U : Nat → Nat → Int}, (∀ k, k < n → ∀ l, l < n → V k l = U k l) → dt n V = dt n U
  | 0, _, _, _ => rfl
  | n + 1, V, U, h => by
    unfold dt
    exact sm_congr fun k hk => by
      rw [h k hk n (by omega), dt_congr fun i hi l hl => h (sk k i) (sk_lt hi) l (by omega)]
/-- where a column stands in a minor -/
def ps (k i : Nat) : Nat := if i < k then i else i - 1
theorem sk_ps {k i : Nat} (h : i ≠ k) : sk k (ps k i) = i := by
  unfold sk ps
  by_cases q : i < k
  · rw [if_pos q, if_pos q]
  · rw [if_neg q, if_neg (by omega)]; omega
theorem ps_lt {n k i : Nat} (hk : k < n + 1) (hi : i < n + 1) (h : i ≠ k) : ps k i < n := by unfold ps; split <;> omega
theorem up_sk_same (V : Nat → Nat → Int) (i : Nat) (w : Nat → Int) : (fun j => up V i w (sk i j)) = fun j => V (sk i j) := by
  funext j
  exact up_ne (sk_ne i j)
theorem sk_inj {k i j : Nat} (h : sk k i = sk k j) : i = j := by
  unfold sk at h
  split at h <;> split at h <;> omega
theorem up_sk {V : Nat → Nat → Int} {k i : Nat} {w : Nat → Int} (h : i ≠ k) : (fun j => up V i w (sk k j)) = up (fun j => V (sk k j)) (ps k i) w := by
  funext j
  unfold up
  by_cases e : j = ps k i
  · rw [if_pos e, if_pos (by rw [e, sk_ps h])]
  · rw [if_neg e, if_neg]
    intro z
    exact e (sk_inj (k := k) (by rw [z, sk_ps h]))
theorem dt_lin {α β : Int} {u v : Nat → Int} : ∀ {n : Nat} {V : Nat → Nat → Int} {i : Nat}, i < n → dt n (up V i fun l => α * u l + β * v l) = α * dt n (up V i u) + β * dt n (up V i v)
  | 0, _, _, h => by omega
  | n + 1, V, i, h => by
    unfold dt
    rw [← sm_mul, ← sm_mul, ← sm_add]
    refine sm_congr fun k hk => ?_
    by_cases e : k = i
    · subst e
      rw [up_sk_same, up_sk_same, up_sk_same, up_same, up_same, up_same]
      grind
    · rw [up_sk (Ne.symm e), up_sk (Ne.symm e), up_sk (Ne.symm e), up_ne e, up_ne e, up_ne e, dt_lin (ps_lt hk h (Ne.symm e))]
      grind
theorem sg_succ (k : Nat) : sg (k + 1) = - sg k := by
  unfold sg
  by_cases h : k % 2 = 0
  · rw [if_pos h, if_neg (by omega)]
  · rw [if_neg h, if_pos (by omega)]; rfl
/-- two neighbours alike -/
theorem dt_adj : ∀ {n : Nat} {V : Nat → Nat → Int} {i : Nat}, i + 1 < n → V i = V (i + 1) → dt n V = 0
  | 0, _, _, h, _ => by omega
  | n + 1, V, i, h, e => by
    unfold dt
    rw [sm_two (k := i) (l := i + 1) (by omega) h (by omega)]
    · have hm : (fun j => V (sk i j)) = fun j => V (sk (i + 1) j) := by
        funext j
        unfold sk
        by_cases q1 : j < i
        · rw [if_pos q1, if_pos (by omega)]
        · by_cases q2 : j = i
          · subst q2
            rw [if_neg (by omega), if_pos (by omega), e]
          · rw [if_neg (by omega), if_neg (by omega)]
      rw [hm, e, ← Nat.add_assoc, sg_succ]
      grind
    · intro k hk h1 h2
      have : dt n (fun j => V (sk k j)) = 0 := by
        refine dt_adj (i := ps k i) ?_ ?_
        · unfold ps; split <;> omega
        · have e1 : sk k (ps k i) = i := sk_ps (by omega)
          have e2 : sk k (ps k i + 1) = i + 1 := by
            have : ps k i + 1 = ps k (i + 1) := by
              unfold ps
              split
              · rw [if_pos (by omega)]
              · rw [if_neg (by omega)]; omega
            rw [this, sk_ps (by omega)]
          rw [e1, e2, e]
      rw [this]; simp
theorem up_self {V : Nat → Nat → Int} {i : Nat} : up V i (V i) = V := by
  funext k
  by_cases h : k = i
  · subst h; rw [up_same]
  · rw [up_ne h]
theorem up_comm {V : Nat → Nat → Int} {i j : Nat} {u v : Nat → Int} (h : i ≠ j) : up (up V i u) j v = up (up V j v) i u := by
  funext k
  unfold up
  by_cases h1 : k = i
  · by_cases h2 : k = j
    · omega
    · simp [h1, h]
  · by_cases h2 : k = j
    · simp [h2]
      intro z; omega
    · simp [h1, h2]
theorem up_up {V : Nat → Nat → Int} {i : Nat} {u v : Nat → Int} : up (up V i u) i v = up V i v := by
  funext k
  by_cases h : k = i
  · subst h; rw [up_same, up_same]
  · rw [up_ne h, up_ne h, up_ne h]
theorem dt_add {u v : Nat → Int} {n : Nat} {V : Nat → Nat → Int} {i : Nat} (h : i < n) : dt n (up V i fun l => u l + v l) = dt n (up V i u) + dt n (up V i v) := by
  have := dt_lin (α := 1) (β := 1) (u := u) (v := v) (V := V) h
  simpa using this
/-- from columns alike are nought: exchanged, the sign turns -/
theorem swap_of {n i j : Nat} (hi : i < n) (hj : j < n) (hij : i ≠ j) (H : ∀ U : Nat → Nat → Int, U i = U j → dt n U = 0) {V : Nat → Nat → Int} {u v : Nat → Int} : dt n (up (up V i u) j v) = - dt n (up (up V i v) j u) := by
  have h0 := H (up (up V i fun l => u l + v l) j fun l => u l + v l) (by rw [up_same, up_ne hij, up_same])
  have e1 : ∀ w : Nat → Int, dt n (up (up V i fun l => u l + v l) j w) = dt n (up (up V i u) j w) + dt n (up (up V i v) j w) := fun w => by
    rw [up_comm hij, dt_add hi, up_comm (Ne.symm hij), up_comm (Ne.symm hij)]
  rw [dt_add hj, e1, e1] at h0
  have h1 := H (up (up V i u) j u) (by rw [up_same, up_ne hij, up_same])
  have h2 := H (up (up V i v) j v) (by rw [up_same, up_ne hij, up_same])
  rw [h1, h2] at h0
  omega
theorem dt_eq0 {n : Nat} : ∀ {d i : Nat} {V : Nat → Nat → Int}, i + (d + 1) < n → V i = V (i + (d + 1)) → dt n V = 0
  | 0, i, V, h, e => dt_adj h e
  | d + 1, i, V, h, e => by
    have hs := swap_of (n := n) (i := i + (d + 1)) (j := i + (d + 1 + 1)) (by omega) h (by omega) (fun U q => dt_adj (i := i + (d + 1)) (by omega) q) (V := V) (u := V (i + (d + 1))) (v := V (i + (d + 1 + 1)))
    rw [up_self, up_self] at hs
    rw [hs, dt_eq0 (d := d) (i := i) (by omega) (by
      rw [up_ne (by omega), up_ne (by omega), up_ne (by omega), up_same]; exact e)]
    rfl
theorem dt_same {n i j : Nat} {V : Nat → Nat → Int} (hi : i < n) (hj : j < n) (hij : i ≠ j) (e : V i = V j) : dt n V = 0 := by
  rcases Nat.lt_or_ge i j with h | h
  · have := dt_eq0 (n := n) (d := j - i - 1) (i := i) (V := V) (by omega) (by rw [show i + (j - i - 1 + 1) = j by omega]; exact e)
    exact this
  · have := dt_eq0 (n := n) (d := i - j - 1) (i := j) (V := V) (by omega) (by rw [show j + (i - j - 1 + 1) = i by omega]; exact e.symm)
    exact this
theorem dt_swap {n i j : Nat} (hi : i < n) (hj : j < n) (hij : i ≠ j) {V : Nat → Nat → Int} {u v : Nat → Int} : dt n (up (up V i u) j v) = - dt n (up (up V i v) j u) := swap_of hi hj hij fun U e => dt_same hi hj hij e
theorem dt_zero {n i : Nat} {V : Nat → Nat → Int} (h : i < n) : dt n (up V i fun _ => 0) = 0 := by
  have := dt_lin (α := 0) (β := 0) (u := fun _ => 0) (v := fun _ => 0) (V := V) h
  simpa using this
theorem dt_sum {n i : Nat} {V : Nat → Nat → Int} (h : i < n) (t : Nat → Int) (u : Nat → Nat → Int) : ∀ m : Nat, dt n (up V i fun l => sm m fun k => t k * u k l) = sm m fun k => t k * dt n (up V i (u k))
  | 0 => dt_zero h
  | m + 1 => by
    show dt n (up V i fun l => (sm m fun k => t k * u k l) + t m * u m l) = _
    have := dt_lin (α := 1) (β := t m) (u := fun l => sm m fun k => t k * u k l) (v := u m) (V := V) h
    simp only [Int.one_mul] at this
    rw [this, dt_sum h t u m]
    rfl
theorem dt_smul {n i : Nat} {V : Nat → Nat → Int} (h : i < n) (a : Int) (u : Nat → Int) : dt n (up V i fun l => a * u l) = a * dt n (up V i u) := by
  have := dt_lin (α := a) (β := 0) (u := u) (v := fun _ => 0) (V := V) h
  simpa using this
/-- the unit columns -/
def un (k : Nat) : Nat → Int := fun l => if l = k then 1 else 0
theorem dt_one : ∀ n : Nat, dt n un = 1
  | 0 => rfl
  | n + 1 => by
    unfold dt
    rw [sm_one (k := n) (by omega)]
    · have e : dt n (fun i => un (sk n i)) = dt n un := dt_congr fun k hk l hl => by
        unfold sk; rw [if_pos hk]
      rw [e, dt_one n]
      have : sg (n + n) = 1 := by unfold sg; rw [if_pos (by omega)]
      rw [this]
      simp [un]
    · intro k hk h
      have : un k n = 0 := by unfold un; rw [if_neg (by omega)]
      rw [this]; simp
theorem sg_abs (k : Nat) : (sg k).natAbs = 1 := by unfold sg; split <;> rfl
theorem dt_abs {M : Nat} : ∀ {n : Nat} {V : Nat → Nat → Int}, (∀ k, k < n → ∀ l, l < n → (V k l).natAbs ≤ M) → ∀ N, n ≤ N → (dt n V).natAbs ≤ (N * M) ^ n
  | 0, V, _, N, _ => by simp [dt]
  | n + 1, V, h, N, hN => by
    unfold dt
    have h1 : ∀ k, k < n + 1 → (sg (n + k) * V k n * dt n fun i => V (sk k i)).natAbs ≤ M * (N * M) ^ n := fun k hk => by
      rw [Int.natAbs_mul, Int.natAbs_mul, sg_abs, Nat.one_mul]
      exact Nat.mul_le_mul (h k hk n (by omega)) (dt_abs (fun i hi l hl => h (sk k i) (sk_lt hi) l (by omega)) N (by omega))
    refine Nat.le_trans (sm_abs h1) ?_
    rw [Nat.pow_succ, ← Nat.mul_assoc]
    calc (n + 1) * M * (N * M) ^ n ≤ (N * M) * (N * M) ^ n := Nat.mul_le_mul_right _ (Nat.mul_le_mul_right _ hN)
      _ = (N * M) ^ n * (N * M) := Nat.mul_comm _ _
end Sx

set_option linter.all false
set_option maxRecDepth 10000
/-! tableaus: what stays, one turn -/
namespace Sx
structure St where
  b : Int
  T : Nat → Nat → Int
  z : Nat → Int
  B : Nat → Nat
/-- the cost of a column -/
def co (n m j : Nat) : Int := if n ≤ j ∧ j < n + m then 1 else 0
/-- a table with a helper for each row -/
structure Tab (n m : Nat) (A : Nat → Nat → Int) : Prop where
  un : ∀ i, i < m → ∀ l, l < m → A i (n + l) = if i = l then 1 else 0
  fe : ∀ i, i < m → 0 ≤ A i (n + m)
def cols (A : Nat → Nat → Int) (B : Nat → Nat) : Nat → Nat → Int := fun k l => A l (B k)
structure Inv (n m : Nat) (A : Nat → Nat → Int) (s : St) : Prop where
  pos : 0 < s.b
  bas : ∀ i, i < m → s.B i < n + m
  i1 : ∀ l, l < m → ∀ j, j ≤ n + m → s.b * A l j = sm m fun k => s.T k j * A l (s.B k)
  i3 : ∀ i, i < m → ∀ j, j ≤ n + m → s.T i j = sm m fun l => s.T i (n + l) * A l j
  i4 : ∀ i, i < m → ∀ k, k < m → s.T i (s.B k) = if i = k then s.b else 0
  iz : ∀ j, j ≤ n + m → s.z j = s.b * co n m j - sm m fun i => co n m (s.B i) * s.T i j
  fe : ∀ i, i < m → 0 ≤ s.T i (n + m)
  db : s.b = dt m (cols A s.B)
  dT : ∀ k, k < m → ∀ j, j ≤ n + m → s.T k j = dt m (up (cols A s.B) k fun l => A l j)
def st0 (n m : Nat) (A : Nat → Nat → Int) : St := ⟨1, A, fun j => co n m j - sm m fun i => A i j, fun i => n + i⟩
def pv (r s : Nat) (t : St) : St := ⟨t.T r s, fun i j => if i = r then t.T r j else (t.T i j * t.T r s - t.T i s * t.T r j).fdiv t.b, fun j => (t.z j * t.T r s - t.z s * t.T r j).fdiv t.b, fun i => if i = r then s else t.B i⟩
section
variable {n m : Nat} {A : Nat → Nat → Int}
theorem start (h : Tab n m A) : Inv n m A (st0 n m A) := by
  have e : cols A (fun i => n + i) = fun k l => A l (n + k) := rfl
  have eu : ∀ k, k < m → ∀ l, l < m → cols A (fun i => n + i) k l = un k l := fun k hk l hl => by
    show A l (n + k) = _
    rw [h.un l hl k hk]; rfl
  have cb : ∀ i, i < m → co n m (n + i) = 1 := fun i hi => by unfold co; rw [if_pos (by omega)]
  constructor
  · exact Int.zero_lt_one
  · intro i hi; show n + i < n + m; omega
  · intro l hl j hj
    show 1 * A l j = sm m fun k => A k j * A l (n + k)
    rw [sm_one (k := l) hl fun i hi q => by rw [h.un l hl i hi, if_neg (Ne.symm q), Int.mul_zero], h.un l hl l hl, if_pos rfl, Int.one_mul, Int.mul_one]
  · intro i hi j hj
    show A i j = sm m fun l => A i (n + l) * A l j
    rw [sm_one (k := i) hi fun l hl q => by rw [h.un i hi l hl, if_neg (Ne.symm q), Int.zero_mul], h.un i hi i hi, if_pos rfl, Int.one_mul]
  · intro i hi k hk
    exact h.un i hi k hk
  · intro j hj
    show co n m j - sm m (fun i => A i j) = 1 * co n m j - sm m fun i => co n m (n + i) * A i j
    rw [Int.one_mul, sm_congr (f := fun i => co n m (n + i) * A i j) (g := fun i => A i j) fun i hi => by rw [cb i hi, Int.one_mul]]
  · exact h.fe
  · show 1 = dt m (cols A fun i => n + i)
    rw [dt_congr eu, dt_one]
  · intro k hk j hj
    show A k j = dt m (up (cols A fun i => n + i) k fun l => A l j)
    have e1 : dt m (up (cols A fun i => n + i) k fun l => A l j) = dt m (up un k fun l => sm m fun i => A i j * un i l) := dt_congr fun i hi l hl => by
      unfold up
      split
      · show A l j = sm m fun i => A i j * un i l
        rw [sm_one (k := l) hl fun i _ q => by unfold un; rw [if_neg (Ne.symm q), Int.mul_zero]]
        unfold un; rw [if_pos rfl, Int.mul_one]
      · exact eu i hi l hl
    rw [e1, dt_sum hk, sm_one (k := k) hk]
    · rw [up_self, dt_one, Int.mul_one]
    · intro i hi q
      rw [dt_same (i := i) (j := k) hi hk q (by rw [up_same, up_ne q]), Int.mul_zero]
theorem Inv.zB {t : St} (I : Inv n m A t) {k : Nat} (hk : k < m) : t.z (t.B k) = 0 := by
  rw [I.iz _ (by have := I.bas k hk; omega), sm_one (k := k) hk fun i hi q => by rw [I.i4 i hi k hk, if_neg q, Int.mul_zero], I.i4 k hk k hk, if_pos rfl, Int.mul_comm]
  omega
theorem Inv.inj {t : St} (I : Inv n m A t) {i k : Nat} (hi : i < m) (hk : k < m) (e : t.B i = t.B k) : i = k := by
  have h1 := I.i4 i hi k hk
  rw [← e, I.i4 i hi i hi, if_pos rfl] at h1
  have := I.pos
  apply Classical.byContradiction
  intro q
  rw [if_neg q] at h1; omega
/-- the goals of a turn -/
structure Go (n m : Nat) (t : St) (r s : Nat) : Prop where
  rm : r < m
  sm : s < n + m
  p : 0 < t.T r s
  q : ∀ i, i < m → 0 < t.T i s → t.T r (n + m) * t.T i s ≤ t.T i (n + m) * t.T r s
theorem cancel {b x y : Int} (hb : 0 < b) (h : b * x = b * y) : x = y := Int.eq_of_mul_eq_mul_left (by omega) h
/-- the exact quotients -/
theorem exT {t : St} {r s : Nat} (I : Inv n m A t) (G : Go n m t r s) {i j : Nat} (hi : i < m) (hj : j ≤ n + m) (hr : i ≠ r) :
    t.b * dt m (up (up (cols A t.B) r fun l => A l s) i fun l => A l j) = t.T i j * t.T r s - t.T i s * t.T r j := by
  have hs := G.sm
  rw [← dt_smul hi, dt_congr (U := up (up (cols A t.B) r fun l => A l s) i fun l => sm m fun k => t.T k j * cols A t.B k l) fun k hk l hl => by
    unfold up
    by_cases q : k = i
    · rw [if_pos q, if_pos q]; exact I.i1 l hl j hj
    · rw [if_neg q, if_neg q]]
  rw [dt_sum hi, sm_two (k := i) (l := r) hi G.rm hr]
  · have e1 : up (up (cols A t.B) r fun l => A l s) i (cols A t.B i) = up (cols A t.B) r fun l => A l s := by
      rw [up_comm (Ne.symm hr), up_self]
    have e2 : dt m (up (up (cols A t.B) r fun l => A l s) i (cols A t.B r)) = - t.T i s := by
      rw [dt_swap G.rm hi (Ne.symm hr), up_self, I.dT i hi s (by omega)]
    rw [e1, e2, ← I.dT r G.rm s (by omega), Int.mul_neg, Int.mul_comm (t.T r j)]
    omega
  · intro k hk h1 h2
    rw [dt_same (i := k) (j := i) hk hi h1 (by rw [up_same, up_ne h1, up_ne h2]), Int.mul_zero]
theorem pvT {t : St} {r s : Nat} (I : Inv n m A t) (G : Go n m t r s) {i j : Nat} (hi : i < m) (hj : j ≤ n + m) (hr : i ≠ r) :
    (pv r s t).T i j = dt m (up (up (cols A t.B) r fun l => A l s) i fun l => A l j) ∧ t.b * (pv r s t).T i j = t.T i j * t.T r s - t.T i s * t.T r j := by
  have e := exT I G hi hj hr
  have e2 : (pv r s t).T i j = dt m (up (up (cols A t.B) r fun l => A l s) i fun l => A l j) := by
    show (if i = r then _ else _) = _
    rw [if_neg hr, ← e, Int.mul_fdiv_cancel_left _ (by have := I.pos; omega)]
  exact ⟨e2, by rw [e2]; exact e⟩
theorem pvr {t : St} {r s j : Nat} : (pv r s t).T r j = t.T r j := if_pos rfl
theorem pvAll {t : St} {r s : Nat} (I : Inv n m A t) (G : Go n m t r s) {i j : Nat} (hi : i < m) (hj : j ≤ n + m) : t.b * (if i = r then 0 else (pv r s t).T i j) = t.T i j * t.T r s - t.T i s * t.T r j := by
  by_cases hr : i = r
  · subst hr; rw [if_pos rfl, Int.mul_comm (t.T i j)]; omega
  · rw [if_neg hr]; exact (pvT I G hi hj hr).2
theorem pvz {t : St} {r s : Nat} (I : Inv n m A t) (G : Go n m t r s) {j : Nat} (hj : j ≤ n + m) :
    (pv r s t).z j = (pv r s t).b * co n m j - sm m (fun i => co n m ((pv r s t).B i) * (pv r s t).T i j) ∧ t.b * (pv r s t).z j = t.z j * t.T r s - t.z s * t.T r j := by
  have hs := G.sm
  have key : t.b * (t.T r s * co n m j - sm m fun i => co n m ((pv r s t).B i) * (pv r s t).T i j) = t.z j * t.T r s - t.z s * t.T r j := by
    have e1 : sm m (fun i => t.b * (co n m ((pv r s t).B i) * (pv r s t).T i j)) = sm m fun i => (co n m (t.B i) * (t.T i j * t.T r s - t.T i s * t.T r j)) + (if i = r then t.b * (co n m s * t.T r j) else 0) := sm_congr fun i hi => by
      have h0 := pvAll I G hi hj
      by_cases q : i = r
      · subst q
        have : (pv i s t).B i = s := if_pos rfl
        rw [this, pvr, if_pos rfl, ← h0, if_pos rfl]
        simp
      · have : (pv r s t).B i = t.B i := if_neg q
        rw [this, if_neg q, ← h0, if_neg q]
        grind
    have e2 : sm m (fun i => if i = r then t.b * (co n m s * t.T r j) else 0) = t.b * (co n m s * t.T r j) := by
      rw [sm_one (k := r) G.rm fun i _ q => if_neg q, if_pos rfl]
    have e3 : sm m (fun i => co n m (t.B i) * (t.T i j * t.T r s - t.T i s * t.T r j)) = sm m (fun i => co n m (t.B i) * t.T i j) * t.T r s - sm m (fun i => co n m (t.B i) * t.T i s) * t.T r j := by
      rw [← sm_mul2, ← sm_mul2, ← sm_sub]
      exact sm_congr fun i _ => by grind
    rw [Int.mul_sub, ← sm_mul, e1, sm_add, e2, e3, I.iz j hj, I.iz s (by omega)]
    grind
  have e : (pv r s t).z j = t.T r s * co n m j - sm m fun i => co n m ((pv r s t).B i) * (pv r s t).T i j := by
    show (_ - _ : Int).fdiv t.b = _
    rw [← key, Int.mul_fdiv_cancel_left _ (by have := I.pos; omega)]
  exact ⟨e, by rw [e]; exact key⟩
theorem Inv.turn {t : St} {r s : Nat} (I : Inv n m A t) (G : Go n m t r s) : Inv n m A (pv r s t) := by
  have hb := I.pos
  have hs := G.sm
  have hrm := G.rm
  have ecols : cols A (pv r s t).B = up (cols A t.B) r fun l => A l s := by
    funext k
    unfold cols up
    by_cases q : k = r
    · subst q; rw [if_pos rfl]; funext l; show A l (if k = k then s else _) = _; rw [if_pos rfl]
    · rw [if_neg q]; funext l; show A l (if k = r then s else _) = _; rw [if_neg q]
  constructor
  · exact G.p
  · intro i hi
    show (if i = r then s else t.B i) < _
    by_cases q : i = r
    · rw [if_pos q]; exact hs
    · rw [if_neg q]; exact I.bas i hi
  · intro l hl j hj
    show t.T r s * A l j = sm m fun k => (pv r s t).T k j * A l ((pv r s t).B k)
    refine cancel hb ?_
    rw [← sm_mul]
    have e1 : sm m (fun k => t.b * ((pv r s t).T k j * A l ((pv r s t).B k))) = sm m fun k => ((t.T k j * t.T r s - t.T k s * t.T r j) * A l (t.B k)) + (if k = r then t.b * (t.T r j * A l s) else 0) := sm_congr fun k hk => by
      have h0 := pvAll I G hk hj
      by_cases q : k = r
      · subst q
        have : (pv k s t).B k = s := if_pos rfl
        rw [this, pvr, if_pos rfl, ← h0, if_pos rfl]
        simp
      · have : (pv r s t).B k = t.B k := if_neg q
        rw [this, if_neg q, ← h0, if_neg q]
        grind
    have e2 : sm m (fun k => if k = r then t.b * (t.T r j * A l s) else 0) = t.b * (t.T r j * A l s) := by
      rw [sm_one (k := r) hrm fun i _ q => if_neg q, if_pos rfl]
    have e3 : sm m (fun k => (t.T k j * t.T r s - t.T k s * t.T r j) * A l (t.B k)) = sm m (fun k => t.T k j * A l (t.B k)) * t.T r s - sm m (fun k => t.T k s * A l (t.B k)) * t.T r j := by
      rw [← sm_mul2, ← sm_mul2, ← sm_sub]
      exact sm_congr fun i _ => by grind
    rw [e1, sm_add, e2, e3, ← I.i1 l hl j hj, ← I.i1 l hl s (by omega)]
    grind
  · intro i hi j hj
    by_cases q : i = r
    · subst q
      rw [pvr, I.i3 i hi j hj]
      exact sm_congr fun l _ => by rw [pvr]
    · refine cancel hb ?_
      rw [(pvT I G hi hj q).2, ← sm_mul]
      have e1 : sm m (fun l => t.b * ((pv r s t).T i (n + l) * A l j)) = sm m fun l => t.T i (n + l) * A l j * t.T r s - t.T i s * (t.T r (n + l) * A l j) := sm_congr fun l hl => by
        rw [← Int.mul_assoc, (pvT I G hi (show n + l ≤ n + m by omega) q).2]
        grind
      rw [e1, sm_sub, sm_mul2, sm_mul, ← I.i3 i hi j hj, ← I.i3 r hrm j hj]
  · intro i hi k hk
    show (pv r s t).T i (if k = r then s else t.B k) = if i = k then t.T r s else 0
    by_cases qk : k = r
    · subst qk
      rw [if_pos rfl]
      by_cases qi : i = k
      · subst qi; rw [pvr, if_pos rfl]
      · rw [if_neg qi]
        refine cancel hb ?_
        rw [(pvT I G hi (by omega) qi).2]
        grind
    · rw [if_neg qk]
      have hB := I.bas k hk
      by_cases qi : i = r
      · subst qi
        rw [pvr, I.i4 i hi k hk, if_neg (Ne.symm qk), if_neg (Ne.symm qk)]
      · refine cancel hb ?_
        rw [(pvT I G hi (by omega) qi).2, I.i4 r hrm k hk, if_neg (Ne.symm qk), I.i4 i hi k hk]
        by_cases q : i = k
        · rw [if_pos q, if_pos q]; grind
        · rw [if_neg q, if_neg q]; grind
  · intro j hj
    exact (pvz I G hj).1
  · intro i hi
    by_cases q : i = r
    · subst q; rw [pvr]; exact I.fe i hi
    · have e := (pvT I G hi (Nat.le_refl _) q).2
      have h1 := I.fe i hi
      have h2 := I.fe r hrm
      have h3 : 0 ≤ t.T i (n + m) * t.T r s - t.T i s * t.T r (n + m) := by
        by_cases z : 0 < t.T i s
        · have := G.q i hi z
          have : t.T i s * t.T r (n + m) = t.T r (n + m) * t.T i s := Int.mul_comm _ _
          omega
        · have a1 : 0 ≤ t.T i (n + m) * t.T r s := Int.mul_nonneg h1 (Int.le_of_lt G.p)
          have a2 : 0 ≤ (- t.T i s) * t.T r (n + m) := Int.mul_nonneg (by omega) h2
          rw [Int.neg_mul] at a2
          omega
      rw [← e] at h3
      exact Int.nonneg_of_mul_nonneg_right h3 hb
  · rw [ecols]
    exact I.dT r hrm s (by omega)
  · intro k hk j hj
    rw [ecols]
    by_cases q : k = r
    · subst q
      rw [pvr, up_up]; exact I.dT k hk j hj
    · exact (pvT I G hk hj q).1
end
end Sx

set_option linter.all false
set_option maxRecDepth 10000
/-! the turns come to an end -/
namespace Sx
/-- what comes -/
structure Ent (n : Nat) (t : St) (s : Nat) : Prop where
  lt : s < n
  neg : t.z s < 0
  least : ∀ j, j < s → 0 ≤ t.z j
/-- what goes -/
structure Lea (n m : Nat) (t : St) (s r : Nat) : Prop where
  lt : r < m
  p : 0 < t.T r s
  q : ∀ i, i < m → 0 < t.T i s → t.T r (n + m) * t.T i s < t.T i (n + m) * t.T r s ∨ (t.T r (n + m) * t.T i s = t.T i (n + m) * t.T r s ∧ t.B r ≤ t.B i)
theorem Lea.go {n m : Nat} {t : St} {s r : Nat} (e : Ent n t s) (l : Lea n m t s r) : Go n m t r s :=
  ⟨l.lt, by have := e.lt; omega, l.p, fun i hi h => (l.q i hi h).elim Int.le_of_lt fun z => Int.le_of_eq z.1⟩
section
variable {n m : Nat} {A : Nat → Nat → Int}
/-- a tableau's column, put to a line of another one -/
def ev (m : Nat) (t : St) (s : Nat) (f : Nat → Int) : Int := t.b * f s - sm m fun i => t.T i s * f (t.B i)
theorem ev_T {t u : St} (I : Inv n m A t) (J : Inv n m A u) {s k : Nat} (hs : s ≤ n + m) (hk : k < m) : ev m t s (u.T k) = 0 := by
  unfold ev
  have e1 : sm m (fun i => t.T i s * u.T k (t.B i)) = sm m fun l => u.T k (n + l) * sm m fun i => t.T i s * A l (t.B i) := by
    rw [sm_congr (g := fun i => sm m fun l => u.T k (n + l) * (t.T i s * A l (t.B i))) fun i hi => by
      rw [J.i3 k hk _ (by have := I.bas i hi; omega), ← sm_mul]
      exact sm_congr fun l _ => by grind]
    rw [sm_swap]
    exact sm_congr fun l _ => sm_mul _ _ _
  rw [e1, J.i3 k hk s hs, ← sm_mul, ← sm_sub]
  refine sm_zero fun l hl => ?_
  rw [← I.i1 l hl s hs]
  grind
theorem ev_z {t u : St} (I : Inv n m A t) (J : Inv n m A u) {s : Nat} (hs : s ≤ n + m) : ev m t s u.z = u.b * ev m t s (co n m) := by
  have e1 : sm m (fun i => t.T i s * u.z (t.B i)) = sm m (fun i => t.T i s * (u.b * co n m (t.B i))) - sm m fun k => co n m (u.B k) * sm m fun i => t.T i s * u.T k (t.B i) := by
    rw [sm_congr (g := fun i => t.T i s * (u.b * co n m (t.B i)) - sm m fun k => co n m (u.B k) * (t.T i s * u.T k (t.B i))) fun i hi => by
      rw [J.iz _ (by have := I.bas i hi; omega), Int.mul_sub, ← sm_mul]
      congr 1
      exact sm_congr fun k _ => by grind]
    rw [sm_sub]
    congr 1
    rw [sm_swap]
    exact sm_congr fun k _ => sm_mul _ _ _
  have e2 : sm m (fun i => t.T i s * (u.b * co n m (t.B i))) = u.b * sm m fun i => t.T i s * co n m (t.B i) := by
    rw [← sm_mul]; exact sm_congr fun i _ => by grind
  have e3 : sm m (fun k => co n m (u.B k) * sm m fun i => t.T i s * u.T k (t.B i)) = t.b * sm m fun k => co n m (u.B k) * u.T k s := by
    rw [← sm_mul]
    refine sm_congr fun k hk => ?_
    have := ev_T I J hs hk
    unfold ev at this
    have e : sm m (fun i => t.T i s * u.T k (t.B i)) = t.b * u.T k s := by omega
    rw [e]; grind
  unfold ev
  rw [e1, e2, e3, J.iz s hs]
  grind
/-- the heart of it -/
theorem ev_low {t u : St} (I : Inv n m A t) (J : Inv n m A u) {s : Nat} (hs : s ≤ n + m) (h : t.z s < 0) : ev m t s u.z < 0 := by
  have h1 := ev_z I I hs
  have h2 := ev_z I J hs
  have h3 : ev m t s t.z = t.b * t.z s := by
    unfold ev
    rw [sm_zero fun i hi => by rw [I.zB hi, Int.mul_zero]]; omega
  have e : t.b * ev m t s u.z = t.b * (u.b * t.z s) := by
    rw [h2]
    have : t.b * ev m t s (co n m) = t.b * t.z s := by rw [← h1, h3]
    have h4 := cancel I.pos this
    rw [h4]
  rw [cancel I.pos e]
  exact Int.mul_neg_of_pos_of_neg J.pos h
/-- alike bases: alike tableaus -/
theorem same_T {t u : St} (I : Inv n m A t) (J : Inv n m A u) (e : ∀ i, i < m → t.B i = u.B i) {j k : Nat} (hj : j ≤ n + m) (hk : k < m) : t.b * u.T k j = u.b * t.T k j := by
  have h := ev_T I J hj hk
  unfold ev at h
  rw [sm_one (k := k) hk fun i hi q => by rw [e i hi, J.i4 k hk i hi, if_neg (Ne.symm q), Int.mul_zero], e k hk, J.i4 k hk k hk, if_pos rfl] at h
  have : t.T k j * u.b = u.b * t.T k j := Int.mul_comm _ _
  omega
theorem same_z {t u : St} (I : Inv n m A t) (J : Inv n m A u) (e : ∀ i, i < m → t.B i = u.B i) {j : Nat} (hj : j ≤ n + m) : t.b * u.z j = u.b * t.z j := by
  rw [I.iz j hj, J.iz j hj, Int.mul_sub, Int.mul_sub, ← sm_mul, ← sm_mul]
  have : sm m (fun i => t.b * (co n m (u.B i) * u.T i j)) = sm m fun i => u.b * (co n m (t.B i) * t.T i j) := sm_congr fun i hi => by
    have := same_T I J e hj hi
    rw [e i hi]; grind
  rw [this]; grind
/-! a row of turns -/
structure Rn (n m : Nat) (A : Nat → Nat → Int) (K : Nat) (f : Nat → St) (s r : Nat → Nat) : Prop where
  inv : ∀ k, k ≤ K → Inv n m A (f k)
  ent : ∀ k, k < K → Ent n (f k) (s k)
  lea : ∀ k, k < K → Lea n m (f k) (s k) (r k)
  nx : ∀ k, k < K → f (k + 1) = pv (r k) (s k) (f k)
section
variable {K : Nat} {f : Nat → St} {s r : Nat → Nat}
def isB (m : Nat) (t : St) (j : Nat) : Prop := ∃ i, i < m ∧ t.B i = j
theorem Rn.B_ne (R : Rn n m A K f s r) {k i : Nat} (hk : k < K) (h : i ≠ r k) : (f (k + 1)).B i = (f k).B i := by
  rw [R.nx k hk]; exact if_neg h
theorem Rn.B_r (R : Rn n m A K f s r) {k : Nat} (hk : k < K) : (f (k + 1)).B (r k) = s k := by
  rw [R.nx k hk]; exact if_pos rfl
theorem Rn.nonb (R : Rn n m A K f s r) {k : Nat} (hk : k < K) : ¬ isB m (f k) (s k) := fun ⟨i, hi, e⟩ => by
  have h1 := (R.inv k (by omega)).zB hi
  have := (R.ent k hk).neg
  rw [e] at h1; omega
theorem Rn.come (R : Rn n m A K f s r) {k j : Nat} (hk : k < K) (h0 : ¬ isB m (f k) j) (h1 : isB m (f (k + 1)) j) : s k = j := by
  obtain ⟨i, hi, e⟩ := h1
  by_cases q : i = r k
  · subst q; rw [R.B_r hk] at e; exact e
  · rw [R.B_ne hk q] at e; exact absurd ⟨i, hi, e⟩ h0
theorem Rn.goes (R : Rn n m A K f s r) {k j : Nat} (hk : k < K) (h0 : isB m (f k) j) (h1 : ¬ isB m (f (k + 1)) j) : (f k).B (r k) = j := by
  obtain ⟨i, hi, e⟩ := h0
  by_cases q : i = r k
  · subst q; exact e
  · exact absurd ⟨i, hi, by rw [R.B_ne hk q]; exact e⟩ h1
theorem Rn.comes (R : Rn n m A K f s r) {j : Nat} : ∀ {d x : Nat}, x + d ≤ K → ¬ isB m (f x) j → isB m (f (x + d)) j → ∃ k, x ≤ k ∧ k < x + d ∧ s k = j
  | 0, x, _, h0, h1 => absurd h1 h0
  | d + 1, x, hK, h0, h1 => by
    by_cases q : isB m (f (x + d)) j
    · obtain ⟨k, a, b, e⟩ := R.comes (d := d) (by omega) h0 q
      exact ⟨k, a, by omega, e⟩
    · exact ⟨x + d, by omega, by omega, R.come (by omega) q h1⟩
theorem Rn.leaves (R : Rn n m A K f s r) {j : Nat} : ∀ {d x : Nat}, x + d ≤ K → isB m (f x) j → ¬ isB m (f (x + d)) j → ∃ k, x ≤ k ∧ k < x + d ∧ (f k).B (r k) = j
  | 0, x, _, h0, h1 => absurd h0 h1
  | d + 1, x, hK, h0, h1 => by
    by_cases q : isB m (f (x + d)) j
    · exact ⟨x + d, by omega, by omega, R.goes (by omega) q h1⟩
    · obtain ⟨k, a, b, e⟩ := R.leaves (d := d) (by omega) h0 q
      exact ⟨k, a, by omega, e⟩
/-- a row of turns that comes back -/
structure Cy (n m : Nat) (A : Nat → Nat → Int) (K : Nat) (f : Nat → St) (s r : Nat → Nat) (p q : Nat) : Prop where
  R : Rn n m A K f s r
  lt : p < q
  le : q ≤ K
  eq : ∀ i, i < m → (f p).B i = (f q).B i
theorem Cy.isB (C : Cy n m A K f s r p q) (j : Nat) : isB m (f p) j ↔ isB m (f q) j :=
  ⟨fun ⟨i, hi, e⟩ => ⟨i, hi, by rw [← C.eq i hi]; exact e⟩, fun ⟨i, hi, e⟩ => ⟨i, hi, by rw [C.eq i hi]; exact e⟩⟩
theorem Cy.comes (C : Cy n m A K f s r p q) {j x y : Nat} (hx : p ≤ x ∧ x ≤ q) (hy : p ≤ y ∧ y ≤ q) (h0 : ¬ Sx.isB m (f x) j) (h1 : Sx.isB m (f y) j) : ∃ k, p ≤ k ∧ k < q ∧ s k = j := by
  have hq := C.le
  rcases Nat.le_total x y with h | h
  · obtain ⟨k, a, b, e⟩ := C.R.comes (x := x) (d := y - x) (by omega) h0 (by rw [show x + (y - x) = y by omega]; exact h1)
    exact ⟨k, by omega, by omega, e⟩
  · by_cases z : Sx.isB m (f p) j
    · obtain ⟨k, a, b, e⟩ := C.R.comes (x := x) (d := q - x) (by omega) h0 (by rw [show x + (q - x) = q by omega]; exact (C.isB j).mp z)
      exact ⟨k, by omega, by omega, e⟩
    · obtain ⟨k, a, b, e⟩ := C.R.comes (x := p) (d := y - p) (by omega) z (by rw [show p + (y - p) = y by omega]; exact h1)
      exact ⟨k, by omega, by omega, e⟩
theorem Cy.leaves (C : Cy n m A K f s r p q) {j x y : Nat} (hx : p ≤ x ∧ x ≤ q) (hy : p ≤ y ∧ y ≤ q) (h0 : Sx.isB m (f x) j) (h1 : ¬ Sx.isB m (f y) j) : ∃ k, p ≤ k ∧ k < q ∧ (f k).B (r k) = j := by
  have hq := C.le
  rcases Nat.le_total x y with h | h
  · obtain ⟨k, a, b, e⟩ := C.R.leaves (x := x) (d := y - x) (by omega) h0 (by rw [show x + (y - x) = y by omega]; exact h1)
    exact ⟨k, by omega, by omega, e⟩
  · by_cases z : Sx.isB m (f p) j
    · obtain ⟨k, a, b, e⟩ := C.R.leaves (x := p) (d := y - p) (by omega) z (by rw [show p + (y - p) = y by omega]; exact h1)
      exact ⟨k, by omega, by omega, e⟩
    · obtain ⟨k, a, b, e⟩ := C.R.leaves (x := x) (d := q - x) (by omega) h0 (by rw [show x + (q - x) = q by omega]; exact fun w => z ((C.isB j).mpr w))
      exact ⟨k, by omega, by omega, e⟩
/-! the measure stays -/
theorem frac_trans {a b c d e g : Int} (hb : 0 < b) (hd : 0 < d) (hg : 0 < g) (h1 : a * d ≤ c * b) (h2 : c * g ≤ e * d) : a * g ≤ e * b := by
  have k1 : a * d * g ≤ c * b * g := Int.mul_le_mul_of_nonneg_right h1 (by omega)
  have k2 : c * g * b ≤ e * d * b := Int.mul_le_mul_of_nonneg_right h2 (by omega)
  have k3 : (a * g) * d ≤ (e * b) * d := by
    have e1 : (a * g) * d = a * d * g := by grind
    have e2 : (e * b) * d = e * d * b := by grind
    have e3 : c * b * g = c * g * b := by grind
    omega
  exact Int.le_of_mul_le_mul_right k3 hd
theorem Rn.up (R : Rn n m A K f s r) {k : Nat} (hk : k < K) : (f k).b * (f (k + 1)).z (n + m) = (f k).z (n + m) * (f (k + 1)).b - (f k).z (s k) * (f k).T (r k) (n + m) := by
  have G := (R.lea k hk).go (R.ent k hk)
  have := (pvz (R.inv k (by omega)) G (Nat.le_refl (n + m))).2
  rw [R.nx k hk]; exact this
theorem Rn.mono (R : Rn n m A K f s r) : ∀ {d x : Nat}, x + d ≤ K → (f x).z (n + m) * (f (x + d)).b ≤ (f (x + d)).z (n + m) * (f x).b
  | 0, x, _ => Int.le_refl _
  | d + 1, x, h => by
    have ih := R.mono (d := d) (x := x) (by omega)
    have hu := R.up (k := x + d) (by omega)
    have p1 := (R.inv x (by omega)).pos
    have p2 := (R.inv (x + d) (by omega)).pos
    have p3 := (R.inv (x + d + 1) (by omega)).pos
    show (f x).z (n + m) * (f (x + d + 1)).b ≤ (f (x + d + 1)).z (n + m) * (f x).b
    refine frac_trans p1 p2 p3 ih ?_
    have a1 := (R.ent (x + d) (by omega)).neg
    have a2 := (R.inv (x + d) (by omega)).fe (r (x + d)) (R.lea (x + d) (by omega)).lt
    have a3 : 0 ≤ (- (f (x + d)).z (s (x + d))) * (f (x + d)).T (r (x + d)) (n + m) := Int.mul_nonneg (by omega) a2
    rw [Int.neg_mul] at a3
    have : (f (x + d + 1)).z (n + m) * (f (x + d)).b = (f (x + d)).b * (f (x + d + 1)).z (n + m) := Int.mul_comm _ _
    omega
theorem Cy.flat (C : Cy n m A K f s r p q) {k : Nat} (hk : p ≤ k) (hk2 : k < q) : (f k).T (r k) (n + m) = 0 := by
  have hq := C.le
  have hpq := C.lt
  have R := C.R
  have e := same_z (R.inv p (by omega)) (R.inv q (by omega)) C.eq (Nat.le_refl (n + m))
  have h1 := R.mono (x := p) (d := k - p) (by omega)
  have h2 := R.mono (x := k + 1) (d := q - (k + 1)) (by omega)
  rw [show p + (k - p) = k by omega] at h1
  rw [show k + 1 + (q - (k + 1)) = q by omega] at h2
  have hu := R.up (k := k) (by omega)
  have pp := (R.inv p (by omega)).pos
  have pq := (R.inv q (by omega)).pos
  have pk := (R.inv k (by omega)).pos
  have pk1 := (R.inv (k + 1) (by omega)).pos
  have a1 := (R.ent k (by omega)).neg
  have a2 := (R.inv k (by omega)).fe (r k) (R.lea k (by omega)).lt
  -- behind, not above
  have h3 : (f (k + 1)).z (n + m) * (f k).b ≤ (f k).z (n + m) * (f (k + 1)).b := by
    have h4 : (f (k + 1)).z (n + m) * (f p).b ≤ (f p).z (n + m) * (f (k + 1)).b := by
      refine frac_trans pk1 pq pp h2 ?_
      rw [Int.mul_comm ((f q).z (n + m)), e, Int.mul_comm]
      exact Int.le_refl _
    exact frac_trans pk1 pp pk h4 h1
  have a3 : (- (f k).z (s k)) * (f k).T (r k) (n + m) ≤ 0 := by
    rw [Int.neg_mul]
    have : (f (k + 1)).z (n + m) * (f k).b = (f k).b * (f (k + 1)).z (n + m) := Int.mul_comm _ _
    omega
  apply Classical.byContradiction
  intro z
  have : 0 < (- (f k).z (s k)) * (f k).T (r k) (n + m) := Int.mul_pos (by omega) (by omega)
  omega
def zr (n m : Nat) (t : St) (j : Nat) : Prop := ∀ i, i < m → t.B i = j → t.T i (n + m) = 0
theorem Cy.zr1 (C : Cy n m A K f s r p q) {k j : Nat} (hk : p ≤ k) (hk2 : k < q) : zr n m (f k) j ↔ zr n m (f (k + 1)) j := by
  have hq := C.le
  have R := C.R
  have fl := C.flat hk hk2
  have I := R.inv k (by omega)
  have G := (R.lea k (by omega)).go (R.ent k (by omega))
  have Tr : (f (k + 1)).T (r k) (n + m) = 0 := by rw [R.nx k (by omega), pvr]; exact fl
  have Ti : ∀ i, i < m → i ≠ r k → ((f k).T i (n + m) = 0 ↔ (f (k + 1)).T i (n + m) = 0) := fun i hi q => by
    have e := (pvT I G hi (Nat.le_refl (n + m)) q).2
    rw [← R.nx k (by omega), fl, Int.mul_zero, Int.sub_zero] at e
    have hb := I.pos
    have hp := G.p
    constructor
    · intro z
      rw [z, Int.zero_mul] at e
      exact (Int.mul_eq_zero.mp e).resolve_left (by omega)
    · intro z
      rw [z, Int.mul_zero] at e
      exact (Int.mul_eq_zero.mp e.symm).resolve_right (by omega)
  constructor
  · intro h i hi e
    by_cases q : i = r k
    · subst q; exact Tr
    · exact (Ti i hi q).mp (h i hi (by rw [← R.B_ne (by omega) q]; exact e))
  · intro h i hi e
    by_cases q : i = r k
    · subst q; exact fl
    · exact (Ti i hi q).mpr (h i hi (by rw [R.B_ne (by omega) q]; exact e))
theorem Cy.zrp (C : Cy n m A K f s r p q) {j : Nat} : ∀ d, p + d ≤ q → (zr n m (f p) j ↔ zr n m (f (p + d)) j)
  | 0, _ => Iff.rfl
  | d + 1, h => (C.zrp d (by omega)).trans (C.zr1 (k := p + d) (by omega) (by omega))
theorem Cy.zrs (C : Cy n m A K f s r p q) {j x y : Nat} (hx : p ≤ x ∧ x ≤ q) (hy : p ≤ y ∧ y ≤ q) (h : zr n m (f x) j) : zr n m (f y) j := by
  have h1 := C.zrp (j := j) (x - p) (by omega)
  have h2 := C.zrp (j := j) (y - p) (by omega)
  rw [show p + (x - p) = x by omega] at h1
  rw [show p + (y - p) = y by omega] at h2
  exact h2.mp (h1.mpr h)
theorem most_of (s : Nat → Nat) (p : Nat) : ∀ d, ∃ k, p ≤ k ∧ k ≤ p + d ∧ ∀ l, p ≤ l → l ≤ p + d → s l ≤ s k
  | 0 => ⟨p, by omega, by omega, fun l h1 h2 => by rw [show l = p by omega]; exact Nat.le_refl _⟩
  | d + 1 => by
    obtain ⟨k, a, b, h⟩ := most_of s p d
    by_cases q : s k ≤ s (p + d + 1)
    · refine ⟨p + d + 1, by omega, by omega, fun l h1 h2 => ?_⟩
      by_cases e : l = p + d + 1
      · rw [e]; exact Nat.le_refl _
      · exact Nat.le_trans (h l h1 (by omega)) q
    · refine ⟨k, a, by omega, fun l h1 h2 => ?_⟩
      by_cases e : l = p + d + 1
      · rw [e]; omega
      · exact h l h1 (by omega)
/-- no row of turns comes back -/
theorem Cy.false (C : Cy n m A K f s r p q) : False := by
  have hq := C.le
  have hpq := C.lt
  have R := C.R
  obtain ⟨k1, a1, b1, hmax⟩ := most_of s p (q - p - 1)
  have n1 := R.nonb (k := k1) (by omega)
  have y1 : Sx.isB m (f (k1 + 1)) (s k1) := ⟨r k1, (R.lea k1 (by omega)).lt, R.B_r (by omega)⟩
  obtain ⟨k2, a2, b2, e2⟩ := C.leaves (x := k1 + 1) (y := k1) ⟨by omega, by omega⟩ ⟨by omega, by omega⟩ y1 n1
  have hs2 : s k2 ≤ s k1 := hmax k2 (by omega) (by omega)
  have y2 : Sx.isB m (f k2) (s k1) := ⟨r k2, (R.lea k2 (by omega)).lt, e2⟩
  have hlt : s k2 < s k1 := by
    apply Classical.byContradiction
    intro z
    have : s k2 = s k1 := by omega
    exact R.nonb (k := k2) (by omega) (by rw [this]; exact y2)
  have I := R.inv k2 (by omega)
  have J := R.inv k1 (by omega)
  have E1 := R.ent k1 (by omega)
  have E2 := R.ent k2 (by omega)
  have L2 := R.lea k2 (by omega)
  have low := ev_low I J (s := s k2) (by have := E2.lt; omega) E2.neg
  unfold ev at low
  have h0 : 0 ≤ (f k2).b * (f k1).z (s k2) := Int.mul_nonneg (Int.le_of_lt I.pos) (E1.least _ hlt)
  have low2 : sm m (fun i => - ((f k2).T i (s k2) * (f k1).z ((f k2).B i))) < 0 := by rw [sm_neg]; omega
  obtain ⟨i, hi, hneg⟩ := sm_neg_ex low2
  have hp : 0 < (f k2).T i (s k2) * (f k1).z ((f k2).B i) := by omega
  -- the column
  have nz : (f k1).z ((f k2).B i) ≠ 0 := fun z => by rw [z, Int.mul_zero] at hp; omega
  have nb : ¬ Sx.isB m (f k1) ((f k2).B i) := fun ⟨l, hl, e⟩ => nz (by rw [← e]; exact J.zB hl)
  obtain ⟨k3, a3, b3, e3⟩ := C.comes (x := k1) (y := k2) ⟨by omega, by omega⟩ ⟨by omega, by omega⟩ nb ⟨i, hi, rfl⟩
  have hle : (f k2).B i ≤ s k1 := by rw [← e3]; exact hmax k3 (by omega) (by omega)
  by_cases q1 : (f k2).B i = s k1
  · have : i = r k2 := I.inj hi L2.lt (by rw [q1, e2])
    subst this
    rw [q1] at hp
    have := Int.mul_neg_of_pos_of_neg L2.p E1.neg
    omega
  · have hz : 0 ≤ (f k1).z ((f k2).B i) := E1.least _ (by omega)
    have hT : 0 < (f k2).T i (s k2) := by
      apply Classical.byContradiction
      intro w
      have : (f k2).T i (s k2) * (f k1).z ((f k2).B i) ≤ 0 := Int.mul_nonpos_of_nonpos_of_nonneg (by omega) hz
      omega
    have zi : (f k2).T i (n + m) = 0 := C.zrs (x := k1) (y := k2) (j := (f k2).B i) ⟨by omega, by omega⟩ ⟨by omega, by omega⟩ (fun l hl e => absurd ⟨l, hl, e⟩ nb) i hi rfl
    have fe := I.fe (r k2) L2.lt
    rcases L2.q i hi hT with w | ⟨_, w⟩
    · rw [zi, Int.zero_mul] at w
      have : 0 ≤ (f k2).T (r k2) (n + m) * (f k2).T i (s k2) := Int.mul_nonneg fe (Int.le_of_lt hT)
      omega
    · rw [e2] at w; omega
end
/-! how many at most -/
theorem pigeon : ∀ (M K : Nat) (g : Nat → Nat), M ≤ K → (∀ k, k ≤ K → g k < M) → ∃ p q, p < q ∧ q ≤ K ∧ g p = g q
  | 0, K, g, _, h => absurd (h 0 (by omega)) (by omega)
  | M + 1, K, g, hM, h => by
    by_cases z : ∃ k, k ≤ K ∧ g k = M
    · obtain ⟨k0, hk0, e0⟩ := z
      by_cases w : ∃ k, k ≤ K ∧ k ≠ k0 ∧ g k = M
      · obtain ⟨k1, hk1, hne, e1⟩ := w
        rcases Nat.lt_or_ge k0 k1 with c | c
        · exact ⟨k0, k1, c, hk1, by rw [e0, e1]⟩
        · exact ⟨k1, k0, by omega, hk0, by rw [e0, e1]⟩
      · obtain ⟨p, q, a, b, e⟩ := pigeon M (K - 1) (fun k => if k < k0 then g k else g (k + 1)) (by omega) fun k hk => by
          have lt : ∀ x, x ≤ K → x ≠ k0 → g x < M := fun x hx hn => by
            have := h x hx
            have : g x ≠ M := fun e => w ⟨x, hx, hn, e⟩
            omega
          show (if k < k0 then g k else g (k + 1)) < M
          split
          · exact lt k (by omega) (by omega)
          · exact lt (k + 1) (by omega) (by omega)
        refine ⟨if p < k0 then p else p + 1, if q < k0 then q else q + 1, ?_, ?_, ?_⟩
        · split <;> split <;> omega
        · split <;> omega
        · by_cases c1 : p < k0 <;> by_cases c2 : q < k0 <;> simp only [c1, c2, if_true, if_false] at e ⊢ <;> exact e
    · obtain ⟨p, q, a, b, e⟩ := pigeon M K g (by omega) fun k hk => by
        have := h k hk
        have : g k ≠ M := fun e => z ⟨k, hk, e⟩
        omega
      exact ⟨p, q, a, b, e⟩
def enc (N : Nat) (B : Nat → Nat) : Nat → Nat
  | 0 => 0
  | m + 1 => enc N B m * N + B m
theorem enc_lt {N : Nat} {B : Nat → Nat} : ∀ {m : Nat}, (∀ i, i < m → B i < N) → enc N B m < N ^ m
  | 0, _ => by simp [enc]
  | m + 1, h => by
    have ih := enc_lt (m := m) fun i hi => h i (by omega)
    have hb := h m (by omega)
    unfold enc
    rw [Nat.pow_succ]
    have : (enc N B m + 1) * N ≤ N ^ m * N := Nat.mul_le_mul_right _ ih
    rw [Nat.add_mul] at this
    omega
theorem enc_inj {N : Nat} {B C : Nat → Nat} : ∀ {m : Nat}, (∀ i, i < m → B i < N) → (∀ i, i < m → C i < N) → enc N B m = enc N C m → ∀ i, i < m → B i = C i
  | 0, _, _, _ => fun i hi => by omega
  | m + 1, hB, hC, e => by
    unfold enc at e
    have h1 := hB m (by omega)
    have h2 := hC m (by omega)
    have e1 : enc N B m = enc N C m := by
      have a := congrArg (· / N) e
      rw [Nat.add_comm, Nat.add_mul_div_right _ _ (by omega), Nat.div_eq_of_lt h1, Nat.add_comm (enc N C m * N), Nat.add_mul_div_right _ _ (by omega), Nat.div_eq_of_lt h2] at a
      omega
    intro i hi
    by_cases q : i = m
    · subst q; rw [e1] at e; omega
    · exact enc_inj (m := m) (fun i hi => hB i (by omega)) (fun i hi => hC i (by omega)) e1 i (by omega)
theorem Rn.most {K : Nat} {f : Nat → St} {s r : Nat → Nat} (R : Rn n m A K f s r) : K < (n + m) ^ m := by
  apply Classical.byContradiction
  intro z
  obtain ⟨p, q, a, b, e⟩ := pigeon ((n + m) ^ m) K (fun k => enc (n + m) (f k).B m) (by omega) fun k hk => enc_lt (R.inv k hk).bas
  exact Cy.false (p := p) (q := q) ⟨R, a, b, enc_inj (R.inv p (by omega)).bas (R.inv q b).bas e⟩
/-- K turns from the start -/
def Rch (n m : Nat) (A : Nat → Nat → Int) (K : Nat) (t : St) : Prop := ∃ f s r, Rn n m A K f s r ∧ f 0 = st0 n m A ∧ f K = t
theorem Rch.zero (h : Tab n m A) : Rch n m A 0 (st0 n m A) :=
  ⟨fun _ => st0 n m A, fun _ => 0, fun _ => 0, ⟨fun _ _ => start h, fun k hk => by omega, fun k hk => by omega, fun k hk => by omega⟩, rfl, rfl⟩
theorem Rch.inv {K : Nat} {t : St} (h : Rch n m A K t) : Inv n m A t := by
  obtain ⟨f, s, r, R, _, e⟩ := h
  rw [← e]; exact R.inv K (Nat.le_refl _)
theorem Rch.turn {K s r : Nat} {t : St} (h : Rch n m A K t) (e : Ent n t s) (l : Lea n m t s r) : Rch n m A (K + 1) (pv r s t) := by
  obtain ⟨f, s', r', R, e0, eK⟩ := h
  refine ⟨fun k => if k ≤ K then f k else pv r s t, fun k => if k < K then s' k else s, fun k => if k < K then r' k else r, ⟨fun k hk => ?_, fun k hk => ?_, fun k hk => ?_, fun k hk => ?_⟩, ?_, ?_⟩
  · show Inv n m A (if k ≤ K then f k else _)
    split
    · exact R.inv k (by assumption)
    · have := R.inv K (Nat.le_refl _)
      rw [eK] at this
      exact this.turn (l.go e)
  · show Ent n (if k ≤ K then f k else _) (if k < K then s' k else s)
    rw [if_pos (by omega)]
    by_cases q : k < K
    · rw [if_pos q]; exact R.ent k q
    · rw [if_neg q, show k = K by omega, eK]; exact e
  · show Lea n m (if k ≤ K then f k else _) (if k < K then s' k else s) (if k < K then r' k else r)
    rw [if_pos (by omega)]
    by_cases q : k < K
    · rw [if_pos q, if_pos q]; exact R.lea k q
    · rw [if_neg q, if_neg q, show k = K by omega, eK]; exact l
  · show (if k + 1 ≤ K then f (k + 1) else pv r s t) = pv (if k < K then r' k else r) (if k < K then s' k else s) (if k ≤ K then f k else pv r s t)
    by_cases q : k < K
    · rw [if_pos (by omega), if_pos q, if_pos q, if_pos (by omega)]; exact R.nx k q
    · rw [if_neg (by omega), if_neg q, if_neg q, if_pos (by omega), show k = K by omega, eK]
  · show (if 0 ≤ K then f 0 else _) = _
    rw [if_pos (Nat.zero_le _)]; exact e0
  · show (if K + 1 ≤ K then _ else _) = _
    rw [if_neg (by omega)]
theorem Rch.most {K : Nat} {t : St} (h : Rch n m A K t) : K < (n + m) ^ m := by
  obtain ⟨f, s, r, R, _, _⟩ := h
  exact R.most
/-! what goes is there -/
theorem Inv.some_pos {t : St} (I : Inv n m A t) {s : Nat} (hs : s < n) (h : t.z s < 0) : ∃ i, i < m ∧ 0 < t.T i s := by
  rw [I.iz s (by omega), show co n m s = 0 by unfold co; rw [if_neg (by omega)], Int.mul_zero] at h
  have : sm m (fun i => - (co n m (t.B i) * t.T i s)) < 0 := by rw [sm_neg]; omega
  obtain ⟨i, hi, q⟩ := sm_neg_ex this
  refine ⟨i, hi, ?_⟩
  by_cases c : n ≤ t.B i ∧ t.B i < n + m
  · rw [show co n m (t.B i) = 1 by unfold co; rw [if_pos c]] at q; omega
  · rw [show co n m (t.B i) = 0 by unfold co; rw [if_neg c]] at q; omega
/-! the end -/
/-- shares: what the columns come to -/
theorem Inv.shares {t : St} (I : Inv n m A t) (h : t.z (n + m) = 0) : (∀ i, i < m → n ≤ t.B i → t.T i (n + m) = 0) ∧
    ∀ l, l < m → t.b * A l (n + m) = sm m fun k => if t.B k < n then t.T k (n + m) * A l (t.B k) else 0 := by
  have c0 : co n m (n + m) = 0 := by unfold co; rw [if_neg (by omega)]
  have e := I.iz (n + m) (Nat.le_refl _)
  rw [h, c0, Int.mul_zero] at e
  have z : ∀ i, i < m → co n m (t.B i) * t.T i (n + m) = 0 := sm_zero_of (fun i hi => by
    refine Int.mul_nonneg ?_ (I.fe i hi)
    unfold co; split <;> omega) (by omega)
  have z2 : ∀ i, i < m → n ≤ t.B i → t.T i (n + m) = 0 := fun i hi hn => by
    have := z i hi
    rw [show co n m (t.B i) = 1 by unfold co; rw [if_pos ⟨hn, I.bas i hi⟩], Int.one_mul] at this
    exact this
  refine ⟨z2, fun l hl => ?_⟩
  rw [I.i1 l hl _ (Nat.le_refl _)]
  refine sm_congr fun k hk => ?_
  by_cases q : t.B k < n
  · rw [if_pos q]
  · rw [if_neg q, z2 k hk (by omega), Int.zero_mul]
theorem Inv.low {t : St} (I : Inv n m A t) : t.z (n + m) ≤ 0 := by
  have c0 : co n m (n + m) = 0 := by unfold co; rw [if_neg (by omega)]
  rw [I.iz (n + m) (Nat.le_refl _), c0, Int.mul_zero]
  have : 0 ≤ sm m fun i => co n m (t.B i) * t.T i (n + m) := sm_nonneg fun i hi => Int.mul_nonneg (by unfold co; split <;> omega) (I.fe i hi)
  omega
/-- numbers against: each column's worth by them is what is left by it -/
theorem Inv.against {t : St} (I : Inv n m A t) {j : Nat} (hj : j ≤ n + m) (hc : co n m j = 0) : sm m (fun l => (t.z (n + l) - t.b) * A l j) = t.z j := by
  have e1 : ∀ l, l < m → t.z (n + l) - t.b = - sm m fun i => co n m (t.B i) * t.T i (n + l) := fun l hl => by
    rw [I.iz (n + l) (by omega), show co n m (n + l) = 1 by unfold co; rw [if_pos (by omega)]]; omega
  rw [sm_congr (g := fun l => - sm m fun i => co n m (t.B i) * (t.T i (n + l) * A l j)) fun l hl => by
    rw [e1 l hl, Int.neg_mul, ← sm_mul2]
    congr 1
    exact sm_congr fun i _ => by grind]
  rw [sm_neg, sm_swap, I.iz j hj, hc, Int.mul_zero]
  have : sm m (fun i => sm m fun l => co n m (t.B i) * (t.T i (n + l) * A l j)) = sm m fun i => co n m (t.B i) * t.T i j := sm_congr fun i hi => by
    rw [sm_mul, ← I.i3 i hi j hj]
  omega
end
/-! sizes -/
theorem Inv.absT {n m : Nat} {A : Nat → Nat → Int} {t : St} {M : Nat} (I : Inv n m A t) (hM : ∀ l, l < m → ∀ j, j ≤ n + m → (A l j).natAbs ≤ M) {k j : Nat} (hk : k < m) (hj : j ≤ n + m) : (t.T k j).natAbs ≤ (m * M) ^ m := by
  rw [I.dT k hk j hj]
  refine dt_abs (fun i hi l hl => ?_) m (Nat.le_refl _)
  unfold up
  split
  · exact hM l hl j hj
  · exact hM l hl _ (by have := I.bas i hi; omega)
theorem Inv.absb {n m : Nat} {A : Nat → Nat → Int} {t : St} {M : Nat} (I : Inv n m A t) (hM : ∀ l, l < m → ∀ j, j ≤ n + m → (A l j).natAbs ≤ M) : t.b.natAbs ≤ (m * M) ^ m := by
  rw [I.db]
  exact dt_abs (fun i hi l hl => hM l hl _ (by have := I.bas i hi; omega)) m (Nat.le_refl _)
theorem Inv.absz {n m : Nat} {A : Nat → Nat → Int} {t : St} {M : Nat} (I : Inv n m A t) (hM : ∀ l, l < m → ∀ j, j ≤ n + m → (A l j).natAbs ≤ M) {j : Nat} (hj : j ≤ n + m) : (t.z j).natAbs ≤ (m + 1) * (m * M) ^ m := by
  rw [I.iz j hj]
  have ca : ∀ x, (co n m x).natAbs ≤ 1 := fun x => by unfold co; split <;> decide
  have h1 : (t.b * co n m j).natAbs ≤ (m * M) ^ m := by
    rw [Int.natAbs_mul]
    exact Nat.le_trans (Nat.mul_le_mul (I.absb hM) (ca j)) (by omega)
  have h2 : (sm m fun i => co n m (t.B i) * t.T i j).natAbs ≤ m * (m * M) ^ m := sm_abs fun i hi => by
    rw [Int.natAbs_mul]
    exact Nat.le_trans (Nat.mul_le_mul (ca _) (I.absT hM hi hj)) (by omega)
  have h3 := Int.natAbs_sub_le (t.b * co n m j) (sm m fun i => co n m (t.B i) * t.T i j)
  rw [Nat.add_mul, Nat.one_mul]
  omega
end Sx

set_option Elab.async false
set_option linter.all false
set_option maxRecDepth 100000
/-! printed by gen.py: what each def of law_k14_balance_of_great_and_flat_tables does to data -/
namespace Lw
open PySem DL
noncomputable section
def c_NOUGHT : D := (.tup [(.int 0), (.int 1)])
def fiL : List (Str × Str) := [("Board", "basis"), ("Board", "bottom"), ("Board", "left"), ("Board", "many"), ("Board", "table"), ("Board", "turned")]
def fi : Str → Str → Bool := fun n f => decide ((n, f) ∈ fiL)
/-- _law_pool(_law_script, _law_k): 0 _law_script, 1 _law_k, 2 _law_cell, 3 _law_number, 4 _law_mixed -/
def d__law_pool : SD := (sSeq (sSet 2 (eC (.int 0))) (sSeq (sIf (bVal (e2 oLt (eVar 1) (eL fLen (aCons (eVar 0) aNil)))) (sSet 2 (e2 oIx (eVar 0) (eVar 1))) sNx) (sSeq (sSet 3 (eL fMax2 (aCons (eVar 2) (aCons (e2 oSub (e1 oNeg (eC (.int 1))) (eVar 2)) aNil)))) (sSeq (sSet 4 (e2 oMod (e2 oMul (e2 oAdd (e2 oAdd (e2 oAdd (e2 oMod (eVar 3) (eC (.int 2147483629))) (e2 oMul (e2 oMul (eC (.int 7919)) (eVar 1)) (eVar 1))) (e2 oMul (eC (.int 31)) (eVar 1))) (eC (.int 17))) (eC (.int 48271))) (eC (.int 2147483647)))) (sRet (eL mCell (aCons (e2 oMul (eVar 3) (eL fInt (aCons (e2 oGe (eVar 3) (e2 oPow (eC (.int 10)) (eC (.int 18)))) aNil))) (aCons (eVar 4) aNil))))))))
def f__law_pool : FM := runFn 5 2 d__law_pool
/-- _law_take(_law_pool_here, _law_many): 0 _law_pool_here, 1 _law_many, 2 _law_found -/
def d__law_take : SD := (sSeq (sIf (bVal (e2 oGt (e2 oIx (eVar 0) (eC (.int 0))) (eC (.int 0)))) (sSeq (sSet 2 (e2 oMod (e2 oIx (eVar 0) (eC (.int 0))) (eVar 1))) (sSeq (sSub setD (eVar 0) (eC (.int 0)) (e2 oFdiv (e2 oIx (eVar 0) (eC (.int 0))) (eVar 1))) (sRet (eVar 2)))) sNx) (sSeq (sSub setD (eVar 0) (eC (.int 1)) (e2 oMod (e2 oAdd (e2 oMul (e2 oIx (eVar 0) (eC (.int 1))) (eC (.int 69621))) (eC (.int 7))) (eC (.int 2147483647)))) (sRet (e2 oMod (e2 oFdiv (e2 oMod (e2 oMul (e2 oIx (eVar 0) (eC (.int 1))) (e2 oIx (eVar 0) (eC (.int 1)))) (eC (.int 2147483629))) (eC (.int 32))) (eVar 1)))))
def f__law_take : FM := runFn 3 2 d__law_take
/-- _law_flat(_law_pool_here): 0 _law_pool_here, 1 _law_size, 2 _law_cols, 3 _law_turn, 4 _law_way, 5 _law_aim, 6 _law_parts, 7 _law_column, 8 _law_place, 9 _law_k, 10 _law_part -/
def d__law_flat : SD := (sSeq (sSet 1 (e2 oAdd (eC (.int 1)) (eL f__law_take (aCons (eVar 0) (aCons (eC (.int 12)) aNil))))) (sSeq (sSet 2 (eL mCell aNil)) (sSeq (sFor (imOfA mItR1 (aCons (eL f__law_take (aCons (eVar 0) (aCons (eC (.int 25)) aNil))) aNil)) (.nm 3) (sExpr (eMt chkL mAppend (eVar 2) (aCons (eLc (imOfA mItR1 (aCons (eVar 1) aNil)) (.nm 9) bYes (e2 oIx (eL mLst (aCons (eC (.int 0)) (aCons (eC (.int 0)) (aCons (eC (.int 0)) (aCons (eC (.int 1)) (aCons (e1 oNeg (eC (.int 1))) (aCons (eC (.int 0)) (aCons (eC (.int 0)) (aCons (eC (.int 1)) aNil))))))))) (eL f__law_take (aCons (eVar 0) (aCons (eC (.int 8)) aNil)))) [9]) aNil)))) (sSeq (sSet 4 (eL f__law_take (aCons (eVar 0) (aCons (eC (.int 3)) aNil)))) (sSeq (sSet 5 (e2 oMul (eL mLst (aCons (eC (.int 0)) aNil)) (eVar 1))) (sSeq (sIf (bVal (e2 oEq (eVar 4) (eC (.int 1)))) (sSeq (sSet 6 (eLc (imOf mItL (eVar 2)) (.nm 7) bYes (e2 oMul (eL f__law_take (aCons (eVar 0) (aCons (eC (.int 2)) aNil))) (eL f__law_take (aCons (eVar 0) (aCons (eC (.int 2)) aNil)))) [7])) (sSet 5 (eLc (imOfA mItR1 (aCons (eVar 1) aNil)) (.nm 8) bYes (eL fSum (aCons (eLc (imOfA mItZ (aCons (eVar 2) (aCons (eVar 6) aNil))) (.tup [.nm 7, .nm 10]) bYes (e2 oMul (e2 oIx (eVar 7) (eVar 8)) (eVar 10)) [7, 10]) aNil)) [8]))) sNx) (sSeq (sIf (bVal (e2 oEq (eVar 4) (eC (.int 2)))) (sSet 5 (eLc (imOfA mItR1 (aCons (eVar 1) aNil)) (.nm 9) bYes (e2 oSub (eL f__law_take (aCons (eVar 0) (aCons (eC (.int 3)) aNil))) (eC (.int 1))) [9])) sNx) (sRet (eL mTup (aCons (e1 mFrz (eVar 2)) (aCons (eVar 5) (aCons (e2 oIx (eL mLst (aCons (eC (.str "shares")) (aCons (eC (.str "shares")) (aCons (eC .non) aNil)))) (eVar 4)) aNil))))))))))))
def f__law_flat : FM := runFn 11 1 d__law_flat
/-- _law_round_columns(): 0 _law_rows, 1 _law_place, 2 _law_row -/
def d__law_round_columns : SD := (sSeq (sSet 0 (eL mCell (aCons (eL mLst (aCons (eC (.int 25)) (aCons (e1 oNeg (eC (.int 6000))) (aCons (e1 oNeg (eC (.int 4))) (aCons (eC (.int 900)) (aCons (eC (.int 100)) (aCons (eC (.int 0)) (aCons (eC (.int 0)) (aCons (eC (.int 0)) aNil))))))))) (aCons (eL mLst (aCons (eC (.int 50)) (aCons (e1 oNeg (eC (.int 9000))) (aCons (e1 oNeg (eC (.int 2))) (aCons (eC (.int 300)) (aCons (eC (.int 0)) (aCons (eC (.int 100)) (aCons (eC (.int 0)) (aCons (eC (.int 0)) aNil))))))))) (aCons (eL mLst (aCons (eC (.int 0)) (aCons (eC (.int 0)) (aCons (eC (.int 1)) (aCons (eC (.int 0)) (aCons (eC (.int 0)) (aCons (eC (.int 0)) (aCons (eC (.int 1)) (aCons (eC (.int 0)) aNil))))))))) aNil))))) (sSeq (sExpr (eMt chkL mAppend (eVar 0) (aCons (eL mLst (aCons (eC (.int 75)) (aCons (e1 oNeg (eC (.int 15000))) (aCons (eC (.int 2)) (aCons (e1 oNeg (eC (.int 600))) (aCons (eC (.int 0)) (aCons (eC (.int 0)) (aCons (eC (.int 0)) (aCons (e1 oNeg (eC (.int 100))) aNil))))))))) aNil))) (sRet (eLc (imOfA mItR1 (aCons (eC (.int 8)) aNil)) (.nm 1) bYes (eLc (imOf mItL (eVar 0)) (.nm 2) bYes (e2 oIx (eVar 2) (eVar 1)) [2]) [1]))))
def f__law_round_columns : FM := runFn 3 0 d__law_round_columns
/-- Board_m___init__(self, columns, goal): 0 self, 1 columns, 2 goal, 3 row, 4 place, 5 number, 6 helpers, 7 other, 8 one, 9 column -/
def d_Board_m___init__ : SD := (sSeq (sFldI fi "many" (eVar 0) (eL fLen (aCons (eVar 1) aNil))) (sSeq (sFldI fi "turned" (eVar 0) (eLc (imOf mItL (eVar 2)) (.nm 5) bYes (e2 oIx (eL mLst (aCons (eC (.int 1)) (aCons (e1 oNeg (eC (.int 1))) aNil))) (eL fInt (aCons (e2 oLt (eVar 5) (eC (.int 0))) aNil))) [5])) (sSeq (sFldI fi "bottom" (eVar 0) (eC (.int 1))) (sSeq (sFldI fi "table" (eVar 0) (eL mCell aNil)) (sSeq (sFor (imOfA mItE (aCons (eVar 2) aNil)) (.tup [.nm 4, .nm 5]) (sSeq (sSet 6 (eLc (imOfA mItR1 (aCons (eL fLen (aCons (eVar 2) aNil)) aNil)) (.nm 7) bYes (eL fInt (aCons (e2 oEq (eVar 7) (eVar 4)) aNil)) [7])) (sSeq (sSet 3 (e2 oAddC (e2 oAdd (eLc (imOf mItL (eVar 1)) (.nm 9) bYes (e2 oIx (eVar 9) (eVar 4)) [9]) (eVar 6)) (eL mLst (aCons (eVar 5) aNil)))) (sSeq (sIf (bVal (e2 oLt (eVar 5) (eC (.int 0)))) (sSet 3 (e2 oAddC (e2 oAdd (eLc (imOf mItL (eSl oSl (eVar 3) oNone (oSome (e1 (oFldI fi "many") (eVar 0))))) (.nm 8) bYes (e1 oNeg (eVar 8)) [8]) (eVar 6)) (eL mLst (aCons (e1 oNeg (eVar 5)) aNil)))) sNx) (sExpr (eMt chkL mAppend (e1 (oFldI fi "table") (eVar 0)) (aCons (eVar 3) aNil))))))) (sSeq (sFldI fi "left" (eVar 0) (e2 oMulC (eL mLst (aCons (eC (.int 0)) aNil)) (e2 oAdd (e2 oAdd (e1 (oFldI fi "many") (eVar 0)) (eL fLen (aCons (eVar 2) aNil))) (eC (.int 1))))) (sSeq (sFor (imOf mItL (e1 (oFldI fi "table") (eVar 0))) (.nm 3) (sFldI fi "left" (eVar 0) (eLcC (imOfA mItZ (aCons (e1 (oFldI fi "left") (eVar 0)) (aCons (eVar 3) aNil))) (.tup [.nm 8, .nm 5]) bYes (e2 oSub (eVar 8) (eVar 5)) [8, 5]))) (sSeq (sFor (imOfA mItR1 (aCons (eL fLen (aCons (eVar 2) aNil)) aNil)) (.nm 4) (sSub setD (e1 (oFldI fi "left") (eVar 0)) (e2 oAdd (e1 (oFldI fi "many") (eVar 0)) (eVar 4)) (eC (.int 0)))) (sFldI fi "basis" (eVar 0) (eLcC (imOfA mItR1 (aCons (eL fLen (aCons (eVar 2) aNil)) aNil)) (.nm 4) bYes (e2 oAdd (e1 (oFldI fi "many") (eVar 0)) (eVar 4)) [4]))))))))))
def f_Board_m___init__ : FM := runFn 10 3 d_Board_m___init__
/-- Board_m_wanted(self): 0 self, 1 column -/
def d_Board_m_wanted : SD := (sSeq (sFor (imOfA mItR1 (aCons (e1 (oFldI fi "many") (eVar 0)) aNil)) (.nm 1) (sIf (bVal (e2 oLt (e2 oIx (e1 (oFldI fi "left") (eVar 0)) (eVar 1)) (eC (.int 0)))) (sRet (eVar 1)) sNx)) (sRet (eC .non)))
def f_Board_m_wanted : FM := runFn 2 1 d_Board_m_wanted
/-- Board_m_leaving(self, column): 0 self, 1 column, 2 found, 3 number, 4 row, 5 best, 6 here, 7 there -/
def d_Board_m_leaving : SD := (sSeq (sSet 2 (eC .non)) (sSeq (sFor (imOfA mItE (aCons (e1 (oFldI fi "table") (eVar 0)) aNil)) (.tup [.nm 3, .nm 4]) (sIf (bVal (e2 oGt (e2 oIx (eVar 4) (eVar 1)) (eC (.int 0)))) (sIf (bVal (e2 oIsN (eVar 2) (eC .non))) (sSet 2 (eVar 3)) (sSeq (sSet 5 (e2 oIx (e1 (oFldI fi "table") (eVar 0)) (eVar 2))) (sSeq (sSet 6 (e2 oMul (e2 oIx (eVar 4) (e1 oNeg (eC (.int 1)))) (e2 oIx (eVar 5) (eVar 1)))) (sSeq (sSet 7 (e2 oMul (e2 oIx (eVar 5) (e1 oNeg (eC (.int 1)))) (e2 oIx (eVar 4) (eVar 1)))) (sIf (bOr (bVal (e2 oLt (eVar 6) (eVar 7))) (bAnd (bVal (e2 oEq (eVar 6) (eVar 7))) (bVal (e2 oLt (e2 oIx (e1 (oFldI fi "basis") (eVar 0)) (eVar 3)) (e2 oIx (e1 (oFldI fi "basis") (eVar 0)) (eVar 2)))))) (sSet 2 (eVar 3)) sNx))))) sNx)) (sRet (eVar 2))))
def f_Board_m_leaving : FM := runFn 8 2 d_Board_m_leaving
/-- Board_m_turn(self, number, column): 0 self, 1 number, 2 column, 3 pivot, 4 by, 5 row, 6 part, 7 place -/
def d_Board_m_turn : SD := (sSeq (sSet 3 (e2 oIx (e1 (oFldI fi "table") (eVar 0)) (eVar 1))) (sSeq (sSet 4 (e2 oIx (eVar 3) (eVar 2))) (sSeq (sFor (imOf mItL (e2 oAdd (e2 oAdd (eSl oSl (e1 (oFldI fi "table") (eVar 0)) oNone (oSome (eVar 1))) (eSl oSl (e1 (oFldI fi "table") (eVar 0)) (oSome (e2 oAdd (eVar 1) (eC (.int 1)))) oNone)) (eL mLst (aCons (e1 (oFldI fi "left") (eVar 0)) aNil)))) (.nm 5) (sSeq (sSet 6 (e2 oIx (eVar 5) (eVar 2))) (sFor (imOfA mItR1 (aCons (eL fLen (aCons (eVar 5) aNil)) aNil)) (.nm 7) (sSub setD (eVar 5) (eVar 7) (e2 oFdiv (e2 oSub (e2 oMul (e2 oIx (eVar 5) (eVar 7)) (eVar 4)) (e2 oMul (eVar 6) (e2 oIx (eVar 3) (eVar 7)))) (e1 (oFldI fi "bottom") (eVar 0))))))) (sSeq (sFldI fi "bottom" (eVar 0) (eVar 4)) (sSub setD (e1 (oFldI fi "basis") (eVar 0)) (eVar 1) (eVar 2))))))
def f_Board_m_turn : FM := runFn 8 3 d_Board_m_turn
/-- Board_m_settle(self): 0 self, 1 column -/
def d_Board_m_settle : SD := (sSeq (sSet 1 (eMo "Board" "wanted" f_Board_m_wanted (eVar 0) aNil)) (sWhile (bVal (e2 oNotN (eVar 1) (eC .non))) (sSeq (sExpr (eMo "Board" "turn" f_Board_m_turn (eVar 0) (aCons (eMo "Board" "leaving" f_Board_m_leaving (eVar 0) (aCons (eVar 1) aNil)) (aCons (eVar 1) aNil)))) (sSet 1 (eMo "Board" "wanted" f_Board_m_wanted (eVar 0) aNil)))))
def f_Board_m_settle : FM := runFn 2 1 d_Board_m_settle
/-- shared_by(one, other): 0 one, 1 other -/
def d_shared_by : SD := (sSeq (sSet 0 (eL fAbs (aCons (eVar 0) aNil))) (sSeq (sSet 1 (eL fAbs (aCons (eVar 1) aNil))) (sSeq (sWhile (bVal (e2 oGt (eVar 1) (eC (.int 0)))) (sPar 0 1 (aCons (eVar 1) (aCons (e2 oMod (eVar 0) (eVar 1)) aNil)))) (sRet (eVar 0)))))
def f_shared_by : FM := runFn 2 2 d_shared_by
/-- lowest(top, bottom): 0 top, 1 bottom, 2 by -/
def d_lowest : SD := (sSeq (sSet 2 (eL f_shared_by (aCons (eVar 0) (aCons (eVar 1) aNil)))) (sSeq (sIf (bVal (e2 oLt (eVar 1) (eC (.int 0)))) (sSet 2 (e1 oNeg (eVar 2))) sNx) (sRet (eL mTup (aCons (e2 oFdiv (eVar 0) (eVar 2)) (aCons (e2 oFdiv (eVar 1) (eVar 2)) aNil))))))
def f_lowest : FM := runFn 3 2 d_lowest
/-- Board_m_shares(self): 0 self, 1 found, 2 column, 3 row -/
def d_Board_m_shares : SD := (sSeq (sSet 1 (e2 oMulC (eL mLst (aCons (eC c_NOUGHT) aNil)) (e1 (oFldI fi "many") (eVar 0)))) (sSeq (sFor (imOfA mItZ (aCons (e1 (oFldI fi "basis") (eVar 0)) (aCons (e1 (oFldI fi "table") (eVar 0)) aNil))) (.tup [.nm 2, .nm 3]) (sIf (bVal (e2 oLt (eVar 2) (e1 (oFldI fi "many") (eVar 0)))) (sSub setD (eVar 1) (eVar 2) (eL f_lowest (aCons (e2 oIx (eVar 3) (e1 oNeg (eC (.int 1)))) (aCons (e1 (oFldI fi "bottom") (eVar 0)) aNil)))) sNx)) (sRet (eVar 1))))
def f_Board_m_shares : FM := runFn 4 1 d_Board_m_shares
/-- Board_m_against(self): 0 self, 1 found, 2 by, 3 number, 4 place, 5 sign -/
def d_Board_m_against : SD := (sSeq (sSet 1 (eL mCell aNil)) (sSeq (sFor (imOfA mItE (aCons (e1 (oFldI fi "turned") (eVar 0)) aNil)) (.tup [.nm 4, .nm 5]) (sExpr (eMt chkL mAppend (eVar 1) (aCons (e2 oMul (e2 oSub (e2 oIx (e1 (oFldI fi "left") (eVar 0)) (e2 oAdd (e1 (oFldI fi "many") (eVar 0)) (eVar 4))) (e1 (oFldI fi "bottom") (eVar 0))) (eVar 5)) aNil)))) (sSeq (sSet 2 (eC (.int 0))) (sSeq (sFor (imOf mItL (eVar 1)) (.nm 3) (sSet 2 (eL f_shared_by (aCons (eVar 2) (aCons (eVar 3) aNil))))) (sRet (eLcC (imOf mItL (eVar 1)) (.nm 3) bYes (e2 oFdiv (eVar 3) (eVar 2)) [3]))))))
def f_Board_m_against : FM := runFn 6 1 d_Board_m_against
/-- balance(columns, goal): 0 columns, 1 goal, 2 board -/
def d_balance : SD := (sSeq (sSet 2 (eMk "Board" f_Board_m___init__ (aCons (eVar 0) (aCons (eVar 1) aNil)))) (sSeq (sExpr (eMo "Board" "settle" f_Board_m_settle (eVar 2) aNil)) (sSeq (sIf (bVal (e2 oEq (e2 oIx (e1 (oFldI fi "left") (eVar 2)) (e1 oNeg (eC (.int 1)))) (eC (.int 0)))) (sRet (eL mTup (aCons (eC (.str "shares")) (aCons (eMo "Board" "shares" f_Board_m_shares (eVar 2) aNil) aNil)))) sNx) (sRet (eL mTup (aCons (eC (.str "against")) (aCons (eMo "Board" "against" f_Board_m_against (eVar 2) aNil) aNil)))))))
def f_balance : FM := runFn 3 2 d_balance
/-- is_whole(thing): 0 thing -/
def d_is_whole : SD := (sRet (eAnd (eL fIsi (aCons (eVar 0) (aCons (eC (.ty "int")) aNil))) (eNot (eL fIsi (aCons (eVar 0) (aCons (eC (.ty "bool")) aNil))))))
def f_is_whole : FM := runFn 1 1 d_is_whole
/-- is_fraction(thing): 0 thing -/
def d_is_fraction : SD := (sSeq (sIf (bOr (bNot (bVal (eL fIsi (aCons (eVar 0) (aCons (eC (.ty "tuple")) aNil))))) (bOr (bVal (e2 oNe (eL fLen (aCons (eVar 0) aNil)) (eC (.int 2)))) (bOr (bNot (bVal (eL f_is_whole (aCons (e2 oIx (eVar 0) (eC (.int 0))) aNil)))) (bNot (bVal (eL f_is_whole (aCons (e2 oIx (eVar 0) (eC (.int 1))) aNil))))))) (sRet (eC (.bl false))) sNx) (sRet (eAnd (e2 oGe (e2 oIx (eVar 0) (eC (.int 1))) (eC (.int 1))) (e2 oEq (eL f_shared_by (aCons (e2 oIx (eVar 0) (eC (.int 0))) (aCons (e2 oIx (eVar 0) (eC (.int 1))) aNil))) (eC (.int 1))))))
def f_is_fraction : FM := runFn 1 1 d_is_fraction
/-- plus(one, other): 0 one, 1 other -/
def d_plus : SD := (sSeq (sIf (bVal (eChain oEq oEq (e2 oIx (eVar 0) (eC (.int 1))) (e2 oIx (eVar 1) (eC (.int 1))) (eC (.int 1)))) (sRet (eL mTup (aCons (e2 oAdd (e2 oIx (eVar 0) (eC (.int 0))) (e2 oIx (eVar 1) (eC (.int 0)))) (aCons (eC (.int 1)) aNil)))) sNx) (sRet (eL f_lowest (aCons (e2 oAdd (e2 oMul (e2 oIx (eVar 0) (eC (.int 0))) (e2 oIx (eVar 1) (eC (.int 1)))) (e2 oMul (e2 oIx (eVar 1) (eC (.int 0))) (e2 oIx (eVar 0) (eC (.int 1))))) (aCons (e2 oMul (e2 oIx (eVar 0) (eC (.int 1))) (e2 oIx (eVar 1) (eC (.int 1)))) aNil)))))
def f_plus : FM := runFn 2 2 d_plus
/-- times(one, other): 0 one, 1 other -/
def d_times : SD := (sRet (eL f_lowest (aCons (e2 oMul (e2 oIx (eVar 0) (eC (.int 0))) (e2 oIx (eVar 1) (eC (.int 0)))) (aCons (e2 oMul (e2 oIx (eVar 0) (eC (.int 1))) (e2 oIx (eVar 1) (eC (.int 1)))) aNil))))
def f_times : FM := runFn 2 2 d_times
/-- come_to(columns, goal, thing): 0 columns, 1 goal, 2 thing, 3 found, 4 column, 5 share, 6 number, 7 one -/
def d_come_to : SD := (sSeq (sIf (bOr (bNot (bVal (eL fIsi (aCons (eVar 2) (aCons (eC (.ty "list")) aNil))))) (bVal (e2 oNe (eL fLen (aCons (eVar 2) aNil)) (eL fLen (aCons (eVar 0) aNil))))) (sRet (eC (.bl false))) sNx) (sSeq (sIf (bNot (bVal (eL fAll (aCons (eLc (imOf mItL (eVar 2)) (.nm 5) bYes (eAnd (eL f_is_fraction (aCons (eVar 5) aNil)) (e2 oGe (e2 oIx (eVar 5) (eC (.int 0))) (eC (.int 0)))) [5]) aNil)))) (sRet (eC (.bl false))) sNx) (sSeq (sSet 3 (e2 oMul (eL mLst (aCons (eC c_NOUGHT) aNil)) (eL fLen (aCons (eVar 1) aNil)))) (sSeq (sFor (imOfA mItZ (aCons (eVar 0) (aCons (eVar 2) aNil))) (.tup [.nm 4, .nm 5]) (sSet 3 (eLc (imOfA mItZ (aCons (eVar 3) (aCons (eVar 4) aNil))) (.tup [.nm 7, .nm 6]) bYes (eL f_plus (aCons (eVar 7) (aCons (eL f_times (aCons (eVar 5) (aCons (eL mTup (aCons (eVar 6) (aCons (eC (.int 1)) aNil))) aNil))) aNil))) [7, 6]))) (sRet (e2 oEq (eVar 3) (eLc (imOf mItL (eVar 1)) (.nm 6) bYes (eL mTup (aCons (eVar 6) (aCons (eC (.int 1)) aNil))) [6])))))))
def f_come_to : FM := runFn 8 3 d_come_to
/-- comes_to(column, numbers): 0 column, 1 numbers, 2 one, 3 number -/
def d_comes_to : SD := (sRet (eL fSum (aCons (eLc (imOfA mItZ (aCons (eVar 0) (aCons (eVar 1) aNil))) (.tup [.nm 2, .nm 3]) bYes (e2 oMul (eVar 2) (eVar 3)) [2, 3]) aNil)))
def f_comes_to : FM := runFn 4 2 d_comes_to
/-- are_against(columns, goal, thing): 0 columns, 1 goal, 2 thing, 3 column, 4 number -/
def d_are_against : SD := (sSeq (sIf (bOr (bNot (bVal (eL fIsi (aCons (eVar 2) (aCons (eC (.ty "list")) aNil))))) (bOr (bVal (e2 oNe (eL fLen (aCons (eVar 2) aNil)) (eL fLen (aCons (eVar 1) aNil)))) (bNot (bVal (eL fAll (aCons (eLc (imOf mItL (eVar 2)) (.nm 4) bYes (eL f_is_whole (aCons (eVar 4) aNil)) [4]) aNil)))))) (sRet (eC (.bl false))) sNx) (sRet (eAnd (eL fAll (aCons (eLc (imOf mItL (eVar 0)) (.nm 3) bYes (e2 oGe (eL f_comes_to (aCons (eVar 3) (aCons (eVar 2) aNil))) (eC (.int 0))) [3]) aNil)) (e2 oLt (eL f_comes_to (aCons (eVar 1) (aCons (eVar 2) aNil))) (eC (.int 0))))))
def f_are_against : FM := runFn 5 3 d_are_against
/-- lets_balance(columns, goal, thing): 0 columns, 1 goal, 2 thing -/
def d_lets_balance : SD := (sSeq (sIf (bOr (bNot (bVal (eL fIsi (aCons (eVar 2) (aCons (eC (.ty "tuple")) aNil))))) (bOr (bVal (e2 oNe (eL fLen (aCons (eVar 2) aNil)) (eC (.int 2)))) (bNot (bVal (eL fIsi (aCons (e2 oIx (eVar 2) (eC (.int 0))) (aCons (eC (.ty "str")) aNil))))))) (sRet (eC (.bl false))) sNx) (sSeq (sIf (bVal (e2 oEq (e2 oIx (eVar 2) (eC (.int 0))) (eC (.str "shares")))) (sRet (eL f_come_to (aCons (eVar 0) (aCons (eVar 1) (aCons (e2 oIx (eVar 2) (eC (.int 1))) aNil))))) sNx) (sRet (eAnd (e2 oEq (e2 oIx (eVar 2) (eC (.int 0))) (eC (.str "against"))) (eL f_are_against (aCons (eVar 0) (aCons (eVar 1) (aCons (e2 oIx (eVar 2) (eC (.int 1))) aNil))))))))
def f_lets_balance : FM := runFn 3 3 d_lets_balance
/-- _law_low(_law_upper, _law_lower): 0 _law_upper, 1 _law_lower, 2 _law_here, 3 _law_there -/
def d__law_low : SD := (sSeq (sSet 2 (eL fAbs (aCons (eVar 0) aNil))) (sSeq (sSet 3 (eL fAbs (aCons (eVar 1) aNil))) (sSeq (sWhile (bVal (e2 oGt (eVar 3) (eC (.int 0)))) (sPar 2 3 (aCons (eVar 3) (aCons (e2 oMod (eVar 2) (eVar 3)) aNil)))) (sSeq (sIf (bVal (e2 oLt (eVar 1) (eC (.int 0)))) (sSet 2 (e2 oSub (eC (.int 0)) (eVar 2))) sNx) (sRet (eL mTup (aCons (e2 oFdiv (eVar 0) (eVar 2)) (aCons (e2 oFdiv (eVar 1) (eVar 2)) aNil))))))))
def f__law_low : FM := runFn 4 2 d__law_low
/-- _law_plus(_law_here, _law_there): 0 _law_here, 1 _law_there -/
def d__law_plus : SD := (sRet (eL f__law_low (aCons (e2 oAdd (e2 oMul (e2 oIx (eVar 0) (eC (.int 0))) (e2 oIx (eVar 1) (eC (.int 1)))) (e2 oMul (e2 oIx (eVar 1) (eC (.int 0))) (e2 oIx (eVar 0) (eC (.int 1))))) (aCons (e2 oMul (e2 oIx (eVar 0) (eC (.int 1))) (e2 oIx (eVar 1) (eC (.int 1)))) aNil))))
def f__law_plus : FM := runFn 2 2 d__law_plus
/-- _law_times(_law_here, _law_there): 0 _law_here, 1 _law_there -/
def d__law_times : SD := (sRet (eL f__law_low (aCons (e2 oMul (e2 oIx (eVar 0) (eC (.int 0))) (e2 oIx (eVar 1) (eC (.int 0)))) (aCons (e2 oMul (e2 oIx (eVar 0) (eC (.int 1))) (e2 oIx (eVar 1) (eC (.int 1)))) aNil))))
def f__law_times : FM := runFn 2 2 d__law_times
/-- _law_is_whole(_law_item): 0 _law_item -/
def d__law_is_whole : SD := (sRet (eAnd (eL fIsi (aCons (eVar 0) (aCons (eC (.ty "int")) aNil))) (eNot (eL fIsi (aCons (eVar 0) (aCons (eC (.ty "bool")) aNil))))))
def f__law_is_whole : FM := runFn 1 1 d__law_is_whole
/-- _law_is_fraction(_law_item): 0 _law_item -/
def d__law_is_fraction : SD := (sSeq (sIf (bOr (bNot (bVal (eL fIsi (aCons (eVar 0) (aCons (eC (.ty "tuple")) aNil))))) (bOr (bVal (e2 oNe (eL fLen (aCons (eVar 0) aNil)) (eC (.int 2)))) (bOr (bNot (bVal (eL f__law_is_whole (aCons (e2 oIx (eVar 0) (eC (.int 0))) aNil)))) (bNot (bVal (eL f__law_is_whole (aCons (e2 oIx (eVar 0) (eC (.int 1))) aNil))))))) (sRet (eC (.bl false))) sNx) (sRet (eAnd (e2 oGt (e2 oIx (eVar 0) (eC (.int 1))) (eC (.int 0))) (e2 oEq (eL f__law_low (aCons (e2 oIx (eVar 0) (eC (.int 0))) (aCons (e2 oIx (eVar 0) (eC (.int 1))) aNil))) (eVar 0)))))
def f__law_is_fraction : FM := runFn 1 1 d__law_is_fraction
/-- _law_shares_right(_law_cols, _law_aim, _law_item): 0 _law_cols, 1 _law_aim, 2 _law_item, 3 _law_place, 4 _law_total, 5 _law_column, 6 _law_share, 7 _law_one -/
def d__law_shares_right : SD := (sSeq (sIf (bOr (bNot (bVal (eL fIsi (aCons (eVar 2) (aCons (eC (.ty "list")) aNil))))) (bOr (bVal (e2 oNe (eL fLen (aCons (eVar 2) aNil)) (eL fLen (aCons (eVar 0) aNil)))) (bVal (e2 oNe (eLc (imOf mItL (eVar 2)) (.nm 7) (bNot (bVal (eL f__law_is_fraction (aCons (eVar 7) aNil)))) (eVar 7) [7]) (eL mLst aNil))))) (sRet (eC (.bl false))) sNx) (sSeq (sIf (bVal (e2 oNe (eLc (imOf mItL (eVar 2)) (.nm 7) (bVal (e2 oLt (e2 oIx (eVar 7) (eC (.int 0))) (eC (.int 0)))) (eVar 7) [7]) (eL mLst aNil))) (sRet (eC (.bl false))) sNx) (sSeq (sFor (imOfA mItR1 (aCons (eL fLen (aCons (eVar 1) aNil)) aNil)) (.nm 3) (sSeq (sSet 4 (eL mTup (aCons (eC (.int 0)) (aCons (eC (.int 1)) aNil)))) (sSeq (sFor (imOfA mItZ (aCons (eVar 0) (aCons (eVar 2) aNil))) (.tup [.nm 5, .nm 6]) (sSet 4 (eL f__law_plus (aCons (eVar 4) (aCons (eL f__law_times (aCons (eL mTup (aCons (e2 oIx (eVar 5) (eVar 3)) (aCons (eC (.int 1)) aNil))) (aCons (eVar 6) aNil))) aNil))))) (sIf (bVal (e2 oNe (eVar 4) (eL mTup (aCons (e2 oIx (eVar 1) (eVar 3)) (aCons (eC (.int 1)) aNil))))) (sRet (eC (.bl false))) sNx)))) (sRet (eC (.bl true))))))
def f__law_shares_right : FM := runFn 8 3 d__law_shares_right
/-- _law_dot(_law_column, _law_row): 0 _law_column, 1 _law_row, 2 _law_one, 3 _law_other -/
def d__law_dot : SD := (sRet (eL fSum (aCons (eLc (imOfA mItZ (aCons (eVar 0) (aCons (eVar 1) aNil))) (.tup [.nm 2, .nm 3]) bYes (e2 oMul (eVar 2) (eVar 3)) [2, 3]) aNil)))
def f__law_dot : FM := runFn 4 2 d__law_dot
/-- _law_against_right(_law_cols, _law_aim, _law_item): 0 _law_cols, 1 _law_aim, 2 _law_item, 3 _law_one, 4 _law_column -/
def d__law_against_right : SD := (sSeq (sIf (bOr (bNot (bVal (eL fIsi (aCons (eVar 2) (aCons (eC (.ty "list")) aNil))))) (bOr (bVal (e2 oNe (eL fLen (aCons (eVar 2) aNil)) (eL fLen (aCons (eVar 1) aNil)))) (bVal (e2 oNe (eLc (imOf mItL (eVar 2)) (.nm 3) (bNot (bVal (eL f__law_is_whole (aCons (eVar 3) aNil)))) (eVar 3) [3]) (eL mLst aNil))))) (sRet (eC (.bl false))) sNx) (sRet (eAnd (e2 oLt (eL f__law_dot (aCons (eVar 1) (aCons (eVar 2) aNil))) (eC (.int 0))) (e2 oEqZ (eLc (imOf mItL (eVar 0)) (.nm 4) (bVal (e2 oLt (eL f__law_dot (aCons (eVar 4) (aCons (eVar 2) aNil))) (eC (.int 0)))) (eVar 4) [4]) (eL mLst aNil)))))
def f__law_against_right : FM := runFn 5 3 d__law_against_right
/-- _law_is_balance(_law_cols, _law_aim, _law_item): 0 _law_cols, 1 _law_aim, 2 _law_item -/
def d__law_is_balance : SD := (sSeq (sIf (bOr (bNot (bVal (eL fIsi (aCons (eVar 2) (aCons (eC (.ty "tuple")) aNil))))) (bOr (bVal (e2 oNe (eL fLen (aCons (eVar 2) aNil)) (eC (.int 2)))) (bNot (bVal (eL fIsi (aCons (e2 oIx (eVar 2) (eC (.int 0))) (aCons (eC (.ty "str")) aNil))))))) (sRet (eC (.bl false))) sNx) (sSeq (sIf (bVal (e2 oEq (e2 oIx (eVar 2) (eC (.int 0))) (eC (.str "shares")))) (sRet (eL f__law_shares_right (aCons (eVar 0) (aCons (eVar 1) (aCons (e2 oIx (eVar 2) (eC (.int 1))) aNil))))) sNx) (sRet (eAnd (e2 oEq (e2 oIx (eVar 2) (eC (.int 0))) (eC (.str "against"))) (eL f__law_against_right (aCons (eVar 0) (aCons (eVar 1) (aCons (e2 oIx (eVar 2) (eC (.int 1))) aNil))))))))
def f__law_is_balance : FM := runFn 3 3 d__law_is_balance
/-- _law_right(_law_cols, _law_aim, _law_due): 0 _law_cols, 1 _law_aim, 2 _law_due, 3 _law_told -/
def d__law_right : SD := (sSeq (sSet 3 (eL f_balance (aCons (eVar 0) (aCons (eVar 1) aNil)))) (sSeq (sIf (bOr (bNot (bVal (eL f__law_is_balance (aCons (eVar 0) (aCons (eVar 1) (aCons (eVar 3) aNil)))))) (bVal (e2 oNotB (eL f_lets_balance (aCons (eVar 0) (aCons (eVar 1) (aCons (eVar 3) aNil)))) (eC (.bl true))))) (sRet (eC (.bl false))) sNx) (sRet (eOr (e2 oIsN (eVar 2) (eC .non)) (e2 oEq (e2 oIx (eVar 3) (eC (.int 0))) (eVar 2))))))
def f__law_right : FM := runFn 4 3 d__law_right
/-- _law_chain(_law_places): 0 _law_places, 1 _law_cols, 2 _law_k, 3 _law_row, 4 _law_one -/
def d__law_chain : SD := (sSeq (sSet 1 (eL mLst aNil)) (sSeq (sFor (imOfA mItR1 (aCons (e2 oSub (eVar 0) (eC (.int 1))) aNil)) (.nm 2) (sSeq (sSet 3 (e2 oAdd (e2 oAdd (e2 oMul (eL mLst (aCons (eC (.int 0)) aNil)) (eVar 2)) (eL mLst (aCons (e1 oNeg (eC (.int 1))) (aCons (eC (.int 1)) aNil)))) (e2 oMul (eL mLst (aCons (eC (.int 0)) aNil)) (e2 oSub (e2 oSub (eVar 0) (eC (.int 2))) (eVar 2))))) (sSet 1 (e2 oAdd (eVar 1) (eL mLst (aCons (eLc (imOf mItL (eVar 3)) (.nm 4) bYes (e2 oSub (eC (.int 0)) (eVar 4)) [4]) (aCons (eVar 3) aNil))))))) (sRet (eL mTup (aCons (eVar 1) (aCons (e2 oAdd (e2 oAdd (eL mLst (aCons (e1 oNeg (eC (.int 1))) aNil)) (e2 oMul (eL mLst (aCons (eC (.int 0)) aNil)) (e2 oSub (eVar 0) (eC (.int 2))))) (eL mLst (aCons (eC (.int 1)) aNil))) aNil))))))
def f__law_chain : FM := runFn 5 1 d__law_chain
/-- _law_bounds_right(): 0 _law_far, 1 _law_cols, 2 _law_aim -/
def d__law_bounds_right : SD := (sSeq (sAsg (.tup [.nm 1, .nm 2]) (eL f__law_chain (aCons (eC (.int 30)) aNil))) (sSeq (sIf (bOr (bNot (bVal (eL f__law_right (aCons (eVar 1) (aCons (eVar 2) (aCons (eC (.str "shares")) aNil)))))) (bNot (bVal (eL f__law_right (aCons (e2 oAdd (eSl oSl (eVar 1) oNone (oSome (eC (.int 29)))) (eSl oSl (eVar 1) (oSome (eC (.int 30))) oNone)) (aCons (eVar 2) (aCons (eC (.str "against")) aNil))))))) (sRet (eC (.bl false))) sNx) (sSeq (sIf (bOr (bNot (bVal (eL f__law_right (aCons (e2 oAdd (e2 oMul (eL mLst (aCons (eL mLst (aCons (eC (.int 0)) (aCons (eC (.int 0)) aNil))) aNil)) (eC (.int 399))) (eL mLst (aCons (eL mLst (aCons (eC (.int 1)) (aCons (eC (.int 2)) aNil))) aNil))) (aCons (eL mLst (aCons (eC (.int 2)) (aCons (eC (.int 4)) aNil))) (aCons (eC (.str "shares")) aNil)))))) (bNot (bVal (eL f__law_right (aCons (eL mLst (aCons (e2 oMul (eL mLst (aCons (eC (.int 1)) aNil)) (eC (.int 200))) aNil)) (aCons (e2 oMul (eL mLst (aCons (eC (.int 3)) aNil)) (eC (.int 200))) (aCons (eC (.str "shares")) aNil))))))) (sRet (eC (.bl false))) sNx) (sSeq (sIf (bNot (bVal (eL f__law_right (aCons (eL mLst (aCons (e2 oMul (eL mLst (aCons (eC (.int 1)) aNil)) (eC (.int 200))) aNil)) (aCons (e2 oAdd (e2 oMul (eL mLst (aCons (eC (.int 3)) aNil)) (eC (.int 199))) (eL mLst (aCons (eC (.int 4)) aNil))) (aCons (eC (.str "against")) aNil)))))) (sRet (eC (.bl false))) sNx) (sSeq (sSet 0 (e2 oPow (eC (.int 10)) (eC (.int 40)))) (sSeq (sIf (bNot (bVal (eL f__law_right (aCons (eL mLst (aCons (eL mLst (aCons (e2 oAdd (eVar 0) (eC (.int 1))) (aCons (eVar 0) aNil))) (aCons (eL mLst (aCons (e2 oSub (eC (.int 0)) (eVar 0)) (aCons (e2 oSub (eC (.int 1)) (eVar 0)) aNil))) aNil))) (aCons (eL mLst (aCons (eC (.int 1)) (aCons (eC (.int 1)) aNil))) (aCons (eC (.str "shares")) aNil)))))) (sRet (eC (.bl false))) sNx) (sRet (eL f__law_right (aCons (eL mLst (aCons (eL mLst (aCons (e2 oAdd (eVar 0) (eC (.int 1))) (aCons (eVar 0) aNil))) (aCons (eL mLst (aCons (eVar 0) (aCons (e2 oSub (eVar 0) (eC (.int 1))) aNil))) aNil))) (aCons (eL mLst (aCons (eC (.int 1)) (aCons (eC (.int 1)) aNil))) (aCons (eC (.str "against")) aNil)))))))))))
def f__law_bounds_right : FM := runFn 3 0 d__law_bounds_right
/-- law(_law_script): 0 _law_script, 1 _law_cols, 2 _law_k, 3 _law_aim, 4 _law_due -/
def d_law : SD := (sSeq (sSet 1 (eL f__law_round_columns aNil)) (sSeq (sIf (bOr (bNot (bVal (eL f__law_right (aCons (eVar 1) (aCons (eL mLst (aCons (eC (.int 0)) (aCons (eC (.int 0)) (aCons (eC (.int 1)) (aCons (eC (.int 5)) aNil))))) (aCons (eC (.str "shares")) aNil)))))) (bNot (bVal (eL f__law_right (aCons (eVar 1) (aCons (eL mLst (aCons (eC (.int 0)) (aCons (eC (.int 0)) (aCons (eC (.int 1)) (aCons (eC (.int 6)) aNil))))) (aCons (eC (.str "against")) aNil))))))) (sRet (eC (.bl false))) sNx) (sSeq (sIf (bOr (bNot (bVal (eL f__law_right (aCons (e2 oMul (eL mLst (aCons (eL mLst (aCons (eC (.int 0)) (aCons (eC (.int 0)) aNil))) aNil)) (eC (.int 5))) (aCons (eL mLst (aCons (eC (.int 0)) (aCons (eC (.int 0)) aNil))) (aCons (eC (.str "shares")) aNil)))))) (bNot (bVal (eL f__law_right (aCons (e2 oMul (eL mLst (aCons (eL mLst (aCons (eC (.int 0)) (aCons (eC (.int 0)) aNil))) aNil)) (eC (.int 5))) (aCons (eL mLst (aCons (eC (.int 0)) (aCons (eC (.int 1)) aNil))) (aCons (eC (.str "against")) aNil))))))) (sRet (eC (.bl false))) sNx) (sSeq (sIf (bOr (bNot (bVal (eL f__law_right (aCons (eL mLst (aCons (eL mLst (aCons (eC (.int 1)) aNil)) (aCons (eL mLst (aCons (e1 oNeg (eC (.int 1))) aNil)) aNil))) (aCons (eL mLst (aCons (e1 oNeg (eC (.int 7))) aNil)) (aCons (eC (.str "shares")) aNil)))))) (bNot (bVal (eL f__law_right (aCons (e2 oMul (eL mLst (aCons (eL mLst (aCons (eC (.int 2)) (aCons (eC (.int 3)) aNil))) aNil)) (eC (.int 30))) (aCons (eL mLst (aCons (eC (.int 4)) (aCons (eC (.int 6)) aNil))) (aCons (eC (.str "shares")) aNil))))))) (sRet (eC (.bl false))) sNx) (sSeq (sIf (bNot (bVal (eL f__law_right (aCons (e2 oAdd (e2 oMul (eL mLst (aCons (eL mLst (aCons (eC (.int 0)) (aCons (eC (.int 0)) aNil))) aNil)) (eC (.int 22))) (eL mLst (aCons (eL mLst (aCons (eC (.int 1)) (aCons (eC (.int 2)) aNil))) (aCons (eL mLst (aCons (eC (.int 0)) (aCons (eC (.int 0)) aNil))) aNil)))) (aCons (eL mLst (aCons (eC (.int 3)) (aCons (eC (.int 6)) aNil))) (aCons (eC (.str "shares")) aNil)))))) (sRet (eC (.bl false))) sNx) (sSeq (sIf (bOr (bNot (bVal (eL f__law_right (aCons (e2 oMul (eL mLst (aCons (eL mLst (aCons (eC (.int 2)) (aCons (eC (.int 3)) aNil))) aNil)) (eC (.int 30))) (aCons (eL mLst (aCons (e1 oNeg (eC (.int 2))) (aCons (e1 oNeg (eC (.int 3))) aNil))) (aCons (eC (.str "against")) aNil)))))) (bNot (bVal (eL f__law_right (aCons (e2 oMul (eL mLst (aCons (eL mLst (aCons (eC (.int 2)) (aCons (eC (.int 3)) aNil))) aNil)) (eC (.int 30))) (aCons (eL mLst (aCons (eC (.int 4)) (aCons (eC (.int 5)) aNil))) (aCons (eC (.str "against")) aNil))))))) (sRet (eC (.bl false))) sNx) (sSeq (sIf (bNot (bVal (eL f__law_bounds_right aNil))) (sRet (eC (.bl false))) sNx) (sSeq (sFor (imOfA mItR1 (aCons (eL fMax2 (aCons (eC (.int 1)) (aCons (eL fMin2 (aCons (eL fLen (aCons (eVar 0) aNil)) (aCons (eC (.int 3)) aNil))) aNil))) aNil)) (.nm 2) (sSeq (sAsg (.tup [.nm 1, .nm 3, .nm 4]) (eL f__law_flat (aCons (eL f__law_pool (aCons (eVar 0) (aCons (eVar 2) aNil))) aNil))) (sIf (bNot (bVal (eL f__law_right (aCons (eVar 1) (aCons (eVar 3) (aCons (eVar 4) aNil)))))) (sRet (eC (.bl false))) sNx))) (sRet (eC (.bl true)))))))))))
def f_law : FM := runFn 5 1 d_law
end
end Lw

namespace Lp
open PySem PySem.Spec PyProof.Rows DL
noncomputable section
local macro_rules | `(tactic| walk_at "sz") => `(tactic| first | (simp [sizeLine_eq]; done) | (simp only [List.length_cons, List.length_nil, sizeLine_eq]; omega) | (rw [sizeLine_eq]; omega))
local macro_rules | `(tactic| walk_at "dl1") => `(tactic| first
  | (with_reducible refine k_seq ?_) | (with_reducible refine k_set ?_) | (with_reducible refine k_L ?_) | (with_reducible refine k_cons ?_) | (with_reducible refine k_nil ?_) | (with_reducible refine k_c ?_)
  | ((with_reducible refine k_var (d := ?dd) ?hh ?_); (case hh => rfl))
  | (with_reducible refine k_e2 ?_) | (with_reducible refine k_e1 ?_) | (with_reducible refine k_ret ?_) | (with_reducible refine k_if ?_) | (with_reducible refine k_bVal ?_) | (with_reducible refine k_mBool ?_)
  | (with_reducible refine k_nx ?_) | (with_reducible refine k_for ?_) | (with_reducible refine k_imOf ?_) | (with_reducible refine k_imOfA ?_) | (with_reducible refine k_expr ?_) | (with_reducible refine k_chain ?_)
  | (with_reducible refine k_eAnd ?_) | (with_reducible refine k_eOr ?_) | (with_reducible refine k_eNot ?_) | (with_reducible refine k_bAnd ?_) | (with_reducible refine k_bOr ?_) | (with_reducible refine k_bNot ?_) | (with_reducible refine k_eIf ?_)
  | (with_reducible refine k_K ?_) | (with_reducible refine k_Sl ?_) | (with_reducible refine k_oNone ?_) | ((with_reducible refine k_oSome ?_); skip) | (with_reducible refine k_lc ?_) | (with_reducible refine k_lcC ?_) | (with_reducible refine k_sub ?_) | (with_reducible refine k_yes ?_)
  | (with_reducible refine k_Mt ?_) | (with_reducible refine k_brk ?_) | (with_reducible refine k_cnt ?_) | (with_reducible refine k_retN ?_) | (with_reducible refine k_asg ?_) | (with_reducible refine k_asgL ?_) | (with_reducible refine k_par ?_) | (with_reducible refine k_star ?_)
  | ((with_reducible refine k_tup ?hz ?_); (case hz => walk_at "sz")) | ((with_reducible refine k_lst ?hz ?_); (case hz => walk_at "sz")) | ((with_reducible refine k_cell ?hz ?_); (case hz => walk_at "sz"))
  | (with_reducible refine o_add ?_) | (with_reducible refine o_sub ?_) | (with_reducible refine o_lt ?_) | (with_reducible refine o_le ?_) | (with_reducible refine o_gt ?_) | (with_reducible refine o_ge ?_) | (with_reducible refine o_neg ?_)
  | (with_reducible refine o_eqI ?_) | (with_reducible refine o_neI ?_) | (with_reducible refine o_eqS ?_) | (with_reducible refine o_neS ?_) | (with_reducible refine o_eqB ?_) | (with_reducible refine o_abs ?_) | (with_reducible refine o_max2 ?_) | (with_reducible refine o_min2 ?_)
  | (with_reducible refine o_intB ?_) | (with_reducible refine o_intI ?_)
  | ((with_reducible refine o_ix (v := ?vv) ?hi ?_); (case hi => rfl)) | ((with_reducible refine o_lenL (xs := ?vv) ?hi ?_); (case hi => rfl)) | ((with_reducible refine o_sl (xs := ?vv) ?hi ?_); (case hi => rfl))
  | (with_reducible refine L2.iteT ?_) | (with_reducible refine L2.iteF ?_)
  | (with_reducible refine ⟨_, rfl, ?_⟩) | (with_reducible refine ⟨_, _, rfl, ?_⟩)
  | dsimp only)
local macro_rules | `(tactic| walk_at "dl") => `(tactic| repeat walk_at "dl1")

/-! ### the law's pool -/
/-- the pool at p -/
def IsPool (S : Sto) (p : Nat) : Prop := ∃ a b : Int, 0 ≤ a ∧ 0 ≤ b ∧ S[p]? = some (some (.lst [.int a, .int b]))
/-- only the pool at p is drawn from -/
structure SP (p : Nat) (S S' : Sto) : Prop where
  len : S'.length = S.length
  oth : ∀ i : Nat, i ≠ p → S'[i]? = S[i]?
  pool : IsPool S' p
theorem SP.refl {p : Nat} {S : Sto} (h : IsPool S p) : SP p S S := ⟨rfl, fun _ _ => rfl, h⟩
theorem SP.trans {p : Nat} {S S1 S2 : Sto} (a : SP p S S1) (b : SP p S1 S2) : SP p S S2 := ⟨b.len.trans a.len, fun i h => (b.oth i h).trans (a.oth i h), b.pool⟩
theorem SP.set {p : Nat} {S : Sto} {a b : Int} (h : IsPool S p) (h0 : 0 ≤ a) (h1 : 0 ≤ b) : SP p S (S.set p (some (.lst [.int a, .int b]))) := by
  obtain ⟨_, _, _, _, e⟩ := h
  have hp := (List.getElem?_eq_some_iff.mp e).1
  exact ⟨by simp, fun i hi => by rw [List.getElem?_set_ne (Ne.symm hi)], a, b, h0, h1, by rw [List.getElem?_set_self hp]⟩
theorem pool_ix {p : Nat} {S : Sto} {a b : Int} (h : S[p]? = some (some (.lst [.int a, .int b]))) : seqOf S (.cell p) = some [.int a, .int b] := by simp [seqOf, DL.listOf, h]
theorem take_ok {p : Nat} {S : Sto} {n : Int} {P : D → Sto → Prop} (h : IsPool S p) (h0 : 0 < n) (hn : n < 2 ^ 62) (k : ∀ (r : Int) S', 0 ≤ r → r < n → SP p S S' → P (.int r) S') : Ok (Lw.f__law_take [.cell p, .int n] S) P := by
  obtain ⟨a, b, ha, hb, e⟩ := id h
  have hp := (List.getElem?_eq_some_iff.mp e).1
  have hlog : n.natAbs.log2 < 9000 := (show Sz 62 n by unfold Sz; omega).log (by decide) |> fun z => by omega
  unfold Lw.f__law_take
  refine k_fn rfl ?_
  unfold Lw.d__law_take
  walk_at "dl"
  refine o_ix (v := .int a) (by rw [pool_ix e]; rfl) ?_
  walk_at "dl"
  by_cases hz : 0 < a
  · rw [if_pos (by simpa using hz)]
    walk_at "dl"
    refine o_ix (v := .int a) (by rw [pool_ix e]; rfl) ?_
    walk_at "dl"
    refine o_mod (by omega) ?_
    walk_at "dl"
    refine o_ix (v := .int a) (by rw [pool_ix e]; rfl) ?_
    walk_at "dl"
    refine o_fdiv (by omega) hlog ?_
    walk_at "dl"
    refine ⟨S.set p (some (.lst [.int (a.fdiv n), .int b])), by simp only [setD, e]; rfl, ?_⟩
    walk_at "dl"
    rw [trim_same (by simp)]
    refine k _ _ ?_ ?_ (SP.set h ?_ hb)
    · rw [Int.fmod_eq_emod_of_nonneg _ (by omega)]; exact Int.emod_nonneg _ (by omega)
    · rw [Int.fmod_eq_emod_of_nonneg _ (by omega)]; exact Int.emod_lt_of_pos _ h0
    · rw [Int.fdiv_eq_ediv_of_nonneg _ (by omega)]; exact Int.ediv_nonneg ha (by omega)
  · rw [if_neg (by simpa using hz)]
    walk_at "dl"
    refine o_ix (v := .int b) (by rw [pool_ix e]; rfl) ?_
    walk_at "dl"
    refine o_mul (.of_right (by decide)) ?_
    walk_at "dl"
    refine o_mod (by decide) ?_
    walk_at "dl"
    generalize hc : (b * 69621 + 7).fmod 2147483647 = c
    have hc0 : 0 ≤ c := by rw [← hc, Int.fmod_eq_emod_of_nonneg _ (by decide)]; exact Int.emod_nonneg _ (by decide)
    have hc1 : c < 2147483647 := by rw [← hc, Int.fmod_eq_emod_of_nonneg _ (by decide)]; exact Int.emod_lt_of_pos _ (by decide)
    have e2 : (S.set p (some (CO.lst [.int a, .int c])))[p]? = some (some (.lst [.int a, .int c])) := by rw [List.getElem?_set_self hp]
    refine ⟨S.set p (some (.lst [.int a, .int c])), by simp only [setD, e]; rfl, ?_⟩
    walk_at "dl"
    refine o_ix (v := .int c) (by rw [pool_ix e2]; rfl) ?_
    walk_at "dl"
    refine o_ix (v := .int c) (by rw [pool_ix e2]; rfl) ?_
    walk_at "dl"
    have sc : Sz 32 c := by unfold Sz; omega
    refine o_mul (sc.mulOk sc) ?_
    walk_at "dl"
    refine o_mod (by decide) ?_
    walk_at "dl"
    refine o_fdiv (by decide) (by decide) ?_
    walk_at "dl"
    refine o_mod (by omega) ?_
    walk_at "dl"
    rw [trim_same (by simp)]
    refine k _ _ ?_ ?_ (SP.set h ha hc0)
    · rw [Int.fmod_eq_emod_of_nonneg _ (by omega)]; exact Int.emod_nonneg _ (by omega)
    · rw [Int.fmod_eq_emod_of_nonneg _ (by omega)]; exact Int.emod_lt_of_pos _ h0

/-! ### fractions, lowest terms -/
def fD (f : Fr) : D := .tup [.int f.1, .int f.2]
theorem gcd_step {a b : Int} (ha : 0 ≤ a) (hb : 0 < b) : Int.gcd b (a.fmod b) = Int.gcd a b := by
  obtain ⟨m, rfl⟩ := Int.eq_ofNat_of_zero_le ha
  obtain ⟨n, rfl⟩ := Int.eq_ofNat_of_zero_le (Int.le_of_lt hb)
  rw [Int.fmod_eq_emod_of_nonneg _ (by omega)]
  show Nat.gcd (n : Int).natAbs ((m : Int) % (n : Int)).natAbs = Nat.gcd (m : Int).natAbs (n : Int).natAbs
  rw [show ((m : Int) % (n : Int)).natAbs = m % n by omega, Int.natAbs_natCast, Int.natAbs_natCast, Nat.gcd_comm m n, Nat.gcd_comm n (m % n)]
  exact (Nat.gcd_rec n m).symm
def muI (i : Nat) (ρ : DL.Env) : Nat := match ρ[i]? with
  | some (some (.int b)) => b.toNat
  | _ => 0
theorem low_ok {t b : Int} {k : Nat} {S : Sto} {P : D → Sto → Prop} (hb : b ≠ 0) (hk : k ≤ 8000) (h1 : Sz k b) (q : P (fD (lowF t b)) S) : Ok (Lw.f__law_low [.int t, .int b] S) P := by
  have g0 := gcd_pos (t := t) hb
  unfold Lw.f__law_low
  refine k_fn rfl ?_
  unfold Lw.d__law_low
  walk_at "dl"
  refine k_while (fun ρ S' => S' = S ∧ ∃ x y : Int, 0 ≤ x ∧ 0 ≤ y ∧ Int.gcd x y = Int.gcd t b ∧ ρ = [some (.int t), some (.int b), some (.int x), some (.int y)]) (fun ρ _ => muI 3 ρ) ⟨rfl, t.natAbs, b.natAbs, by omega, by omega, by simp [Int.gcd], rfl⟩ ?_ ?_
  · show Int.toNat (b.natAbs : Int) < FU
    exact FU_gt (k := k) (by unfold Sz at *; omega) (by omega)
  rintro ρ S' ⟨rfl, x, y, hx, hy, hg, rfl⟩
  walk_at "dl"
  by_cases hz : 0 < y
  · rw [if_pos (by simpa using hz)]
    walk_at "dl"
    refine o_mod (by omega) ?_
    walk_at "dl"
    refine ⟨⟨rfl, y, x.fmod y, hy, ?_, ?_, rfl⟩, ?_⟩
    · rw [Int.fmod_eq_emod_of_nonneg _ (by omega)]; exact Int.emod_nonneg _ (by omega)
    · rw [gcd_step hx hz, hg]
    · show Int.toNat (x.fmod y) < Int.toNat y
      rw [Int.fmod_eq_emod_of_nonneg _ (by omega)]
      have := Int.emod_lt_of_pos x hz
      have := Int.emod_nonneg x (show y ≠ 0 by omega)
      omega
  · have : y = 0 := by omega
    subst this
    have hx' : x = (Int.gcd t b : Int) := by
      rw [← hg]; simp [Int.gcd]; omega
    subst hx'
    have hgb : Int.gcd t b ≤ b.natAbs := Nat.le_of_dvd (by omega) (Int.gcd_dvd_natAbs_right t b)
    have hgl : (Int.gcd t b : Int).natAbs.log2 < 9000 := by
      have : Sz k (Int.gcd t b : Int) := Nat.lt_of_le_of_lt (by simpa using hgb) h1
      have := (this.mono (Nat.le_max_left k 1)).log (by omega)
      omega
    rw [if_neg (by simp)]
    walk_at "dl"
    by_cases hs : b < 0
    · rw [if_pos (by simpa using hs)]
      walk_at "dl"
      refine o_fdiv (by omega) (by simp only [Int.zero_sub, Int.natAbs_neg]; exact hgl) ?_
      walk_at "dl"
      refine o_fdiv (by omega) (by simp only [Int.zero_sub, Int.natAbs_neg]; exact hgl) ?_
      walk_at "dl"
      rw [trim_same rfl]
      unfold fD lowF at q
      rw [if_pos hs] at q
      try rw [Int.zero_sub]
      exact q
    · rw [if_neg (by simpa using hs)]
      walk_at "dl"
      refine o_fdiv (by omega) hgl ?_
      walk_at "dl"
      refine o_fdiv (by omega) hgl ?_
      walk_at "dl"
      rw [trim_same rfl]
      unfold fD lowF at q
      rw [if_neg hs] at q
      exact q
theorem shared_ok {t b : Int} {k : Nat} {S : Sto} {P : D → Sto → Prop} (hk : k ≤ 8000) (h1 : Sz k b) (q : P (.int (Int.gcd t b)) S) : Ok (Lw.f_shared_by [.int t, .int b] S) P := by
  unfold Lw.f_shared_by
  refine k_fn rfl ?_
  unfold Lw.d_shared_by
  walk_at "dl"
  refine k_while (fun ρ S' => S' = S ∧ ∃ x y : Int, 0 ≤ x ∧ 0 ≤ y ∧ Int.gcd x y = Int.gcd t b ∧ ρ = [some (.int x), some (.int y)]) (fun ρ _ => muI 1 ρ) ⟨rfl, t.natAbs, b.natAbs, by omega, by omega, by simp [Int.gcd], rfl⟩ ?_ ?_
  · show Int.toNat (b.natAbs : Int) < FU
    exact FU_gt (k := k) (by unfold Sz at *; omega) (by omega)
  rintro ρ S' ⟨rfl, x, y, hx, hy, hg, rfl⟩
  walk_at "dl"
  by_cases hz : 0 < y
  · rw [if_pos (by simpa using hz)]
    walk_at "dl"
    refine o_mod (by omega) ?_
    walk_at "dl"
    refine ⟨⟨rfl, y, x.fmod y, hy, ?_, ?_, rfl⟩, ?_⟩
    · rw [Int.fmod_eq_emod_of_nonneg _ (by omega)]; exact Int.emod_nonneg _ (by omega)
    · rw [gcd_step hx hz, hg]
    · show Int.toNat (x.fmod y) < Int.toNat y
      rw [Int.fmod_eq_emod_of_nonneg _ (by omega)]
      have := Int.emod_lt_of_pos x hz
      have := Int.emod_nonneg x (show y ≠ 0 by omega)
      omega
  · have : y = 0 := by omega
    subst this
    have hx' : x = (Int.gcd t b : Int) := by
      rw [← hg]; simp [Int.gcd]; omega
    subst hx'
    rw [if_neg (by simp)]
    walk_at "dl"
    rw [trim_same rfl]
    exact q
theorem lowest_ok {t b : Int} {k : Nat} {S : Sto} {P : D → Sto → Prop} (hb : b ≠ 0) (hk : k ≤ 8000) (h1 : Sz k b) (q : P (fD (lowF t b)) S) : Ok (Lw.f_lowest [.int t, .int b] S) P := by
  have g0 := gcd_pos (t := t) hb
  have hgb : Int.gcd t b ≤ b.natAbs := Nat.le_of_dvd (by omega) (Int.gcd_dvd_natAbs_right t b)
  have hgl : (Int.gcd t b : Int).natAbs.log2 < 9000 := by
    have : Sz k (Int.gcd t b : Int) := Nat.lt_of_le_of_lt (by simpa using hgb) h1
    have := (this.mono (Nat.le_max_left k 1)).log (by omega)
    omega
  unfold Lw.f_lowest
  refine k_fn rfl ?_
  unfold Lw.d_lowest
  walk_at "dl"
  refine shared_ok hk h1 ?_
  walk_at "dl"
  by_cases hs : b < 0
  · rw [if_pos (by simpa using hs)]
    walk_at "dl"
    refine o_fdiv (by omega) (by rw [Int.natAbs_neg]; exact hgl) ?_
    walk_at "dl"
    refine o_fdiv (by omega) (by rw [Int.natAbs_neg]; exact hgl) ?_
    walk_at "dl"
    rw [trim_same rfl]
    unfold fD lowF at q
    rw [if_pos hs] at q
    exact q
  · rw [if_neg (by simpa using hs)]
    walk_at "dl"
    refine o_fdiv (by omega) hgl ?_
    walk_at "dl"
    refine o_fdiv (by omega) hgl ?_
    walk_at "dl"
    rw [trim_same rfl]
    unfold fD lowF at q
    rw [if_neg hs] at q
    exact q
theorem law_plus_ok {f g : Fr} {k l k' l' : Nat} {S : Sto} {P : D → Sto → Prop} (hf : FrS k l f) (hg : FrS k' l' g) (hk : k ≤ 4000) (hl : l ≤ 4000) (hk' : k' ≤ 4000) (hl' : l' ≤ 4000) (q : P (fD (plusF f g)) S) : Ok (Lw.f__law_plus [fD f, fD g] S) P := by
  unfold Lw.f__law_plus
  refine k_fn rfl ?_
  unfold Lw.d__law_plus fD
  walk_at "dl"
  refine o_mul (hf.t.mulOk hg.b (by omega) (by omega)) ?_
  walk_at "dl"
  refine o_mul (hg.t.mulOk hf.b (by omega) (by omega)) ?_
  walk_at "dl"
  refine o_mul (hf.b.mulOk hg.b (by omega) (by omega)) ?_
  walk_at "dl"
  refine low_ok (mul_nz hf.nz hg.nz) (by omega) (hf.b.mul hg.b) ?_
  rw [trim_same rfl]
  exact q
theorem law_times_ok {f g : Fr} {k l k' l' : Nat} {S : Sto} {P : D → Sto → Prop} (hf : FrS k l f) (hg : FrS k' l' g) (hk : k ≤ 4000) (hl : l ≤ 4000) (hk' : k' ≤ 4000) (hl' : l' ≤ 4000) (q : P (fD (timesF f g)) S) : Ok (Lw.f__law_times [fD f, fD g] S) P := by
  unfold Lw.f__law_times
  refine k_fn rfl ?_
  unfold Lw.d__law_times fD
  walk_at "dl"
  refine o_mul (hf.t.mulOk hg.t (by omega) (by omega)) ?_
  walk_at "dl"
  refine o_mul (hf.b.mulOk hg.b (by omega) (by omega)) ?_
  walk_at "dl"
  refine low_ok (mul_nz hf.nz hg.nz) (by omega) (hf.b.mul hg.b) ?_
  rw [trim_same rfl]
  exact q
theorem times_ok {f g : Fr} {k l k' l' : Nat} {S : Sto} {P : D → Sto → Prop} (hf : FrS k l f) (hg : FrS k' l' g) (hk : k ≤ 4000) (hl : l ≤ 4000) (hk' : k' ≤ 4000) (hl' : l' ≤ 4000) (q : P (fD (timesF f g)) S) : Ok (Lw.f_times [fD f, fD g] S) P := by
  unfold Lw.f_times
  refine k_fn rfl ?_
  unfold Lw.d_times fD
  walk_at "dl"
  refine o_mul (hf.t.mulOk hg.t (by omega) (by omega)) ?_
  walk_at "dl"
  refine o_mul (hf.b.mulOk hg.b (by omega) (by omega)) ?_
  walk_at "dl"
  refine lowest_ok (mul_nz hf.nz hg.nz) (by omega) (hf.b.mul hg.b) ?_
  rw [trim_same rfl]
  exact q
theorem plus_ok {f g : Fr} {k l k' l' : Nat} {S : Sto} {P : D → Sto → Prop} (hf : FrS k l f) (hg : FrS k' l' g) (hk : k ≤ 4000) (hl : l ≤ 4000) (hk' : k' ≤ 4000) (hl' : l' ≤ 4000) (q : P (fD (plusF f g)) S) : Ok (Lw.f_plus [fD f, fD g] S) P := by
  unfold Lw.f_plus
  refine k_fn rfl ?_
  unfold Lw.d_plus fD
  walk_at "dl"
  by_cases h1 : f.2 = g.2
  · rw [if_pos (by simpa using h1)]
    walk_at "dl"
    by_cases h2 : g.2 = 1
    · rw [if_pos (by simpa using h2)]
      walk_at "dl"
      rw [trim_same rfl]
      have e : plusF f g = (f.1 + g.1, 1) := by
        obtain ⟨a, b⟩ := f
        obtain ⟨c, d⟩ := g
        dsimp only at h1 h2
        subst h2 h1
        exact plus_one
      rw [e] at q
      exact q
    · rw [if_neg (by simpa using h2)]
      walk_at "dl"
      refine o_mul (hf.t.mulOk hg.b (by omega) (by omega)) ?_
      walk_at "dl"
      refine o_mul (hg.t.mulOk hf.b (by omega) (by omega)) ?_
      walk_at "dl"
      refine o_mul (hf.b.mulOk hg.b (by omega) (by omega)) ?_
      walk_at "dl"
      refine lowest_ok (mul_nz hf.nz hg.nz) (by omega) (hf.b.mul hg.b) ?_
      rw [trim_same rfl]
      exact q
  · rw [if_neg (by simpa using h1)]
    walk_at "dl"
    refine o_mul (hf.t.mulOk hg.b (by omega) (by omega)) ?_
    walk_at "dl"
    refine o_mul (hg.t.mulOk hf.b (by omega) (by omega)) ?_
    walk_at "dl"
    refine o_mul (hf.b.mulOk hg.b (by omega) (by omega)) ?_
    walk_at "dl"
    refine lowest_ok (mul_nz hf.nz hg.nz) (by omega) (hf.b.mul hg.b) ?_
    rw [trim_same rfl]
    exact q
theorem fD_eq (f g : Fr) : PyData.eqv (fD f).py (fD g).py = decide (f = g) := by
  obtain ⟨a, b⟩ := f
  obtain ⟨c, d⟩ := g
  simp only [fD, D.py, D.pyL, PyData.eqv, PyData.eqvAll]
  simp
  rfl

/-! ### what is drawn -/
theorem atI_mem {xs : List D} {i : Int} (h0 : 0 ≤ i) (h1 : i < xs.length) : ∃ v, v ∈ xs ∧ L2.atI xs i = some v := by
  have hi : i.toNat < xs.length := by omega
  refine ⟨xs[i.toNat], List.getElem_mem hi, ?_⟩
  unfold L2.atI L2.ixN
  rw [if_pos h0, if_pos h1]
  exact List.getElem?_eq_getElem hi
theorem o_pick {xs : List D} {i : Int} {S : Sto} {P : D → Sto → Prop} (Q : D → Prop) (h0 : 0 ≤ i) (h1 : i < xs.length) (hq : ∀ d ∈ xs, Q d) (q : ∀ v, Q v → P v S) : Ok (oIx (.lst xs) (.int i) S) P := by
  obtain ⟨v, hm, e⟩ := atI_mem h0 h1
  exact o_ix (v := v) (by show L2.atI xs i = _; exact e) (q v (hq v hm))
/-! ### kinds of things -/
def kn : D → String
  | .non => "NoneType"
  | .bl _ => "bool"
  | .int _ => "int"
  | .str _ => "str"
  | .tup _ => "tuple"
  | .dE => "dict"
  | _ => "list"
def isT : D → Bool
  | .tup _ => true
  | _ => false
def isL : D → Bool
  | .lst _ => true
  | .ro _ => true
  | _ => false
def isI : D → Bool
  | .int _ => true
  | .bl _ => true
  | _ => false
def isB : D → Bool
  | .bl _ => true
  | _ => false
def isS : D → Bool
  | .str _ => true
  | _ => false
def isW : D → Bool
  | .int _ => true
  | _ => false
theorem kind_pr {S : Sto} {k : Nat} {d : D} (h : d.pr k = true) : kindD S d = some (kn d) := by
  cases d with
  | cell n => simp [D.pr] at h
  | ty n => simp [D.pr] at h
  | err _ _ _ => simp [D.pr] at h
  | cls _ => simp [D.pr] at h
  | _ => rfl
section
variable {S : Sto} {P : D → Sto → Prop} {k : Nat} {d : D}
theorem o_isT (h : d.pr k = true) (q : P (.bl (isT d)) S) : Ok (fIsi [d, .ty "tuple"] S) P := by
  refine o_isi (kind_pr h) ?_ q
  cases d with
  | cell n => simp [D.pr] at h
  | ty n => simp [D.pr] at h
  | err _ _ _ => simp [D.pr] at h
  | cls _ => simp [D.pr] at h
  | _ => simp only [kn, isT, isL, isI, isB, isS]; decide +kernel
theorem o_isI (h : d.pr k = true) (q : P (.bl (isI d)) S) : Ok (fIsi [d, .ty "int"] S) P := by
  refine o_isi (kind_pr h) ?_ q
  cases d with
  | cell n => simp [D.pr] at h
  | ty n => simp [D.pr] at h
  | err _ _ _ => simp [D.pr] at h
  | cls _ => simp [D.pr] at h
  | _ => simp only [kn, isT, isL, isI, isB, isS]; decide +kernel
theorem o_isB (h : d.pr k = true) (q : P (.bl (isB d)) S) : Ok (fIsi [d, .ty "bool"] S) P := by
  refine o_isi (kind_pr h) ?_ q
  cases d with
  | cell n => simp [D.pr] at h
  | ty n => simp [D.pr] at h
  | err _ _ _ => simp [D.pr] at h
  | cls _ => simp [D.pr] at h
  | _ => simp only [kn, isT, isL, isI, isB, isS]; decide +kernel
theorem isW_eq (d : D) : isW d = (isI d && !isB d) := by cases d <;> rfl
theorem is_whole_ok (h : d.pr k = true) (q : P (.bl (isW d)) S) : Ok (Lw.f_is_whole [d] S) P := by
  unfold Lw.f_is_whole
  refine k_fn rfl ?_
  unfold Lw.d_is_whole
  walk_at "dl"
  refine o_isI h ?_
  walk_at "dl"
  rw [isW_eq] at q
  cases hI : isI d with
  | false =>
    rw [if_neg (by simp)]
    rw [trim_same rfl]
    rw [hI] at q; exact q
  | true =>
    rw [if_pos rfl]
    walk_at "dl"
    refine o_isB h ?_
    walk_at "dl"
    rw [trim_same rfl]
    rw [hI] at q; exact q
theorem law_is_whole_ok (h : d.pr k = true) (q : P (.bl (isW d)) S) : Ok (Lw.f__law_is_whole [d] S) P := by
  unfold Lw.f__law_is_whole
  refine k_fn rfl ?_
  unfold Lw.d__law_is_whole
  walk_at "dl"
  refine o_isI h ?_
  walk_at "dl"
  rw [isW_eq] at q
  cases hI : isI d with
  | false =>
    rw [if_neg (by simp)]
    rw [trim_same rfl]
    rw [hI] at q; exact q
  | true =>
    rw [if_pos rfl]
    walk_at "dl"
    refine o_isB h ?_
    walk_at "dl"
    rw [trim_same rfl]
    rw [hI] at q; exact q
end
/-- the shapes that are told apart -/
theorem fr_shape (d : D) : isT d = false ∨ (∃ xs, d = .tup xs ∧ xs.length ≠ 2) ∨ ∃ x y, d = .tup [x, y] := by
  cases d with
  | tup xs =>
    right
    by_cases h : xs.length = 2
    · right
      match xs, h with
      | [x, y], _ => exact ⟨x, y, rfl⟩
    · exact .inl ⟨xs, rfl, h⟩
  | _ => exact .inl rfl
theorem pr_two {k : Nat} {x y : D} (h : (D.tup [x, y]).pr k = true) : x.pr (k - 1) = true ∧ y.pr (k - 1) = true := by
  simp only [D.pr, D.prL, Bool.and_eq_true] at h
  exact ⟨h.2.1, h.2.2.1⟩

/-! ### what is a fraction -/
def frB : D → Bool
  | .tup [.int a, .int b] => decide (0 < b) && decide (Int.gcd a b = 1)
  | _ => false
theorem low_iff {a b : Int} (h : 0 < b) : lowF a b = (a, b) ↔ Int.gcd a b = 1 := by
  constructor
  · intro e
    have := (low_spec (t := a) (b := b) (by omega)).1.2
    rw [e] at this; exact this
  · intro e
    exact low_self (f := (a, b)) ⟨h, e⟩
theorem frB_not {x y : D} (h : isW x = false ∨ isW y = false) : frB (.tup [x, y]) = false := by
  cases x <;> cases y <;> first | rfl | (rcases h with h | h <;> simp [isW] at h)
/-- what may be asked -/
structure Fo (d : D) : Prop where
  pr : d.pr 40 = true
  sz : ∀ a b, d = .tup [.int a, .int b] → Sz 2000 b
section
variable {S : Sto} {P : D → Sto → Prop} {d : D}
theorem is_fraction_ok (h : Fo d) (q : P (.bl (frB d)) S) : Ok (Lw.f_is_fraction [d] S) P := by
  unfold Lw.f_is_fraction
  refine k_fn rfl ?_
  unfold Lw.d_is_fraction
  walk_at "dl"
  refine o_isT h.pr ?_
  walk_at "dl"
  rcases fr_shape d with hT | ⟨xs, rfl, hx⟩ | ⟨x, y, rfl⟩
  · rw [hT]
    refine k_ifT (by simp) ?_
    refine k_ifT (by simp) ?_
    walk_at "dl"
    rw [trim_same rfl]
    have e : frB d = false := by cases d <;> first | rfl | cases hT
    rw [e] at q; exact q
  · rw [if_neg (by simp [isT])]
    walk_at "dl"
    refine k_ifT (by simp; omega) ?_
    refine k_ifT (by simp) ?_
    walk_at "dl"
    rw [trim_same rfl]
    have e : frB (.tup xs) = false := by
      unfold frB
      split
      · rename_i e; cases e; simp at hx
      · rfl
    rw [e] at q; exact q
  · obtain ⟨px, py⟩ := pr_two h.pr
    rw [if_neg (by simp [isT])]
    walk_at "dl"
    rw [if_neg (by simp)]
    walk_at "dl"
    refine is_whole_ok px ?_
    walk_at "dl"
    cases hx : isW x with
    | false =>
      refine k_ifT (by simp) ?_
      refine k_ifT (by simp) ?_
      walk_at "dl"
      rw [trim_same rfl]
      rw [frB_not (.inl hx)] at q; exact q
    | true =>
      rw [if_neg (by simp)]
      walk_at "dl"
      refine is_whole_ok py ?_
      walk_at "dl"
      cases hy : isW y with
      | false =>
        refine k_ifT (by simp) ?_
        walk_at "dl"
        rw [trim_same rfl]
        rw [frB_not (.inr hy)] at q; exact q
      | true =>
        rw [if_neg (by simp)]
        walk_at "dl"
        cases x with
        | int a =>
          cases y with
          | int b =>
            have sb : Sz 2000 b := h.sz a b rfl
            walk_at "dl"
            by_cases hb : 1 ≤ b
            · rw [if_pos (by simpa using hb)]
              walk_at "dl"
              refine shared_ok (k := 2000) (by decide) sb ?_
              walk_at "dl"
              rw [trim_same rfl]
              have e : decide ((Int.gcd a b : Int) = 1) = frB (.tup [.int a, .int b]) := by
                show _ = (decide (0 < b) && decide (Int.gcd a b = 1))
                rw [decide_eq_true (show 0 < b by omega), Bool.true_and]
                exact decide_eq_decide.mpr (by omega)
              rw [e]; exact q
            · rw [if_neg (by simpa using hb)]
              rw [trim_same rfl]
              have e : frB (.tup [.int a, .int b]) = false := by
                show (decide (0 < b) && decide (Int.gcd a b = 1)) = false
                rw [decide_eq_false (show ¬0 < b by omega), Bool.false_and]
              rw [e] at q; exact q
          | _ => cases hy
        | _ => cases hx
theorem law_is_fraction_ok (h : Fo d) (q : P (.bl (frB d)) S) : Ok (Lw.f__law_is_fraction [d] S) P := by
  unfold Lw.f__law_is_fraction
  refine k_fn rfl ?_
  unfold Lw.d__law_is_fraction
  walk_at "dl"
  refine o_isT h.pr ?_
  walk_at "dl"
  rcases fr_shape d with hT | ⟨xs, rfl, hx⟩ | ⟨x, y, rfl⟩
  · rw [hT]
    refine k_ifT (by simp) ?_
    refine k_ifT (by simp) ?_
    walk_at "dl"
    rw [trim_same rfl]
    have e : frB d = false := by cases d <;> first | rfl | cases hT
    rw [e] at q; exact q
  · rw [if_neg (by simp [isT])]
    walk_at "dl"
    refine k_ifT (by simp; omega) ?_
    refine k_ifT (by simp) ?_
    walk_at "dl"
    rw [trim_same rfl]
    have e : frB (.tup xs) = false := by
      unfold frB
      split
      · rename_i e; cases e; simp at hx
      · rfl
    rw [e] at q; exact q
  · obtain ⟨px, py⟩ := pr_two h.pr
    rw [if_neg (by simp [isT])]
    walk_at "dl"
    rw [if_neg (by simp)]
    walk_at "dl"
    refine law_is_whole_ok px ?_
    walk_at "dl"
    cases hx : isW x with
    | false =>
      refine k_ifT (by simp) ?_
      refine k_ifT (by simp) ?_
      walk_at "dl"
      rw [trim_same rfl]
      rw [frB_not (.inl hx)] at q; exact q
    | true =>
      rw [if_neg (by simp)]
      walk_at "dl"
      refine law_is_whole_ok py ?_
      walk_at "dl"
      cases hy : isW y with
      | false =>
        refine k_ifT (by simp) ?_
        walk_at "dl"
        rw [trim_same rfl]
        rw [frB_not (.inr hy)] at q; exact q
      | true =>
        rw [if_neg (by simp)]
        walk_at "dl"
        cases x with
        | int a =>
          cases y with
          | int b =>
            have sb : Sz 2000 b := h.sz a b rfl
            walk_at "dl"
            by_cases hb : 0 < b
            · rw [if_pos (by simpa using hb)]
              walk_at "dl"
              refine low_ok (k := 2000) (by omega) (by decide) sb ?_
              walk_at "dl"
              refine o_eqD (by intro s hs; cases hs) (by rfl) (by rfl) ?_
              rw [trim_same rfl]
              rw [show topD S (fD (lowF a b)) = fD (lowF a b) from rfl, show topD S (.tup [.int a, .int b]) = fD (a, b) from rfl, fD_eq]
              have e : decide (lowF a b = (a, b)) = frB (.tup [.int a, .int b]) := by
                show _ = (decide (0 < b) && decide (Int.gcd a b = 1))
                rw [decide_eq_true hb, Bool.true_and]
                exact decide_eq_decide.mpr (low_iff hb)
              rw [e]; exact q
            · rw [if_neg (by simpa using hb)]
              rw [trim_same rfl]
              have e : frB (.tup [.int a, .int b]) = false := by
                show (decide (0 < b) && decide (Int.gcd a b = 1)) = false
                rw [decide_eq_false hb, Bool.false_and]
              rw [e] at q; exact q
          | _ => cases hy
        | _ => cases hx
end

/-! ### fractions as numbers -/
def val (f : Fr) : Rat := Rat.divInt f.1 f.2
theorem val_low {t b : Int} (h : b ≠ 0) : val (lowF t b) = Rat.divInt t b := by
  obtain ⟨h1, h2⟩ := low_spec (t := t) h
  have := h1.1
  exact (Rat.divInt_eq_divInt_iff (by omega) h).mpr h2
theorem val_plus {f g : Fr} (hf : f.2 ≠ 0) (hg : g.2 ≠ 0) : val (plusF f g) = val f + val g := by
  unfold plusF
  rw [val_low (mul_nz hf hg)]
  unfold val
  rw [Rat.divInt_add_divInt _ _ hf hg]
theorem val_times {f g : Fr} (hf : f.2 ≠ 0) (hg : g.2 ≠ 0) : val (timesF f g) = val f * val g := by
  unfold timesF
  rw [val_low (mul_nz hf hg)]
  unfold val
  rw [Rat.divInt_mul_divInt]
theorem val_inj {f g : Fr} (hf : Nrm f) (hg : Nrm g) (h : val f = val g) : f = g := by
  have h1 := hf.1; have h2 := hg.1
  exact nrm_uniq hf hg ((Rat.divInt_eq_divInt_iff (by omega) (by omega)).mp h)
theorem nrm_plus {f g : Fr} (hf : f.2 ≠ 0) (hg : g.2 ≠ 0) : Nrm (plusF f g) := (low_spec (mul_nz hf hg)).1
theorem nrm_times {f g : Fr} (hf : f.2 ≠ 0) (hg : g.2 ≠ 0) : Nrm (timesF f g) := (low_spec (mul_nz hf hg)).1
theorem nzr {f : Fr} (h : Nrm f) : f.2 ≠ 0 := by have := h.1; omega
section
variable {a b c : Fr}
end

/-! ### the board, in cells -/
def rowL (w : Nat) (g : Nat → Int) : List D := (List.range w).map fun j => D.int (g j)
theorem rowL_len {w : Nat} {g : Nat → Int} : (rowL w g).length = w := by simp [rowL]
theorem rowL_get {w j : Nat} {g : Nat → Int} (h : j < w) : (rowL w g)[j]? = some (.int (g j)) := by simp [rowL, h]
theorem rowL_last {w : Nat} {g : Nat → Int} : rowL (w + 1) g = rowL w g ++ [.int (g w)] := by simp [rowL, List.range_succ]
theorem rowL_congr {w : Nat} {g h : Nat → Int} (e : ∀ j, j < w → g j = h j) : rowL w g = rowL w h := by
  unfold rowL
  refine List.map_congr_left fun j hj => ?_
  rw [e j (List.mem_range.mp hj)]
theorem rowL_set {w j : Nat} {g : Nat → Int} {x : Int} (h : j < w) : (rowL w g).set j (.int x) = rowL w fun i => if i = j then x else g i := by
  refine List.ext_getElem? fun i => ?_
  by_cases e : i = j
  · subst e
    rw [List.getElem?_set_self (by rw [rowL_len]; exact h), rowL_get h, if_pos rfl]
  · rw [List.getElem?_set_ne (Ne.symm e)]
    by_cases hi : i < w
    · rw [rowL_get hi, rowL_get hi, if_neg e]
    · rw [List.getElem?_eq_none (by rw [rowL_len]; omega), List.getElem?_eq_none (by rw [rowL_len]; omega)]
def fsB (n : Nat) (tu : List D) (b : Int) (tb lf bs : Nat) : List (Str × D) := [("many", .int n), ("turned", .lst tu), ("bottom", .int b), ("table", .cell tb), ("left", .cell lf), ("basis", .cell bs)]
structure Bd (N0 n m : Nat) (S : Sto) (b tb lf bs : Nat) (rs : Nat → Nat) (tu : List D) (t : Sx.St) : Prop where
  ins : S[b]? = some (some (.ins "Board" (fsB n tu t.b tb lf bs)))
  tab : S[tb]? = some (some (.lst ((List.range m).map fun i => D.cell (rs i))))
  row : ∀ i, i < m → S[rs i]? = some (some (.lst (rowL (n + m + 1) (t.T i))))
  left : S[lf]? = some (some (.lst (rowL (n + m + 1) t.z)))
  bas : S[bs]? = some (some (.lst (rowL m fun i => (t.B i : Int))))
  inj : ∀ i, i < m → ∀ k, k < m → rs i = rs k → i = k
  rt : ∀ i, i < m → rs i ≠ tb
  rl : ∀ i, i < m → rs i ≠ lf
  rb : ∀ i, i < m → rs i ≠ bs
  lt : lf ≠ tb
  lb : lf ≠ bs
  tbs : tb ≠ bs
  low : N0 ≤ b ∧ N0 ≤ tb ∧ N0 ≤ lf ∧ N0 ≤ bs ∧ ∀ i, i < m → N0 ≤ rs i
structure Kp (N0 : Nat) (S S' : Sto) : Prop where
  len : S'.length = S.length
  old : ∀ i, i < N0 → S'[i]? = S[i]?
theorem Kp.refl {N0 : Nat} {S : Sto} : Kp N0 S S := ⟨rfl, fun _ _ => rfl⟩
theorem Kp.trans {N0 : Nat} {S S1 S2 : Sto} (a : Kp N0 S S1) (b : Kp N0 S1 S2) : Kp N0 S S2 := ⟨b.len.trans a.len, fun i h => (b.old i h).trans (a.old i h)⟩
theorem Kp.set {N0 c : Nat} {S : Sto} {o : Option CO} (h : N0 ≤ c) : Kp N0 S (S.set c o) := ⟨List.length_set .., fun i hi => List.getElem?_set_ne (by omega)⟩
theorem lk_many {n : Nat} {tu : List D} {b : Int} {tb lf bs : Nat} : List.lookup ("many" : Str) (fsB n tu b tb lf bs) = some (D.int n) := rfl
theorem lk_turned {n : Nat} {tu : List D} {b : Int} {tb lf bs : Nat} : List.lookup ("turned" : Str) (fsB n tu b tb lf bs) = some (D.lst tu) := rfl
theorem lk_bottom {n : Nat} {tu : List D} {b : Int} {tb lf bs : Nat} : List.lookup ("bottom" : Str) (fsB n tu b tb lf bs) = some (D.int b) := rfl
theorem lk_table {n : Nat} {tu : List D} {b : Int} {tb lf bs : Nat} : List.lookup ("table" : Str) (fsB n tu b tb lf bs) = some (D.cell tb) := rfl
theorem lk_left {n : Nat} {tu : List D} {b : Int} {tb lf bs : Nat} : List.lookup ("left" : Str) (fsB n tu b tb lf bs) = some (D.cell lf) := rfl
theorem lk_basis {n : Nat} {tu : List D} {b : Int} {tb lf bs : Nat} : List.lookup ("basis" : Str) (fsB n tu b tb lf bs) = some (D.cell bs) := rfl
theorem fi_many : Lw.fi "Board" "many" = true := by decide +kernel
theorem fi_turned : Lw.fi "Board" "turned" = true := by decide +kernel
theorem fi_bottom : Lw.fi "Board" "bottom" = true := by decide +kernel
theorem fi_table : Lw.fi "Board" "table" = true := by decide +kernel
theorem fi_left : Lw.fi "Board" "left" = true := by decide +kernel
theorem fi_basis : Lw.fi "Board" "basis" = true := by decide +kernel
section
variable {N0 n m b tb lf bs : Nat} {rs : Nat → Nat} {tu : List D} {t : Sx.St} {S : Sto} {P : D → Sto → Prop}
theorem wanted_ok (B : Bd N0 n m S b tb lf bs rs tu t) (hn : n ≤ 1000) (h1 : ∀ s, Sx.Ent n t s → P (.int s) S) (h2 : (∀ j, j < n → 0 ≤ t.z j) → P .non S) : Ok (Lw.f_Board_m_wanted [.cell b] S) P := by
  unfold Lw.f_Board_m_wanted
  refine k_fn rfl ?_
  unfold Lw.d_Board_m_wanted
  walk_at "dl"
  refine o_fldI B.ins fi_many lk_many ?_
  walk_at "dl"
  refine i_rng1 (by omega) (by omega) ?_
  refine k_forL (fun i ρ S' => S' = S ∧ (∃ x, ρ = [some (.cell b), x]) ∧ ∀ j, j < i → 0 ≤ t.z j) ⟨rfl, ⟨_, rfl⟩, fun j hj => by omega⟩ ?_ ?_
  · rintro i ρ S' d hd ⟨rfl, ⟨x, rfl⟩, hj⟩
    have hi : i < n := by
      have := (List.getElem?_eq_some_iff.mp hd).1
      simpa using this
    have ed : d = .int i := by
      rw [List.getElem?_map, List.getElem?_range (by simpa using hi)] at hd
      exact (Option.some.inj hd).symm
    subst ed
    refine ⟨_, rfl, ?_⟩
    walk_at "dl"
    refine o_fldI B.ins fi_left lk_left ?_
    walk_at "dl"
    refine o_ixC B.left rfl (rowL_get (by omega)) ?_
    walk_at "dl"
    refine k_condD (fun hz => ?_) fun hz => ?_
    · walk_at "dl"
      rw [trim_same rfl]
      exact h1 i ⟨hi, hz, hj⟩
    · walk_at "dl"
      refine ⟨rfl, ⟨_, rfl⟩, fun j hj' => ?_⟩
      by_cases e : j = i
      · subst e; omega
      · exact hj j (by omega)
  · rintro ρ S' ⟨rfl, ⟨x, rfl⟩, hj⟩
    walk_at "dl"
    rw [trim_same rfl]
    exact h2 (by simpa using hj)
end

/-! ### which row goes -/
theorem isN_n {d : D} {S : Sto} {P : D → Sto → Prop} (h : d ≠ .non) (q : P (.bl false) S) : Ok (oIsN d .non S) P := by cases d <;> first | exact absurd rfl h | exact ⟨q⟩
theorem isN_y {S : Sto} {P : D → Sto → Prop} (q : P (.bl true) S) : Ok (oIsN .non .non S) P := ⟨q⟩
theorem notN_n {d : D} {S : Sto} {P : D → Sto → Prop} (h : d ≠ .non) (q : P (.bl true) S) : Ok (oNotN d .non S) P := by cases d <;> first | exact absurd rfl h | exact ⟨q⟩
theorem notN_y {S : Sto} {P : D → Sto → Prop} (q : P (.bl false) S) : Ok (oNotN .non .non S) P := ⟨q⟩
theorem frac_eq {a b c d e g : Int} (hb : 0 < b) (hd : 0 < d) (hg : 0 < g) (h1 : a * d ≤ c * b) (h2 : c * g ≤ e * d) (h : a * g = e * b) : a * d = c * b ∧ c * g = e * d := by
  have k1 := Sx.frac_trans hd hg hb h2 (Int.le_of_eq h.symm)
  have k2 := Sx.frac_trans hg hb hd (Int.le_of_eq h.symm) h1
  omega
/-- the least row so far -/
structure Mn (L : Nat) (t : Sx.St) (s i r : Nat) : Prop where
  lt : r < i
  p : 0 < t.T r s
  q : ∀ k, k < i → 0 < t.T k s → t.T r L * t.T k s < t.T k L * t.T r s ∨ (t.T r L * t.T k s = t.T k L * t.T r s ∧ t.B r ≤ t.B k)
theorem Mn.keep {L : Nat} {t : Sx.St} {s i r : Nat} (h : Mn L t s i r) (hi : 0 < t.T i s → t.T r L * t.T i s < t.T i L * t.T r s ∨ (t.T r L * t.T i s = t.T i L * t.T r s ∧ t.B r ≤ t.B i)) : Mn L t s (i + 1) r := by
  refine ⟨by have := h.lt; omega, h.p, fun k hk hp => ?_⟩
  by_cases e : k = i
  · subst e; exact hi hp
  · exact h.q k (by omega) hp
theorem Mn.take {L : Nat} {t : Sx.St} {s i r : Nat} (h : Mn L t s i r) (hp : 0 < t.T i s) (hi : t.T i L * t.T r s < t.T r L * t.T i s ∨ (t.T i L * t.T r s = t.T r L * t.T i s ∧ t.B i < t.B r)) : Mn L t s (i + 1) i := by
  refine ⟨by omega, hp, fun k hk hpk => ?_⟩
  by_cases e : k = i
  · subst e; exact .inr ⟨rfl, Nat.le_refl _⟩
  · have hq := h.q k (by omega) hpk
    have l1 : t.T i L * t.T r s ≤ t.T r L * t.T i s := hi.elim Int.le_of_lt fun z => Int.le_of_eq z.1
    have l2 : t.T r L * t.T k s ≤ t.T k L * t.T r s := hq.elim Int.le_of_lt fun z => Int.le_of_eq z.1
    have l3 := Sx.frac_trans hp h.p hpk l1 l2
    rcases Int.lt_or_eq_of_le l3 with z | z
    · exact .inl z
    · obtain ⟨e1, e2⟩ := frac_eq hp h.p hpk l1 l2 z
      refine .inr ⟨z, ?_⟩
      rcases hi with w | ⟨_, w⟩
      · omega
      · rcases hq with w2 | ⟨_, w2⟩
        · omega
        · omega
def fndD (f : Option Nat) : D := match f with
  | none => .non
  | some r => .int r
section
variable {N0 n m b tb lf bs : Nat} {rs : Nat → Nat} {tu : List D} {t : Sx.St} {S : Sto} {P : D → Sto → Prop} {kz : Nat}
theorem enum_get {xs : List D} {i : Nat} {d : D} (h : (enumD xs)[i]? = some d) : ∃ x, xs[i]? = some x ∧ d = .tup [.int i, x] := by
  unfold enumD at h
  rw [List.getElem?_map, List.getElem?_zipIdx] at h
  cases e : xs[i]? with
  | none => rw [e] at h; cases h
  | some x =>
    rw [e] at h
    simp at h
    exact ⟨x, rfl, h.symm⟩
theorem enum_len (xs : List D) : (enumD xs).length = xs.length := by simp [enumD]
theorem cells_get {m i : Nat} {rs : Nat → Nat} {x : D} (h : ((List.range m).map fun i => D.cell (rs i))[i]? = some x) : i < m ∧ x = .cell (rs i) := by
  have hi : i < m := by simpa using (List.getElem?_eq_some_iff.mp h).1
  rw [List.getElem?_map, List.getElem?_range hi] at h
  exact ⟨hi, (Option.some.inj h).symm⟩
theorem cells_at {m i : Nat} {rs : Nat → Nat} (h : i < m) : ((List.range m).map fun i => D.cell (rs i))[i]? = some (.cell (rs i)) := by
  rw [List.getElem?_map, List.getElem?_range h]; rfl
set_option maxHeartbeats 1000000 in
theorem leaving_ok (B : Bd N0 n m S b tb lf bs rs tu t) {s : Nat} (hs : s < n + m) (hk : kz ≤ 1000000) (hM : ∀ i, i < m → ∀ j, j ≤ n + m → Sz kz (t.T i j)) (he : ∃ i, i < m ∧ 0 < t.T i s) (q : ∀ r, Sx.Lea n m t s r → P (.int r) S) : Ok (Lw.f_Board_m_leaving [.cell b, .int s] S) P := by
  have mo : ∀ {i j k l : Nat}, i < m → j ≤ n + m → k < m → l ≤ n + m → IntMulOk (t.T i j) (t.T k l) := fun hi hj hk' hl => (hM _ hi _ hj).mulOk (hM _ hk' _ hl) (by omega) (by omega)
  unfold Lw.f_Board_m_leaving
  refine k_fn rfl ?_
  unfold Lw.d_Board_m_leaving
  walk_at "dl"
  refine o_fldI B.ins fi_table lk_table ?_
  walk_at "dl"
  refine i_enumC B.tab ?_
  refine k_forN (xs := enumD ((List.range m).map fun i => D.cell (rs i))) (fun i ρ S' => S' = S ∧ i ≤ m ∧ ∃ f x3 x4 x5 x6 x7, ρ = [some (.cell b), some (.int s), some (fndD f), x3, x4, x5, x6, x7] ∧ match f with
    | none => ∀ k, k < i → ¬ 0 < t.T k s
    | some r => Mn (n + m) t s i r) rfl ⟨rfl, Nat.zero_le _, none, _, _, _, _, _, rfl, fun k hk => by omega⟩ ?_ ?_ ?_
  · rintro i ρ S' ⟨rfl, _⟩
    exact itE_nx B.tab
  · rintro i ρ S' d hd ⟨rfl, _, f, x3, x4, x5, x6, x7, rfl, hf⟩
    obtain ⟨x, hx, rfl⟩ := enum_get hd
    obtain ⟨hi, rfl⟩ := cells_get hx
    refine ⟨_, rfl, ?_⟩
    walk_at "dl"
    refine o_ixC (B.row i hi) rfl (rowL_get (by omega)) ?_
    walk_at "dl"
    refine k_condD (fun hz => ?_) fun hz => ?_
    · walk_at "dl"
      cases f with
      | none =>
        refine isN_y ?_
        walk_at "dl"
        refine ⟨rfl, hi, some i, _, _, _, _, _, rfl, ⟨by omega, hz, fun k hk hp => ?_⟩⟩
        by_cases e : k = i
        · subst e; exact .inr ⟨rfl, Nat.le_refl _⟩
        · exact absurd hp (hf k (by omega))
      | some r =>
        have hf : Mn (n + m) t s i r := hf
        have hr : r < m := by have := hf.lt; omega
        refine isN_n (by intro e; cases e) ?_
        walk_at "dl"
        refine o_fldI B.ins fi_table lk_table ?_
        walk_at "dl"
        refine o_ixC B.tab rfl (cells_at hr) ?_
        walk_at "dl"
        refine o_ixCL (xs := rowL (n + m) (t.T i)) (by rw [← rowL_last]; exact B.row i hi) ?_
        walk_at "dl"
        refine o_ixC (B.row r hr) rfl (rowL_get (by omega)) ?_
        walk_at "dl"
        refine o_mul (mo hi (Nat.le_refl _) hr (by omega)) ?_
        walk_at "dl"
        refine o_ixCL (xs := rowL (n + m) (t.T r)) (by rw [← rowL_last]; exact B.row r hr) ?_
        walk_at "dl"
        refine o_ixC (B.row i hi) rfl (rowL_get (by omega)) ?_
        walk_at "dl"
        refine o_mul (mo hr (Nat.le_refl _) hi (by omega)) ?_
        walk_at "dl"
        refine k_condD (fun h1 => ?_) fun h1 => ?_
        · walk_at "dl"
          exact ⟨rfl, hi, some i, _, _, _, _, _, rfl, hf.take hz (.inl h1)⟩
        · walk_at "dl"
          refine k_condD (fun h2 => ?_) fun h2 => ?_
          · walk_at "dl"
            refine o_fldI B.ins fi_basis lk_basis ?_
            walk_at "dl"
            refine o_ixC B.bas rfl (rowL_get hi) ?_
            walk_at "dl"
            refine o_fldI B.ins fi_basis lk_basis ?_
            walk_at "dl"
            refine o_ixC B.bas rfl (rowL_get hr) ?_
            walk_at "dl"
            refine k_condD (fun h3 => ?_) fun h3 => ?_
            · walk_at "dl"
              exact ⟨rfl, hi, some i, _, _, _, _, _, rfl, hf.take hz (.inr ⟨h2, by omega⟩)⟩
            · walk_at "dl"
              exact ⟨rfl, hi, some r, _, _, _, _, _, rfl, hf.keep fun _ => .inr ⟨h2.symm, by omega⟩⟩
          · walk_at "dl"
            exact ⟨rfl, hi, some r, _, _, _, _, _, rfl, hf.keep fun _ => .inl (by omega)⟩
    · walk_at "dl"
      refine ⟨rfl, hi, f, _, _, _, _, _, rfl, ?_⟩
      cases f with
      | none =>
        intro k hk
        by_cases e : k = i
        · subst e; exact hz
        · exact hf k (by omega)
      | some r => exact Mn.keep hf fun z => absurd z hz
  · rintro ρ S' ⟨rfl, _, f, x3, x4, x5, x6, x7, rfl, hf⟩
    rw [enum_len, List.length_map, List.length_range] at hf
    walk_at "dl"
    rw [trim_same rfl]
    cases f with
    | none =>
      obtain ⟨i, hi, z⟩ := he
      exact absurd z (hf i hi)
    | some r =>
      have hf : Mn (n + m) t s m r := hf
      exact q r ⟨hf.lt, hf.p, hf.q⟩
end

/-! ### a turn -/
structure Upd (c : Nat) (o : CO) (S S' : Sto) : Prop where
  len : S'.length = S.length
  at_ : S'[c]? = some (some o)
  oth : ∀ i, i ≠ c → S'[i]? = S[i]?
theorem Upd.set {c : Nat} {o o' : CO} {S S' : Sto} (u : Upd c o S S') : Upd c o' S (S'.set c (some o')) :=
  ⟨by rw [List.length_set]; exact u.len, List.getElem?_set_self (List.getElem?_eq_some_iff.mp u.at_).1, fun i hi => by rw [List.getElem?_set_ne (Ne.symm hi)]; exact u.oth i hi⟩
def turnRow : SD := sFor (imOfA mItR1 (aCons (eL fLen (aCons (eVar 5) aNil)) aNil)) (.nm 7) (sSub setD (eVar 5) (eVar 7) (e2 oFdiv (e2 oSub (e2 oMul (e2 oIx (eVar 5) (eVar 7)) (eVar 4)) (e2 oMul (eVar 6) (e2 oIx (eVar 3) (eVar 7)))) (e1 (oFldI Lw.fi "bottom") (eVar 0))))
section
variable {N0 n m b tb lf bs c p w kz : Nat} {rs : Nat → Nat} {tu : List D} {t : Sx.St} {S : Sto} {P : D → Sto → Prop} {g u h : Nat → Int} {bo by_ part : Int} {x1 x2 x7 : Option D}
set_option maxHeartbeats 1000000 in
theorem row_ok (hb : S[b]? = some (some (.ins "Board" (fsB n tu bo tb lf bs)))) (hc : S[c]? = some (some (.lst (rowL w g)))) (hp : S[p]? = some (some (.lst (rowL w u)))) (hcp : c ≠ p) (hw : w ≤ 5000)
    (e : ∀ x, x < w → (g x * by_ - part * u x).fdiv bo = h x) (hk : kz ≤ 9000) (h0 : bo ≠ 0) (sb : Sz kz bo) (sg : ∀ x, x < w → Sz kz (g x)) (su : ∀ x, x < w → Sz kz (u x)) (sy : Sz kz by_) (sp : Sz kz part) :
    OkS (turnRow [some (.cell b), x1, x2, some (.cell p), some (.int by_), some (.cell c), some (.int part), x7] S) fun f ρ' S' => f = .nx ∧ Upd c (.lst (rowL w h)) S S' ∧ ∃ y7, ρ' = [some (.cell b), x1, x2, some (.cell p), some (.int by_), some (.cell c), some (.int part), y7] := by
  have hbc : b ≠ c := fun z => by rw [z, hc] at hb; cases hb
  unfold turnRow
  walk_at "dl"
  refine o_lenC hc ?_
  rw [rowL_len]
  walk_at "dl"
  refine i_rng1 (by omega) (by omega) ?_
  refine k_forL (fun i ρ S' => i ≤ w ∧ Upd c (.lst (rowL w fun x => if x < i then h x else g x)) S S' ∧ ∃ y7, ρ = [some (.cell b), x1, x2, some (.cell p), some (.int by_), some (.cell c), some (.int part), y7]) ⟨Nat.zero_le _, ⟨rfl, by rw [hc, rowL_congr (g := g)]; intro j _; simp, fun _ _ => rfl⟩, _, rfl⟩ ?_ ?_
  · rintro i ρ S' d hd ⟨_, U, y7, rfl⟩
    have hi : i < w := by
      have := (List.getElem?_eq_some_iff.mp hd).1
      simpa using this
    have ed : d = .int i := by
      rw [List.getElem?_map, List.getElem?_range (by simpa using hi)] at hd
      exact (Option.some.inj hd).symm
    subst ed
    refine ⟨_, rfl, ?_⟩
    walk_at "dl"
    refine o_ixC U.at_ rfl (rowL_get hi) ?_
    rw [if_neg (by omega)]
    walk_at "dl"
    refine o_mul ((sg i hi).mulOk sy (by omega) (by omega)) ?_
    walk_at "dl"
    refine o_ixC (by rw [U.oth p (Ne.symm hcp)]; exact hp) rfl (rowL_get hi) ?_
    walk_at "dl"
    refine o_mul (sp.mulOk (su i hi) (by omega) (by omega)) ?_
    walk_at "dl"
    refine o_fldI (by rw [U.oth b hbc]; exact hb) fi_bottom lk_bottom ?_
    walk_at "dl"
    have kz0 : 0 < kz := by
      apply Classical.byContradiction
      intro z
      have : kz = 0 := by omega
      subst this
      unfold Sz at sb; omega
    refine o_fdiv h0 (by have := sb.log kz0; omega) ?_
    rw [e i hi]
    walk_at "dl"
    refine ⟨_, setD_at U.at_ rfl (by rw [rowL_len]; exact hi), ?_⟩
    rw [rowL_set hi]
    have e2 : rowL w (fun j => if j = i then h i else if j < i then h j else g j) = rowL w fun j => if j < i + 1 then h j else g j := rowL_congr fun j _ => by
      by_cases q : j = i
      · subst q; rw [if_pos rfl, if_pos (by omega)]
      · rw [if_neg q]
        by_cases q2 : j < i
        · rw [if_pos q2, if_pos (by omega)]
        · rw [if_neg q2, if_neg (by omega)]
    rw [e2]
    exact ⟨hi, U.set, _, rfl⟩
  · rintro ρ S' ⟨_, U, y7, rfl⟩
    refine ⟨rfl, ?_, _, rfl⟩
    have e2 : rowL w (fun x => if x < ((List.range ((w : Nat) : Int).toNat).map fun i : Nat => D.int i).length then h x else g x) = rowL w h := rowL_congr fun j hj => by
      rw [if_pos (by simpa using hj)]
    rw [e2] at U
    exact U
def turnList (m r lf : Nat) (rs : Nat → Nat) : List D := ((List.range m).map fun i => D.cell (rs i)).take r ++ ((List.range m).map fun i => D.cell (rs i)).drop (r + 1) ++ [D.cell lf]
theorem turnList_len {m r lf : Nat} {rs : Nat → Nat} (hr : r < m) : (turnList m r lf rs).length = m := by simp [turnList]; omega
theorem turnList_get {m r lf i : Nat} {rs : Nat → Nat} {d : D} (hr : r < m) (h : (turnList m r lf rs)[i]? = some d) : (i < m - 1 ∧ d = .cell (rs (Sx.sk r i))) ∨ (i = m - 1 ∧ d = .cell lf) := by
  have hi : i < m := by
    have := (List.getElem?_eq_some_iff.mp h).1
    rw [turnList_len hr] at this; exact this
  unfold turnList at h
  by_cases e : i = m - 1
  · right
    rw [List.getElem?_append_right (by simp; omega)] at h
    have e0 : i - (((List.range m).map fun i => D.cell (rs i)).take r ++ ((List.range m).map fun i => D.cell (rs i)).drop (r + 1)).length = 0 := by simp; omega
    rw [e0] at h
    exact ⟨e, by simpa using h.symm⟩
  · left
    refine ⟨by omega, ?_⟩
    rw [List.getElem?_append_left (by simp; omega)] at h
    unfold Sx.sk
    by_cases q : i < r
    · rw [List.getElem?_append_left (by simp; omega), List.getElem?_take_of_lt q] at h
      rw [if_pos q]; exact (cells_get h).2
    · rw [List.getElem?_append_right (by simp; omega), List.getElem?_drop] at h
      rw [if_neg q]
      have := (cells_get h).2
      rw [this]
      congr 2
      simp; omega
structure Half (m r i : Nat) (w : Nat) (rs : Nat → Nat) (lf : Nat) (t t' : Sx.St) (S S' : Sto) : Prop where
  len : S'.length = S.length
  row : ∀ q, q < m → S'[rs q]? = some (some (.lst (rowL w (if q ≠ r ∧ Sx.ps r q < i then t'.T q else t.T q))))
  left : S'[lf]? = some (some (.lst (rowL w (if m ≤ i then t'.z else t.z))))
  oth : ∀ c, (∀ q, q < m → c ≠ rs q) → c ≠ lf → S'[c]? = S[c]?
set_option maxHeartbeats 2000000 in
theorem turn_ok (B : Bd N0 n m S b tb lf bs rs tu t) {r s : Nat} (hr : r < m) (hs : s < n + m) (hw : n + m + 1 ≤ 5000) (hb0 : t.b ≠ 0) (hk : kz ≤ 9000) (sb : Sz kz t.b) (sT : ∀ i, i < m → ∀ j, j ≤ n + m → Sz kz (t.T i j)) (sz : ∀ j, j ≤ n + m → Sz kz (t.z j))
    (q : ∀ S', Kp N0 S S' → Bd N0 n m S' b tb lf bs rs tu (Sx.pv r s t) → P .non S') : Ok (Lw.f_Board_m_turn [.cell b, .int r, .int s] S) P := by
  have hbr : ∀ i, i < m → b ≠ rs i := fun i hi z => by have := B.row i hi; rw [← z, B.ins] at this; cases this
  have hbl : b ≠ lf := fun z => by have := B.left; rw [← z, B.ins] at this; cases this
  have hbb : b ≠ bs := fun z => by have := B.bas; rw [← z, B.ins] at this; cases this
  have hbt : b ≠ tb := fun z => by have := B.tab; rw [← z, B.ins] at this; cases this
  unfold Lw.f_Board_m_turn
  refine k_fn rfl ?_
  unfold Lw.d_Board_m_turn
  walk_at "dl"
  refine o_fldI B.ins fi_table lk_table ?_
  walk_at "dl"
  refine o_ixC B.tab rfl (cells_at hr) ?_
  walk_at "dl"
  refine o_ixC (B.row r hr) rfl (rowL_get (by omega)) ?_
  walk_at "dl"
  refine o_fldI B.ins fi_table lk_table ?_
  walk_at "dl"
  refine o_sl (xs := (List.range m).map fun i => D.cell (rs i)) (by simp only [DL.listOf, B.tab]) ?_
  rw [cut_to]
  walk_at "dl"
  refine o_fldI B.ins fi_table lk_table ?_
  walk_at "dl"
  refine o_sl (xs := (List.range m).map fun i => D.cell (rs i)) (by simp only [DL.listOf, B.tab]) ?_
  rw [cut_fromZ (by omega), show ((r : Int) + 1).toNat = r + 1 by omega]
  walk_at "dl"
  refine o_addL (by rw [sizeLine_eq]; simp; omega) ?_
  walk_at "dl"
  refine o_fldI B.ins fi_left lk_left ?_
  walk_at "dl"
  refine o_addL (by rw [sizeLine_eq]; simp; omega) ?_
  walk_at "dl"
  refine i_list ?_
  show OkS (forLoop (itL (turnList m r lf rs)).nx _ _ (itL (turnList m r lf rs)).fu 0 _ _) _
  refine k_forL (fun i ρ S' => Half m r i (n + m + 1) rs lf t (Sx.pv r s t) S S' ∧ ∃ x5 x6 x7, ρ = [some (.cell b), some (.int r), some (.int s), some (.cell (rs r)), some (.int (t.T r s)), x5, x6, x7]) ⟨⟨rfl, fun q hq => by rw [if_neg (by omega)]; exact B.row q hq, by rw [if_neg (by omega)]; exact B.left, fun _ _ _ => rfl⟩, _, _, _, rfl⟩ ?_ ?_
  · rintro i ρ S' d hd ⟨Hf, x5, x6, x7, rfl⟩
    refine ⟨_, rfl, ?_⟩
    have hins : S'[b]? = some (some (.ins "Board" (fsB n tu t.b tb lf bs))) := by rw [Hf.oth b hbr hbl]; exact B.ins
    have hpr : S'[rs r]? = some (some (.lst (rowL (n + m + 1) (t.T r)))) := by rw [Hf.row r hr, if_neg (by simp)]
    rcases turnList_get hr hd with ⟨hi, rfl⟩ | ⟨hi, rfl⟩
    · have hq : Sx.sk r i < m := by unfold Sx.sk; split <;> omega
      have hqr : Sx.sk r i ≠ r := Sx.sk_ne r i
      have hps : Sx.ps r (Sx.sk r i) = i := by
        unfold Sx.ps Sx.sk
        by_cases z : i < r
        · rw [if_pos z, if_pos z]
        · rw [if_neg z, if_neg (by omega)]; omega
      have hrow : S'[rs (Sx.sk r i)]? = some (some (.lst (rowL (n + m + 1) (t.T (Sx.sk r i))))) := by rw [Hf.row _ hq, if_neg (by rw [hps]; omega)]
      walk_at "dl"
      refine o_ixC hrow rfl (rowL_get (by omega)) ?_
      show OkS (turnRow [some (.cell b), some (.int r), some (.int s), some (.cell (rs r)), some (.int (t.T r s)), some (.cell _), some (.int _), x7] S') _
      refine (row_ok (kz := kz) (h := (Sx.pv r s t).T (Sx.sk r i)) hins hrow hpr (fun z => hqr (B.inj _ hq _ hr z)) hw (fun x hx => ?_) hk hb0 sb (fun x hx => sT _ hq x (by omega)) (fun x hx => sT r hr x (by omega)) (sT r hr s (by omega)) (sT _ hq s (by omega))).imp ?_
      · show _ = if Sx.sk r i = r then _ else _
        rw [if_neg hqr]
      · rintro f ρ2 S2 ⟨rfl, U, y7, rfl⟩
        refine ⟨⟨U.len.trans Hf.len, fun q hq2 => ?_, ?_, fun c hc hl => ?_⟩, _, _, _, rfl⟩
        · by_cases e : q = Sx.sk r i
          · subst e
            rw [U.at_, if_pos ⟨hqr, by rw [hps]; omega⟩]
          · rw [U.oth _ (fun z => e (B.inj q hq2 _ hq z)), Hf.row q hq2]
            have : (q ≠ r ∧ Sx.ps r q < i) ↔ (q ≠ r ∧ Sx.ps r q < i + 1) := by
              constructor
              · rintro ⟨a, b⟩; exact ⟨a, by omega⟩
              · rintro ⟨a, b⟩
                refine ⟨a, ?_⟩
                have : Sx.ps r q ≠ i := fun z => e (by rw [← z, Sx.sk_ps a])
                omega
            simp only [this]
        · rw [U.oth _ (fun z => B.rl _ hq z.symm), Hf.left, if_neg (by omega), if_neg (by omega)]
        · rw [U.oth c (hc _ hq), Hf.oth c hc hl]
    · have hrow : S'[lf]? = some (some (.lst (rowL (n + m + 1) t.z))) := by rw [Hf.left, if_neg (by omega)]
      walk_at "dl"
      refine o_ixC hrow rfl (rowL_get (by omega)) ?_
      show OkS (turnRow [some (.cell b), some (.int r), some (.int s), some (.cell (rs r)), some (.int (t.T r s)), some (.cell _), some (.int _), x7] S') _
      refine (row_ok (kz := kz) (h := (Sx.pv r s t).z) hins hrow hpr (fun z => B.rl r hr z.symm) hw (fun x hx => rfl) hk hb0 sb (fun x hx => sz x (by omega)) (fun x hx => sT r hr x (by omega)) (sT r hr s (by omega)) (sz s (by omega))).imp ?_
      rintro f ρ2 S2 ⟨rfl, U, y7, rfl⟩
      refine ⟨⟨U.len.trans Hf.len, fun q hq2 => ?_, ?_, fun c hc hl => ?_⟩, _, _, _, rfl⟩
      · rw [U.oth _ (B.rl q hq2), Hf.row q hq2]
        have : (q ≠ r ∧ Sx.ps r q < i) ↔ (q ≠ r ∧ Sx.ps r q < i + 1) := by
          constructor
          · rintro ⟨a, b⟩; exact ⟨a, by omega⟩
          · rintro ⟨a, b⟩
            refine ⟨a, ?_⟩
            unfold Sx.ps at *
            split <;> omega
        simp only [this]
      · rw [U.at_, if_pos (by omega)]
      · rw [U.oth c hl, Hf.oth c hc hl]
  · rintro ρ S1 ⟨Hf, x5, x6, x7, rfl⟩
    rw [turnList_len hr] at Hf
    have hins : S1[b]? = some (some (.ins "Board" (fsB n tu t.b tb lf bs))) := by rw [Hf.oth b hbr hbl]; exact B.ins
    have hbas : S1[bs]? = some (some (.lst (rowL m fun i => (t.B i : Int)))) := by rw [Hf.oth bs (fun q hq z => B.rb q hq z.symm) (Ne.symm B.lb)]; exact B.bas
    walk_at "dl"
    refine k_fldI ?_
    walk_at "dl"
    refine ⟨b, _, _, rfl, hins, fi_bottom, (show (6 : Nat) < 1000 by decide), ?_⟩
    have e2 : putD "bottom" (.int (t.T r s)) (fsB n tu t.b tb lf bs) = fsB n tu (t.T r s) tb lf bs := rfl
    rw [e2]
    have lb1 := (List.getElem?_eq_some_iff.mp hins).1
    have hins2 : (S1.set b (some (.ins "Board" (fsB n tu (t.T r s) tb lf bs))))[b]? = some (some (.ins "Board" (fsB n tu (t.T r s) tb lf bs))) := List.getElem?_set_self lb1
    have hbas2 : (S1.set b (some (.ins "Board" (fsB n tu (t.T r s) tb lf bs))))[bs]? = some (some (.lst (rowL m fun i => (t.B i : Int)))) := by rw [List.getElem?_set_ne hbb]; exact hbas
    walk_at "dl"
    refine o_fldI hins2 fi_basis lk_basis ?_
    walk_at "dl"
    refine ⟨_, setD_at hbas2 rfl (by rw [rowL_len]; exact hr), ?_⟩
    rw [rowL_set hr, trim_same (by rw [List.length_set, List.length_set]; exact Hf.len)]
    have get2 : ∀ c, c ≠ b → c ≠ bs → ((S1.set b (some (.ins "Board" (fsB n tu (t.T r s) tb lf bs)))).set bs (some (.lst (rowL m fun i => if i = r then (s : Int) else (t.B i : Int)))))[c]? = S1[c]? := fun c h1 h2 => by
      rw [List.getElem?_set_ne (Ne.symm h2), List.getElem?_set_ne (Ne.symm h1)]
    refine q _ ⟨by rw [List.length_set, List.length_set]; exact Hf.len, fun i hi => ?_⟩ ?_
    · have := B.low
      rw [get2 i (by omega) (by omega), Hf.oth i (fun q hq => by have := B.low.2.2.2.2 q hq; omega) (by omega)]
    · refine ⟨?_, ?_, fun i hi => ?_, ?_, ?_, B.inj, B.rt, B.rl, B.rb, B.lt, B.lb, B.tbs, B.low⟩
      · rw [List.getElem?_set_ne (Ne.symm hbb)]; exact hins2
      · rw [get2 tb (Ne.symm hbt) B.tbs, Hf.oth tb (fun q hq z => B.rt q hq z.symm) (Ne.symm B.lt)]; exact B.tab
      · rw [get2 _ (Ne.symm (hbr i hi)) (B.rb i hi), Hf.row i hi]
        by_cases e : i = r
        · subst e
          rw [if_neg (by simp)]
          congr 4
          funext j
          exact Sx.pvr.symm
        · rw [if_pos ⟨e, Sx.ps_lt (n := m - 1) (by omega) (by omega) e |> fun z => by omega⟩]
      · rw [get2 lf (Ne.symm hbl) B.lb, Hf.left, if_pos (Nat.le_refl _)]
      · rw [List.getElem?_set_self (List.getElem?_eq_some_iff.mp hbas2).1]
        congr 3
        refine rowL_congr fun i hi => ?_
        show _ = ((if i = r then s else t.B i : Nat) : Int)
        split <;> rfl
end

/-! ### till nothing is wanted -/
section
variable {N0 n m b tb lf bs kz M : Nat} {rs : Nat → Nat} {tu : List D} {A : Nat → Nat → Int} {S : Sto} {P : D → Sto → Prop}
/-- sizes of a tableau -/
theorem inv_sz {t : Sx.St} (I : Sx.Inv n m A t) (hM : ∀ l, l < m → ∀ j, j ≤ n + m → (A l j).natAbs ≤ M) (hk : (m + 1) * (m * M) ^ m < 2 ^ kz) : Sz kz t.b ∧ (∀ i, i < m → ∀ j, j ≤ n + m → Sz kz (t.T i j)) ∧ (∀ j, j ≤ n + m → Sz kz (t.z j)) := by
  have h0 : (m * M) ^ m ≤ (m + 1) * (m * M) ^ m := by rw [Nat.add_mul, Nat.one_mul]; omega
  exact ⟨Nat.lt_of_le_of_lt (Nat.le_trans (I.absb hM) h0) hk, fun i hi j hj => Nat.lt_of_le_of_lt (Nat.le_trans (I.absT hM hi hj) h0) hk, fun j hj => Nat.lt_of_le_of_lt (I.absz hM hj) hk⟩
set_option maxHeartbeats 2000000 in
theorem settle_ok (hT : Sx.Tab n m A) (B : Bd N0 n m S b tb lf bs rs tu (Sx.st0 n m A)) (hn : n ≤ 1000) (hm : m ≤ 1000) (hM : ∀ l, l < m → ∀ j, j ≤ n + m → (A l j).natAbs ≤ M) (hk : (m + 1) * (m * M) ^ m < 2 ^ kz) (hkz : kz ≤ 9000) (hF : (n + m) ^ m < FU)
    (q : ∀ t S' K, Sx.Rch n m A K t → (∀ j, j < n → 0 ≤ t.z j) → Kp N0 S S' → Bd N0 n m S' b tb lf bs rs tu t → P .non S') : Ok (Lw.f_Board_m_settle [.cell b] S) P := by
  unfold Lw.f_Board_m_settle
  refine k_fn rfl ?_
  unfold Lw.d_Board_m_settle
  walk_at "dl"
  refine k_mo ?_
  walk_at "dl"
  refine ⟨b, _, rfl, B.ins, rfl, ?_⟩
  walk_at "dl"
  have next : ∀ {t : Sx.St} {S' : Sto} {Q : D → Sto → Prop}, Bd N0 n m S' b tb lf bs rs tu t → (∀ c, ((∃ s, Sx.Ent n t s ∧ c = .int (s : Int)) ∨ (c = .non ∧ ∀ j, j < n → 0 ≤ t.z j)) → Q c S') → Ok (Lw.f_Board_m_wanted [.cell b] S') Q := fun B' k =>
    wanted_ok B' hn (fun s e => k _ (.inl ⟨s, e, rfl⟩)) fun h => k _ (.inr ⟨rfl, h⟩)
  refine next B fun c hc => ?_
  walk_at "dl"
  refine k_whileN (fun j ρ S' => ∃ t, Sx.Rch n m A j t ∧ Bd N0 n m S' b tb lf bs rs tu t ∧ Kp N0 S S' ∧ ∃ c, ρ = [some (.cell b), some c] ∧ ((∃ s, Sx.Ent n t s ∧ c = .int (s : Int)) ∨ (c = .non ∧ ∀ j, j < n → 0 ≤ t.z j))) ((n + m) ^ m) hF ⟨_, Sx.Rch.zero hT, B, .refl, c, rfl, hc⟩ ?_
  rintro j ρ S' hj ⟨t, R, B', kp, c, rfl, hc⟩
  have I := R.inv
  obtain ⟨sb, sT, sz⟩ := inv_sz I hM hk
  rcases hc with ⟨s, e, rfl⟩ | ⟨rfl, hz⟩
  · walk_at "dl"
    refine notN_n (by intro z; cases z) ?_
    walk_at "dl"
    refine k_mo ?_
    walk_at "dl"
    refine ⟨b, _, rfl, B'.ins, rfl, ?_⟩
    walk_at "dl"
    refine k_mo ?_
    walk_at "dl"
    refine ⟨b, _, rfl, B'.ins, rfl, ?_⟩
    walk_at "dl"
    have hs := e.lt
    refine leaving_ok (kz := kz) B' (by omega) (by omega) sT (I.some_pos hs e.neg) fun r l => ?_
    walk_at "dl"
    refine turn_ok (kz := kz) B' l.lt (by omega) (by omega) (by have := I.pos; omega) hkz sb sT sz fun S2 kp2 B2 => ?_
    have R2 := R.turn e l
    walk_at "dl"
    refine k_mo ?_
    walk_at "dl"
    refine ⟨b, _, rfl, B2.ins, rfl, ?_⟩
    walk_at "dl"
    refine next B2 fun c2 hc2 => ?_
    have := R2.most
    exact ⟨by omega, _, R2, B2, kp.trans kp2, c2, rfl, hc2⟩
  · walk_at "dl"
    refine notN_y ?_
    walk_at "dl"
    rw [trim_same kp.len]
    exact q t S' _ R hz kp B'
end

/-! ### the board is made -/
theorem rowL_add {a c : Nat} {g : Nat → Int} : rowL (a + c) g = rowL a g ++ rowL c fun i => g (a + i) := by
  unfold rowL
  rw [List.range_add, List.map_append, List.map_map]; rfl
theorem zip_rowL {w : Nat} {g h : Nat → Int} : zipD (rowL w g) (rowL w h) = (List.range w).map fun j => .tup [.int (g j), .int (h j)] := by
  refine List.ext_getElem? fun i => ?_
  rw [zipD_get]
  by_cases hi : i < w
  · rw [rowL_get hi, rowL_get hi, List.getElem?_map, List.getElem?_range hi]; rfl
  · rw [List.getElem?_eq_none (by rw [rowL_len]; omega), List.getElem?_eq_none (l := (List.range w).map _) (by simp; omega)]
theorem rep_flat {w : Nat} {x : D} : (List.replicate w [x]).flatten = List.replicate w x := by
  induction w with
  | zero => rfl
  | succ w ih => rw [List.replicate_succ, List.flatten_cons, ih, List.replicate_succ]; rfl
theorem rowL_const {w : Nat} {x : Int} : rowL w (fun _ => x) = List.replicate w (.int x) := by
  unfold rowL
  rw [List.map_const']; simp
def colsD (n m : Nat) (C : Nat → Nat → Int) : D := .lst ((List.range n).map fun j => D.lst (rowL m (C j)))
/-- the table that the board begins with -/
def tabA (n m : Nat) (C : Nat → Nat → Int) (g : Nat → Int) (i j : Nat) : Int :=
  if j < n then (if g i < 0 then - C j i else C j i) else if j < n + m then (if j = n + i then 1 else 0) else if g i < 0 then - g i else g i
theorem tabA_tab {n m : Nat} {C : Nat → Nat → Int} {g : Nat → Int} : Sx.Tab n m (tabA n m C g) := by
  constructor
  · intro i hi l hl
    unfold tabA
    rw [if_neg (by omega), if_pos (by omega)]
    by_cases e : i = l
    · rw [if_pos e, if_pos (by omega)]
    · rw [if_neg e, if_neg (by omega)]
  · intro i hi
    unfold tabA
    rw [if_neg (by omega), if_neg (by omega)]
    split <;> omega
theorem tabA_row {n m i : Nat} {C : Nat → Nat → Int} {g : Nat → Int} : rowL (n + m + 1) (tabA n m C g i) = rowL n (fun j => if g i < 0 then - C j i else C j i) ++ rowL m (fun l => if l = i then 1 else 0) ++ [.int (if g i < 0 then - g i else g i)] := by
  have e1 : rowL n (tabA n m C g i) = rowL n fun j => if g i < 0 then - C j i else C j i := rowL_congr fun j hj => by
    unfold tabA; rw [if_pos hj]
  have e2 : rowL m (fun l => tabA n m C g i (n + l)) = rowL m fun l => if l = i then 1 else 0 := rowL_congr fun l hl => by
    unfold tabA
    rw [if_neg (show ¬ n + l < n by omega), if_pos (show n + l < n + m by omega)]
    by_cases e : l = i
    · rw [if_pos e, if_pos (by omega)]
    · rw [if_neg e, if_neg (by omega)]
  have e3 : tabA n m C g i (n + m) = if g i < 0 then - g i else g i := by
    unfold tabA
    rw [if_neg (show ¬ n + m < n by omega), if_neg (show ¬ n + m < n + m by omega)]
  rw [rowL_last, rowL_add, e1, e2, e3]
structure Ini (N0 n m i : Nat) (S S' : Sto) (b tb : Nat) (rs : Nat → Nat) (tu : List D) (A : Nat → Nat → Int) : Prop where
  ins : S'[b]? = some (some (.ins "Board" [("many", .int n), ("turned", .lst tu), ("bottom", .int 1), ("table", .cell tb)]))
  tab : S'[tb]? = some (some (.lst ((List.range i).map fun k => D.cell (rs k))))
  row : ∀ k, k < i → S'[rs k]? = some (some (.lst (rowL (n + m + 1) (A k)))) ∧ tb < rs k ∧ rs k < S'.length
  inc : ∀ k l, k < l → l < i → rs k < rs l
  old : ∀ c, c < N0 → S'[c]? = S[c]?
  low : N0 ≤ b ∧ b < tb ∧ tb < S'.length
theorem Ini.add {N0 n m i : Nat} {S S' S2 : Sto} {b tb c : Nat} {rs : Nat → Nat} {tu : List D} {A : Nat → Nat → Int} (h : Ini N0 n m i S S' b tb rs tu A) (hc : S'.length ≤ c) (hc2 : c < S2.length) (hl : S'.length ≤ S2.length) (same : ∀ x, x < S'.length → S2[x]? = S'[x]?) (hr : S2[c]? = some (some (.lst (rowL (n + m + 1) (A i))))) :
    Ini N0 n m (i + 1) S (S2.set tb (some (.lst (((List.range i).map fun k => D.cell (rs k)) ++ [.cell c])))) b tb (fun k => if k = i then c else rs k) tu A := by
  have hlow := h.low
  have hb : b < S'.length := by omega
  refine ⟨?_, ?_, fun k hk => ?_, fun k l hkl hl2 => ?_, fun x hx => ?_, ⟨hlow.1, hlow.2.1, by rw [List.length_set]; omega⟩⟩
  · rw [List.getElem?_set_ne (by omega), same b hb]; exact h.ins
  · rw [List.getElem?_set_self (by omega), List.range_succ, List.map_append]
    congr 4
    · refine List.map_congr_left fun k hk => ?_
      rw [if_neg (by have := List.mem_range.mp hk; omega)]
    · simp
  · by_cases e : k = i
    · subst e
      simp only [if_pos]
      rw [List.getElem?_set_ne (by omega), List.length_set]
      exact ⟨hr, by omega, hc2⟩
    · simp only [if_neg e]
      obtain ⟨h1, h2, h3⟩ := h.row k (by omega)
      rw [List.getElem?_set_ne (by omega), same _ h3, List.length_set]
      exact ⟨h1, h2, by omega⟩
  · by_cases e : l = i
    · subst e
      rw [if_neg (by omega)]
      simp only [if_pos]
      have := (h.row k (by omega)).2.2
      omega
    · rw [if_neg (by omega), if_neg e]; exact h.inc k l hkl (by omega)
  · rw [List.getElem?_set_ne (by omega), same x (by omega)]; exact h.old x hx
theorem chk_cell {n : Nat} {xs : List D} {S : Sto} (h : S[n]? = some (some (.lst xs))) : chkL (.cell n) S = true := by simp [chkL, DL.listOf, h]
theorem cell_plus {xs ys : List D} {S : Sto} {P : D → Sto → Prop} (hz : xs.length + ys.length ≤ sizeLine) (q : P (.cell S.length) (S ++ [some (.lst (xs ++ ys))])) : Ok (oAddC (.lst xs) (.lst ys) S) P := by
  unfold oAddC
  simp only [listOw, hz, if_true]
  exact ⟨q⟩
theorem trim_not {S S' : Sto} {d : D} (h : ¬ Cut S d S') : trim S d S' = S' := if_neg h
section
variable {n m b i : Nat} {S : Sto} {P : D → Sto → Prop} {C : Nat → Nat → Int} {g : Nat → Int} {tb : Nat} {rs : Nat → Nat} {tu : List D} {x3 x6 x7 x8 x9 : Option D}
def mkRow : SD := (sSeq (sSet 6 (eLc (imOfA mItR1 (aCons (eL fLen (aCons (eVar 2) aNil)) aNil)) (.nm 7) bYes (eL fInt (aCons (e2 oEq (eVar 7) (eVar 4)) aNil)) [7])) (sSeq (sSet 3 (e2 oAddC (e2 oAdd (eLc (imOf mItL (eVar 1)) (.nm 9) bYes (e2 oIx (eVar 9) (eVar 4)) [9]) (eVar 6)) (eL mLst (aCons (eVar 5) aNil)))) (sSeq (sIf (bVal (e2 oLt (eVar 5) (eC (.int 0)))) (sSet 3 (e2 oAddC (e2 oAdd (eLc (imOf mItL (eSl oSl (eVar 3) oNone (oSome (e1 (oFldI Lw.fi "many") (eVar 0))))) (.nm 8) bYes (e1 oNeg (eVar 8)) [8]) (eVar 6)) (eL mLst (aCons (e1 oNeg (eVar 5)) aNil)))) sNx) (sExpr (eMt chkL mAppend (e1 (oFldI Lw.fi "table") (eVar 0)) (aCons (eVar 3) aNil))))))
set_option maxHeartbeats 2000000 in
theorem mkRow_ok {N0 : Nat} {S0 : Sto} (hi : i < m) (hw : n + m + 1 ≤ 5000) (J : Ini N0 n m i S0 S b tb rs tu (tabA n m C g)) :
    OkS (mkRow [some (.cell b), some (colsD n m C), some (.lst (rowL m g)), x3, some (.int i), some (.int (g i)), x6, x7, x8, x9] S) fun f ρ S' => f = .nx ∧ (∃ rs', Ini N0 n m (i + 1) S0 S' b tb rs' tu (tabA n m C g)) ∧
      ∃ y3 y4 y5 y6 y7 y8 y9, ρ = [some (.cell b), some (colsD n m C), some (.lst (rowL m g)), y3, y4, y5, y6, y7, y8, y9] := by
  unfold mkRow
  walk_at "dl"
  rw [rowL_len]
  refine i_rng1 (by omega) (by omega) ?_
  refine lc_map (l := List.range ((m : Nat) : Int).toNat) (f := fun j : Nat => D.int j) (g := fun l : Nat => D.int (if l = i then 1 else 0)) (by rw [sizeLine_eq]; simp; omega) ?_ ?_
  · intro l hl
    refine ⟨_, rfl, ?_⟩
    walk_at "dl"
    refine ⟨by
      congr 1
      by_cases e : l = i
      · subst e; simp
      · rw [if_neg e, if_neg (by simp; omega)], rfl⟩
  rw [show (List.range ((m : Nat) : Int).toNat).map (fun l : Nat => D.int (if l = i then 1 else 0)) = rowL m (fun l => if l = i then 1 else 0) from rfl]
  walk_at "dl"
  refine i_list ?_
  refine lc_map (l := List.range n) (f := fun j => D.lst (rowL m (C j))) (g := fun j : Nat => D.int (C j i)) (by rw [sizeLine_eq]; simp; omega) ?_ ?_
  · intro j hj
    refine ⟨_, rfl, ?_⟩
    walk_at "dl"
    refine o_ixL rfl (rowL_get hi) ?_
    exact ⟨rfl, rfl⟩
  rw [show (List.range n).map (fun j : Nat => D.int (C j i)) = rowL n (fun j => C j i) from rfl]
  walk_at "dl"
  refine o_addL (by rw [sizeLine_eq, rowL_len, rowL_len]; omega) ?_
  walk_at "dl"
  refine cell_plus (by rw [sizeLine_eq, List.length_append, rowL_len, rowL_len]; simp; omega) ?_
  walk_at "dl"
  have hL := J.low
  have hl0 : ∀ (r : List D), (S ++ [some (CO.lst r)])[S.length]? = some (some (.lst r)) := fun r => by rw [List.getElem?_append_right (Nat.le_refl _)]; simp
  refine k_condD (fun hz => ?_) fun hz => ?_
  · walk_at "dl"
    refine o_fldI (v := .int n) (by rw [List.getElem?_append_left (by omega)]; exact J.ins) fi_many rfl ?_
    refine ⟨n, rfl, ?_⟩
    refine o_sl (xs := rowL n (fun j => C j i) ++ rowL m (fun l => if l = i then 1 else 0) ++ [.int (g i)]) (by simp only [DL.listOf, hl0]) ?_
    have ht : (rowL n (fun j => C j i) ++ rowL m (fun l => if l = i then 1 else 0) ++ [D.int (g i)]).take n = rowL n (fun j => C j i) := by rw [List.append_assoc, List.take_left' (by rw [rowL_len])]
    rw [cut_to, ht]
    walk_at "dl"
    refine i_list ?_
    refine lc_map (l := List.range n) (f := fun j : Nat => D.int (C j i)) (g := fun j : Nat => D.int (- C j i)) (by rw [sizeLine_eq]; simp; omega) ?_ ?_
    · intro j hj
      refine ⟨_, rfl, ?_⟩
      walk_at "dl"
      exact ⟨rfl, rfl⟩
    rw [show (List.range n).map (fun j : Nat => D.int (- C j i)) = rowL n (fun j => - C j i) from rfl]
    walk_at "dl"
    refine o_addL (by rw [sizeLine_eq, rowL_len, rowL_len]; omega) ?_
    walk_at "dl"
    refine cell_plus (by rw [sizeLine_eq, List.length_append, rowL_len, rowL_len]; simp; omega) ?_
    walk_at "dl"
    generalize hS1 : S ++ [some (CO.lst (rowL n (fun j => C j i) ++ rowL m (fun l => if l = i then 1 else 0) ++ [.int (g i)]))] = S1
    have l1 : S1.length = S.length + 1 := by rw [← hS1]; simp
    have s1 : ∀ x, x < S.length → S1[x]? = S[x]? := fun x hx => by rw [← hS1, List.getElem?_append_left hx]
    generalize hS2 : S1 ++ [some (CO.lst (rowL n (fun j => - C j i) ++ rowL m (fun l => if l = i then 1 else 0) ++ [.int (- g i)]))] = S2
    have l2 : S2.length = S1.length + 1 := by rw [← hS2]; simp
    have s2 : ∀ x, x < S.length → S2[x]? = S[x]? := fun x hx => by rw [← hS2, List.getElem?_append_left (by omega)]; exact s1 x hx
    have r2 : S2[S1.length]? = some (some (CO.lst (rowL n (fun j => - C j i) ++ rowL m (fun l => if l = i then 1 else 0) ++ [.int (- g i)]))) := by rw [← hS2, List.getElem?_append_right (Nat.le_refl _)]; simp
    refine o_fldI (v := .cell tb) (by rw [s2 b (by omega)]; exact J.ins) fi_table rfl ?_
    refine ⟨chk_cell (xs := (List.range i).map fun k => D.cell (rs k)) (by rw [s2 tb (by omega)]; exact J.tab), ?_⟩
    walk_at "dl"
    refine o_app (xs := (List.range i).map fun k => D.cell (rs k)) (by rw [s2 tb (by omega)]; exact J.tab) (by rw [sizeLine_eq]; simp; omega) ?_
    refine ⟨rfl, ⟨_, J.add (c := S1.length) (by omega) (by omega) (by omega) s2 ?_⟩, _, _, _, _, _, _, _, rfl⟩
    rw [r2, tabA_row, if_pos hz]
    simp [hz]
  · walk_at "dl"
    refine o_fldI (v := .cell tb) (by rw [List.getElem?_append_left (by omega)]; exact J.ins) fi_table rfl ?_
    refine ⟨chk_cell (xs := (List.range i).map fun k => D.cell (rs k)) (by rw [List.getElem?_append_left (by omega)]; exact J.tab), ?_⟩
    walk_at "dl"
    refine o_app (xs := (List.range i).map fun k => D.cell (rs k)) (by rw [List.getElem?_append_left (by omega)]; exact J.tab) (by rw [sizeLine_eq]; simp; omega) ?_
    refine ⟨rfl, ⟨_, J.add (c := S.length) (Nat.le_refl _) (by simp) (by simp) (fun x hx => by rw [List.getElem?_append_left hx]) ?_⟩, _, _, _, _, _, _, _, rfl⟩
    rw [hl0, tabA_row, if_neg hz]
    simp [hz]
end

structure Ini2 (N0 n m : Nat) (S S' : Sto) (b tb lf : Nat) (rs : Nat → Nat) (tu : List D) (A : Nat → Nat → Int) (zf : Nat → Int) : Prop where
  ins : S'[b]? = some (some (.ins "Board" [("many", .int n), ("turned", .lst tu), ("bottom", .int 1), ("table", .cell tb), ("left", .cell lf)]))
  tab : S'[tb]? = some (some (.lst ((List.range m).map fun k => D.cell (rs k))))
  row : ∀ k, k < m → S'[rs k]? = some (some (.lst (rowL (n + m + 1) (A k)))) ∧ tb < rs k ∧ rs k < lf
  inc : ∀ k l, k < l → l < m → rs k < rs l
  old : ∀ c, c < N0 → S'[c]? = S[c]?
  left : S'[lf]? = some (some (.lst (rowL (n + m + 1) zf)))
  low : N0 ≤ b ∧ b < tb ∧ tb < lf ∧ lf < S'.length
/-- another left row -/
theorem Ini2.next {N0 n m : Nat} {S S' S2 : Sto} {b tb lf : Nat} {rs : Nat → Nat} {tu : List D} {A : Nat → Nat → Int} {zf zg : Nat → Int} (h : Ini2 N0 n m S S' b tb lf rs tu A zf) (e : S2 = S' ++ [some (.lst (rowL (n + m + 1) zg))]) :
    Ini2 N0 n m S (S2.set b (some (.ins "Board" [("many", .int n), ("turned", .lst tu), ("bottom", .int 1), ("table", .cell tb), ("left", .cell S'.length)]))) b tb S'.length rs tu A zg := by
  have hlow := h.low
  have l2 : S2.length = S'.length + 1 := by rw [e]; simp
  have same : ∀ x, x < S'.length → S2[x]? = S'[x]? := fun x hx => by rw [e, List.getElem?_append_left hx]
  refine ⟨List.getElem?_set_self (by omega), ?_, fun k hk => ?_, h.inc, fun c hc => ?_, ?_, ⟨hlow.1, hlow.2.1, by omega, by rw [List.length_set]; omega⟩⟩
  · rw [List.getElem?_set_ne (by omega), same tb (by omega)]; exact h.tab
  · obtain ⟨h1, h2, h3⟩ := h.row k hk
    exact ⟨by rw [List.getElem?_set_ne (by omega), same _ (by omega)]; exact h1, h2, by omega⟩
  · rw [List.getElem?_set_ne (by omega), same c (by omega)]; exact h.old c hc
  · rw [List.getElem?_set_ne (by omega), e, List.getElem?_append_right (Nat.le_refl _)]; simp
theorem Ini2.put {N0 n m : Nat} {S S' : Sto} {b tb lf : Nat} {rs : Nat → Nat} {tu : List D} {A : Nat → Nat → Int} {zf zg : Nat → Int} (h : Ini2 N0 n m S S' b tb lf rs tu A zf) :
    Ini2 N0 n m S (S'.set lf (some (.lst (rowL (n + m + 1) zg)))) b tb lf rs tu A zg := by
  have hlow := h.low
  refine ⟨?_, ?_, fun k hk => ?_, h.inc, fun c hc => ?_, List.getElem?_set_self hlow.2.2.2, ⟨hlow.1, hlow.2.1, hlow.2.2.1, by rw [List.length_set]; omega⟩⟩
  · rw [List.getElem?_set_ne (by omega)]; exact h.ins
  · rw [List.getElem?_set_ne (by omega)]; exact h.tab
  · obtain ⟨h1, h2, h3⟩ := h.row k hk
    exact ⟨by rw [List.getElem?_set_ne (by omega)]; exact h1, h2, h3⟩
  · rw [List.getElem?_set_ne (by omega)]; exact h.old c hc
theorem Ini2.end_ {N0 n m : Nat} {S S' S2 : Sto} {b tb lf : Nat} {rs : Nat → Nat} {tu : List D} {A : Nat → Nat → Int} (h : Ini2 N0 n m S S' b tb lf rs tu A (Sx.st0 n m A).z) (e : S2 = S' ++ [some (.lst (rowL m fun i => ((n + i : Nat) : Int)))]) :
    Bd N0 n m (S2.set b (some (.ins "Board" (fsB n tu 1 tb lf S'.length)))) b tb lf S'.length rs tu (Sx.st0 n m A) := by
  have hlow := h.low
  have l2 : S2.length = S'.length + 1 := by rw [e]; simp
  have same : ∀ x, x < S'.length → S2[x]? = S'[x]? := fun x hx => by rw [e, List.getElem?_append_left hx]
  refine ⟨List.getElem?_set_self (by omega), ?_, fun k hk => ?_, ?_, ?_, fun i hi k hk z => ?_, fun i hi => ?_, fun i hi => ?_, fun i hi => ?_, by omega, by omega, by omega, ⟨hlow.1, by omega, by omega, by omega, fun i hi => ?_⟩⟩
  · rw [List.getElem?_set_ne (by omega), same tb (by omega)]; exact h.tab
  · obtain ⟨h1, h2, h3⟩ := h.row k hk
    rw [List.getElem?_set_ne (by omega), same _ (by omega)]; exact h1
  · rw [List.getElem?_set_ne (by omega), same _ (by omega)]; exact h.left
  · rw [List.getElem?_set_ne (by omega), e, List.getElem?_append_right (Nat.le_refl _)]; simp; rfl
  · rcases Nat.lt_trichotomy i k with c | c | c
    · have := h.inc i k c hk; omega
    · exact c
    · have := h.inc k i c hi; omega
  · have := (h.row i hi).2.1; omega
  · have := (h.row i hi).2.2; omega
  · have := (h.row i hi).2.2; omega
  · have := (h.row i hi).2.1; omega
def turnedL (m : Nat) (g : Nat → Int) : List D := rowL m fun i => if g i < 0 then -1 else 1
section
variable {n m : Nat} {S0 : Sto} {P : D → Sto → Prop} {C : Nat → Nat → Int} {g : Nat → Int}
theorem rng_d {w i : Nat} {d : D} (h : ((List.range ((w : Nat) : Int).toNat).map fun i : Nat => D.int i)[i]? = some d) : i < w ∧ d = .int i := by
  have hi : i < w := by simpa using (List.getElem?_eq_some_iff.mp h).1
  rw [List.getElem?_map, List.getElem?_range (by simpa using hi)] at h
  exact ⟨hi, (Option.some.inj h).symm⟩
set_option maxHeartbeats 4000000 in
theorem init_ok (hw : n + m + 1 ≤ 5000) (q : ∀ tb lf bs rs S', Bd S0.length n m S' S0.length tb lf bs rs (turnedL m g) (Sx.st0 n m (tabA n m C g)) → (∀ c, c < S0.length → S'[c]? = S0[c]?) → S0.length ≤ S'.length → P .non S') :
    Ok (Lw.f_Board_m___init__ [.cell S0.length, colsD n m C, .lst (rowL m g)] (S0 ++ [some (.ins "Board" [])])) P := by
  unfold Lw.f_Board_m___init__
  refine k_fn rfl ?_
  unfold Lw.d_Board_m___init__
  generalize hb : S0.length = b
  generalize hS : S0 ++ [some (CO.ins "Board" [])] = S
  have lS : S.length = b + 1 := by rw [← hS, ← hb]; simp
  have iS : S[b]? = some (some (.ins "Board" [])) := by rw [← hS, ← hb, List.getElem?_append_right (Nat.le_refl _)]; simp
  have oS : ∀ c, c < b → S[c]? = S0[c]? := fun c hc => by rw [← hS, List.getElem?_append_left (by omega)]
  walk_at "dl"
  refine k_fldI ?_
  walk_at "dl"
  refine ⟨b, _, _, rfl, iS, fi_many, (show (0 : Nat) < 1000 by decide), ?_⟩
  rw [List.length_map, List.length_range, show putD "many" (.int (n : Int)) [] = ([("many", .int n)] : List (Str × D)) from rfl]
  generalize hS1 : S.set b (some (CO.ins "Board" [("many", D.int n)])) = S1
  have l1 : S1.length = b + 1 := by rw [← hS1, List.length_set]; exact lS
  have i1 : S1[b]? = some (some (.ins "Board" [("many", D.int n)])) := by rw [← hS1, List.getElem?_set_self (by omega)]
  have o1 : ∀ c, c < b → S1[c]? = S0[c]? := fun c hc => by rw [← hS1, List.getElem?_set_ne (by omega)]; exact oS c hc
  walk_at "dl"
  refine k_fldI ?_
  walk_at "dl"
  refine i_list ?_
  refine lc_map (l := List.range m) (f := fun i : Nat => D.int (g i)) (g := fun i : Nat => D.int (if g i < 0 then -1 else 1)) (by rw [sizeLine_eq]; simp; omega) ?_ ?_
  · intro j hj
    refine ⟨_, rfl, ?_⟩
    walk_at "dl"
    by_cases z : g j < 0
    · rw [if_pos (by simpa using z), if_pos z]
      refine o_ix (v := .int (-1)) rfl ⟨rfl, rfl⟩
    · rw [if_neg (by simpa using z), if_neg z]
      refine o_ix (v := .int 1) rfl ⟨rfl, rfl⟩
  rw [show (List.range m).map (fun i : Nat => D.int (if g i < 0 then -1 else 1)) = turnedL m g from rfl]
  walk_at "dl"
  refine ⟨b, _, _, rfl, i1, fi_turned, (show (1 : Nat) < 1000 by decide), ?_⟩
  rw [show putD "turned" (.lst (turnedL m g)) ([("many", .int (n : Int))] : List (Str × D)) = ([("many", .int n), ("turned", .lst (turnedL m g))] : List (Str × D)) from rfl]
  generalize hS2 : S1.set b (some (CO.ins "Board" [("many", D.int n), ("turned", .lst (turnedL m g))])) = S2
  have l2 : S2.length = b + 1 := by rw [← hS2, List.length_set]; exact l1
  have i2 : S2[b]? = some (some (.ins "Board" [("many", D.int n), ("turned", .lst (turnedL m g))])) := by rw [← hS2, List.getElem?_set_self (by omega)]
  have o2 : ∀ c, c < b → S2[c]? = S0[c]? := fun c hc => by rw [← hS2, List.getElem?_set_ne (by omega)]; exact o1 c hc
  walk_at "dl"
  refine k_fldI ?_
  walk_at "dl"
  refine ⟨b, _, _, rfl, i2, fi_bottom, (show (2 : Nat) < 1000 by decide), ?_⟩
  rw [show putD "bottom" (.int 1) ([("many", .int (n : Int)), ("turned", .lst (turnedL m g))] : List (Str × D)) = ([("many", .int n), ("turned", .lst (turnedL m g)), ("bottom", .int 1)] : List (Str × D)) from rfl]
  generalize hS3 : S2.set b (some (CO.ins "Board" [("many", D.int n), ("turned", .lst (turnedL m g)), ("bottom", .int 1)])) = S3
  have l3 : S3.length = b + 1 := by rw [← hS3, List.length_set]; exact l2
  have i3 : S3[b]? = some (some (.ins "Board" [("many", D.int n), ("turned", .lst (turnedL m g)), ("bottom", .int 1)])) := by rw [← hS3, List.getElem?_set_self (by omega)]
  have o3 : ∀ c, c < b → S3[c]? = S0[c]? := fun c hc => by rw [← hS3, List.getElem?_set_ne (by omega)]; exact o2 c hc
  walk_at "dl"
  refine k_fldI ?_
  walk_at "dl"
  refine ⟨b, _, _, rfl, (List.getElem?_append_left (by omega)).trans i3, fi_table, (show (3 : Nat) < 1000 by decide), ?_⟩
  rw [l3, show putD "table" (.cell (b + 1)) ([("many", .int (n : Int)), ("turned", .lst (turnedL m g)), ("bottom", .int 1)] : List (Str × D)) = ([("many", .int n), ("turned", .lst (turnedL m g)), ("bottom", .int 1), ("table", .cell (b + 1))] : List (Str × D)) from rfl]
  generalize hS4 : (S3 ++ [some (CO.lst [])]).set b (some (CO.ins "Board" [("many", D.int n), ("turned", .lst (turnedL m g)), ("bottom", .int 1), ("table", .cell (b + 1))])) = S4
  have J0 : Ini b n m 0 S0 S4 b (b + 1) (fun _ => 0) (turnedL m g) (tabA n m C g) := by
    refine ⟨?_, ?_, fun k hk => by omega, fun k l _ hl => by omega, fun c hc => ?_, ⟨Nat.le_refl _, by omega, by rw [← hS4]; simp; omega⟩⟩
    · rw [← hS4, List.getElem?_set_self (by simp; omega)]
    · rw [← hS4, List.getElem?_set_ne (by omega), List.getElem?_append_right (by omega), l3]; simp
    · rw [← hS4, List.getElem?_set_ne (by omega), List.getElem?_append_left (by omega)]; exact o3 c hc
  refine k_seqQ (Q := fun f ρ S' => f = .nx ∧ (∃ rs, Ini b n m m S0 S' b (b + 1) rs (turnedL m g) (tabA n m C g)) ∧ ∃ y3 y4 y5 y6 y7 y8 y9, ρ = [some (.cell b), some (colsD n m C), some (.lst (rowL m g)), y3, y4, y5, y6, y7, y8, y9]) ?_ ?_
  · walk_at "dl"
    refine i_enum ?_
    refine k_forL (fun i ρ S' => i ≤ m ∧ (∃ rs, Ini b n m i S0 S' b (b + 1) rs (turnedL m g) (tabA n m C g)) ∧ ∃ y3 y4 y5 y6 y7 y8 y9, ρ = [some (.cell b), some (colsD n m C), some (.lst (rowL m g)), y3, y4, y5, y6, y7, y8, y9]) ⟨Nat.zero_le _, ⟨_, J0⟩, _, _, _, _, _, _, _, rfl⟩ ?_ ?_
    · rintro i ρ S' d hd ⟨_, ⟨rs, J⟩, y3, y4, y5, y6, y7, y8, y9, rfl⟩
      obtain ⟨x, hx, rfl⟩ := enum_get hd
      have hi : i < m := by
        have := (List.getElem?_eq_some_iff.mp hx).1
        rw [rowL_len] at this; exact this
      rw [rowL_get hi] at hx
      cases hx
      refine ⟨_, rfl, ?_⟩
      refine (mkRow_ok (x3 := y3) (x6 := y6) (x7 := y7) (x8 := y8) (x9 := y9) hi hw J).imp ?_
      rintro f ρ2 S2' ⟨rfl, h1, h2⟩
      exact ⟨hi, h1, h2⟩
    · rintro ρ S' ⟨_, h1, h2⟩
      rw [enum_len, rowL_len] at h1
      exact ⟨rfl, h1, h2⟩
  rintro f ρ S5 ⟨rfl, ⟨rs, J⟩, y3, y4, y5, y6, y7, y8, y9, rfl⟩
  have hJ := J.low
  walk_at "dl"
  refine k_fldI ?_
  walk_at "dl"
  refine o_fldI J.ins fi_many rfl ?_
  walk_at "dl"
  rw [rowL_len]
  with_reducible refine o_mulC ?h1 ?h2 ?h3 ?_
  case h1 => omega
  case h2 => omega
  case h3 => rw [sizeLine_eq]; simp; omega
  rw [rep_flat, show (((n : Int) + (m : Int)) + 1).toNat = n + m + 1 by omega, ← rowL_const]
  walk_at "dl"
  refine ⟨b, _, _, rfl, (List.getElem?_append_left (by omega)).trans J.ins, fi_left, (show (4 : Nat) < 1000 by decide), ?_⟩
  rw [show putD "left" (.cell S5.length) ([("many", .int (n : Int)), ("turned", .lst (turnedL m g)), ("bottom", .int 1), ("table", .cell (b + 1))] : List (Str × D)) = ([("many", .int n), ("turned", .lst (turnedL m g)), ("bottom", .int 1), ("table", .cell (b + 1)), ("left", .cell S5.length)] : List (Str × D)) from rfl]
  generalize hS6 : (S5 ++ [some (CO.lst (rowL (n + m + 1) fun _ => 0))]).set b (some (CO.ins "Board" [("many", D.int n), ("turned", .lst (turnedL m g)), ("bottom", .int 1), ("table", .cell (b + 1)), ("left", .cell S5.length)])) = S6
  have J6 : Ini2 b n m S0 S6 b (b + 1) S5.length rs (turnedL m g) (tabA n m C g) fun _ => 0 := by
    refine ⟨?_, ?_, fun k hk => ?_, J.inc, fun c hc => ?_, ?_, ⟨hJ.1, hJ.2.1, hJ.2.2, by rw [← hS6]; simp⟩⟩
    · rw [← hS6, List.getElem?_set_self (by simp; omega)]
    · rw [← hS6, List.getElem?_set_ne (by omega), List.getElem?_append_left (by omega)]; exact J.tab
    · obtain ⟨h1, h2, h3⟩ := J.row k hk
      exact ⟨by rw [← hS6, List.getElem?_set_ne (by omega), List.getElem?_append_left h3]; exact h1, h2, h3⟩
    · rw [← hS6, List.getElem?_set_ne (by omega), List.getElem?_append_left (by omega)]; exact J.old c hc
    · rw [← hS6, List.getElem?_set_ne (by omega), List.getElem?_append_right (Nat.le_refl _)]; simp
  refine k_seqQ (Q := fun f ρ S' => f = .nx ∧ (∃ lf, Ini2 b n m S0 S' b (b + 1) lf rs (turnedL m g) (tabA n m C g) fun j => - Sx.sm m fun k => tabA n m C g k j) ∧ ∃ y3 y4 y5 y6 y7 y8 y9, ρ = [some (.cell b), some (colsD n m C), some (.lst (rowL m g)), y3, y4, y5, y6, y7, y8, y9]) ?_ ?_
  · walk_at "dl"
    refine o_fldI J6.ins fi_table rfl ?_
    refine i_cell J6.tab ?_
    refine k_forN (xs := (List.range m).map fun k => D.cell (rs k)) (fun i ρ S' => i ≤ m ∧ (∃ lf, Ini2 b n m S0 S' b (b + 1) lf rs (turnedL m g) (tabA n m C g) fun j => - Sx.sm i fun k => tabA n m C g k j) ∧ ∃ y3 y4 y5 y6 y7 y8 y9, ρ = [some (.cell b), some (colsD n m C), some (.lst (rowL m g)), y3, y4, y5, y6, y7, y8, y9]) rfl ⟨Nat.zero_le _, ⟨_, J6⟩, _, _, _, _, _, _, _, rfl⟩ ?_ ?_ ?_
    · rintro i ρ S' ⟨_, ⟨lf, K⟩, _⟩
      exact itC_nx K.tab
    · rintro i ρ S' d hd ⟨_, ⟨lf, K⟩, y3, y4, y5, y6, y7, y8, y9, rfl⟩
      obtain ⟨hi, rfl⟩ := cells_get hd
      have hK := K.low
      refine ⟨_, rfl, ?_⟩
      walk_at "dl"
      refine k_fldI ?_
      walk_at "dl"
      refine o_fldI K.ins fi_left rfl ?_
      walk_at "dl"
      refine i_zipCC K.left (K.row i hi).1 ?_
      rw [zip_rowL]
      refine lc_mapN (l := List.range (n + m + 1)) (f := fun j : Nat => .tup [.int (- Sx.sm i fun k => tabA n m C g k j), .int (tabA n m C g i j)]) (g := fun j : Nat => D.int (- Sx.sm (i + 1) fun k => tabA n m C g k j)) (by simp [itZ]) (fun x => ?_) (by rw [sizeLine_eq]; simp; omega) ?_ ?_
      · rw [itZ_nxCC K.left (K.row i hi).1, zip_rowL]
      · intro j hj
        refine ⟨_, rfl, ?_⟩
        walk_at "dl"
        refine ⟨?_, rfl⟩
        congr 1
        show _ = - (Sx.sm i (fun k => tabA n m C g k j) + tabA n m C g i j)
        omega
      rw [show (List.range (n + m + 1)).map (fun j : Nat => D.int (- Sx.sm (i + 1) fun k => tabA n m C g k j)) = rowL (n + m + 1) (fun j => - Sx.sm (i + 1) fun k => tabA n m C g k j) from rfl]
      walk_at "dl"
      refine ⟨b, _, _, rfl, (List.getElem?_append_left (by omega)).trans K.ins, fi_left, (show (5 : Nat) < 1000 by decide), ?_⟩
      exact ⟨hi, ⟨_, K.next rfl⟩, _, _, _, _, _, _, _, rfl⟩
    · rintro ρ S' ⟨_, ⟨lf, K⟩, h2⟩
      rw [List.length_map, List.length_range] at K
      exact ⟨rfl, ⟨lf, K⟩, h2⟩
  rintro f ρ S7 ⟨rfl, ⟨lf, K⟩, y3, y4, y5, y6, y7, y8, y9, rfl⟩
  refine k_seqQ (Q := fun f ρ S' => f = .nx ∧ (Ini2 b n m S0 S' b (b + 1) lf rs (turnedL m g) (tabA n m C g) (Sx.st0 n m (tabA n m C g)).z) ∧ ∃ y3 y4 y5 y6 y7 y8 y9, ρ = [some (.cell b), some (colsD n m C), some (.lst (rowL m g)), y3, y4, y5, y6, y7, y8, y9]) ?_ ?_
  · walk_at "dl"
    rw [rowL_len]
    refine i_rng1 (by omega) (by omega) ?_
    refine k_forL (fun i ρ S' => i ≤ m ∧ (Ini2 b n m S0 S' b (b + 1) lf rs (turnedL m g) (tabA n m C g) fun j => if n ≤ j ∧ j < n + i then 0 else - Sx.sm m fun k => tabA n m C g k j) ∧ ∃ y3 y4 y5 y6 y7 y8 y9, ρ = [some (.cell b), some (colsD n m C), some (.lst (rowL m g)), y3, y4, y5, y6, y7, y8, y9]) ⟨Nat.zero_le _, ?_, _, _, _, _, _, _, _, rfl⟩ ?_ ?_
    · have e : rowL (n + m + 1) (fun j => if n ≤ j ∧ j < n + 0 then 0 else - Sx.sm m fun k => tabA n m C g k j) = rowL (n + m + 1) fun j => - Sx.sm m fun k => tabA n m C g k j := rowL_congr fun j _ => by rw [if_neg (by omega)]
      exact ⟨K.ins, K.tab, K.row, K.inc, K.old, by rw [e]; exact K.left, K.low⟩
    · rintro i ρ S' d hd ⟨_, K', y3, y4, y5, y6, y7, y8, y9, rfl⟩
      obtain ⟨hi, rfl⟩ := rng_d hd
      refine ⟨_, rfl, ?_⟩
      walk_at "dl"
      refine o_fldI K'.ins fi_left rfl ?_
      walk_at "dl"
      refine o_fldI K'.ins fi_many rfl ?_
      walk_at "dl"
      refine ⟨_, setD_at (j := n + i) K'.left (by omega) (by rw [rowL_len]; omega), ?_⟩
      rw [rowL_set (by omega)]
      have e : rowL (n + m + 1) (fun j => if j = n + i then 0 else if n ≤ j ∧ j < n + i then 0 else - Sx.sm m fun k => tabA n m C g k j) = rowL (n + m + 1) fun j => if n ≤ j ∧ j < n + (i + 1) then 0 else - Sx.sm m fun k => tabA n m C g k j := rowL_congr fun j _ => by
        by_cases z : j = n + i
        · rw [if_pos z, if_pos (by omega)]
        · rw [if_neg z]
          by_cases z2 : n ≤ j ∧ j < n + i
          · rw [if_pos z2, if_pos (by omega)]
          · rw [if_neg z2, if_neg (by omega)]
      rw [e]
      exact ⟨hi, K'.put, _, _, _, _, _, _, _, rfl⟩
    · rintro ρ S' ⟨_, K', h2⟩
      rw [List.length_map, List.length_range] at K'
      refine ⟨rfl, ?_, h2⟩
      have e : rowL (n + m + 1) (fun j => if n ≤ j ∧ j < n + ((m : Nat) : Int).toNat then 0 else - Sx.sm m fun k => tabA n m C g k j) = rowL (n + m + 1) (Sx.st0 n m (tabA n m C g)).z := rowL_congr fun j hj => by
        show _ = Sx.co n m j - Sx.sm m fun k => tabA n m C g k j
        rw [show ((m : Nat) : Int).toNat = m by omega]
        by_cases z : n ≤ j ∧ j < n + m
        · rw [if_pos z]
          unfold Sx.co
          rw [if_pos z, Sx.sm_one (k := j - n) (by omega)]
          · have := (tabA_tab (n := n) (m := m) (C := C) (g := g)).un (j - n) (by omega) (j - n) (by omega)
            rw [if_pos rfl, show n + (j - n) = j by omega] at this
            rw [this]; rfl
          · intro i hi hne
            have := (tabA_tab (n := n) (m := m) (C := C) (g := g)).un i hi (j - n) (by omega)
            rw [if_neg hne, show n + (j - n) = j by omega] at this
            exact this
        · rw [if_neg z]
          unfold Sx.co
          rw [if_neg z]; omega
      rw [show (fun j => if n ≤ j ∧ j < n + ((m : Nat) : Int).toNat then (0 : Int) else - Sx.sm m fun k => tabA n m C g k j) = _ from rfl] at K'
      exact ⟨K'.ins, K'.tab, K'.row, K'.inc, K'.old, by rw [← e]; exact K'.left, K'.low⟩
  rintro f ρ S8 ⟨rfl, K8, y3, y4, y5, y6, y7, y8, y9, rfl⟩
  have h8 := K8.low
  walk_at "dl"
  refine k_fldI ?_
  walk_at "dl"
  rw [rowL_len]
  refine i_rng1 (by omega) (by omega) ?_
  refine lc_map (l := List.range ((m : Nat) : Int).toNat) (f := fun j : Nat => D.int j) (g := fun i : Nat => D.int ((n + i : Nat) : Int)) (by rw [sizeLine_eq]; simp; omega) ?_ ?_
  · intro j hj
    refine ⟨_, rfl, ?_⟩
    walk_at "dl"
    refine o_fldI K8.ins fi_many rfl ?_
    walk_at "dl"
    exact ⟨by rw [Int.natCast_add], rfl⟩
  rw [show (List.range ((m : Nat) : Int).toNat).map (fun i : Nat => D.int ((n + i : Nat) : Int)) = rowL m (fun i => ((n + i : Nat) : Int)) from rfl]
  walk_at "dl"
  refine ⟨b, _, _, rfl, (List.getElem?_append_left (by omega)).trans K8.ins, fi_basis, (show (5 : Nat) < 1000 by decide), ?_⟩
  have B := K8.end_ rfl
  have e9 : putD "basis" (.cell S8.length) ([("many", .int (n : Int)), ("turned", .lst (turnedL m g)), ("bottom", .int 1), ("table", .cell (b + 1)), ("left", .cell lf)] : List (Str × D)) = fsB n (turnedL m g) 1 (b + 1) lf S8.length := rfl
  rw [e9, trim_not]
  · subst hb
    refine q _ _ _ _ _ B (fun c hc => ?_) (by rw [List.length_set]; simp; omega)
    rw [List.getElem?_set_ne (by omega), List.getElem?_append_left (by omega)]; exact K8.old c (by omega)
  · rintro ⟨_, h⟩
    have := h b _ (by omega) B.ins
    rcases this with z | z
    · rw [iS] at z; simp [fsB] at z
    · simp [CO.bel, D.belL, D.bel, fsB] at z
      omega
end

/-! ### what the board tells -/
/-- the share of a column, times the bottom -/
def partX (n m : Nat) (t : Sx.St) (i j : Nat) : Int := Sx.sm i fun k => if t.B k = j then t.T k (n + m) else 0
structure Gx (S S' : Sto) : Prop where
  len : S.length ≤ S'.length
  old : ∀ c, c < S.length → S'[c]? = S[c]?
theorem Gx.refl {S : Sto} : Gx S S := ⟨Nat.le_refl _, fun _ _ => rfl⟩
theorem Gx.trans {S S1 S2 : Sto} (a : Gx S S1) (b : Gx S1 S2) : Gx S S2 := ⟨Nat.le_trans a.len b.len, fun c h => (b.old c (Nat.lt_of_lt_of_le h a.len)).trans (a.old c h)⟩
theorem Gx.push {S : Sto} {o : Option CO} : Gx S (S ++ [o]) := ⟨by simp, fun c h => List.getElem?_append_left h⟩
theorem Gx.put {S S1 : Sto} {o : Option CO} {c : Nat} (a : Gx S S1) (h : S.length ≤ c) : Gx S (S1.set c o) := ⟨by rw [List.length_set]; exact a.len, fun x hx => by rw [List.getElem?_set_ne (by omega)]; exact a.old x hx⟩
theorem trim_cell {S S' : Sto} {c : Nat} (h : S.length ≤ c) : trim S (.cell c) S' = S' := trim_not fun z => by
  have := z.1
  simp [D.bel] at this; omega
theorem low_nought {b : Int} (h : b ≠ 0) : lowF 0 b = (0, 1) := low_eq h (nrm_int 0) (by simp)
section
variable {N0 n m b tb lf bs kz : Nat} {rs : Nat → Nat} {tu : List D} {t : Sx.St} {S : Sto} {P : D → Sto → Prop} {A : Nat → Nat → Int}
theorem partX_next (I : Sx.Inv n m A t) {i : Nat} (hi : i < m) : partX n m t i (t.B i) = 0 := Sx.sm_zero fun k hk => if_neg fun e => by
  have := I.inj (by omega) hi e
  omega
theorem frL_set {n j : Nat} {f g : Nat → Fr} (hj : j < n) (hs : ∀ x, x < n → x ≠ j → f x = g x) : ((List.range n).map fun x => fD (f x)).set j (fD (g j)) = (List.range n).map fun x => fD (g x) := by
  refine List.ext_getElem? fun i => ?_
  by_cases e : i = j
  · subst e
    rw [List.getElem?_set_self (by simpa using hj), List.getElem?_map, List.getElem?_range hj]; rfl
  · rw [List.getElem?_set_ne (Ne.symm e)]
    by_cases hi : i < n
    · rw [List.getElem?_map, List.getElem?_range hi, List.getElem?_map, List.getElem?_range hi]
      simp only [Option.map_some]
      rw [hs i hi e]
    · rw [List.getElem?_eq_none (by simp; omega), List.getElem?_eq_none (by simp; omega)]
set_option maxHeartbeats 2000000 in
theorem shares_ok (B : Bd N0 n m S b tb lf bs rs tu t) (I : Sx.Inv n m A t) (hn : n ≤ 4000) (hm : m ≤ 4000) (hk : kz ≤ 8000) (sb : Sz kz t.b)
    (q : ∀ S', Gx S S' → S'[S.length]? = some (some (.lst ((List.range n).map fun j => fD (lowF (partX n m t m j) t.b)))) → P (.cell S.length) S') : Ok (Lw.f_Board_m_shares [.cell b] S) P := by
  have hb0 : t.b ≠ 0 := by have := I.pos; omega
  have lt : ∀ {c : Nat} {o : CO}, S[c]? = some (some o) → c < S.length := fun e => (List.getElem?_eq_some_iff.mp e).1
  unfold Lw.f_Board_m_shares
  refine k_fn rfl ?_
  unfold Lw.d_Board_m_shares
  walk_at "dl"
  refine o_fldI B.ins fi_many lk_many ?_
  with_reducible refine o_mulC ?h1 ?h2 ?h3 ?_
  case h1 => omega
  case h2 => omega
  case h3 => rw [sizeLine_eq]; simp; omega
  rw [rep_flat, show ((n : Int)).toNat = n by omega]
  have e0 : List.replicate n Lw.c_NOUGHT = (List.range n).map fun j => fD (lowF (partX n m t 0 j) t.b) := by
    rw [show (fun j => fD (lowF (partX n m t 0 j) t.b)) = fun _ : Nat => Lw.c_NOUGHT from by
      funext j
      show fD (lowF 0 t.b) = _
      rw [low_nought hb0]; rfl]
    rw [List.map_const']; simp
  rw [e0]
  walk_at "dl"
  have up : ∀ {S' : Sto}, (∀ c, c < S.length → S'[c]? = S[c]?) → (∀ {c : Nat} {o : CO}, S[c]? = some (some o) → S'[c]? = some (some o)) := fun h c o e => by rw [h c (lt e)]; exact e
  have old0 : ∀ c, c < S.length → (S ++ [some (CO.lst ((List.range n).map fun j => fD (lowF (partX n m t 0 j) t.b)))])[c]? = S[c]? := fun c h => List.getElem?_append_left h
  refine o_fldI (up old0 B.ins) fi_basis lk_basis ?_
  walk_at "dl"
  refine o_fldI (up old0 B.ins) fi_table lk_table ?_
  walk_at "dl"
  refine i_zipCC (up old0 B.bas) (up old0 B.tab) ?_
  refine k_forN (xs := zipD (rowL m fun i => (t.B i : Int)) ((List.range m).map fun i => D.cell (rs i))) (fun i ρ S' => (S'.length = S.length + 1 ∧ (∀ c, c < S.length → S'[c]? = S[c]?) ∧ S'[S.length]? = some (some (.lst ((List.range n).map fun j => fD (lowF (partX n m t i j) t.b))))) ∧ ∃ x2 x3, ρ = [some (.cell b), some (.cell S.length), x2, x3]) rfl ⟨⟨by simp, old0, by simp⟩, _, _, rfl⟩ ?_ ?_ ?_
  · rintro i ρ S' ⟨⟨_, o, _⟩, _⟩
    exact itZ_nxCC (up o B.bas) (up o B.tab)
  · rintro i ρ S' d hd ⟨⟨l, o, hf⟩, x2, x3, rfl⟩
    rw [zipD_get] at hd
    have hi : i < m := by
      apply Classical.byContradiction
      intro z
      rw [List.getElem?_eq_none (by rw [rowL_len]; omega)] at hd
      cases hd
    rw [rowL_get hi, cells_at hi] at hd
    cases hd
    refine ⟨_, rfl, ?_⟩
    have ps1 : ∀ j, partX n m t (i + 1) j = partX n m t i j + if t.B i = j then t.T i (n + m) else 0 := fun j => rfl
    walk_at "dl"
    refine o_fldI (up o B.ins) fi_many lk_many ?_
    walk_at "dl"
    refine k_condD (fun hz => ?_) fun hz => ?_
    · walk_at "dl"
      have hj : t.B i < n := by omega
      refine o_ixCL (xs := rowL (n + m) (t.T i)) (by rw [← rowL_last]; exact up o (B.row i hi)) ?_
      walk_at "dl"
      refine o_fldI (up o B.ins) fi_bottom lk_bottom ?_
      walk_at "dl"
      refine lowest_ok (k := kz) hb0 hk sb ?_
      walk_at "dl"
      refine ⟨_, setD_at hf rfl (by simpa using hj), ?_⟩
      have e : t.T i (n + m) = partX n m t (i + 1) (t.B i) := by rw [ps1, partX_next I hi, if_pos rfl]; omega
      rw [e, frL_set (f := fun j => lowF (partX n m t i j) t.b) (g := fun j => lowF (partX n m t (i + 1) j) t.b) hj fun x _ hx => by rw [ps1, if_neg (Ne.symm hx), Int.add_zero]]
      refine ⟨⟨by rw [List.length_set]; exact l, fun c hc => by rw [List.getElem?_set_ne (by omega)]; exact o c hc, List.getElem?_set_self (by omega)⟩, _, _, rfl⟩
    · walk_at "dl"
      refine ⟨⟨l, o, ?_⟩, _, _, rfl⟩
      rw [hf]
      congr 3
      refine List.map_congr_left fun j hj => ?_
      have := List.mem_range.mp hj
      rw [ps1, if_neg (by omega), Int.add_zero]
  · rintro ρ S' ⟨⟨l, o, hf⟩, x2, x3, rfl⟩
    have e : (zipD (rowL m fun i => (t.B i : Int)) ((List.range m).map fun i => D.cell (rs i))).length = m := by
      rw [show (rowL m fun i => (t.B i : Int)) = (List.range m).map (fun i => D.int (t.B i : Int)) from rfl, zipD_map]; simp
    rw [e] at hf
    walk_at "dl"
    rw [trim_cell (Nat.le_refl _)]
    exact q S' ⟨by omega, o⟩ hf
/-- the greatest number that divides all -/
def gd (y : Nat → Int) : Nat → Nat
  | 0 => 0
  | i + 1 => Int.gcd (gd y i) (y i)
theorem gd_dvd {y : Nat → Int} : ∀ {m i : Nat}, i < m → (gd y m : Int) ∣ y i
  | 0, _, h => by omega
  | m + 1, i, h => by
    by_cases e : i = m
    · subst e; exact Int.gcd_dvd_right ..
    · exact Int.dvd_trans (Int.gcd_dvd_left ..) (gd_dvd (m := m) (by omega))
theorem gd_zero {y : Nat → Int} {m : Nat} (h : gd y m = 0) : ∀ i, i < m → y i = 0 := fun i hi => by
  have := gd_dvd (y := y) hi
  rw [h] at this
  exact Int.zero_dvd.mp this
def sgn (g : Nat → Int) (i : Nat) : Int := if g i < 0 then -1 else 1
def ag0 (n : Nat) (t : Sx.St) (g : Nat → Int) (i : Nat) : Int := (t.z (n + i) - t.b) * sgn g i
set_option maxHeartbeats 2000000 in
theorem against_ok {g : Nat → Int} (B : Bd N0 n m S b tb lf bs rs (turnedL m g) t) (hn : n ≤ 4000) (hm : m ≤ 4000) (hk : kz ≤ 7000) (sb : Sz kz t.b) (sz : ∀ j, j ≤ n + m → Sz kz (t.z j)) (h0 : gd (ag0 n t g) m ≠ 0)
    (q : ∀ c S', S.length ≤ c → Gx S S' → S'[c]? = some (some (.lst (rowL m fun i => (ag0 n t g i).fdiv (gd (ag0 n t g) m)))) → P (.cell c) S') : Ok (Lw.f_Board_m_against [.cell b] S) P := by
  have lt : ∀ {c : Nat} {o : CO}, S[c]? = some (some o) → c < S.length := fun e => (List.getElem?_eq_some_iff.mp e).1
  have up : ∀ {S' : Sto}, (∀ c, c < S.length → S'[c]? = S[c]?) → (∀ {c : Nat} {o : CO}, S[c]? = some (some o) → S'[c]? = some (some o)) := fun h c o e => by rw [h c (lt e)]; exact e
  have sy : ∀ i, i < m → Sz (kz + 2) (ag0 n t g i) := fun i hi => by
    unfold ag0 sgn
    have h1 : Sz (max kz kz + 1) (t.z (n + i) + - t.b) := (sz (n + i) (by omega)).add sb.neg
    have h2 : Sz (kz + 2) (t.z (n + i) - t.b) := by rw [Int.sub_eq_add_neg]; exact h1.mono (by omega)
    split
    · rw [Int.mul_neg, Int.mul_one]; exact h2.neg
    · rw [Int.mul_one]; exact h2
  unfold Lw.f_Board_m_against
  refine k_fn rfl ?_
  unfold Lw.d_Board_m_against
  walk_at "dl"
  have old0 : ∀ c, c < S.length → (S ++ [some (CO.lst [])])[c]? = S[c]? := fun c h => List.getElem?_append_left h
  refine o_fldI (up old0 B.ins) fi_turned lk_turned ?_
  walk_at "dl"
  refine i_enum ?_
  refine k_forL (fun i ρ S' => i ≤ m ∧ (S'.length = S.length + 1 ∧ (∀ c, c < S.length → S'[c]? = S[c]?) ∧ S'[S.length]? = some (some (.lst (rowL i (ag0 n t g))))) ∧ ∃ x2 x3 x4 x5, ρ = [some (.cell b), some (.cell S.length), x2, x3, x4, x5]) ⟨Nat.zero_le _, ⟨by simp, old0, by simp [rowL]⟩, _, _, _, _, rfl⟩ ?_ ?_
  · rintro i ρ S' d hd ⟨_, ⟨l, o, hf⟩, x2, x3, x4, x5, rfl⟩
    obtain ⟨x, hx, rfl⟩ := enum_get hd
    have hi : i < m := by
      have := (List.getElem?_eq_some_iff.mp hx).1
      rw [turnedL, rowL_len] at this; exact this
    rw [turnedL, rowL_get hi] at hx
    cases hx
    refine ⟨_, rfl, ?_⟩
    walk_at "dl"
    refine ⟨chk_cell hf, ?_⟩
    walk_at "dl"
    refine o_fldI (up o B.ins) fi_left lk_left ?_
    walk_at "dl"
    refine o_fldI (up o B.ins) fi_many lk_many ?_
    walk_at "dl"
    refine o_ixC (j := n + i) (up o B.left) (by omega) (rowL_get (by omega)) ?_
    walk_at "dl"
    refine o_fldI (up o B.ins) fi_bottom lk_bottom ?_
    walk_at "dl"
    refine o_mul (.of_right (by split <;> decide)) ?_
    walk_at "dl"
    refine o_app hf (by rw [rowL_len, sizeLine_eq]; omega) ?_
    refine ⟨hi, ⟨by rw [List.length_set]; exact l, fun c hc => by rw [List.getElem?_set_ne (by omega)]; exact o c hc, ?_⟩, _, _, _, _, rfl⟩
    rw [List.getElem?_set_self (by omega), rowL_last]; rfl
  · rintro ρ S1 ⟨_, ⟨l, o, hf⟩, x2, x3, x4, x5, rfl⟩
    rw [enum_len, turnedL, rowL_len] at hf
    walk_at "dl"
    refine i_cell hf ?_
    refine k_forN (xs := rowL m (ag0 n t g)) (fun i ρ S' => i ≤ m ∧ S' = S1 ∧ ∃ x3 x4 x5, ρ = [some (.cell b), some (.cell S.length), some (.int (gd (ag0 n t g) i : Nat)), x3, x4, x5]) rfl ⟨Nat.zero_le _, rfl, _, _, _, rfl⟩ ?_ ?_ ?_
    · rintro i ρ S' ⟨_, rfl, _⟩
      exact itC_nx hf
    · rintro i ρ S' d hd ⟨_, rfl, x3, x4, x5, rfl⟩
      have hi : i < m := by
        have := (List.getElem?_eq_some_iff.mp hd).1
        rw [rowL_len] at this; exact this
      rw [rowL_get hi] at hd
      cases hd
      refine ⟨_, rfl, ?_⟩
      walk_at "dl"
      refine shared_ok (k := kz + 2) (by omega) (sy i hi) ?_
      exact ⟨hi, rfl, _, _, _, rfl⟩
    · rintro ρ S' ⟨_, rfl, x3, x4, x5, rfl⟩
      rw [rowL_len]
      walk_at "dl"
      refine i_cell hf ?_
      have gs : gd (ag0 n t g) m < 2 ^ (kz + 2) := by
        apply Classical.byContradiction
        intro z
        have : ∀ i, i < m → ag0 n t g i = 0 := fun i hi => by
          apply Classical.byContradiction
          intro nz
          have h1 := Int.le_of_dvd (a := (gd (ag0 n t g) m : Int)) (b := ((ag0 n t g i).natAbs : Int)) (by omega) (Int.dvd_natAbs.mpr (gd_dvd hi))
          have h2 : (ag0 n t g i).natAbs < 2 ^ (kz + 2) := sy i hi
          omega
        have : gd (ag0 n t g) m = 0 := by
          clear z h0
          have go : ∀ k, k ≤ m → gd (ag0 n t g) k = 0 := by
            intro k
            induction k with
            | zero => intro _; rfl
            | succ k ih =>
              intro hk
              unfold gd
              rw [ih (by omega), this k (by omega)]; rfl
          exact go m (Nat.le_refl _)
        exact h0 this
      have gsz : Sz (kz + 2) (gd (ag0 n t g) m : Int) := by
        show ((gd (ag0 n t g) m : Nat) : Int).natAbs < _
        rw [Int.natAbs_natCast]; exact gs
      refine lc_mapN (l := List.range m) (f := fun i : Nat => D.int (ag0 n t g i)) (g := fun i : Nat => D.int ((ag0 n t g i).fdiv (gd (ag0 n t g) m))) (by simp [itC, rowL]) (fun x => itC_nx hf) (by rw [sizeLine_eq]; simp; omega) ?_ ?_
      · intro i hi
        refine ⟨_, rfl, ?_⟩
        walk_at "dl"
        refine o_fdiv (by omega) (by have := gsz.log (by omega); omega) ⟨rfl, rfl⟩
      walk_at "dl"
      rw [trim_cell (by omega)]
      refine q _ _ (by omega) ⟨by simp; omega, fun c hc => by rw [List.getElem?_append_left (by omega)]; exact o c hc⟩ ?_
      rw [List.getElem?_append_right (Nat.le_refl _)]; simp [rowL]
end

/-! ### balance -/
theorem sgn_sq {g : Nat → Int} {i : Nat} {x y : Int} (h : sgn g i * x = sgn g i * y) : x = y := by
  unfold sgn at h
  split at h <;> omega
theorem tabA_col {n m i j : Nat} {C : Nat → Nat → Int} {g : Nat → Int} (h : j < n) : tabA n m C g i j = sgn g i * C j i := by
  unfold tabA sgn
  rw [if_pos h]
  split <;> omega
theorem tabA_goal {n m i : Nat} {C : Nat → Nat → Int} {g : Nat → Int} : tabA n m C g i (n + m) = sgn g i * g i := by
  unfold tabA sgn
  rw [if_neg (by omega), if_neg (by omega)]
  split <;> omega
theorem tabA_abs {n m M : Nat} {C : Nat → Nat → Int} {g : Nat → Int} (h1 : 1 ≤ M) (hC : ∀ j, j < n → ∀ i, i < m → (C j i).natAbs ≤ M) (hg : ∀ i, i < m → (g i).natAbs ≤ M) : ∀ l, l < m → ∀ j, j ≤ n + m → (tabA n m C g l j).natAbs ≤ M := by
  intro l hl j hj
  unfold tabA
  split
  · have := hC j (by omega) l hl
    split <;> omega
  · split
    · split <;> simp <;> omega
    · have := hg l hl
      split <;> omega
theorem trim_told {S S' : Sto} {w : Str} {c : Nat} (h : S.length ≤ c) : trim S (.tup [.str w, .cell c]) S' = S' := trim_not fun z => by
  have := z.1
  simp [D.bel, D.belL] at this; omega
/-! what comes to the end is one -/
theorem ent_uniq {n : Nat} {t : Sx.St} {s s' : Nat} (e : Sx.Ent n t s) (e' : Sx.Ent n t s') : s = s' := by
  rcases Nat.lt_trichotomy s s' with h | h | h
  · have := e'.least s h; have := e.neg; omega
  · exact h
  · have := e.least s' h; have := e'.neg; omega
theorem lea_uniq {n m : Nat} {A : Nat → Nat → Int} {t : Sx.St} {s r r' : Nat} (I : Sx.Inv n m A t) (l : Sx.Lea n m t s r) (l' : Sx.Lea n m t s r') : r = r' := by
  have h1 := l.q r' l'.lt l'.p
  have h2 := l'.q r l.lt l.p
  refine I.inj l.lt l'.lt ?_
  rcases h1 with h1 | ⟨_, h1⟩ <;> rcases h2 with h2 | ⟨_, h2⟩ <;> omega
theorem rn_uniq {n m : Nat} {A : Nat → Nat → Int} {K K' : Nat} {f f' : Nat → Sx.St} {s r s' r' : Nat → Nat} (R : Sx.Rn n m A K f s r) (R' : Sx.Rn n m A K' f' s' r') (h0 : f 0 = f' 0) : ∀ k, k ≤ K → k ≤ K' → f k = f' k
  | 0, _, _ => h0
  | k + 1, h, h' => by
    have ih := rn_uniq R R' h0 k (by omega) (by omega)
    have es : s k = s' k := ent_uniq (R.ent k (by omega)) (by rw [ih]; exact R'.ent k (by omega))
    have er : r k = r' k := lea_uniq (R.inv k (by omega)) (R.lea k (by omega)) (by rw [ih, es]; exact R'.lea k (by omega))
    rw [R.nx k (by omega), R'.nx k (by omega), ih, es, er]
theorem rch_uniq {n m : Nat} {A : Nat → Nat → Int} {K K' : Nat} {t t' : Sx.St} (R : Sx.Rch n m A K t) (R' : Sx.Rch n m A K' t') (h : ∀ j, j < n → 0 ≤ t.z j) (h' : ∀ j, j < n → 0 ≤ t'.z j) : t = t' := by
  obtain ⟨f, s, r, R, f0, fK⟩ := R
  obtain ⟨f', s', r', R', f0', fK'⟩ := R'
  have e := rn_uniq R R' (by rw [f0, f0'])
  rcases Nat.lt_trichotomy K K' with c | c | c
  · have := R'.ent K c
    rw [← e K (Nat.le_refl _) (by omega), fK] at this
    have h1 := h _ this.lt
    have h2 := this.neg
    omega
  · subst c
    rw [← fK, ← fK', e K (Nat.le_refl _) (Nat.le_refl _)]
  · have := R.ent K' c
    rw [e K' (by omega) (Nat.le_refl _), fK'] at this
    have h1 := h' _ this.lt
    have h2 := this.neg
    omega
theorem lea_ex {n m : Nat} {t : Sx.St} {s : Nat} (he : ∃ i, i < m ∧ 0 < t.T i s) : ∃ r, Sx.Lea n m t s r := by
  have go : ∀ i, (∀ k, k < i → ¬ 0 < t.T k s) ∨ ∃ r, Mn (n + m) t s i r := by
    intro i
    induction i with
    | zero => exact .inl fun k hk => by omega
    | succ i ih =>
      by_cases hz : 0 < t.T i s
      · rcases ih with ih | ⟨r, hf⟩
        · refine .inr ⟨i, by omega, hz, fun k hk hp => ?_⟩
          by_cases e : k = i
          · subst e; exact .inr ⟨rfl, Nat.le_refl _⟩
          · exact absurd hp (ih k (by omega))
        · by_cases h1 : t.T i (n + m) * t.T r s < t.T r (n + m) * t.T i s
          · exact .inr ⟨i, hf.take hz (.inl h1)⟩
          · by_cases h2 : t.T i (n + m) * t.T r s = t.T r (n + m) * t.T i s
            · by_cases h3 : t.B i < t.B r
              · exact .inr ⟨i, hf.take hz (.inr ⟨h2, h3⟩)⟩
              · exact .inr ⟨r, hf.keep fun _ => .inr ⟨h2.symm, by omega⟩⟩
            · exact .inr ⟨r, hf.keep fun _ => .inl (by omega)⟩
      · rcases ih with ih | ⟨r, hf⟩
        · left
          intro k hk
          by_cases e : k = i
          · subst e; exact hz
          · exact ih k (by omega)
        · exact .inr ⟨r, hf.keep fun z => absurd z hz⟩
  rcases go m with h | ⟨r, hf⟩
  · obtain ⟨i, hi, z⟩ := he
    exact absurd z (h i hi)
  · exact ⟨r, hf.lt, hf.p, hf.q⟩
theorem end_ex {n m : Nat} {A : Nat → Nat → Int} (hT : Sx.Tab n m A) : ∃ K t, Sx.Rch n m A K t ∧ ∀ j, j < n → 0 ≤ t.z j := by
  have go : ∀ d K t, Sx.Rch n m A K t → (n + m) ^ m ≤ K + d → ∃ K t, Sx.Rch n m A K t ∧ ∀ j, j < n → 0 ≤ t.z j := by
    intro d
    induction d with
    | zero =>
      intro K t R h
      have := R.most; omega
    | succ d ih =>
      intro K t R h
      have ex : (∀ j, j < n → 0 ≤ t.z j) ∨ ∃ s, Sx.Ent n t s := by
        have : ∀ i, i ≤ n → (∀ j, j < i → 0 ≤ t.z j) ∨ ∃ s, Sx.Ent n t s := by
          intro i
          induction i with
          | zero => intro _; exact .inl fun j hj => by omega
          | succ i ih2 =>
            intro hi
            rcases ih2 (by omega) with h1 | h1
            · by_cases z : t.z i < 0
              · exact .inr ⟨i, by omega, z, h1⟩
              · left
                intro j hj
                by_cases e : j = i
                · subst e; omega
                · exact h1 j (by omega)
            · exact .inr h1
        exact this n (Nat.le_refl _)
      rcases ex with h1 | ⟨s, e⟩
      · exact ⟨K, t, R, h1⟩
      · obtain ⟨r, l⟩ := lea_ex (n := n) (R.inv.some_pos e.lt e.neg)
        exact ih (K + 1) _ (R.turn e l) (by omega)
  exact go ((n + m) ^ m) 0 _ (Sx.Rch.zero hT) (by omega)
section
variable {n m M kz : Nat} {S : Sto} {P : D → Sto → Prop} {C : Nat → Nat → Int} {g : Nat → Int}
theorem partX_all {t : Sx.St} {A : Nat → Nat → Int} (I : Sx.Inv n m A t) (j : Nat) : partX n m t m j = 0 ∨ ∃ k, k < m ∧ t.B k = j ∧ partX n m t m j = t.T k (n + m) := by
  by_cases h : ∃ k, k < m ∧ t.B k = j
  · obtain ⟨k, hk, e⟩ := h
    refine .inr ⟨k, hk, e, ?_⟩
    unfold partX
    rw [Sx.sm_one (k := k) hk fun i hi hne => if_neg fun z => hne (I.inj hi hk (by rw [z, e])), if_pos e]
  · exact .inl (Sx.sm_zero fun k hk => if_neg fun e => h ⟨k, hk, e⟩)
theorem partX_sum {t : Sx.St} (l : Nat) : (Sx.sm n fun j => partX n m t m j * C j l) = Sx.sm m fun k => if t.B k < n then t.T k (n + m) * C (t.B k) l else 0 := by
  have e : ∀ j, partX n m t m j * C j l = Sx.sm m fun k => (if t.B k = j then t.T k (n + m) else 0) * C j l := fun j => (Sx.sm_mul2 _ _ _).symm
  rw [Sx.sm_congr fun j _ => e j, Sx.sm_swap]
  refine Sx.sm_congr fun k hk => ?_
  by_cases q : t.B k < n
  · rw [if_pos q, Sx.sm_one (k := t.B k) q fun j _ hne => by rw [if_neg (Ne.symm hne), Int.zero_mul], if_pos rfl]
  · rw [if_neg q]
    exact Sx.sm_zero fun j hj => by rw [if_neg (by omega), Int.zero_mul]
set_option maxHeartbeats 2000000 in
theorem balance_det (hn : n ≤ 1000) (hm : m ≤ 1000) (h1 : 1 ≤ M) (hC : ∀ j, j < n → ∀ i, i < m → (C j i).natAbs ≤ M) (hg : ∀ i, i < m → (g i).natAbs ≤ M) (hkM : (m + 1) * (m * M) ^ m < 2 ^ kz) (hkz : kz ≤ 7000) (hF : (n + m) ^ m < FU) :
    (∃ w xs, ((w = "shares" ∧ ∃ (T : Nat → Int) (b : Int), 0 < b ∧ Sz kz b ∧ (∀ j, j < n → 0 ≤ T j ∧ Sz kz (T j)) ∧ (∀ l, l < m → b * g l = Sx.sm n fun j => T j * C j l) ∧ xs = (List.range n).map fun j => fD (lowF (T j) b)) ∨
      (w = "against" ∧ ∃ y : Nat → Int, (∀ j, j < n → 0 ≤ Sx.sm m fun i => y i * C j i) ∧ (Sx.sm m fun i => y i * g i) < 0 ∧ (∀ i, i < m → Sz (kz + 2) (y i)) ∧ xs = rowL m y)) ∧
      ∀ (S : Sto) (P : D → Sto → Prop), (∀ c S', S.length ≤ c → Gx S S' → S'[c]? = some (some (.lst xs)) → P (.tup [.str w, .cell c]) S') → Ok (Lw.f_balance [colsD n m C, .lst (rowL m g)] S) P) := by
  have hA := tabA_abs (n := n) (m := m) (C := C) (g := g) h1 hC hg
  obtain ⟨K0, t, R0, hz⟩ := end_ex (tabA_tab (n := n) (m := m) (C := C) (g := g))
  have I := R0.inv
  obtain ⟨sb, sT, sz⟩ := inv_sz I hA hkM
  have walk : ∀ (S : Sto) (P : D → Sto → Prop), (∀ S2 tb lf bs rs, Bd S.length n m S2 S.length tb lf bs rs (turnedL m g) t → Gx S S2 → OkS ((sSeq (sIf (bVal (e2 oEq (e2 oIx (e1 (oFldI Lw.fi "left") (eVar 2)) (e1 oNeg (eC (.int 1)))) (eC (.int 0)))) (sRet (eL mTup (aCons (eC (.str "shares")) (aCons (eMo "Board" "shares" Lw.f_Board_m_shares (eVar 2) aNil) aNil)))) sNx) (sRet (eL mTup (aCons (eC (.str "against")) (aCons (eMo "Board" "against" Lw.f_Board_m_against (eVar 2) aNil) aNil))))) [some (colsD n m C), some (.lst (rowL m g)), some (.cell S.length)] S2) fun f ρ' S' => match f with
      | .nx => P .non (trim S .non S')
      | .ret d => P d (trim S d S')
      | _ => False) → Ok (Lw.f_balance [colsD n m C, .lst (rowL m g)] S) P := fun S P q => by
    unfold Lw.f_balance
    refine k_fn rfl ?_
    unfold Lw.d_balance
    walk_at "dl"
    refine k_mk ?_
    walk_at "dl"
    refine init_ok (by omega) fun tb lf bs rs S1 B o1 l1 => ⟨rfl, ?_⟩
    walk_at "dl"
    refine k_mo ?_
    walk_at "dl"
    refine ⟨S.length, _, rfl, B.ins, rfl, ?_⟩
    walk_at "dl"
    refine settle_ok (M := M) (kz := kz) tabA_tab B hn hm hA hkM (by omega) hF fun t' S2 K' R' hz' kp B2 => ?_
    obtain rfl := rch_uniq R' R0 hz' hz
    exact q S2 tb lf bs rs B2 ⟨by rw [kp.len]; exact l1, fun c hc => (kp.old c hc).trans (o1 c hc)⟩
  by_cases hz0 : t.z (n + m) = 0
  · refine ⟨"shares", (List.range n).map fun j => fD (lowF (partX n m t m j) t.b), .inl ⟨rfl, partX n m t m, t.b, I.pos, sb, fun j hj => ?_, fun l hl => ?_, rfl⟩, fun S P q => walk S P fun S2 tb lf bs rs B2 ex2 => ?_⟩
    · rcases partX_all I j with e | ⟨k, hk, _, e⟩
      · rw [e]
        refine ⟨Int.le_refl _, ?_⟩
        show (0 : Int).natAbs < 2 ^ kz
        exact Nat.pow_pos (by decide)
      · rw [e]; exact ⟨I.fe k hk, sT k hk _ (Nat.le_refl _)⟩
    · have e := (I.shares hz0).2 l hl
      rw [partX_sum]
      refine sgn_sq (g := g) (i := l) ?_
      rw [tabA_goal] at e
      rw [show sgn g l * (t.b * g l) = t.b * (sgn g l * g l) by rw [← Int.mul_assoc, ← Int.mul_assoc, Int.mul_comm (sgn g l)], e, ← Sx.sm_mul]
      refine Sx.sm_congr fun k hk => ?_
      by_cases q : t.B k < n
      · rw [if_pos q, if_pos q, tabA_col q, ← Int.mul_assoc, ← Int.mul_assoc, Int.mul_comm (t.T k (n + m))]
      · rw [if_neg q, if_neg q, Int.mul_zero]
    · walk_at "dl"
      refine o_fldI B2.ins fi_left lk_left ?_
      walk_at "dl"
      refine o_ixCL (xs := rowL (n + m) t.z) (by rw [← rowL_last]; exact B2.left) ?_
      walk_at "dl"
      refine k_ifT (by simpa using hz0) ?_
      walk_at "dl"
      refine k_mo ?_
      walk_at "dl"
      refine ⟨S.length, _, rfl, B2.ins, rfl, ?_⟩
      walk_at "dl"
      refine shares_ok (kz := kz) B2 I (by omega) (by omega) (by omega) sb fun S3 ex3 e3 => ?_
      walk_at "dl"
      rw [trim_told ex2.len]
      exact q _ S3 ex2.len (ex2.trans ex3) e3
  · have sumC : ∀ j, j < n → (Sx.sm m fun i => ag0 n t g i * C j i) = t.z j := fun j hj => by
      rw [← I.against (j := j) (by omega) (by unfold Sx.co; rw [if_neg (by omega)])]
      refine Sx.sm_congr fun i hi => ?_
      rw [tabA_col hj]; unfold ag0; rw [Int.mul_assoc]
    have sumG : (Sx.sm m fun i => ag0 n t g i * g i) = t.z (n + m) := by
      rw [← I.against (j := n + m) (Nat.le_refl _) (by unfold Sx.co; rw [if_neg (by omega)])]
      refine Sx.sm_congr fun i hi => ?_
      rw [tabA_goal]; unfold ag0; rw [Int.mul_assoc]
    have zn : t.z (n + m) < 0 := by have := I.low; omega
    have g0 : gd (ag0 n t g) m ≠ 0 := fun z => by
      have := gd_zero z
      rw [Sx.sm_zero fun i hi => by rw [this i hi, Int.zero_mul]] at sumG
      omega
    have gp : (0 : Int) < (gd (ag0 n t g) m : Nat) := by omega
    have ey : ∀ i, i < m → (gd (ag0 n t g) m : Int) * (ag0 n t g i).fdiv (gd (ag0 n t g) m) = ag0 n t g i := fun i hi => by
      rw [Int.fdiv_eq_ediv_of_nonneg _ (by omega)]
      exact Int.mul_ediv_cancel' (gd_dvd hi)
    refine ⟨"against", _, .inr ⟨rfl, fun i => (ag0 n t g i).fdiv (gd (ag0 n t g) m), fun j hj => ?_, ?_, fun i hi => ?_, rfl⟩, fun S P q => walk S P fun S2 tb lf bs rs B2 ex2 => ?_⟩
    · dsimp only
      have h := hz j hj
      rw [← sumC j hj, Sx.sm_congr (g := fun i => (gd (ag0 n t g) m : Int) * ((ag0 n t g i).fdiv (gd (ag0 n t g) m) * C j i)) fun i hi => by rw [← Int.mul_assoc, ey i hi], Sx.sm_mul] at h
      exact Int.nonneg_of_mul_nonneg_right h gp
    · dsimp only
      have h := zn
      rw [← sumG, Sx.sm_congr (g := fun i => (gd (ag0 n t g) m : Int) * ((ag0 n t g i).fdiv (gd (ag0 n t g) m) * g i)) fun i hi => by rw [← Int.mul_assoc, ey i hi], Sx.sm_mul] at h
      apply Classical.byContradiction
      intro w
      have := Int.mul_nonneg (Int.le_of_lt gp) (Int.not_lt.mp w)
      omega
    · dsimp only
      have h2 : Sz (kz + 2) (ag0 n t g i) := by
        unfold ag0 sgn
        have h1 : Sz (max kz kz + 1) (t.z (n + i) + - t.b) := (sz (n + i) (by omega)).add sb.neg
        have h2 : Sz (kz + 2) (t.z (n + i) - t.b) := by rw [Int.sub_eq_add_neg]; exact h1.mono (by omega)
        split
        · rw [Int.mul_neg, Int.mul_one]; exact h2.neg
        · rw [Int.mul_one]; exact h2
      refine h2.of_le ?_
      rw [Int.fdiv_eq_ediv_of_nonneg _ (by omega)]
      exact Int.natAbs_ediv_le_natAbs ..
    · walk_at "dl"
      refine o_fldI B2.ins fi_left lk_left ?_
      walk_at "dl"
      refine o_ixCL (xs := rowL (n + m) t.z) (by rw [← rowL_last]; exact B2.left) ?_
      walk_at "dl"
      refine k_ifF (by simpa using hz0) ?_
      walk_at "dl"
      refine k_mo ?_
      walk_at "dl"
      refine ⟨S.length, _, rfl, B2.ins, rfl, ?_⟩
      walk_at "dl"
      refine against_ok (kz := kz) B2 (by omega) (by omega) (by omega) sb sz g0 fun c S3 hc ex3 e3 => ?_
      walk_at "dl"
      rw [trim_told (Nat.le_trans ex2.len hc)]
      exact q c S3 (Nat.le_trans ex2.len hc) (ex2.trans ex3) e3
end

/-! ### lists of either kind -/
section
variable {S : Sto} {P : D → Sto → Prop} {PI : ItD → Sto → Prop} {d e : D} {xs ys : List D}
theorem i_lof (h : DL.listOf S d = some xs) (q : ∀ it : ItD, it.fu = xs.length + 1 → (∀ i, it.nx i S = some xs[i]?) → PI it S) : Ok (mItL d S) PI := by
  cases d with
  | lst zs => cases h; exact i_list (q _ rfl fun _ => rfl)
  | ro zs => cases h; exact i_ro (q _ rfl fun _ => rfl)
  | cell n =>
    have e : S[n]? = some (some (.lst xs)) := by
      simp only [DL.listOf] at h
      split at h
      · rename_i zs e; cases h; exact e
      · cases h
    exact i_cell e (q _ rfl fun _ => itC_nx e)
  | _ => simp [DL.listOf] at h
theorem i_zof (h1 : DL.listOf S d = some xs) (h2 : DL.listOf S e = some ys) (q : ∀ it : ItD, it.fu = (zipD xs ys).length + 1 → (∀ i, it.nx i S = some (zipD xs ys)[i]?) → PI it S) : Ok (mItZ [d, e] S) PI := by
  have live : Ok ((match DL.listOf S d, DL.listOf S e with
      | some xs, some ys => .ok (itZ d e (zipD xs ys).length) S
      | _, _ => .stuck : R ItD)) PI := by
    rw [h1, h2]
    exact ⟨q _ rfl fun i => by simp only [itZ, h1, h2]⟩
  unfold mItZ
  dsimp only
  cases d with
  | lst zs =>
    cases h1
    cases e with
    | lst ws => cases h2; exact ⟨q _ rfl fun _ => rfl⟩
    | ro ws => cases h2; exact ⟨q _ rfl fun _ => rfl⟩
    | cell n => exact live
    | _ => simp [DL.listOf] at h2
  | ro zs =>
    cases h1
    cases e with
    | lst ws => cases h2; exact ⟨q _ rfl fun _ => rfl⟩
    | ro ws => cases h2; exact ⟨q _ rfl fun _ => rfl⟩
    | cell n => exact live
    | _ => simp [DL.listOf] at h2
  | cell n => exact live
  | _ => simp [DL.listOf] at h1
theorem kind_lof (h : DL.listOf S d = some xs) : kindD S d = some "list" := by
  cases d with
  | lst zs => rfl
  | ro zs => rfl
  | cell n =>
    simp only [DL.listOf] at h
    simp only [kindD, DL.listOf]
    split at h
    · rename_i zs e; simp [e]
    · cases h
  | _ => simp [DL.listOf] at h
theorem seq_lof (h : DL.listOf S d = some xs) : seqOf S d = some xs := by
  cases d with
  | tup zs => simp [DL.listOf] at h
  | _ => exact h
theorem o_isLof (h : DL.listOf S d = some xs) (q : P (.bl true) S) : Ok (fIsi [d, .ty "list"] S) P := o_isi (k := "list") (kind_lof h) rfl q
theorem sum_range (h : Nat → Int) : ∀ m : Nat, ((List.range m).map h).sum = Sx.sm m h
  | 0 => rfl
  | m + 1 => by
    rw [List.range_succ, List.map_append, List.sum_append, sum_range h m]
    simp [Sx.sm]
theorem ints_range {m : Nat} {h : Nat → Int} : intsOf ((List.range m).map fun i => D.int (h i)) = some ((List.range m).map h) := by
  rw [← intsOf_map ((List.range m).map h), List.map_map]; rfl
/-- numbers times numbers -/
theorem comes_ok {m k l : Nat} {f y : Nat → Int} (h1 : DL.listOf S d = some (rowL m f)) (h2 : DL.listOf S e = some (rowL m y)) (hm : m ≤ 4000) (hk : k ≤ 100000) (hl : l ≤ 100000) (sf : ∀ i, i < m → Sz k (f i)) (sy : ∀ i, i < m → Sz l (y i))
    (q : P (.int (Sx.sm m fun i => f i * y i)) S) : Ok (Lw.f_comes_to [d, e] S) P := by
  unfold Lw.f_comes_to
  refine k_fn rfl ?_
  unfold Lw.d_comes_to
  walk_at "dl"
  refine i_zof h1 h2 fun it hf hx => ?_
  rw [zip_rowL] at hf hx
  refine lc_mapN (l := List.range m) (f := fun i : Nat => .tup [.int (f i), .int (y i)]) (g := fun i : Nat => D.int (f i * y i)) (by simpa using hf) hx (by rw [sizeLine_eq]; simp; omega) ?_ ?_
  · intro i hi
    have hi := List.mem_range.mp hi
    refine ⟨_, rfl, ?_⟩
    walk_at "dl"
    refine o_mul ((sf i hi).mulOk (sy i hi) (by omega) (by omega)) ⟨rfl, rfl⟩
  walk_at "dl"
  refine o_sum (ns := (List.range m).map fun i => f i * y i) (by simp only [DL.listOf, Option.bind_some]; exact ints_range) ?_
  rw [trim_same rfl, sum_range]
  exact q
end
theorem plus_low {A T b x : Int} (hb : b ≠ 0) : plusF (lowF A b) (timesF (lowF T b) (x, 1)) = lowF (A + T * x) b := by
  have h1 := low_spec (t := A) hb
  have h2 := low_spec (t := T) hb
  have nt := nrm_times (f := lowF T b) (g := (x, 1)) (nzr h2.1) (show (1 : Int) ≠ 0 by decide)
  refine val_inj (nrm_plus (nzr h1.1) (nzr nt)) (low_spec hb).1 ?_
  rw [val_plus (nzr h1.1) (nzr nt), val_times (nzr h2.1) (show (1 : Int) ≠ 0 by decide), val_low hb, val_low hb, val_low hb]
  unfold val
  rw [Rat.divInt_mul_divInt, Int.mul_one, Rat.divInt_add_divInt _ _ hb hb]
  exact (Rat.divInt_eq_divInt_iff (Int.mul_ne_zero hb hb) hb).mpr (by grind)
theorem low_int {b x : Int} (hb : b ≠ 0) : lowF (b * x) b = (x, 1) := low_eq hb (nrm_int x) (by show x * b = b * x * 1; grind)
theorem fo_low {T b : Int} {k : Nat} (hb : b ≠ 0) (hk : k ≤ 2000) (sb : Sz k b) : Fo (fD (lowF T b)) ∧ frB (fD (lowF T b)) = true := by
  have h := low_spec (t := T) hb
  refine ⟨⟨rfl, fun x y e => by cases e; exact (sb.of_le (low_natAbs hb).2).mono hk⟩, ?_⟩
  show (decide (0 < _) && decide (Int.gcd _ _ = 1)) = true
  rw [decide_eq_true h.1.1, decide_eq_true h.1.2]; rfl
theorem low_sign {T b : Int} (hb : 0 < b) (h : 0 ≤ T) : 0 ≤ (lowF T b).1 := by
  have e := (low_spec (t := T) (b := b) (by omega))
  have h1 := e.1.1
  have h2 : 0 ≤ (lowF T b).1 * b := by rw [e.2]; exact Int.mul_nonneg h (by omega)
  exact Int.nonneg_of_mul_nonneg_left h2 hb
/-- shares by which columns come to a goal -/
structure ShG (n m kz r : Nat) (C : Nat → Nat → Int) (g : Nat → Int) (T : Nat → Int) (b : Int) : Prop where
  pos : 0 < b
  sb : Sz kz b
  sT : ∀ j, j < n → 0 ≤ T j ∧ Sz kz (T j)
  eq : ∀ l, l < m → b * g l = Sx.sm n fun j => T j * C j l
  sC : ∀ j, j < n → ∀ l, l < m → Sz r (C j l)
  kz : kz ≤ 2000
  r : r ≤ 300
  n : n ≤ 1000
  m : m ≤ 1000
theorem sm_sz {f : Nat → Int} {k : Nat} : ∀ {n : Nat}, (∀ i, i < n → Sz k (f i)) → n ≤ 1024 → Sz (k + 11) (Sx.sm n f) := fun {n} h hn => by
  have := Sx.sm_abs (f := f) (M := 2 ^ k) (n := n) fun i hi => Nat.le_of_lt (h i hi)
  unfold Sz
  have e : 2 ^ (k + 11) = 2048 * 2 ^ k := by rw [Nat.pow_add, Nat.mul_comm]
  have p : 0 < 2 ^ k := Nat.pow_pos (by decide)
  have : n * 2 ^ k ≤ 1024 * 2 ^ k := Nat.mul_le_mul_right _ hn
  omega
section
variable {S : Sto} {P : D → Sto → Prop} {d : D} {n m kz r : Nat} {C : Nat → Nat → Int} {g T y : Nat → Int} {b : Int}
def frL (n : Nat) (T : Nat → Int) (b : Int) : List D := (List.range n).map fun j => fD (lowF (T j) b)
theorem frL_len : (frL n T b).length = n := by simp [frL]
theorem ShG.part (G : ShG n m kz r C g T b) {i l : Nat} (hi : i ≤ n) (hl : l < m) : FrS 2400 2000 (lowF (Sx.sm i fun j => T j * C j l) b) := by
  have hk := G.kz; have hr := G.r; have hn := G.n
  have h : Sz (kz + r + 11) (Sx.sm i fun j => T j * C j l) := sm_sz (fun j hj => (G.sT j (by omega)).2.mul (G.sC j (by omega) l hl)) (by omega)
  exact (low_S (by have := G.pos; omega) h G.sb).mono (by omega) (by omega)
theorem ShG.fr (G : ShG n m kz r C g T b) {j : Nat} (hj : j < n) : FrS 2000 2000 (lowF (T j) b) := by
  have hk := G.kz
  exact (low_S (by have := G.pos; omega) (G.sT j hj).2 G.sb).mono (by omega) (by omega)
theorem ShG.cell (G : ShG n m kz r C g T b) {j l : Nat} (hj : j < n) (hl : l < m) : FrS 300 1 (C j l, 1) := by
  have hr := G.r
  exact ⟨nrm_int _, (G.sC j hj l hl).mono (by omega), show (1 : Int).natAbs < 2 ^ 1 by decide⟩
theorem zip_cols {d2 : List D} {h : Nat → D} (e : d2 = (List.range n).map h) : zipD ((List.range n).map fun j => D.lst (rowL m (C j))) d2 = (List.range n).map fun j => .tup [.lst (rowL m (C j)), h j] := by
  subst e
  refine List.ext_getElem? fun i => ?_
  rw [zipD_get]
  by_cases hi : i < n
  · rw [List.getElem?_map, List.getElem?_range hi, List.getElem?_map, List.getElem?_range hi, List.getElem?_map, List.getElem?_range hi]; rfl
  · rw [List.getElem?_eq_none (by simp; omega)]
    exact (List.getElem?_eq_none (by simp; omega)).symm
theorem zip_frow {f : Nat → D} {u : Nat → Int} : zipD ((List.range m).map f) (rowL m u) = (List.range m).map fun l => .tup [f l, .int (u l)] := by
  refine List.ext_getElem? fun i => ?_
  rw [zipD_get]
  by_cases hi : i < m
  · rw [List.getElem?_map, List.getElem?_range hi, rowL_get hi, List.getElem?_map, List.getElem?_range hi]; rfl
  · rw [List.getElem?_eq_none (by simp; omega)]
    exact (List.getElem?_eq_none (by simp; omega)).symm
theorem bls_range {w : Nat} {h : Nat → Bool} : blsOf ((List.range w).map fun i => D.bl (h i)) = some ((List.range w).map h) := by
  rw [← blsOf_map ((List.range w).map h), List.map_map]; rfl
theorem fg_eq {fs : Nat → Fr} : PyData.eqv (D.lst ((List.range m).map fun l => fD (fs l))).py (D.lst ((List.range m).map fun l => fD (fs l))).py = true := by
  have go : ∀ xs : List Nat, PyData.eqvAll (D.pyL (xs.map fun l => fD (fs l))) (D.pyL (xs.map fun l => fD (fs l))) = true := by
    intro xs
    induction xs with
    | nil => rfl
    | cons x xs ih =>
      simp only [List.map_cons, D.pyL, PyData.eqvAll, fD_eq, ih]
      simp
  simp only [D.py, PyData.eqv]
  exact go _
theorem fg_pl {fs : Nat → Fr} : (D.lst ((List.range m).map fun l => fD (fs l))).pl 60 = true := by
  have go : ∀ xs : List Nat, D.plL 59 (xs.map fun l => fD (fs l)) = true := by
    intro xs
    induction xs with
    | nil => rfl
    | cons x xs ih => simp only [List.map_cons, D.plL, ih]; rfl
  simp only [D.pl]
  simpa using go (List.range m)
set_option maxHeartbeats 1000000 in
theorem come_to_ok (G : ShG n m kz r C g T b) (h : DL.listOf S d = some (frL n T b)) (q : P (.bl true) S) : Ok (Lw.f_come_to [colsD n m C, .lst (rowL m g), d] S) P := by
  have hb : b ≠ 0 := by have := G.pos; omega
  have hn := G.n; have hm := G.m
  unfold Lw.f_come_to
  refine k_fn rfl ?_
  unfold Lw.d_come_to
  walk_at "dl"
  refine o_isLof h ?_
  walk_at "dl"
  refine k_ifF (by simp) ?_
  walk_at "dl"
  refine o_lenL (seq_lof h) ?_
  walk_at "dl"
  refine k_ifF (by rw [frL_len]; simp) ?_
  walk_at "dl"
  refine i_lof h fun it hf hx => ?_
  refine lc_mapN (l := List.range n) (f := fun j : Nat => fD (lowF (T j) b)) (g := fun j : Nat => D.bl true) (by simpa [frL] using hf) hx (by rw [sizeLine_eq]; simp; omega) ?_ ?_
  · intro j hj
    have hj := List.mem_range.mp hj
    refine ⟨_, rfl, ?_⟩
    walk_at "dl"
    obtain ⟨u1, u2⟩ := fo_low (T := T j) hb G.kz G.sb
    refine is_fraction_ok u1 ?_
    rw [u2]
    walk_at "dl"
    exact ⟨by rw [decide_eq_true (low_sign G.pos (G.sT j hj).1)], rfl⟩
  walk_at "dl"
  refine o_all (bs := (List.range n).map fun _ => true) (by simp only [DL.listOf, Option.bind_some]; exact bls_range) ?_
  walk_at "dl"
  refine k_ifF (by simp) ?_
  walk_at "dl"
  refine o_repL (.inr trivial) (by rw [rowL_len]; omega) (by rw [rowL_len]; omega) (by rw [rowL_len, sizeLine_eq]; simp; omega) ?_
  rw [rowL_len, rep_flat, show ((m : Nat) : Int).toNat = m by omega]
  have e0 : List.replicate m Lw.c_NOUGHT = (List.range m).map fun l => fD (lowF (Sx.sm 0 fun j => T j * C j l) b) := by
    rw [show (fun l => fD (lowF (Sx.sm 0 fun j => T j * C j l) b)) = fun _ : Nat => Lw.c_NOUGHT from by
      funext l
      show fD (lowF 0 b) = _
      rw [low_nought hb]; rfl, List.map_const']
    simp
  rw [e0]
  walk_at "dl"
  refine i_zof (xs := (List.range n).map fun j => D.lst (rowL m (C j))) (by rfl) h fun it hf hx => ?_
  rw [zip_cols (d2 := frL n T b) (h := fun j => fD (lowF (T j) b)) rfl] at hf hx
  refine k_forN (xs := (List.range n).map fun j => D.tup [.lst (rowL m (C j)), fD (lowF (T j) b)]) (fun i ρ S' => S' = S ∧ ∃ x4 x5 x6 x7, ρ = [some (colsD n m C), some (.lst (rowL m g)), some d, some (.lst ((List.range m).map fun l => fD (lowF (Sx.sm i fun j => T j * C j l) b))), x4, x5, x6, x7]) hf ⟨rfl, _, _, _, _, rfl⟩ ?_ ?_ ?_
  · rintro i ρ S' ⟨rfl, _⟩
    exact hx i
  · rintro i ρ S' dd hd ⟨rfl, x4, x5, x6, x7, rfl⟩
    have hi : i < n := by simpa using (List.getElem?_eq_some_iff.mp hd).1
    rw [List.getElem?_map, List.getElem?_range hi] at hd
    cases hd
    refine ⟨_, rfl, ?_⟩
    walk_at "dl"
    refine i_zof (xs := (List.range m).map fun l => fD (lowF (Sx.sm i fun j => T j * C j l) b)) (ys := rowL m (C i)) (by rfl) (by rfl) fun it2 hf2 hx2 => ?_
    rw [zip_frow] at hf2 hx2
    refine lc_mapN (l := List.range m) (f := fun l : Nat => .tup [fD (lowF (Sx.sm i fun j => T j * C j l) b), .int (C i l)]) (g := fun l : Nat => fD (lowF (Sx.sm (i + 1) fun j => T j * C j l) b)) (by simpa using hf2) hx2 (by rw [sizeLine_eq]; simp; omega) ?_ ?_
    · intro l hl
      have hl := List.mem_range.mp hl
      refine ⟨_, rfl, ?_⟩
      walk_at "dl"
      show Ok (Lw.f_times [fD (lowF (T i) b), fD (C i l, 1)] S') _
      refine times_ok (G.fr hi) (G.cell hi hl) (by decide) (by decide) (by decide) (by decide) ?_
      walk_at "dl"
      refine plus_ok (G.part (Nat.le_of_lt hi) hl) (times_S (G.fr hi) (G.cell hi hl)) (by decide) (by decide) (by decide) (by decide) ?_
      rw [plus_low hb]
      exact ⟨rfl, rfl⟩
    exact ⟨rfl, _, _, _, _, rfl⟩
  · rintro ρ S' ⟨rfl, x4, x5, x6, x7, rfl⟩
    walk_at "dl"
    refine i_list ?_
    refine lc_map (l := List.range m) (f := fun l : Nat => D.int (g l)) (g := fun l : Nat => fD (lowF (Sx.sm n fun j => T j * C j l) b)) (by rw [sizeLine_eq]; simp; omega) ?_ ?_
    · intro l hl
      have hl := List.mem_range.mp hl
      refine ⟨_, rfl, ?_⟩
      walk_at "dl"
      rw [← G.eq l hl, low_int hb]
      exact ⟨rfl, rfl⟩
    rw [List.length_map, List.length_range]
    refine o_eqD (by intro s hs; cases hs) fg_pl fg_pl ?_
    rw [show topD S' (D.lst ((List.range m).map fun l : Nat => fD (lowF (Sx.sm n fun j => T j * C j l) b))) = D.lst ((List.range m).map fun l : Nat => fD (lowF (Sx.sm n fun j => T j * C j l) b)) from rfl, fg_eq]
    walk_at "dl"
    rw [trim_same rfl]
    exact q
end

theorem o_eqZ {d : D} {xs : List D} {S : Sto} {P : D → Sto → Prop} (h : DL.listOf S d = some xs) (q : P (.bl xs.isEmpty) S) : Ok (oEqZ d (.lst []) S) P := by
  unfold oEqZ; dsimp only; rw [h]; exact ⟨q⟩
/-- numbers against a goal -/
structure AgG (n m kz r : Nat) (C : Nat → Nat → Int) (g y : Nat → Int) : Prop where
  lo : ∀ j, j < n → 0 ≤ Sx.sm m fun i => C j i * y i
  neg : (Sx.sm m fun i => g i * y i) < 0
  sy : ∀ i, i < m → Sz kz (y i)
  sC : ∀ j, j < n → ∀ l, l < m → Sz r (C j l)
  sg : ∀ i, i < m → Sz r (g i)
  kz : kz ≤ 10000
  r : r ≤ 10000
  n : n ≤ 1000
  m : m ≤ 1000
section
variable {S : Sto} {P : D → Sto → Prop} {d e : D} {n m kz r : Nat} {C : Nat → Nat → Int} {g T y : Nat → Int} {b : Int}
theorem dot_ok {k l : Nat} {f : Nat → Int} (h1 : DL.listOf S d = some (rowL m f)) (h2 : DL.listOf S e = some (rowL m y)) (hm : m ≤ 4000) (hk : k ≤ 100000) (hl : l ≤ 100000) (sf : ∀ i, i < m → Sz k (f i)) (sy : ∀ i, i < m → Sz l (y i))
    (q : P (.int (Sx.sm m fun i => f i * y i)) S) : Ok (Lw.f__law_dot [d, e] S) P := by
  unfold Lw.f__law_dot
  refine k_fn rfl ?_
  unfold Lw.d__law_dot
  walk_at "dl"
  refine i_zof h1 h2 fun it hf hx => ?_
  rw [zip_rowL] at hf hx
  refine lc_mapN (l := List.range m) (f := fun i : Nat => .tup [.int (f i), .int (y i)]) (g := fun i : Nat => D.int (f i * y i)) (by simpa using hf) hx (by rw [sizeLine_eq]; simp; omega) ?_ ?_
  · intro i hi
    have hi := List.mem_range.mp hi
    refine ⟨_, rfl, ?_⟩
    walk_at "dl"
    refine o_mul ((sf i hi).mulOk (sy i hi) (by omega) (by omega)) ⟨rfl, rfl⟩
  walk_at "dl"
  refine o_sum (ns := (List.range m).map fun i => f i * y i) (by simp only [DL.listOf, Option.bind_some]; exact ints_range) ?_
  rw [trim_same rfl, sum_range]
  exact q
set_option maxHeartbeats 1000000 in
theorem are_against_ok (G : AgG n m kz r C g y) (h : DL.listOf S d = some (rowL m y)) (q : P (.bl true) S) : Ok (Lw.f_are_against [colsD n m C, .lst (rowL m g), d] S) P := by
  have hn := G.n; have hm := G.m; have hk := G.kz; have hr := G.r
  unfold Lw.f_are_against
  refine k_fn rfl ?_
  unfold Lw.d_are_against
  walk_at "dl"
  refine o_isLof h ?_
  walk_at "dl"
  refine k_ifF (by simp) ?_
  walk_at "dl"
  refine o_lenL (seq_lof h) ?_
  walk_at "dl"
  refine k_ifF (by rw [rowL_len, rowL_len]; simp) ?_
  walk_at "dl"
  refine i_lof h fun it hf hx => ?_
  refine lc_mapN (l := List.range m) (f := fun j : Nat => D.int (y j)) (g := fun j : Nat => D.bl true) (by simpa [rowL] using hf) hx (by rw [sizeLine_eq]; simp; omega) ?_ ?_
  · intro j hj
    refine ⟨_, rfl, ?_⟩
    walk_at "dl"
    exact is_whole_ok (k := 1) rfl ⟨rfl, rfl⟩
  walk_at "dl"
  refine o_all (bs := (List.range m).map fun _ => true) (by simp only [DL.listOf, Option.bind_some]; exact bls_range) ?_
  walk_at "dl"
  refine k_ifF (by simp) ?_
  walk_at "dl"
  refine i_list ?_
  refine lc_map (l := List.range n) (f := fun j : Nat => D.lst (rowL m (C j))) (g := fun j : Nat => D.bl true) (by rw [sizeLine_eq]; simp; omega) ?_ ?_
  · intro j hj
    have hj := List.mem_range.mp hj
    refine ⟨_, rfl, ?_⟩
    walk_at "dl"
    refine comes_ok (k := r) (l := kz) (by rfl) h (by omega) (by omega) (by omega) (G.sC j hj) G.sy ?_
    walk_at "dl"
    exact ⟨by rw [decide_eq_true (G.lo j hj)], rfl⟩
  walk_at "dl"
  refine o_all (bs := (List.range n).map fun _ => true) (by simp only [DL.listOf, Option.bind_some]; exact bls_range) ?_
  walk_at "dl"
  refine k_ifT (by simp) ?_
  walk_at "dl"
  refine comes_ok (k := r) (l := kz) (by rfl) h (by omega) (by omega) (by omega) G.sg G.sy ?_
  walk_at "dl"
  rw [trim_same rfl, decide_eq_true G.neg]
  exact q
theorem lets_shares_ok (G : ShG n m kz r C g T b) (h : DL.listOf S d = some (frL n T b)) (q : P (.bl true) S) : Ok (Lw.f_lets_balance [colsD n m C, .lst (rowL m g), .tup [.str "shares", d]] S) P := by
  unfold Lw.f_lets_balance
  refine k_fn rfl ?_
  unfold Lw.d_lets_balance
  walk_at "dl"
  refine o_isi (k := "tuple") rfl rfl ?_
  walk_at "dl"
  refine k_ifF (by simp) ?_
  walk_at "dl"
  refine k_ifF (by simp) ?_
  walk_at "dl"
  refine o_isi (k := "str") rfl rfl ?_
  walk_at "dl"
  refine k_ifF (by simp) ?_
  walk_at "dl"
  refine k_ifT (by simp) ?_
  walk_at "dl"
  refine come_to_ok G h ?_
  rw [trim_same rfl]
  exact q
theorem lets_against_ok (G : AgG n m kz r C g y) (h : DL.listOf S d = some (rowL m y)) (q : P (.bl true) S) : Ok (Lw.f_lets_balance [colsD n m C, .lst (rowL m g), .tup [.str "against", d]] S) P := by
  unfold Lw.f_lets_balance
  refine k_fn rfl ?_
  unfold Lw.d_lets_balance
  walk_at "dl"
  refine o_isi (k := "tuple") rfl rfl ?_
  walk_at "dl"
  refine k_ifF (by simp) ?_
  walk_at "dl"
  refine k_ifF (by simp) ?_
  walk_at "dl"
  refine o_isi (k := "str") rfl rfl ?_
  walk_at "dl"
  refine k_ifF (by simp) ?_
  walk_at "dl"
  refine k_ifF (by decide) ?_
  walk_at "dl"
  refine k_ifT (by decide) ?_
  walk_at "dl"
  refine are_against_ok G h ?_
  rw [trim_same rfl]
  exact q
set_option maxHeartbeats 1000000 in
theorem law_shares_ok (G : ShG n m kz r C g T b) (h : DL.listOf S d = some (frL n T b)) (q : P (.bl true) S) : Ok (Lw.f__law_shares_right [colsD n m C, .lst (rowL m g), d] S) P := by
  have hb : b ≠ 0 := by have := G.pos; omega
  have hn := G.n; have hm := G.m
  unfold Lw.f__law_shares_right
  refine k_fn rfl ?_
  unfold Lw.d__law_shares_right
  walk_at "dl"
  refine o_isLof h ?_
  walk_at "dl"
  refine k_ifF (by simp) ?_
  walk_at "dl"
  refine o_lenL (seq_lof h) ?_
  walk_at "dl"
  refine k_ifF (by rw [frL_len]; simp) ?_
  walk_at "dl"
  refine i_lof h fun it hf hx => ?_
  refine lc_keepN (l := List.range n) (f := fun j : Nat => fD (lowF (T j) b)) (g := fun j : Nat => fD (lowF (T j) b)) (b := fun _ => false) (by simpa [frL] using hf) hx (by rw [sizeLine_eq]; simp; omega) ?_ ?_
  · intro j hj
    have hj := List.mem_range.mp hj
    refine ⟨_, rfl, ?_⟩
    walk_at "dl"
    obtain ⟨u1, u2⟩ := fo_low (T := T j) hb G.kz G.sb
    refine law_is_fraction_ok u1 ?_
    rw [u2]
    walk_at "dl"
    exact ⟨rfl, rfl, fun z => by cases z⟩
  rw [show (((List.range n).filter fun _ => false).map fun j : Nat => fD (lowF (T j) b)) = [] by simp]
  walk_at "dl"
  refine o_neD (by intro s hs; cases hs) rfl rfl ?_
  rw [show PyData.eqv (topD S (D.lst [])).py (topD S (D.lst [])).py = true from rfl]
  walk_at "dl"
  refine k_ifF (by simp) ?_
  walk_at "dl"
  refine i_lof h fun it hf hx => ?_
  refine lc_keepN (l := List.range n) (f := fun j : Nat => fD (lowF (T j) b)) (g := fun j : Nat => fD (lowF (T j) b)) (b := fun _ => false) (by simpa [frL] using hf) hx (by rw [sizeLine_eq]; simp; omega) ?_ ?_
  · intro j hj
    have hj := List.mem_range.mp hj
    refine ⟨_, rfl, ?_⟩
    walk_at "dl"
    have := low_sign G.pos (G.sT j hj).1
    exact ⟨by rw [decide_eq_false (by omega)], rfl, fun z => by cases z⟩
  rw [show (((List.range n).filter fun _ => false).map fun j : Nat => fD (lowF (T j) b)) = [] by simp]
  walk_at "dl"
  refine o_neD (by intro s hs; cases hs) rfl rfl ?_
  rw [show PyData.eqv (topD S (D.lst [])).py (topD S (D.lst [])).py = true from rfl]
  walk_at "dl"
  refine k_ifF (by simp) ?_
  walk_at "dl"
  rw [rowL_len]
  refine i_rng1 (by omega) (by omega) ?_
  refine k_forL (fun i ρ S' => S' = S ∧ ∃ x3 x4 x5 x6 x7, ρ = [some (colsD n m C), some (.lst (rowL m g)), some d, x3, x4, x5, x6, x7]) ⟨rfl, _, _, _, _, _, rfl⟩ ?_ ?_
  · rintro l ρ S' dd hd ⟨rfl, x3, x4, x5, x6, x7, rfl⟩
    obtain ⟨hl, rfl⟩ := rng_d hd
    refine ⟨_, rfl, ?_⟩
    walk_at "dl"
    refine i_zof (xs := (List.range n).map fun j => D.lst (rowL m (C j))) (by rfl) h fun it hf hx => ?_
    rw [zip_cols (d2 := frL n T b) (h := fun j => fD (lowF (T j) b)) rfl] at hf hx
    refine k_forN (xs := (List.range n).map fun j => D.tup [.lst (rowL m (C j)), fD (lowF (T j) b)]) (fun i ρ S2 => S2 = S' ∧ ∃ x5 x6 x7, ρ = [some (colsD n m C), some (.lst (rowL m g)), some d, some (.int l), some (fD (lowF (Sx.sm i fun j => T j * C j l) b)), x5, x6, x7]) hf ⟨rfl, _, _, _, by
      show _ = [_, _, _, _, some (fD (lowF 0 b)), _, _, _]
      rw [low_nought hb]; rfl⟩ ?_ ?_ ?_
    · rintro i ρ S2 ⟨rfl, _⟩
      exact hx i
    · rintro i ρ S2 dd hd ⟨rfl, x5, x6, x7, rfl⟩
      have hi : i < n := by simpa using (List.getElem?_eq_some_iff.mp hd).1
      rw [List.getElem?_map, List.getElem?_range hi] at hd
      cases hd
      refine ⟨_, rfl, ?_⟩
      walk_at "dl"
      refine o_ixL rfl (rowL_get hl) ?_
      walk_at "dl"
      show Ok (Lw.f__law_times [fD (C i l, 1), fD (lowF (T i) b)] S2) _
      refine law_times_ok (G.cell hi hl) (G.fr hi) (by decide) (by decide) (by decide) (by decide) ?_
      rw [show timesF (C i l, 1) (lowF (T i) b) = timesF (lowF (T i) b) (C i l, 1) by unfold timesF; rw [Int.mul_comm (C i l, 1).1, Int.mul_comm (C i l, 1).2]]
      walk_at "dl"
      refine law_plus_ok (G.part (Nat.le_of_lt hi) hl) (times_S (G.fr hi) (G.cell hi hl)) (by decide) (by decide) (by decide) (by decide) ?_
      rw [plus_low hb]
      exact ⟨rfl, _, _, _, rfl⟩
    · rintro ρ S2 ⟨rfl, x5, x6, x7, rfl⟩
      rw [List.length_map, List.length_range, ← G.eq l hl, low_int hb]
      walk_at "dl"
      refine o_ixL rfl (rowL_get hl) ?_
      walk_at "dl"
      refine o_neD (by intro s hs; cases hs) (by rfl) (by rfl) ?_
      rw [show PyData.eqv (topD S2 (fD (g l, 1))).py (topD S2 (D.tup [D.int (g l), D.int 1])).py = decide (((g l, 1) : Fr) = (g l, 1)) from fD_eq (g l, 1) (g l, 1)]
      walk_at "dl"
      refine k_ifF (by simp) ?_
      walk_at "dl"
      exact ⟨rfl, _, _, _, _, _, rfl⟩
  · rintro ρ S' ⟨rfl, x3, x4, x5, x6, x7, rfl⟩
    walk_at "dl"
    rw [trim_same rfl]
    exact q
set_option maxHeartbeats 1000000 in
theorem law_against_ok (G : AgG n m kz r C g y) (h : DL.listOf S d = some (rowL m y)) (q : P (.bl true) S) : Ok (Lw.f__law_against_right [colsD n m C, .lst (rowL m g), d] S) P := by
  have hn := G.n; have hm := G.m; have hk := G.kz; have hr := G.r
  unfold Lw.f__law_against_right
  refine k_fn rfl ?_
  unfold Lw.d__law_against_right
  walk_at "dl"
  refine o_isLof h ?_
  walk_at "dl"
  refine k_ifF (by simp) ?_
  walk_at "dl"
  refine o_lenL (seq_lof h) ?_
  walk_at "dl"
  refine k_ifF (by rw [rowL_len, rowL_len]; simp) ?_
  walk_at "dl"
  refine i_lof h fun it hf hx => ?_
  refine lc_keepN (l := List.range m) (f := fun j : Nat => D.int (y j)) (g := fun j : Nat => D.int (y j)) (b := fun _ => false) (by simpa [rowL] using hf) hx (by rw [sizeLine_eq]; simp; omega) ?_ ?_
  · intro j hj
    refine ⟨_, rfl, ?_⟩
    walk_at "dl"
    refine law_is_whole_ok (k := 1) rfl ?_
    walk_at "dl"
    exact ⟨rfl, rfl, fun z => by cases z⟩
  rw [show (((List.range m).filter fun _ => false).map fun j : Nat => D.int (y j)) = [] by simp]
  walk_at "dl"
  refine o_neD (by intro s hs; cases hs) rfl rfl ?_
  rw [show PyData.eqv (topD S (D.lst [])).py (topD S (D.lst [])).py = true from rfl]
  walk_at "dl"
  refine k_ifF (by simp) ?_
  walk_at "dl"
  refine dot_ok (k := r) (l := kz) (by rfl) h (by omega) (by omega) (by omega) G.sg G.sy ?_
  walk_at "dl"
  rw [decide_eq_true G.neg]
  walk_at "dl"
  refine i_list ?_
  refine lc_keep (l := List.range n) (f := fun j : Nat => D.lst (rowL m (C j))) (g := fun j : Nat => D.lst (rowL m (C j))) (b := fun _ => false) (by rw [sizeLine_eq]; simp; omega) ?_ ?_
  · intro j hj
    have hj := List.mem_range.mp hj
    refine ⟨_, rfl, ?_⟩
    walk_at "dl"
    refine dot_ok (k := r) (l := kz) (by rfl) h (by omega) (by omega) (by omega) (G.sC j hj) G.sy ?_
    walk_at "dl"
    have := G.lo j hj
    exact ⟨by rw [decide_eq_false (by omega)], rfl, fun z => by cases z⟩
  rw [show (((List.range n).filter fun _ => false).map fun j : Nat => D.lst (rowL m (C j))) = [] by simp]
  walk_at "dl"
  refine o_eqZ rfl ?_
  rw [trim_same rfl]
  exact q
theorem law_bal_shares_ok (G : ShG n m kz r C g T b) (h : DL.listOf S d = some (frL n T b)) (q : P (.bl true) S) : Ok (Lw.f__law_is_balance [colsD n m C, .lst (rowL m g), .tup [.str "shares", d]] S) P := by
  unfold Lw.f__law_is_balance
  refine k_fn rfl ?_
  unfold Lw.d__law_is_balance
  walk_at "dl"
  refine o_isi (k := "tuple") rfl rfl ?_
  walk_at "dl"
  refine k_ifF (by simp) ?_
  walk_at "dl"
  refine k_ifF (by simp) ?_
  walk_at "dl"
  refine o_isi (k := "str") rfl rfl ?_
  walk_at "dl"
  refine k_ifF (by simp) ?_
  walk_at "dl"
  refine k_ifT (by simp) ?_
  walk_at "dl"
  refine law_shares_ok G h ?_
  rw [trim_same rfl]
  exact q
theorem law_bal_against_ok (G : AgG n m kz r C g y) (h : DL.listOf S d = some (rowL m y)) (q : P (.bl true) S) : Ok (Lw.f__law_is_balance [colsD n m C, .lst (rowL m g), .tup [.str "against", d]] S) P := by
  unfold Lw.f__law_is_balance
  refine k_fn rfl ?_
  unfold Lw.d__law_is_balance
  walk_at "dl"
  refine o_isi (k := "tuple") rfl rfl ?_
  walk_at "dl"
  refine k_ifF (by simp) ?_
  walk_at "dl"
  refine k_ifF (by simp) ?_
  walk_at "dl"
  refine o_isi (k := "str") rfl rfl ?_
  walk_at "dl"
  refine k_ifF (by simp) ?_
  walk_at "dl"
  refine k_ifF (by decide) ?_
  walk_at "dl"
  refine k_ifT (by decide) ?_
  walk_at "dl"
  refine law_against_ok G h ?_
  rw [trim_same rfl]
  exact q
end

/-! ### what is told -/
def Good (n m kz r : Nat) (C : Nat → Nat → Int) (g : Nat → Int) (w : Str) (xs : List D) : Prop :=
  (w = "shares" ∧ ∃ T b, ShG n m kz r C g T b ∧ xs = frL n T b) ∨ (w = "against" ∧ ∃ y, AgG n m (kz + 2) r C g y ∧ xs = rowL m y)
/-- the word that is due -/
def Due (n m : Nat) (C : Nat → Nat → Int) (g : Nat → Int) (due : D) : Prop :=
  due = .non ∨ (due = .str "shares" ∧ ∃ (B : Int) (p : Nat → Int), 0 < B ∧ (∀ j, j < n → 0 ≤ p j) ∧ ∀ l, l < m → B * g l = Sx.sm n fun j => C j l * p j) ∨
    (due = .str "against" ∧ ∃ w : Nat → Int, (∀ j, j < n → 0 ≤ Sx.sm m fun i => C j i * w i) ∧ (Sx.sm m fun i => g i * w i) < 0)
structure Sized (n m kz r M : Nat) (C : Nat → Nat → Int) (g : Nat → Int) : Prop where
  hn : n ≤ 1000
  hm : m ≤ 1000
  M1 : 1 ≤ M
  hC : ∀ j, j < n → ∀ i, i < m → (C j i).natAbs ≤ M
  hg : ∀ i, i < m → (g i).natAbs ≤ M
  k : (m + 1) * (m * M) ^ m < 2 ^ kz
  hkz : kz ≤ 1998
  F : (n + m) ^ m < FU
  Mr : M < 2 ^ r
  hr : r ≤ 300
section
variable {S : Sto} {P : D → Sto → Prop} {n m kz r M : Nat} {C : Nat → Nat → Int} {g : Nat → Int} {due : D}
theorem Good.word {w : Str} {xs : List D} (G : Good n m kz r C g w xs) (h : Due n m C g due) : due = .non ∨ due = .str w := by
  rcases h with h | ⟨rfl, B, p, hB, hp, hg⟩ | ⟨rfl, u, hu, hg⟩
  · exact .inl h
  · right
    rcases G with ⟨rfl, _⟩ | ⟨rfl, y, A, _⟩
    · rfl
    · exfalso
      have := A.neg
      have e : B * (Sx.sm m fun i => g i * y i) = Sx.sm n fun j => p j * Sx.sm m fun i => C j i * y i := by
        rw [← Sx.sm_mul, Sx.sm_congr (g := fun i => Sx.sm n fun j => p j * (C j i * y i)) fun i hi => by
          rw [← Int.mul_assoc, hg i hi, ← Sx.sm_mul2]
          exact Sx.sm_congr fun j _ => by grind]
        rw [Sx.sm_swap]
        exact Sx.sm_congr fun j _ => Sx.sm_mul _ _ _
      have h1 : 0 ≤ Sx.sm n fun j => p j * Sx.sm m fun i => C j i * y i := Sx.sm_nonneg fun j hj => Int.mul_nonneg (hp j hj) (A.lo j hj)
      have := Int.mul_neg_of_pos_of_neg hB this
      omega
  · right
    rcases G with ⟨rfl, T, b, A, _⟩ | ⟨rfl, _⟩
    · exfalso
      have e : b * (Sx.sm m fun i => g i * u i) = Sx.sm n fun j => T j * Sx.sm m fun i => C j i * u i := by
        rw [← Sx.sm_mul, Sx.sm_congr (g := fun i => Sx.sm n fun j => T j * (C j i * u i)) fun i hi => by
          rw [← Int.mul_assoc, A.eq i hi, ← Sx.sm_mul2]
          exact Sx.sm_congr fun j _ => by grind]
        rw [Sx.sm_swap]
        exact Sx.sm_congr fun j _ => Sx.sm_mul _ _ _
      have h1 : 0 ≤ Sx.sm n fun j => T j * Sx.sm m fun i => C j i * u i := Sx.sm_nonneg fun j hj => Int.mul_nonneg (A.sT j hj).1 (hu j hj)
      have := Int.mul_neg_of_pos_of_neg A.pos hg
      omega
    · rfl
theorem told_det (Z : Sized n m kz r M C g) : ∃ w xs, Good n m kz r C g w xs ∧ ∀ (S : Sto) (P : D → Sto → Prop), (∀ c S', S.length ≤ c → Gx S S' → S'[c]? = some (some (.lst xs)) → P (.tup [.str w, .cell c]) S') → Ok (Lw.f_balance [colsD n m C, .lst (rowL m g)] S) P := by
  have hk := Z.hkz
  have sC : ∀ j, j < n → ∀ l, l < m → Sz r (C j l) := fun j hj l hl => Nat.lt_of_le_of_lt (Z.hC j hj l hl) Z.Mr
  have sg : ∀ l, l < m → Sz r (g l) := fun l hl => Nat.lt_of_le_of_lt (Z.hg l hl) Z.Mr
  have hr := Z.hr
  obtain ⟨w, xs, h, k⟩ := balance_det (kz := kz) Z.hn Z.hm Z.M1 Z.hC Z.hg Z.k (by omega) Z.F
  refine ⟨w, xs, ?_, k⟩
  rcases h with ⟨rfl, T, b, p1, p2, p3, p4, rfl⟩ | ⟨rfl, y, lo, neg, sy, rfl⟩
  · exact .inl ⟨rfl, T, b, ⟨p1, p2, p3, p4, sC, by omega, Z.hr, Z.hn, Z.hm⟩, rfl⟩
  · have cm : ∀ f : Nat → Int, (Sx.sm m fun i => f i * y i) = Sx.sm m fun i => y i * f i := fun f => Sx.sm_congr fun i _ => Int.mul_comm _ _
    exact .inr ⟨rfl, y, ⟨fun j hj => by rw [cm]; exact lo j hj, by rw [cm]; exact neg, sy, sC, sg, by omega, by omega, Z.hn, Z.hm⟩, rfl⟩
theorem lets_good {w : Str} {xs : List D} {d : D} (G : Good n m kz r C g w xs) (h : DL.listOf S d = some xs) (q : P (.bl true) S) : Ok (Lw.f_lets_balance [colsD n m C, .lst (rowL m g), .tup [.str w, d]] S) P := by
  rcases G with ⟨rfl, T, b, A, rfl⟩ | ⟨rfl, y, A, rfl⟩
  · exact lets_shares_ok A h q
  · exact lets_against_ok A h q
theorem law_good {w : Str} {xs : List D} {d : D} (G : Good n m kz r C g w xs) (h : DL.listOf S d = some xs) (q : P (.bl true) S) : Ok (Lw.f__law_is_balance [colsD n m C, .lst (rowL m g), .tup [.str w, d]] S) P := by
  rcases G with ⟨rfl, T, b, A, rfl⟩ | ⟨rfl, y, A, rfl⟩
  · exact law_bal_shares_ok A h q
  · exact law_bal_against_ok A h q
end

/-! ### tables written down -/
def colsL (n m : Nat) (C : Nat → Nat → Int) : List D := (List.range n).map fun j => D.lst (rowL m (C j))
theorem ints_row {row : List Int} {w : Nat} (h : row.length = w) : row.map D.int = rowL w fun i => row.getD i 0 := by
  refine List.ext_getElem? fun i => ?_
  by_cases hi : i < w
  · rw [rowL_get hi, List.getElem?_map, List.getElem?_eq_getElem (by omega), List.getD_eq_getElem?_getD, List.getElem?_eq_getElem (by omega)]; rfl
  · rw [List.getElem?_eq_none (by simp; omega), List.getElem?_eq_none (by rw [rowL_len]; omega)]
theorem row_fn {Q : Int → Prop} {row : List Int} {w : Nat} (h : row.length = w) (hq : ∀ x ∈ row, Q x) : ∃ f : Nat → Int, (∀ i, i < w → Q (f i)) ∧ row.map D.int = rowL w f := by
  refine ⟨fun i => row.getD i 0, fun i hi => ?_, ints_row h⟩
  show Q (row.getD i 0)
  rw [List.getD_eq_getElem?_getD, List.getElem?_eq_getElem (by omega)]
  exact hq _ (List.getElem_mem _)
def iL (ns : List Int) : D := .lst (ns.map .int)
def cAt (Ls : List (List Int)) : Nat → Nat → Int := fun j i => (Ls.getD j []).getD i 0
def gAt (gs : List Int) : Nat → Int := fun i => gs.getD i 0
theorem iL_row {gs : List Int} {m : Nat} (h : gs.length = m) : iL gs = .lst (rowL m (gAt gs)) := by
  unfold iL gAt
  rw [ints_row h]
theorem cols_at {Ls : List (List Int)} {n m : Nat} (hn : Ls.length = n) (h : ∀ l ∈ Ls, l.length = m) : D.lst (Ls.map iL) = colsD n m (cAt Ls) := by
  unfold colsD
  congr 1
  refine List.ext_getElem? fun i => ?_
  by_cases hi : i < n
  · rw [List.getElem?_map, List.getElem?_map, List.getElem?_range hi, List.getElem?_eq_getElem (by omega)]
    show some (iL _) = some (D.lst (rowL m (cAt Ls i)))
    rw [iL_row (h _ (List.getElem_mem _))]
    congr 2
    unfold cAt gAt
    rw [List.getD_eq_getElem?_getD (l := Ls), List.getElem?_eq_getElem (by omega)]
    rfl
  · rw [List.getElem?_eq_none (by simp; omega), List.getElem?_eq_none (by simp; omega)]
theorem FU_ge {x k : Nat} (h : x < 2 ^ k) (hk : k ≤ 90000) : x < FU := by
  have h2 : ((x : Nat) : Int).toNat < FU := FU_gt (k := k) (by unfold Sz; rw [Int.natAbs_natCast]; exact h) (by omega)
  rwa [Int.toNat_natCast] at h2
theorem pool_ok {ns : List Int} {z : Int} {S : Sto} {P : D → Sto → Prop} (hz : 0 ≤ z) (hi : z < 1000) (k : ∀ a b : Int, 0 ≤ a → 0 ≤ b → P (.cell S.length) (S ++ [some (.lst [.int a, .int b])])) : Ok (Lw.f__law_pool [.ro (ns.map .int), .int z] S) P := by
  unfold Lw.f__law_pool
  refine k_fn rfl ?_
  unfold Lw.d__law_pool
  walk_at "dl"
  refine k_ite (fun f ρ S' => f = .nx ∧ S' = S ∧ ∃ c : Int, ρ = [some (.ro (ns.map .int)), some (.int z), some (.int c), none, none]) ?_ ?_ ?_
  · intro hl
    have hl' : z < ((ns.map D.int).length : Int) := by simpa using hl
    walk_at "dl"
    obtain ⟨v, hm, e⟩ := atI_mem (xs := ns.map D.int) (i := z) (by omega) hl'
    obtain ⟨c, hc, rfl⟩ := List.mem_map.mp hm
    refine o_ix (v := .int c) (by show L2.atI (ns.map D.int) z = _; exact e) ?_
    walk_at "dl"
    exact ⟨rfl, rfl, c, rfl⟩
  · intro _
    walk_at "dl"
    exact ⟨rfl, rfl, 0, rfl⟩
  rintro f ρ S' ⟨rfl, rfl, c, rfl⟩
  walk_at "dl"
  refine o_mod (by decide) ?_
  walk_at "dl"
  have sz : Sz 10 z := by unfold Sz; omega
  have s1 : Sz 13 7919 := by unfold Sz; decide
  refine o_mul (s1.mulOk sz) ?_
  walk_at "dl"
  refine o_mul ((s1.mul sz).mulOk sz) ?_
  walk_at "dl"
  refine o_mul (sz.mulOk (k := 10) (l := 10) (show Sz 10 31 by unfold Sz; decide) |> fun _ => (show Sz 10 31 by unfold Sz; decide).mulOk sz) ?_
  walk_at "dl"
  refine o_mul (.of_right (by decide)) ?_
  walk_at "dl"
  refine o_mod (by decide) ?_
  walk_at "dl"
  refine o_pow (by unfold L2.CPow; decide) ?_
  walk_at "dl"
  generalize hn : max c (-1 - c) = n
  have hn0 : 0 ≤ n := by omega
  generalize hm : Int.fmod _ 2147483647 = m
  have hm0 : 0 ≤ m := by rw [← hm, Int.fmod_eq_emod_of_nonneg _ (by decide)]; exact Int.emod_nonneg _ (by decide)
  refine o_mul (.of_right (by split <;> decide)) ?_
  walk_at "dl"
  have e : trim S' (.cell S'.length) (S' ++ [some (.lst [.int (n * if decide (10 ^ (18 : Int).toNat ≤ n) = true then 1 else 0), .int m])]) = S' ++ [some (.lst [.int (n * if decide (10 ^ (18 : Int).toNat ≤ n) = true then 1 else 0), .int m])] := by
    unfold trim
    rw [if_neg]
    rintro ⟨h, _⟩
    simp [D.bel] at h
  rw [e]
  refine k _ _ ?_ hm0
  split
  · omega
  · simp
theorem pool_made {S : Sto} {a b : Int} (h0 : 0 ≤ a) (h1 : 0 ≤ b) : IsPool (S ++ [some (.lst [.int a, .int b])]) S.length := ⟨a, b, h0, h1, by simp⟩

/-! ### cells beside the pool -/
/-- a cell is kept while the pool is drawn from -/
theorem SP.at {p c : Nat} {S S' : Sto} {xs : List D} (s : SP p S S') (hc : c ≠ p) (h : S[c]? = some (some (.lst xs))) : S'[c]? = some (some (.lst xs)) := (s.oth c hc).trans h
/-- cells beyond S may come; of those of S the pool alone is changed -/
structure SQ (p : Nat) (S S' : Sto) : Prop where
  len : S.length ≤ S'.length
  oth : ∀ i : Nat, i < S.length → i ≠ p → S'[i]? = S[i]?
  pool : IsPool S' p
theorem SQ.refl {p : Nat} {S : Sto} (h : IsPool S p) : SQ p S S := ⟨Nat.le_refl _, fun _ _ _ => rfl, h⟩
theorem IsPool.lt {p : Nat} {S : Sto} (h : IsPool S p) : p < S.length := by
  obtain ⟨_, _, _, _, e⟩ := h
  exact (List.getElem?_eq_some_iff.mp e).1
theorem SQ.push {p : Nat} {S S1 : Sto} {c : Option CO} (a : SQ p S S1) : SQ p S (S1 ++ [c]) := by
  have hp := a.pool.lt
  refine ⟨by simp; have := a.len; omega, fun i h n => ?_, ?_⟩
  · rw [List.getElem?_append_left (by have := a.len; omega)]; exact a.oth i h n
  · obtain ⟨x, y, h0, h1, e⟩ := a.pool
    exact ⟨x, y, h0, h1, by rw [List.getElem?_append_left hp]; exact e⟩
theorem SQ.put {p c : Nat} {S S1 : Sto} {o : Option CO} (a : SQ p S S1) (hc : S.length ≤ c) (hp : p < S.length) : SQ p S (S1.set c o) := by
  refine ⟨by rw [List.length_set]; exact a.len, fun i h n => ?_, ?_⟩
  · rw [List.getElem?_set_ne (by omega)]; exact a.oth i h n
  · obtain ⟨x, y, h0, h1, e⟩ := a.pool
    exact ⟨x, y, h0, h1, by rw [List.getElem?_set_ne (by omega)]; exact e⟩
/-! ### a table asked -/
theorem notBf_ok {S : Sto} {P : D → Sto → Prop} (q : P (.bl false) S) : Ok (oNotB (.bl true) (.bl true) S) P := by
  show Ok (oNotB (.bl true) (.bl true) S) P
  exact ⟨q⟩
section
variable {S : Sto} {P : D → Sto → Prop} {n m kz r M : Nat} {C : Nat → Nat → Int} {g : Nat → Int} {due : D}
set_option maxHeartbeats 1000000 in
theorem right_ok (Z : Sized n m kz r M C g) (hd : Due n m C g due) (q : ∀ S', P (.bl true) S') : Ok (Lw.f__law_right [colsD n m C, .lst (rowL m g), due] S) P := by
  obtain ⟨w, xs, G, k⟩ := told_det Z
  unfold Lw.f__law_right
  refine k_fn rfl ?_
  unfold Lw.d__law_right
  walk_at "dl"
  refine k S _ fun c S1 hc ex ec => ?_
  walk_at "dl"
  refine law_good G (by simp only [DL.listOf, ec]) ?_
  walk_at "dl"
  refine k_ifF (by simp) ?_
  walk_at "dl"
  refine lets_good G (by simp only [DL.listOf, ec]) ?_
  walk_at "dl"
  refine notBf_ok ?_
  walk_at "dl"
  rcases G.word hd with rfl | rfl
  · refine isN_y ?_
    walk_at "dl"
    exact q _
  · refine isN_n (by intro z; cases z) ?_
    walk_at "dl"
    rw [decide_eq_true rfl]
    exact q _
end
theorem cAt_abs {Ls : List (List Int)} {M : Nat} (h : ∀ l ∈ Ls, ∀ x ∈ l, x.natAbs ≤ M) (j i : Nat) : (cAt Ls j i).natAbs ≤ M := by
  unfold cAt
  rw [List.getD_eq_getElem?_getD (l := Ls)]
  cases e : Ls[j]? with
  | none => show ((([] : List Int).getD i 0).natAbs) ≤ M; simp
  | some l =>
    show ((l.getD i 0).natAbs) ≤ M
    rw [List.getD_eq_getElem?_getD]
    cases e2 : l[i]? with
    | none => show ((0 : Int).natAbs) ≤ M; simp
    | some x => exact h l (List.mem_of_getElem? e) x (List.mem_of_getElem? e2)
theorem gAt_abs {gs : List Int} {M : Nat} (h : ∀ x ∈ gs, x.natAbs ≤ M) (i : Nat) : (gAt gs i).natAbs ≤ M := by
  unfold gAt
  rw [List.getD_eq_getElem?_getD]
  cases e2 : gs[i]? with
  | none => show ((0 : Int).natAbs) ≤ M; simp
  | some x => exact h x (List.mem_of_getElem? e2)
def rtB (Ls : List (List Int)) (gs : List Int) (n m M kz r : Nat) : Bool :=
  decide (Ls.length = n) && decide (gs.length = m) && (Ls.all fun l => decide (l.length = m) && l.all fun x => decide (x.natAbs ≤ M)) && (gs.all fun x => decide (x.natAbs ≤ M)) && decide (n ≤ 1000) && decide (m ≤ 1000) && decide (1 ≤ M) && decide ((m + 1) * (m * M) ^ m < 2 ^ kz) && decide (kz ≤ 1998) && decide ((n + m) ^ m < 2 ^ 5000) && decide (M < 2 ^ r) && decide (r ≤ 300)
def dsB (Ls : List (List Int)) (gs : List Int) (n m : Nat) (B : Int) (p : Nat → Int) : Bool :=
  decide (0 < B) && ((List.range n).all fun j => decide (0 ≤ p j)) && (List.range m).all fun l => decide (B * gAt gs l = Sx.sm n fun j => cAt Ls j l * p j)
def daB (Ls : List (List Int)) (gs : List Int) (n m : Nat) (w : Nat → Int) : Bool :=
  ((List.range n).all fun j => decide (0 ≤ Sx.sm m fun i => cAt Ls j i * w i)) && decide ((Sx.sm m fun i => gAt gs i * w i) < 0)
section
variable {S : Sto} {P : D → Sto → Prop} {Ls : List (List Int)} {gs : List Int}
theorem rt_ok (n m M kz r : Nat) (B : rtB Ls gs n m M kz r = true) {due : D} (hd : Due n m (cAt Ls) (gAt gs) due) (q : ∀ S', P (.bl true) S') : Ok (Lw.f__law_right [.lst (Ls.map iL), iL gs, due] S) P := by
  simp only [rtB, Bool.and_eq_true, decide_eq_true_eq, List.all_eq_true] at B
  obtain ⟨⟨⟨⟨⟨⟨⟨⟨⟨⟨⟨hn, hm⟩, hL⟩, hg⟩, b1⟩, b2⟩, b3⟩, b4⟩, b5⟩, b6⟩, b7⟩, b8⟩ := B
  rw [cols_at hn (fun l hl => (hL l hl).1), iL_row hm]
  exact right_ok ⟨b1, b2, b3, fun j hj i hi => cAt_abs (fun l hl => (hL l hl).2) j i, fun i hi => gAt_abs hg i, b4, b5, FU_ge b6 (by decide), b7, b8⟩ hd q
theorem rt_s (n m M kz r : Nat) (B : rtB Ls gs n m M kz r = true) (b : Int) (p : Nat → Int) (h : dsB Ls gs n m b p = true) (q : ∀ S', P (.bl true) S') : Ok (Lw.f__law_right [.lst (Ls.map iL), iL gs, .str "shares"] S) P := by
  simp only [dsB, Bool.and_eq_true, decide_eq_true_eq, List.all_eq_true, List.mem_range] at h
  exact rt_ok n m M kz r B (.inr (.inl ⟨rfl, b, p, h.1.1, h.1.2, h.2⟩)) q
theorem rt_a (n m M kz r : Nat) (B : rtB Ls gs n m M kz r = true) (w : Nat → Int) (h : daB Ls gs n m w = true) (q : ∀ S', P (.bl true) S') : Ok (Lw.f__law_right [.lst (Ls.map iL), iL gs, .str "against"] S) P := by
  simp only [daB, Bool.and_eq_true, decide_eq_true_eq, List.all_eq_true, List.mem_range] at h
  exact rt_ok n m M kz r B (.inr (.inr ⟨rfl, w, h.1, h.2⟩)) q
theorem o_repR {row : List Int} {n : Nat} {z : Int} (hz : z = (n : Int)) (hn : n ≤ 1000) (q : P (.lst ((List.replicate n row).map iL)) S) : Ok (oMul (.lst [iL row]) (.int z) S) P := by
  subst hz
  refine o_repL (.inr trivial) (by omega) (by omega) (by rw [sizeLine_eq]; simp; omega) ?_
  rw [rep_flat, show ((n : Nat) : Int).toNat = n by omega, show List.replicate n (iL row) = (List.replicate n row).map iL by simp]
  exact q
theorem o_addR {xs ys : List (List Int)} (hn : xs.length + ys.length ≤ 2000) (q : P (.lst ((xs ++ ys).map iL)) S) : Ok (oAdd (.lst (xs.map iL)) (.lst (ys.map iL)) S) P := by
  refine o_addL (by rw [sizeLine_eq]; simp; omega) ?_
  rw [← List.map_append]; exact q
theorem o_repI {x : Int} {n : Nat} {z : Int} (hz : z = (n : Int)) (hn : n ≤ 1000) (q : P (.lst ((List.replicate n x).map D.int)) S) : Ok (oMul (.lst [.int x]) (.int z) S) P := by
  subst hz
  refine o_repL (.inr trivial) (by omega) (by omega) (by rw [sizeLine_eq]; simp; omega) ?_
  rw [rep_flat, show ((n : Nat) : Int).toNat = n by omega, show List.replicate n (D.int x) = (List.replicate n x).map D.int by simp]
  exact q
theorem o_addI {xs ys : List Int} (hn : xs.length + ys.length ≤ 2000) (q : P (.lst ((xs ++ ys).map D.int)) S) : Ok (oAdd (.lst (xs.map D.int)) (.lst (ys.map D.int)) S) P := by
  refine o_addL (by rw [sizeLine_eq]; simp; omega) ?_
  rw [← List.map_append]; exact q
end

abbrev Wi := Str × List Int
def rD (row : List Int) : D := .lst (row.map .int)
structure WiOk (r n : Nat) (w : Wi) : Prop where
  word : w.1 = "least" ∨ w.1 = "just"
  len : w.2.length = n + 1
  sz : ∀ i ∈ w.2, Sz r i
theorem WiOk.mono {r s n : Nat} {w : Wi} (h : WiOk r n w) (l : r ≤ s) : WiOk s n w := ⟨h.word, h.len, fun i hi => (h.sz i hi).mono l⟩

/-! ### lines at numbers with one bottom -/
section
variable {S : Sto} {P : D → Sto → Prop} {d : D} {r kz k : Nat} {row y : Nat → Int} {b : Int}
end
/-! ### columns of wishes -/
theorem bel_rows (m : Nat) : ∀ l : List (List Int), D.belL m (l.map rD) = true
  | [] => rfl
  | x :: l => by
    have go : ∀ l : List Int, D.belL m (l.map D.int) = true := by
      intro l
      induction l with
      | nil => rfl
      | cons x l ih => simp only [List.map_cons, D.belL, ih, Bool.and_true]; rfl
    simp only [List.map_cons, D.belL, bel_rows m l, Bool.and_true]
    show D.bel m (D.lst (x.map D.int)) = true
    simp only [D.bel]
    exact go x
theorem take_bk {S S' : Sto} (ex : Gx S S') : S'.take S.length = S := by
  apply List.ext_getElem?
  intro i
  by_cases hi : i < S.length
  · rw [List.getElem?_take_of_lt hi, ex.old i hi]
  · rw [List.getElem?_take_eq_none (by omega), List.getElem?_eq_none (by omega)]
theorem trim_bk {S S' : Sto} {d : D} (ex : Gx S S') (hb : d.bel S.length = true) : trim S d S' = S := by
  rw [trim_cut ⟨hb, ?_⟩]
  · exact take_bk ex
  · intro i c hi e
    exact .inl (by rw [← ex.old i hi]; exact e)
section
variable {S : Sto} {P : D → Sto → Prop} {PI : ItD → Sto → Prop} {d e : D} {r k : Nat} {ws : List Wi} {xs : List D}
end

/-! ### the written tables -/
section
variable {S : Sto} {P : D → Sto → Prop}
def roundC : List (List Int) := [[25, 50, 0, 75], [-6000, -9000, 0, -15000], [-4, -2, 1, 2], [900, 300, 0, -600], [100, 0, 0, 0], [0, 100, 0, 0], [0, 0, 1, 0], [0, 0, 0, -100]]
def roundR : List (List Int) := [[25, -6000, -4, 900, 100, 0, 0, 0], [50, -9000, -2, 300, 0, 100, 0, 0], [0, 0, 1, 0, 0, 0, 1, 0], [75, -15000, 2, -600, 0, 0, 0, -100]]
set_option maxHeartbeats 2000000 in
theorem round_ok (q : P (.lst (roundC.map iL)) S) : Ok (Lw.f__law_round_columns [] S) P := by
  unfold Lw.f__law_round_columns
  refine k_fn rfl ?_
  unfold Lw.d__law_round_columns
  walk_at "dl"
  refine ⟨chk_cell (List.getElem?_concat_length ..), ?_⟩
  walk_at "dl"
  refine o_app (List.getElem?_concat_length ..) (by rw [sizeLine_eq]; decide) ?_
  walk_at "dl"
  have g1 : Gx S ((S ++ [some (CO.lst ((roundR.take 3).map iL))]).set S.length (some (CO.lst (roundR.map iL)))) := Gx.push.put (Nat.le_refl _)
  have c1 : ((S ++ [some (CO.lst ((roundR.take 3).map iL))]).set S.length (some (CO.lst (roundR.map iL))))[S.length]? = some (some (CO.lst (roundR.map iL))) := List.getElem?_set_self (by simp)
  show Ok (mItR1 [.int 8] ((S ++ [some (CO.lst ((roundR.take 3).map iL))]).set S.length (some (CO.lst (roundR.map iL))))) _
  generalize (S ++ [some (CO.lst ((roundR.take 3).map iL))]).set S.length (some (CO.lst (roundR.map iL))) = S1 at g1 c1
  refine i_rng1 (by decide) (by decide) ?_
  refine lc_map (l := List.range (8 : Int).toNat) (f := fun i : Nat => D.int i) (g := fun i : Nat => iL (roundR.map fun r => r.getD i 0)) (by rw [sizeLine_eq]; decide) ?_ ?_
  · intro i hi
    have hi : i < 8 := List.mem_range.mp hi
    refine ⟨_, rfl, ?_⟩
    walk_at "dl"
    refine i_cell c1 ?_
    refine lc_mapN (l := roundR) (f := iL) (g := fun r => D.int (r.getD i 0)) (by simp [itC]) (fun j => itC_nx c1) (by rw [sizeLine_eq]; decide) ?_ ?_
    · intro r hr
      refine ⟨_, rfl, ?_⟩
      walk_at "dl"
      have hl : r.length = 8 := by
        have : ∀ r ∈ roundR, r.length = 8 := by decide
        exact this r hr
      refine o_ixL rfl (v := .int (r.getD i 0)) (by rw [List.getElem?_map, List.getD_eq_getElem?_getD, List.getElem?_eq_getElem (by omega)]; rfl) ⟨rfl, rfl⟩
    walk_at "dl"
    refine ⟨?_, rfl⟩
    unfold iL
    rw [List.map_map]; rfl
  rw [show (List.range (8 : Int).toNat).map (fun i : Nat => iL (roundR.map fun r => r.getD i 0)) = roundC.map iL from rfl]
  rw [trim_bk g1 (by simp only [D.bel]; exact bel_rows _ roundC)]
  exact q
def chR (places k : Nat) : List Int := List.replicate k 0 ++ [-1, 1] ++ List.replicate (places - 2 - k) 0
def chC (places : Nat) : Nat → List (List Int)
  | 0 => []
  | k + 1 => chC places k ++ [(chR places k).map fun x => 0 - x, chR places k]
theorem chC_len (p : Nat) : ∀ k, (chC p k).length = 2 * k
  | 0 => rfl
  | k + 1 => by rw [chC, List.length_append, chC_len p k]; simp; omega
set_option maxHeartbeats 2000000 in
theorem chain_ok (q : P (.tup [.lst ((chC 30 29).map iL), iL ([-1] ++ List.replicate 28 0 ++ [1])]) S) : Ok (Lw.f__law_chain [.int 30] S) P := by
  unfold Lw.f__law_chain
  refine k_fn rfl ?_
  unfold Lw.d__law_chain
  walk_at "dl"
  refine i_rng1 (by omega) (by omega) ?_
  refine k_forL (fun i ρ S' => S' = S ∧ ∃ x2 x3 x4, ρ = [some (.int 30), some (.lst ((chC 30 i).map iL)), x2, x3, x4]) ⟨rfl, _, _, _, rfl⟩ ?_ ?_
  · rintro k ρ S' dd hd ⟨rfl, x2, x3, x4, rfl⟩
    obtain ⟨hk, rfl⟩ := rng_d hd
    have hk : k < 29 := hk
    refine ⟨_, rfl, ?_⟩
    walk_at "dl"
    refine o_repI (n := k) rfl (by omega) ?_
    walk_at "dl"
    refine o_addI (ys := [-1, 1]) (by simp; omega) ?_
    walk_at "dl"
    refine o_repI (n := 30 - 2 - k) (by omega) (by omega) ?_
    walk_at "dl"
    refine o_addI (by simp; omega) ?_
    walk_at "dl"
    refine i_list ?_
    refine lc_map (l := chR 30 k) (f := D.int) (g := fun x => D.int (0 - x)) (by rw [sizeLine_eq]; simp [chR]; omega) ?_ ?_
    · intro i hi
      refine ⟨_, rfl, ?_⟩
      walk_at "dl"
      exact ⟨rfl, rfl⟩
    walk_at "dl"
    refine o_addL (by rw [sizeLine_eq, List.length_map, chC_len]; simp; omega) ?_
    refine ⟨rfl, some (.int k), some (iL (chR 30 k)), x4, ?_⟩
    rw [chC, List.map_append]
    simp [iL, chR, Function.comp_def]
  · rintro ρ S' ⟨rfl, x2, x3, x4, rfl⟩
    walk_at "dl"
    refine o_repI (n := 28) rfl (by decide) ?_
    walk_at "dl"
    refine o_addI (xs := [-1]) (by simp) ?_
    walk_at "dl"
    refine o_addI (ys := [1]) (by simp) ?_
    walk_at "dl"
    rw [trim_same rfl]
    exact q
end

/-! ### flat tables -/
section
variable {p : Nat} {S : Sto} {P : D → Sto → Prop}
theorem fz_sz {M : Int} {f : Nat → Int} {n : Nat} (h : ∀ j, j < n → -M ≤ f j ∧ f j ≤ M) : (Sx.sm n f).natAbs ≤ n * M.toNat := Sx.sm_abs (M := M.toNat) fun i hi => by have := h i hi; omega
set_option maxHeartbeats 4000000 in
theorem flat_ok (h : IsPool S p) (k : ∀ n m C g due S', 1 ≤ m → m ≤ 12 → n ≤ 24 → (∀ j, j < n → ∀ i, i < m → (C j i).natAbs ≤ 24) → (∀ i, i < m → (g i).natAbs ≤ 24) → Due n m C g due → P (.tup [colsD n m C, .lst (rowL m g), due]) S') : Ok (Lw.f__law_flat [.cell p] S) P := by
  unfold Lw.f__law_flat
  refine k_fn rfl ?_
  unfold Lw.d__law_flat
  walk_at "dl"
  refine take_ok h (by omega) (by omega) fun r0 S1 a0 b0 s1 => ?_
  obtain ⟨m, hm, hm1, hm2⟩ : ∃ m : Nat, 1 + r0 = (m : Int) ∧ 1 ≤ m ∧ m ≤ 12 := ⟨(1 + r0).toNat, by omega, by omega, by omega⟩
  walk_at "dl"
  rw [hm]
  generalize hc : S1.length = c
  have hpc : p < c := by
    obtain ⟨_, _, _, _, e⟩ := s1.pool
    have := (List.getElem?_eq_some_iff.mp e).1; omega
  have hcp : c ≠ p := by omega
  have pool1 : IsPool (S1 ++ [some (CO.lst [])]) p := by
    obtain ⟨x, y, hx, hy, e⟩ := s1.pool
    exact ⟨x, y, hx, hy, by rw [List.getElem?_append_left (by omega)]; exact e⟩
  have cell1 : (S1 ++ [some (CO.lst [])])[c]? = some (some (.lst [])) := by rw [← hc, List.getElem?_append_right (Nat.le_refl _)]; simp
  generalize S1 ++ [some (CO.lst [])] = S2 at pool1 cell1
  walk_at "dl"
  refine take_ok pool1 (by omega) (by omega) fun r1 S3 a1 b1 s3 => ?_
  have cell3 : S3[c]? = some (some (.lst (colsL 0 m fun _ _ => 0))) := s3.at hcp cell1
  obtain ⟨n, hn, hn2⟩ : ∃ n : Nat, r1 = (n : Int) ∧ n ≤ 24 := ⟨r1.toNat, by omega, by omega⟩
  subst hn
  walk_at "dl"
  refine i_rng1 (by omega) (by omega) ?_
  refine k_forL (fun i ρ S' => i ≤ n ∧ IsPool S' p ∧ (∃ C : Nat → Nat → Int, (∀ j, j < i → ∀ l, l < m → -1 ≤ C j l ∧ C j l ≤ 1) ∧ S'[c]? = some (some (.lst (colsL i m C)))) ∧ ∃ x3 x9, ρ = [some (.cell p), some (.int m), some (.cell c), x3, none, none, none, none, none, x9, none]) ⟨Nat.zero_le _, s3.pool, ⟨_, fun j hj => by omega, cell3⟩, _, _, rfl⟩ ?_ ?_
  · rintro i ρ S4 d hd ⟨_, hp4, ⟨C, hC, hc4⟩, x5, x10, rfl⟩
    obtain ⟨hi, rfl⟩ := rng_d hd
    refine ⟨_, rfl, ?_⟩
    walk_at "dl"
    refine ⟨chk_cell hc4, ?_⟩
    walk_at "dl"
    refine i_rng1 (by omega) (by omega) ?_
    refine lc_any (Q := fun d => ∃ i, (-1 ≤ i ∧ i ≤ 1) ∧ d = .int i) (R := fun S' => IsPool S' p ∧ S'[c]? = some (some (.lst (colsL i m C)))) (by rw [sizeLine_eq]; simp; omega) ⟨hp4, hc4⟩ ?_ ?_
    · intro d _ S5 ⟨q5, hc5⟩
      refine ⟨_, rfl, ?_⟩
      walk_at "dl"
      refine take_ok q5 (by decide) (by decide) fun r7 S7 a7 b7 s7 => ?_
      walk_at "dl"
      refine o_pick (fun d => ∃ i, (-1 ≤ i ∧ i ≤ 1) ∧ d = .int i) a7 b7 (by
        intro d hd
        simp only [List.mem_cons, List.not_mem_nil, or_false] at hd
        rcases hd with rfl | rfl | rfl | rfl | rfl | rfl | rfl | rfl <;> exact ⟨_, by decide, rfl⟩) ?_
      rintro v ⟨i, hi, rfl⟩
      exact ⟨⟨_, hi, rfl⟩, s7.pool, s7.at hcp hc5⟩
    · rintro ys S5 hl hq ⟨q5, hc5⟩
      obtain ⟨row, hrow, rfl⟩ := made hq
      have hl' : row.length = m := by simpa using hl
      obtain ⟨f, hf0, ef⟩ := row_fn hl' hrow
      rw [ef]
      walk_at "dl"
      refine o_app hc5 (by rw [sizeLine_eq]; simp [colsL]; omega) ?_
      have hlt := (List.getElem?_eq_some_iff.mp hc5).1
      refine ⟨hi, ?_, ⟨fun j => if j = i then f else C j, fun j hj l hl => ?_, ?_⟩, _, _, rfl⟩
      · obtain ⟨x, y, hx, hy, e⟩ := q5
        exact ⟨x, y, hx, hy, by rw [List.getElem?_set_ne hcp]; exact e⟩
      · by_cases e : j = i
        · simp only [e, if_true]; exact hf0 l hl
        · simp only [e, if_false]; exact hC j (by omega) l hl
      · rw [List.getElem?_set_self hlt]
        congr 3
        unfold colsL
        rw [List.range_succ, List.map_append]
        congr 1
        · refine List.map_congr_left fun j hj => ?_
          show D.lst (rowL m (C j)) = D.lst (rowL m (if j = i then _ else C j))
          rw [if_neg (by have := List.mem_range.mp hj; omega)]
        · simp
  · rintro ρ S4 ⟨_, hp4, ⟨C, hC, hc4⟩, x5, x10, rfl⟩
    rw [List.length_map, List.length_range, show ((n : Nat) : Int).toNat = n by omega] at hC hc4
    walk_at "dl"
    refine take_ok hp4 (by decide) (by decide) fun w S6 aw bw s6 => ?_
    have hc6 := s6.at hcp hc4
    walk_at "dl"
    refine o_repL (.inr trivial) (by omega) (by omega) (by rw [sizeLine_eq]; simp; omega) ?_
    rw [rep_flat, show ((m : Nat) : Int).toNat = m by omega, show List.replicate m (D.int 0) = rowL m fun _ => 0 by unfold rowL; rw [List.map_const']; simp]
    have h24 : ∀ j, j < n → ∀ i, i < m → (C j i).natAbs ≤ 24 := fun j hj i hi => by have := hC j hj i hi; omega
    have fin : ∀ (S' : Sto) (g : Nat → Int) (due : D), S'[c]? = some (some (.lst (colsL n m C))) → (∀ i, i < m → (g i).natAbs ≤ 24) → Due n m C g due →
        (∀ d, d = D.tup [colsD n m C, .lst (rowL m g), due] → P d (trim S d (S'.set c none))) := fun S' g due _ h2 h3 d e => by
      subst e; exact k n m C g due _ hm1 hm2 hn2 h24 h2 h3
    walk_at "dl"
    refine k_condD (fun hw1 => ?_) fun hw1 => ?_
    · -- shares
      subst hw1
      walk_at "dl"
      refine i_cell hc6 ?_
      refine lc_anyN (xs := colsL n m C) (Q := fun d => ∃ i, (0 ≤ i ∧ i ≤ 1) ∧ d = .int i) (R := fun S' => IsPool S' p ∧ S'[c]? = some (some (.lst (colsL n m C)))) rfl (fun i S' h => itC_nx h.2) (by rw [sizeLine_eq]; simp [colsL]; omega) ⟨s6.pool, hc6⟩ ?_ ?_
      · intro d _ S7 ⟨q7, hc7⟩
        refine ⟨_, rfl, ?_⟩
        walk_at "dl"
        refine take_ok q7 (by decide) (by decide) fun r S8 a8 b8 s8 => ?_
        walk_at "dl"
        refine take_ok s8.pool (by decide) (by decide) fun r' S9 a9 b9 s9 => ?_
        walk_at "dl"
        refine o_mul (.of_right (Nat.le_trans ((show Sz 4 r' by unfold Sz; omega).bits (by decide)) (by decide))) ?_
        have : r = 0 ∨ r = 1 := by omega
        refine ⟨⟨_, ?_, rfl⟩, s9.pool, s9.at hcp (s8.at hcp hc7)⟩
        rcases this with rfl | rfl
        · rw [Int.zero_mul]; decide
        · rw [Int.one_mul]; omega
      rintro ys S7 hl2 hq2 ⟨q7, hc7⟩
      obtain ⟨pr, hpr, rfl⟩ := made hq2
      have hl3 : pr.length = n := by simpa [colsL] using hl2
      obtain ⟨pp, hp0, epp⟩ := row_fn hl3 hpr
      rw [epp]
      walk_at "dl"
      refine i_rng1 (by omega) (by omega) ?_
      have sp : ∀ l, l < m → ∀ j, j < n → -1 ≤ C j l * pp j ∧ C j l * pp j ≤ 1 := fun l hl j hj => by
        have h1 := hC j hj l hl
        have h2 := hp0 j hj
        have : pp j = 0 ∨ pp j = 1 := by omega
        rcases this with e | e <;> rw [e]
        · rw [Int.mul_zero]; decide
        · rw [Int.mul_one]; exact h1
      refine lc_map (l := List.range ((m : Nat) : Int).toNat) (f := fun l : Nat => D.int l) (g := fun l : Nat => D.int (Sx.sm n fun j => C j l * pp j)) (by rw [sizeLine_eq]; simp; omega) ?_ ?_
      · intro l hl
        have hl := List.mem_range.mp hl
        refine ⟨_, rfl, ?_⟩
        walk_at "dl"
        refine i_zof (xs := colsL n m C) (ys := rowL n pp) (by simp only [DL.listOf, hc7]) (by rfl) fun it hf hx => ?_
        have ez : zipD (colsL n m C) (rowL n pp) = (List.range n).map fun j => D.tup [.lst (rowL m (C j)), .int (pp j)] := zip_cols rfl
        rw [ez] at hf hx
        refine lc_mapN (l := List.range n) (f := fun j : Nat => D.tup [.lst (rowL m (C j)), .int (pp j)]) (g := fun j : Nat => D.int (C j l * pp j)) (by simpa using hf) hx (by rw [sizeLine_eq]; simp; omega) ?_ ?_
        · intro j hj
          have hj := List.mem_range.mp hj
          refine ⟨_, rfl, ?_⟩
          walk_at "dl"
          refine o_ixL rfl (rowL_get (by omega)) ?_
          walk_at "dl"
          have h1 := hp0 j hj
          exact o_mul (.of_right (Nat.le_trans ((show Sz 4 (pp j) by unfold Sz; omega).bits (by decide)) (by decide))) ⟨rfl, rfl⟩
        walk_at "dl"
        refine o_sum (ns := (List.range n).map fun j => C j l * pp j) (by simp only [DL.listOf, Option.bind_some]; exact ints_range) ?_
        rw [sum_range]
        exact ⟨rfl, rfl⟩
      rw [show (List.range ((m : Nat) : Int).toNat).map (fun l : Nat => D.int (Sx.sm n fun j => C j l * pp j)) = rowL m (fun l => Sx.sm n fun j => C j l * pp j) from rfl]
      walk_at "dl"
      refine k_ifF (by decide) ?_
      walk_at "dl"
      refine k_frzC hc7 ?_
      walk_at "dl"
      refine fin S7 _ (.str "shares") hc7 (fun i hi => ?_) (.inr (.inl ⟨rfl, 1, pp, by decide, fun j hj => (hp0 j hj).1, fun l hl => Int.one_mul _⟩)) _ rfl
      have := fz_sz (M := 1) fun j hj => sp i hi j hj
      have e1 : n * (1 : Int).toNat = n := Nat.mul_one n
      omega
    · walk_at "dl"
      refine k_condD (fun hw2' => ?_) fun hw2' => ?_
      · subst hw2'
        walk_at "dl"
        refine i_rng1 (by omega) (by omega) ?_
        refine lc_any (Q := fun d => ∃ i, (-1 ≤ i ∧ i ≤ 1) ∧ d = .int i) (R := fun S' => IsPool S' p ∧ S'[c]? = some (some (.lst (colsL n m C)))) (by rw [sizeLine_eq]; simp; omega) ⟨s6.pool, hc6⟩ ?_ ?_
        · intro d _ S7 ⟨q7, hc7⟩
          refine ⟨_, rfl, ?_⟩
          walk_at "dl"
          refine take_ok q7 (by decide) (by decide) fun r S8 a8 b8 s8 => ?_
          walk_at "dl"
          exact ⟨⟨_, ⟨by omega, by omega⟩, rfl⟩, s8.pool, s8.at hcp hc7⟩
        rintro ys S7 hl2 hq2 ⟨q7, hc7⟩
        obtain ⟨pr, hpr, rfl⟩ := made hq2
        have hl3 : pr.length = m := by simpa using hl2
        obtain ⟨g, hr1, er0⟩ := row_fn hl3 hpr
        rw [er0]
        walk_at "dl"
        refine k_frzC hc7 ?_
        walk_at "dl"
        exact fin S7 g .non hc7 (fun i hi => by have := hr1 i hi; omega) (.inl rfl) _ rfl
      · walk_at "dl"
        refine k_frzC hc6 ?_
        walk_at "dl"
        have : w = 0 := by omega
        subst this
        refine o_ix (v := .str "shares") rfl ?_
        walk_at "dl"
        exact fin S6 (fun _ => 0) (.str "shares") hc6 (fun i hi => by decide) (.inr (.inl ⟨rfl, 1, fun _ => 0, by decide, fun j hj => Int.le_refl 0, fun l hl => by rw [Sx.sm_zero fun i _ => Int.mul_zero _, Int.mul_zero]⟩)) _ rfl
end
theorem flat_sized {n m : Nat} {C : Nat → Nat → Int} {g : Nat → Int} (hm2 : m ≤ 12) (hn2 : n ≤ 24) (hC : ∀ j, j < n → ∀ i, i < m → (C j i).natAbs ≤ 24) (hg : ∀ i, i < m → (g i).natAbs ≤ 24) : Sized n m 110 5 24 C g := by
  refine ⟨by omega, by omega, by decide, hC, hg, ?_, by decide, ?_, by decide, by decide⟩
  · refine Nat.lt_of_le_of_lt (Nat.mul_le_mul (show m + 1 ≤ 13 by omega) (Nat.le_trans (Nat.pow_le_pow_left (show m * 24 ≤ 288 by omega) m) (Nat.pow_le_pow_right (by decide) hm2))) ?_
    decide +kernel
  · refine FU_ge (k := 100) (Nat.lt_of_le_of_lt (Nat.le_trans (Nat.pow_le_pow_left (show n + m ≤ 36 by omega) m) (Nat.pow_le_pow_right (by decide) hm2)) ?_) (by decide)
    decide +kernel

/-! ### tables at the bounds; the law -/
section
variable {S : Sto} {P : D → Sto → Prop}
def ch0 : List (List Int) := chC 30 29
def ch1 : List (List Int) := (chC 30 29).take 29 ++ (chC 30 29).drop 30
def chG : List Int := [-1] ++ List.replicate 28 0 ++ [1]
def far : Int := 10 ^ 40
def chW : Nat → Int := fun i => if i < 15 then 1 else 0
set_option maxHeartbeats 4000000 in
theorem bounds_ok (q : ∀ S', P (.bl true) S') : Ok (Lw.f__law_bounds_right [] S) P := by
  unfold Lw.f__law_bounds_right
  refine k_fn rfl ?_
  unfold Lw.d__law_bounds_right
  walk_at "dl"
  refine chain_ok ?_
  refine ⟨_, rfl, ?_⟩
  walk_at "dl"
  refine rt_s (Ls := ch0) (gs := chG) 58 30 1 180 1 (by decide +kernel) 1 (fun j => if j % 2 = 1 then 1 else 0) (by decide +kernel) fun S1 => ?_
  walk_at "dl"
  refine k_ifF (by simp) ?_
  walk_at "dl"
  rw [show DL.cutD ((chC 30 29).map iL) none (some 29) = ((chC 30 29).take 29).map iL by
      show DL.cutD ((chC 30 29).map iL) none (some ((29 : Nat) : Int)) = _
      rw [cut_to, List.map_take], show DL.cutD ((chC 30 29).map iL) (some 30) none = ((chC 30 29).drop 30).map iL by
      show DL.cutD ((chC 30 29).map iL) (some ((30 : Nat) : Int)) none = _
      rw [cut_from, List.map_drop]]
  walk_at "dl"
  refine o_addR (by decide) ?_
  walk_at "dl"
  refine rt_a (Ls := ch1) (gs := chG) 57 30 1 180 1 (by decide +kernel) chW (by decide +kernel) fun S2 => ?_
  walk_at "dl"
  refine k_ifF (by simp) ?_
  walk_at "dl"
  refine o_repR (row := [0, 0]) (n := 399) rfl (by decide) ?_
  walk_at "dl"
  refine o_addR (ys := [[1, 2]]) (by simp) ?_
  walk_at "dl"
  refine rt_s (Ls := List.replicate 399 [0, 0] ++ [[1, 2]]) (gs := [2, 4]) 400 2 4 20 3 (by decide +kernel) 1 (fun j => if j = 399 then 2 else 0) (by decide +kernel) fun S3 => ?_
  walk_at "dl"
  refine k_ifF (by simp) ?_
  walk_at "dl"
  refine o_repI (x := 1) (n := 200) rfl (by decide) ?_
  walk_at "dl"
  refine o_repI (x := 3) (n := 200) rfl (by decide) ?_
  walk_at "dl"
  refine rt_s (Ls := [List.replicate 200 1]) (gs := List.replicate 200 3) 1 200 3 1990 2 (by decide +kernel) 1 (fun _ => 3) (by decide +kernel) fun S4 => ?_
  walk_at "dl"
  refine k_ifF (by simp) ?_
  walk_at "dl"
  refine o_repI (x := 1) (n := 200) rfl (by decide) ?_
  walk_at "dl"
  refine o_repI (x := 3) (n := 199) rfl (by decide) ?_
  walk_at "dl"
  refine o_addI (ys := [4]) (by simp) ?_
  walk_at "dl"
  refine rt_a (Ls := [List.replicate 200 1]) (gs := List.replicate 199 3 ++ [4]) 1 200 4 1998 3 (by decide +kernel) (fun i => if i = 0 then 1 else if i = 199 then -1 else 0) (by decide +kernel) fun S5 => ?_
  walk_at "dl"
  refine k_ifF (by simp) ?_
  walk_at "dl"
  refine o_pow (by unfold L2.CPow; decide) ?_
  walk_at "dl"
  show Ok (Lw.f__law_right [.lst (([[far + 1, far], [0 - far, 1 - far]] : List (List Int)).map iL), iL [1, 1], .str "shares"] S5) _
  refine rt_s 2 2 (10 ^ 40 + 1) 300 134 (by decide +kernel) 1 (fun j => if j = 0 then 1 else 1) (by decide +kernel) fun S6 => ?_
  walk_at "dl"
  refine k_ifF (by simp) ?_
  walk_at "dl"
  show Ok (Lw.f__law_right [.lst (([[far + 1, far], [far, far - 1]] : List (List Int)).map iL), iL [1, 1], .str "against"] S6) _
  refine rt_a 2 2 (10 ^ 40 + 1) 300 134 (by decide +kernel) (fun i => if i = 0 then far else -(far + 1)) (by decide +kernel) fun S7 => ?_
  exact q _
set_option maxHeartbeats 4000000 in
theorem law_true {ns : List Int} (hl : ns.length ≤ 63) : Ok (Lw.f_law [.ro (ns.map .int)] S) fun d _ => d = .bl true := by
  unfold Lw.f_law
  refine k_fn rfl ?_
  unfold Lw.d_law
  walk_at "dl"
  refine round_ok ?_
  walk_at "dl"
  refine rt_s (Ls := roundC) (gs := [0, 0, 1, 5]) 8 4 15000 66 14 (by decide +kernel) 100 (fun j => [4, 0, 100, 0, 3, 0, 0, 0].getD j 0) (by decide +kernel) fun S1 => ?_
  walk_at "dl"
  refine k_ifF (by simp) ?_
  walk_at "dl"
  refine rt_a (Ls := roundC) (gs := [0, 0, 1, 6]) 8 4 15000 66 14 (by decide +kernel) (fun i => [0, 3, 10, -2].getD i 0) (by decide +kernel) fun S2 => ?_
  walk_at "dl"
  refine k_ifF (by simp) ?_
  walk_at "dl"
  refine o_repR (row := [0, 0]) (n := 5) rfl (by decide) ?_
  walk_at "dl"
  refine rt_s (Ls := List.replicate 5 [0, 0]) (gs := [0, 0]) 5 2 1 20 2 (by decide +kernel) 1 (fun _ => 0) (by decide +kernel) fun S3 => ?_
  walk_at "dl"
  refine k_ifF (by simp) ?_
  walk_at "dl"
  refine o_repR (row := [0, 0]) (n := 5) rfl (by decide) ?_
  walk_at "dl"
  refine rt_a (Ls := List.replicate 5 [0, 0]) (gs := [0, 1]) 5 2 1 20 2 (by decide +kernel) (fun i => if i = 1 then -1 else 0) (by decide +kernel) fun S4 => ?_
  walk_at "dl"
  refine k_ifF (by simp) ?_
  walk_at "dl"
  refine rt_s (Ls := [[1], [-1]]) (gs := [-7]) 2 1 7 20 4 (by decide +kernel) 1 (fun j => if j = 1 then 7 else 0) (by decide +kernel) fun S5 => ?_
  walk_at "dl"
  refine k_ifF (by simp) ?_
  walk_at "dl"
  refine o_repR (row := [2, 3]) (n := 30) rfl (by decide) ?_
  walk_at "dl"
  refine rt_s (Ls := List.replicate 30 [2, 3]) (gs := [4, 6]) 30 2 6 20 4 (by decide +kernel) 1 (fun j => if j = 0 then 2 else 0) (by decide +kernel) fun S6 => ?_
  walk_at "dl"
  refine k_ifF (by simp) ?_
  walk_at "dl"
  refine o_repR (row := [0, 0]) (n := 22) rfl (by decide) ?_
  walk_at "dl"
  refine o_addR (ys := [[1, 2], [0, 0]]) (by simp) ?_
  walk_at "dl"
  refine rt_s (Ls := List.replicate 22 [0, 0] ++ [[1, 2], [0, 0]]) (gs := [3, 6]) 24 2 6 20 4 (by decide +kernel) 1 (fun j => if j = 22 then 3 else 0) (by decide +kernel) fun S7 => ?_
  walk_at "dl"
  refine k_ifF (by simp) ?_
  walk_at "dl"
  refine o_repR (row := [2, 3]) (n := 30) rfl (by decide) ?_
  walk_at "dl"
  refine rt_a (Ls := List.replicate 30 [2, 3]) (gs := [-2, -3]) 30 2 6 20 4 (by decide +kernel) (fun i => 1) (by decide +kernel) fun S8 => ?_
  walk_at "dl"
  refine k_ifF (by simp) ?_
  walk_at "dl"
  refine o_repR (row := [2, 3]) (n := 30) rfl (by decide) ?_
  walk_at "dl"
  refine rt_a (Ls := List.replicate 30 [2, 3]) (gs := [4, 5]) 30 2 6 20 4 (by decide +kernel) (fun i => if i = 0 then -3 else 2) (by decide +kernel) fun S9 => ?_
  walk_at "dl"
  refine k_ifF (by simp) ?_
  walk_at "dl"
  refine bounds_ok fun S10 => ?_
  walk_at "dl"
  refine k_ifF (by simp) ?_
  walk_at "dl"
  refine i_rng1 (by omega) (by omega) ?_
  refine k_forL (fun i ρ S' => ∃ x1 x2 x3 x4, ρ = [some (.ro (ns.map .int)), x1, x2, x3, x4]) ⟨_, _, _, _, rfl⟩ ?_ ?_
  · rintro i ρ S0 d hd ⟨x1, x2, x3, x4, rfl⟩
    obtain ⟨z, hz0, hz1, rfl⟩ : ∃ z : Int, 0 ≤ z ∧ z < 100 ∧ d = .int z := by
      obtain ⟨a, ha, rfl⟩ := getElem?_map_some hd
      have := List.mem_range.mp (List.mem_of_getElem? ha)
      exact ⟨_, by omega, by omega, rfl⟩
    clear hd
    refine ⟨_, rfl, ?_⟩
    walk_at "dl"
    refine pool_ok hz0 (by omega) fun a b ha hb => ?_
    walk_at "dl"
    refine flat_ok (pool_made ha hb) fun n m C g due S1 hm1 hm hn hC hg hdue => ?_
    refine ⟨_, rfl, ?_⟩
    walk_at "dl"
    refine right_ok (flat_sized hm hn hC hg) hdue fun S2 => ?_
    walk_at "dl"
    refine k_ifF (by simp) ?_
    walk_at "dl"
    exact ⟨_, _, _, _, rfl⟩
  · rintro ρ S0 ⟨x1, x2, x3, x4, rfl⟩
    walk_at "dl"
theorem f_law_true (ns : List Int) (hl : ns.length ≤ 63) : ∃ S', Lw.f_law [.ro (ns.map D.int)] [] = .ok (.bl true) S' := by
  obtain ⟨d, S', e, rfl⟩ := (law_true (S := []) hl).get
  exact ⟨S', e⟩
end

end
end Lp

set_option Elab.async false
set_option linter.all false
set_option maxRecDepth 100000
/-! printed by gen.py: each def of the text does so; the end -/
namespace Lw
open PySem L2 DL
noncomputable section
def top (i : Nat) : Stmt := PySem.Challenge.pw_downweigh_k14_balance_of_great_and_flat.main.body.getD i (.Pass ⟨0, 0, 0, 0⟩)
def clsFn (s : Stmt) (k : Nat) : Stmt := (clsBody s).getD k (.Pass ⟨0, 0, 0, 0⟩)
abbrev s__law_pool : Stmt := top 16
abbrev s__law_take : Stmt := top 17
abbrev s__law_flat : Stmt := top 27
abbrev s__law_round_columns : Stmt := top 28
abbrev s_Board_m___init__ : Stmt := clsFn (top 9) 0
abbrev s_Board_m_wanted : Stmt := clsFn (top 9) 1
abbrev s_Board_m_leaving : Stmt := clsFn (top 9) 2
abbrev s_Board_m_turn : Stmt := clsFn (top 9) 3
abbrev s_Board_m_settle : Stmt := clsFn (top 9) 4
abbrev s_shared_by : Stmt := top 3
abbrev s_lowest : Stmt := top 5
abbrev s_Board_m_shares : Stmt := clsFn (top 9) 5
abbrev s_Board_m_against : Stmt := clsFn (top 9) 6
abbrev s_balance : Stmt := top 10
abbrev s_is_whole : Stmt := top 2
abbrev s_is_fraction : Stmt := top 4
abbrev s_plus : Stmt := top 6
abbrev s_times : Stmt := top 7
abbrev s_come_to : Stmt := top 11
abbrev s_comes_to : Stmt := top 12
abbrev s_are_against : Stmt := top 13
abbrev s_lets_balance : Stmt := top 14
abbrev s__law_low : Stmt := top 18
abbrev s__law_plus : Stmt := top 19
abbrev s__law_times : Stmt := top 20
abbrev s__law_is_whole : Stmt := top 22
abbrev s__law_is_fraction : Stmt := top 23
abbrev s__law_shares_right : Stmt := top 24
abbrev s__law_dot : Stmt := top 21
abbrev s__law_against_right : Stmt := top 25
abbrev s__law_is_balance : Stmt := top 26
abbrev s__law_right : Stmt := top 29
abbrev s__law_chain : Stmt := top 30
abbrev s__law_bounds_right : Stmt := top 31
abbrev s_law : Stmt := top 32
/-- what the top has written -/
structure Txt (w : World) (K : PySem.W.Frag) (mg : Str → Option Value) : Prop where
  d__law_pool : DefAt K mg "_law_pool" s__law_pool ["_law_script", "_law_k"]
  d__law_take : DefAt K mg "_law_take" s__law_take ["_law_pool_here", "_law_many"]
  d__law_flat : DefAt K mg "_law_flat" s__law_flat ["_law_pool_here"]
  d__law_round_columns : DefAt K mg "_law_round_columns" s__law_round_columns []
  d_Board_m___init__ : MakeAt K mg "Board" "Board.__init__" s_Board_m___init__ ["self", "columns", "goal"]
  d_Board_m_wanted : MethAt K "Board" "wanted" "Board.wanted" s_Board_m_wanted ["self"]
  d_Board_m_leaving : MethAt K "Board" "leaving" "Board.leaving" s_Board_m_leaving ["self", "column"]
  d_Board_m_turn : MethAt K "Board" "turn" "Board.turn" s_Board_m_turn ["self", "number", "column"]
  d_Board_m_settle : MethAt K "Board" "settle" "Board.settle" s_Board_m_settle ["self"]
  d_shared_by : DefAt K mg "shared_by" s_shared_by ["one", "other"]
  d_lowest : DefAt K mg "lowest" s_lowest ["top", "bottom"]
  d_Board_m_shares : MethAt K "Board" "shares" "Board.shares" s_Board_m_shares ["self"]
  d_Board_m_against : MethAt K "Board" "against" "Board.against" s_Board_m_against ["self"]
  d_balance : DefAt K mg "balance" s_balance ["columns", "goal"]
  d_is_whole : DefAt K mg "is_whole" s_is_whole ["thing"]
  d_is_fraction : DefAt K mg "is_fraction" s_is_fraction ["thing"]
  d_plus : DefAt K mg "plus" s_plus ["one", "other"]
  d_times : DefAt K mg "times" s_times ["one", "other"]
  d_come_to : DefAt K mg "come_to" s_come_to ["columns", "goal", "thing"]
  d_comes_to : DefAt K mg "comes_to" s_comes_to ["column", "numbers"]
  d_are_against : DefAt K mg "are_against" s_are_against ["columns", "goal", "thing"]
  d_lets_balance : DefAt K mg "lets_balance" s_lets_balance ["columns", "goal", "thing"]
  d__law_low : DefAt K mg "_law_low" s__law_low ["_law_upper", "_law_lower"]
  d__law_plus : DefAt K mg "_law_plus" s__law_plus ["_law_here", "_law_there"]
  d__law_times : DefAt K mg "_law_times" s__law_times ["_law_here", "_law_there"]
  d__law_is_whole : DefAt K mg "_law_is_whole" s__law_is_whole ["_law_item"]
  d__law_is_fraction : DefAt K mg "_law_is_fraction" s__law_is_fraction ["_law_item"]
  d__law_shares_right : DefAt K mg "_law_shares_right" s__law_shares_right ["_law_cols", "_law_aim", "_law_item"]
  d__law_dot : DefAt K mg "_law_dot" s__law_dot ["_law_column", "_law_row"]
  d__law_against_right : DefAt K mg "_law_against_right" s__law_against_right ["_law_cols", "_law_aim", "_law_item"]
  d__law_is_balance : DefAt K mg "_law_is_balance" s__law_is_balance ["_law_cols", "_law_aim", "_law_item"]
  d__law_right : DefAt K mg "_law_right" s__law_right ["_law_cols", "_law_aim", "_law_due"]
  d__law_chain : DefAt K mg "_law_chain" s__law_chain ["_law_places"]
  d__law_bounds_right : DefAt K mg "_law_bounds_right" s__law_bounds_right []
  d_law : DefAt K mg "law" s_law ["_law_script"]
  z_abs : mg "abs" = none
  z_all : mg "all" = none
  z_bool : mg "bool" = none
  z_enumerate : mg "enumerate" = none
  z_int : mg "int" = none
  z_isinstance : mg "isinstance" = none
  z_len : mg "len" = none
  z_list : mg "list" = none
  z_max : mg "max" = none
  z_min : mg "min" = none
  z_range : mg "range" = none
  z_str : mg "str" = none
  z_sum : mg "sum" = none
  z_tuple : mg "tuple" = none
  z_zip : mg "zip" = none
  k_NOUGHT : ∃ u, mg "NOUGHT" = some u ∧ ∃ v, RelV v u ∧ ∀ as F, Rep K as F v c_NOUGHT
  tO : TblO K fi
theorem Txt.c_NOUGHT {X : Cx} {W : WX} {pos : Pos} (T : Txt X.w X.K X.mg) (hg : Gl X "NOUGHT") : DE X W (.Name "NOUGHT" pos) (eC Lw.c_NOUGHT) := by
  obtain ⟨u, h, v, r, rd⟩ := T.k_NOUGHT
  exact de_glob hg h r rd
section
variable {P : Program} {w : World} {K : PySem.W.Frag} {mg : Str → Option Value} {base : Heap}
theorem sc__law_pool : FnScope ["_law_script", "_law_k", "_law_cell", "_law_number", "_law_mixed"] ["_law_script", "_law_k"] (defScope s__law_pool) := ⟨rfl, rfl, rfl, by decide +kernel, rfl, by decide +kernel, by decide +kernel⟩
set_option maxHeartbeats 1000000 in
theorem ok__law_pool (T : Txt w K mg) : Has P w K mg base 1 "_law_pool" s__law_pool ["_law_script", "_law_k"] f__law_pool :=
  has_of (N := ["_law_script", "_law_k", "_law_cell", "_law_number", "_law_mixed"]) (m := d__law_pool) T.d__law_pool sc__law_pool fun f cdv A outer s H E hr hg0 =>
    have hu1 : (A.deeper (PyProof.Rows.envOfC "_law_pool" (defScope s__law_pool) s.heap.objs.size f cdv)).units + 64 < cLine := hr.units
    have hu2 : (A.deeper (PyProof.Rows.envOfC "_law_pool" (defScope s__law_pool) s.heap.objs.size f cdv)).units + 66 < cLine := by have := hr.un; omega
    (dss_cons (ds_set 2 sc__law_pool.nd de_int) (dss_cons (ds_if (dt_cmp op_lt act_lt (de_var 1) (de_callB call_len act_len (by rfl) T.z_len PySem.boot_len (da_cons (de_var 0) da_nil)) (nomark _)) (dss_one (ds_set 2 sc__law_pool.nd (de_ix ix_seq act_ix (de_var 0) (de_var 1)))) dss_nil) (dss_cons (ds_set 3 sc__law_pool.nd (de_callB (call_max2 rfl) act_max2 (by rfl) T.z_max (by decide +kernel) (da_cons (de_var 2) (da_cons (de_bin op_sub act_sub (de_un un_neg act_neg de_int) (de_var 2)) da_nil)))) (dss_cons (ds_set 4 sc__law_pool.nd (de_bin op_modN act_mod (de_bin opr_mul act_mul (de_bin opr_add act_add (de_bin opr_add act_add (de_bin opr_add act_add (de_bin op_modN act_mod (de_var 3) de_int) (de_bin opr_mul act_mul (de_bin opr_mul act_mul de_int (de_var 1)) (de_var 1))) (de_bin opr_mul act_mul de_int (de_var 1))) de_int) de_int) de_int)) (dss_one (ds_ret (de_lstC (da_cons (de_bin opr_mul act_mul (de_var 3) (de_callTy call_int1 act_int (by rfl) T.z_int (by decide +kernel) (da_cons (de_cmp op_ge act_ge (de_var 3) (de_bin op_pow act_pow de_int de_int) (nomark _)) da_nil))) (da_cons (de_var 4) da_nil)))))))))
theorem sc__law_take : FnScope ["_law_pool_here", "_law_many", "_law_found"] ["_law_pool_here", "_law_many"] (defScope s__law_take) := ⟨rfl, rfl, rfl, by decide +kernel, rfl, by decide +kernel, by decide +kernel⟩
set_option maxHeartbeats 1000000 in
theorem ok__law_take (T : Txt w K mg) : Has P w K mg base 1 "_law_take" s__law_take ["_law_pool_here", "_law_many"] f__law_take :=
  has_of (N := ["_law_pool_here", "_law_many", "_law_found"]) (m := d__law_take) T.d__law_take sc__law_take fun f cdv A outer s H E hr hg0 =>
    have hu1 : (A.deeper (PyProof.Rows.envOfC "_law_take" (defScope s__law_take) s.heap.objs.size f cdv)).units + 64 < cLine := hr.units
    have hu2 : (A.deeper (PyProof.Rows.envOfC "_law_take" (defScope s__law_take) s.heap.objs.size f cdv)).units + 66 < cLine := by have := hr.un; omega
    (dss_cons (ds_if (dt_cmp op_gt act_gt (de_ix ix_seq act_ix (de_var 0) de_int) de_int (nomark _)) (dss_cons (ds_set 2 sc__law_take.nd (de_bin op_modN act_mod (de_ix ix_seq act_ix (de_var 0) de_int) (de_var 1))) (dss_cons (ds_sub set_list act_setD (de_bin opr_fdiv act_fdiv (de_ix ix_seq act_ix (de_var 0) de_int) (de_var 1)) (de_var 0) de_int (pg_sub (de_var 0) de_int set_list)) (dss_one (ds_ret (de_var 2))))) dss_nil) (dss_cons (ds_sub set_list act_setD (de_bin op_modN act_mod (de_bin opr_add act_add (de_bin opr_mul act_mul (de_ix ix_seq act_ix (de_var 0) de_int) de_int) de_int) de_int) (de_var 0) de_int (pg_sub (de_var 0) de_int set_list)) (dss_one (ds_ret (de_bin op_modN act_mod (de_bin opr_fdiv act_fdiv (de_bin op_modN act_mod (de_bin opr_mul act_mul (de_ix ix_seq act_ix (de_var 0) de_int) (de_ix ix_seq act_ix (de_var 0) de_int)) de_int) de_int) (de_var 1))))))
theorem sc__law_flat : FnScope ["_law_pool_here", "_law_size", "_law_cols", "_law_turn", "_law_way", "_law_aim", "_law_parts", "_law_column", "_law_place", "_law_k", "_law_part"] ["_law_pool_here"] (defScope s__law_flat) := ⟨rfl, rfl, rfl, by decide +kernel, rfl, by decide +kernel, by decide +kernel⟩
set_option maxHeartbeats 1000000 in
theorem ok__law_flat (T : Txt w K mg) (h__law_take : Has P w K mg base 1 "_law_take" s__law_take ["_law_pool_here", "_law_many"] f__law_take) : Has P w K mg base 2 "_law_flat" s__law_flat ["_law_pool_here"] f__law_flat :=
  has_of (N := ["_law_pool_here", "_law_size", "_law_cols", "_law_turn", "_law_way", "_law_aim", "_law_parts", "_law_column", "_law_place", "_law_k", "_law_part"]) (m := d__law_flat) T.d__law_flat sc__law_flat fun f cdv A outer s H E hr hg0 =>
    have hu1 : (A.deeper (PyProof.Rows.envOfC "_law_flat" (defScope s__law_flat) s.heap.objs.size f cdv)).units + 64 < cLine := hr.units
    have hu2 : (A.deeper (PyProof.Rows.envOfC "_law_flat" (defScope s__law_flat) s.heap.objs.size f cdv)).units + 66 < cLine := by have := hr.un; omega
    (dss_cons (ds_set 1 sc__law_flat.nd (de_bin opr_add act_add de_int (de_fn h__law_take hr (by first | decide | omega) hg0 (takes_of rfl rfl rfl rfl) (by rfl) (da_cons (de_var 0) (da_cons de_int da_nil))))) (dss_cons (ds_set 2 sc__law_flat.nd (de_lstC da_nil)) (dss_cons (ds_for (passes_of rfl) rfl (di_rng1 (by rfl) T.z_range (da_cons (de_fn h__law_take hr (by first | decide | omega) hg0 (takes_of rfl rfl rfl rfl) (by rfl) (da_cons (de_var 0) (da_cons de_int da_nil))) da_nil)) (dg_name 3 sc__law_flat.nd) (dss_one (ds_expr (de_bm PySem.F.plainAttrs_list PySem.F.slot_list_append PySem.F.type_list_append mt_append act_append ty_list (de_var 2) (da_cons (de_lc [("_law_k", 9)] rfl sc__law_flat.nd (di_rng1 (by rfl) T.z_range (da_cons (de_var 1) da_nil)) (blkOk_by (N := ["_law_pool_here", "_law_size", "_law_cols", "_law_turn", "_law_way", "_law_aim", "_law_parts", "_law_column", "_law_place", "_law_k", "_law_part"]) (sc := defScope s__law_flat) (by decide +kernel)) (fun _ _ _ _ _ => (dg_name 9 sc__law_flat.nd)) (fun _ _ _ _ _ => dts_nil) (fun _ _ _ _ _ => (de_ix ix_seq act_ix (de_lst (da_cons de_int (da_cons de_int (da_cons de_int (da_cons de_int (da_cons (de_un un_neg act_neg de_int) (da_cons de_int (da_cons de_int (da_cons de_int da_nil))))))))) (de_fn h__law_take hr (by first | decide | omega) hg0 takes_no (by rfl) (da_cons (de_var 0) (da_cons de_int da_nil)))))) da_nil))))) (dss_cons (ds_set 4 sc__law_flat.nd (de_fn h__law_take hr (by first | decide | omega) hg0 (takes_of rfl rfl rfl rfl) (by rfl) (da_cons (de_var 0) (da_cons de_int da_nil)))) (dss_cons (ds_set 5 sc__law_flat.nd (de_bin opr_mul act_mul (de_lst (da_cons de_int da_nil)) (de_var 1))) (dss_cons (ds_if (dt_cmp (opr_eq hu1) act_eq (de_var 4) de_int (nomark _)) (dss_cons (ds_set 6 sc__law_flat.nd (de_lc [("_law_column", 7)] rfl sc__law_flat.nd (di_list (de_var 2)) (blkOk_by (N := ["_law_pool_here", "_law_size", "_law_cols", "_law_turn", "_law_way", "_law_aim", "_law_parts", "_law_column", "_law_place", "_law_k", "_law_part"]) (sc := defScope s__law_flat) (by decide +kernel)) (fun _ _ _ _ _ => (dg_name 7 sc__law_flat.nd)) (fun _ _ _ _ _ => dts_nil) (fun _ _ _ _ _ => (de_bin opr_mul act_mul (de_fn h__law_take hr (by first | decide | omega) hg0 takes_no (by rfl) (da_cons (de_var 0) (da_cons de_int da_nil))) (de_fn h__law_take hr (by first | decide | omega) hg0 takes_no (by rfl) (da_cons (de_var 0) (da_cons de_int da_nil))))))) (dss_one (ds_setLc 5 [("_law_place", 8)] rfl sc__law_flat.nd (di_rng1 (by rfl) T.z_range (da_cons (de_var 1) da_nil)) (blkOk_by (N := ["_law_pool_here", "_law_size", "_law_cols", "_law_turn", "_law_way", "_law_aim", "_law_parts", "_law_column", "_law_place", "_law_k", "_law_part"]) (sc := defScope s__law_flat) (by decide +kernel)) (fun _ _ _ _ _ => (dg_name 8 sc__law_flat.nd)) (fun _ _ _ _ _ => dts_nil) (fun _ _ _ _ _ => (de_callB (cr_sum rfl) act_sum (by rfl) T.z_sum (by decide +kernel) (da_cons (de_lc [("_law_column", 7), ("_law_part", 10)] rfl sc__law_flat.nd (di_zip (by rfl) T.z_zip (da_cons (de_var 2) (da_cons (de_var 6) da_nil))) (blkOk_in (N := ["_law_pool_here", "_law_size", "_law_cols", "_law_turn", "_law_way", "_law_aim", "_law_parts", "_law_column", "_law_place", "_law_k", "_law_part"]) (by decide +kernel)) (fun _ _ _ _ _ => (dg_tup rfl (dgs_cons (dg_name 7 sc__law_flat.nd) (dgs_cons (dg_name 10 sc__law_flat.nd) dgs_nil)))) (fun _ _ _ _ _ => dts_nil) (fun _ _ _ _ _ => (de_bin opr_mul act_mul (de_ix ix_seq act_ix (de_var 7) (de_var 8)) (de_var 10)))) da_nil)))))) dss_nil) (dss_cons (ds_if (dt_cmp (opr_eq hu1) act_eq (de_var 4) de_int (nomark _)) (dss_one (ds_setLc 5 [("_law_k", 9)] rfl sc__law_flat.nd (di_rng1 (by rfl) T.z_range (da_cons (de_var 1) da_nil)) (blkOk_by (N := ["_law_pool_here", "_law_size", "_law_cols", "_law_turn", "_law_way", "_law_aim", "_law_parts", "_law_column", "_law_place", "_law_k", "_law_part"]) (sc := defScope s__law_flat) (by decide +kernel)) (fun _ _ _ _ _ => (dg_name 9 sc__law_flat.nd)) (fun _ _ _ _ _ => dts_nil) (fun _ _ _ _ _ => (de_bin op_sub act_sub (de_fn h__law_take hr (by first | decide | omega) hg0 takes_no (by rfl) (da_cons (de_var 0) (da_cons de_int da_nil))) de_int)))) dss_nil) (dss_one (ds_ret (de_tup (da_cons (de_frz (de_var 2)) (da_cons (de_var 5) (da_cons (de_ix ix_seq act_ix (de_lst (da_cons de_str (da_cons de_str (da_cons de_non da_nil)))) (de_var 4)) da_nil)))))))))))))
theorem sc__law_round_columns : FnScope ["_law_rows", "_law_place", "_law_row"] [] (defScope s__law_round_columns) := ⟨rfl, rfl, rfl, by decide +kernel, rfl, by decide +kernel, by decide +kernel⟩
set_option maxHeartbeats 1000000 in
theorem ok__law_round_columns (T : Txt w K mg) : Has P w K mg base 1 "_law_round_columns" s__law_round_columns [] f__law_round_columns :=
  has_of (N := ["_law_rows", "_law_place", "_law_row"]) (m := d__law_round_columns) T.d__law_round_columns sc__law_round_columns fun f cdv A outer s H E hr hg0 =>
    have hu1 : (A.deeper (PyProof.Rows.envOfC "_law_round_columns" (defScope s__law_round_columns) s.heap.objs.size f cdv)).units + 64 < cLine := hr.units
    have hu2 : (A.deeper (PyProof.Rows.envOfC "_law_round_columns" (defScope s__law_round_columns) s.heap.objs.size f cdv)).units + 66 < cLine := by have := hr.un; omega
    (dss_cons (ds_set 0 sc__law_round_columns.nd (de_lstC (da_cons (de_lst (da_cons de_int (da_cons (de_un un_neg act_neg de_int) (da_cons (de_un un_neg act_neg de_int) (da_cons de_int (da_cons de_int (da_cons de_int (da_cons de_int (da_cons de_int da_nil))))))))) (da_cons (de_lst (da_cons de_int (da_cons (de_un un_neg act_neg de_int) (da_cons (de_un un_neg act_neg de_int) (da_cons de_int (da_cons de_int (da_cons de_int (da_cons de_int (da_cons de_int da_nil))))))))) (da_cons (de_lst (da_cons de_int (da_cons de_int (da_cons de_int (da_cons de_int (da_cons de_int (da_cons de_int (da_cons de_int (da_cons de_int da_nil))))))))) da_nil))))) (dss_cons (ds_expr (de_bm PySem.F.plainAttrs_list PySem.F.slot_list_append PySem.F.type_list_append mt_append act_append ty_list (de_var 0) (da_cons (de_lst (da_cons de_int (da_cons (de_un un_neg act_neg de_int) (da_cons de_int (da_cons (de_un un_neg act_neg de_int) (da_cons de_int (da_cons de_int (da_cons de_int (da_cons (de_un un_neg act_neg de_int) da_nil))))))))) da_nil))) (dss_one (ds_ret (de_lc [("_law_place", 1)] rfl sc__law_round_columns.nd (di_rng1 (by rfl) T.z_range (da_cons de_int da_nil)) (blkOk_by (N := ["_law_rows", "_law_place", "_law_row"]) (sc := defScope s__law_round_columns) (by decide +kernel)) (fun _ _ _ _ _ => (dg_name 1 sc__law_round_columns.nd)) (fun _ _ _ _ _ => dts_nil) (fun _ _ _ _ _ => (de_lc [("_law_row", 2)] rfl sc__law_round_columns.nd (di_list (de_var 0)) (blkOk_in (N := ["_law_rows", "_law_place", "_law_row"]) (by decide +kernel)) (fun _ _ _ _ _ => (dg_name 2 sc__law_round_columns.nd)) (fun _ _ _ _ _ => dts_nil) (fun _ _ _ _ _ => (de_ix ix_seq act_ix (de_var 2) (de_var 1))))))))))
theorem sc_Board_m___init__ : FnScope ["self", "columns", "goal", "row", "place", "number", "helpers", "other", "one", "column"] ["self", "columns", "goal"] (defScope s_Board_m___init__) := ⟨rfl, rfl, rfl, by decide +kernel, rfl, by decide +kernel, by decide +kernel⟩
set_option maxHeartbeats 1000000 in
theorem ok_Board_m___init__ (T : Txt w K mg) : MakeD P w K mg base 1 "Board" ["self", "columns", "goal"] f_Board_m___init__ :=
  make_of (N := ["self", "columns", "goal", "row", "place", "number", "helpers", "other", "one", "column"]) (m := d_Board_m___init__) T.d_Board_m___init__ sc_Board_m___init__ fun f cdv A outer s H E hr hg0 =>
    have hu1 : (A.deeper (PyProof.Rows.envOfC "Board.__init__" (defScope s_Board_m___init__) s.heap.objs.size f cdv)).units + 64 < cLine := hr.units
    have hu2 : (A.deeper (PyProof.Rows.envOfC "Board.__init__" (defScope s_Board_m___init__) s.heap.objs.size f cdv)).units + 66 < cLine := by have := hr.un; omega
    (dss_cons (ds_fldI T.tO (de_var 0) (de_callB call_len act_len (by rfl) T.z_len PySem.boot_len (da_cons (de_var 1) da_nil))) (dss_cons (ds_fldI T.tO (de_var 0) (de_lc [("number", 5)] rfl sc_Board_m___init__.nd (di_list (de_var 2)) (blkOk_by (N := ["self", "columns", "goal", "row", "place", "number", "helpers", "other", "one", "column"]) (sc := defScope s_Board_m___init__) (by decide +kernel)) (fun _ _ _ _ _ => (dg_name 5 sc_Board_m___init__.nd)) (fun _ _ _ _ _ => dts_nil) (fun _ _ _ _ _ => (de_ix ix_seq act_ix (de_lst (da_cons de_int (da_cons (de_un un_neg act_neg de_int) da_nil))) (de_callTy call_int1 act_int (by rfl) T.z_int (by decide +kernel) (da_cons (de_cmp op_lt act_lt (de_var 5) de_int (nomark _)) da_nil)))))) (dss_cons (ds_fldI T.tO (de_var 0) de_int) (dss_cons (ds_fldI T.tO (de_var 0) (de_lstC da_nil)) (dss_cons (ds_for (passes_of rfl) rfl (di_enum (by rfl) T.z_enumerate (da_cons (de_var 2) da_nil)) (dg_tup rfl (dgs_cons (dg_name 4 sc_Board_m___init__.nd) (dgs_cons (dg_name 5 sc_Board_m___init__.nd) dgs_nil))) (dss_cons (ds_setLc 6 [("other", 7)] rfl sc_Board_m___init__.nd (di_rng1 (by rfl) T.z_range (da_cons (de_callB call_len act_len (by rfl) T.z_len PySem.boot_len (da_cons (de_var 2) da_nil)) da_nil)) (blkOk_by (N := ["self", "columns", "goal", "row", "place", "number", "helpers", "other", "one", "column"]) (sc := defScope s_Board_m___init__) (by decide +kernel)) (fun _ _ _ _ _ => (dg_name 7 sc_Board_m___init__.nd)) (fun _ _ _ _ _ => dts_nil) (fun _ _ _ _ _ => (de_callTy call_int1 act_int (by rfl) T.z_int (by decide +kernel) (da_cons (de_cmp (opr_eq hu1) act_eq (de_var 7) (de_var 4) (nomark _)) da_nil)))) (dss_cons (ds_set 3 sc_Board_m___init__.nd (de_bin opr_add act_addC (de_bin opr_add act_add (de_lc [("column", 9)] rfl sc_Board_m___init__.nd (di_list (de_var 1)) (blkOk_by (N := ["self", "columns", "goal", "row", "place", "number", "helpers", "other", "one", "column"]) (sc := defScope s_Board_m___init__) (by decide +kernel)) (fun _ _ _ _ _ => (dg_name 9 sc_Board_m___init__.nd)) (fun _ _ _ _ _ => dts_nil) (fun _ _ _ _ _ => (de_ix ix_seq act_ix (de_var 9) (de_var 4)))) (de_var 6)) (de_lst (da_cons (de_var 5) da_nil)))) (dss_cons (ds_if (dt_cmp op_lt act_lt (de_var 5) de_int (nomark _)) (dss_one (ds_set 3 sc_Board_m___init__.nd (de_bin opr_add act_addC (de_bin opr_add act_add (de_lc [("one", 8)] rfl sc_Board_m___init__.nd (di_list (de_slice slr_all act_sl (de_var 3) do_none (do_some (de_fldI T.tO (de_var 0))))) (blkOk_by (N := ["self", "columns", "goal", "row", "place", "number", "helpers", "other", "one", "column"]) (sc := defScope s_Board_m___init__) (by decide +kernel)) (fun _ _ _ _ _ => (dg_name 8 sc_Board_m___init__.nd)) (fun _ _ _ _ _ => dts_nil) (fun _ _ _ _ _ => (de_un un_neg act_neg (de_var 8)))) (de_var 6)) (de_lst (da_cons (de_un un_neg act_neg (de_var 5)) da_nil))))) dss_nil) (dss_one (ds_expr (de_bm PySem.F.plainAttrs_list PySem.F.slot_list_append PySem.F.type_list_append mt_append act_append ty_list (de_fldI T.tO (de_var 0)) (da_cons (de_var 3) da_nil)))))))) (dss_cons (ds_fldI T.tO (de_var 0) (de_bin opr_mul act_mulC (de_lst (da_cons de_int da_nil)) (de_bin opr_add act_add (de_bin opr_add act_add (de_fldI T.tO (de_var 0)) (de_callB call_len act_len (by rfl) T.z_len PySem.boot_len (da_cons (de_var 2) da_nil))) de_int))) (dss_cons (ds_for (passes_of rfl) rfl (di_list (de_fldI T.tO (de_var 0))) (dg_name 3 sc_Board_m___init__.nd) (dss_one (ds_fldI T.tO (de_var 0) (de_lcC [("one", 8), ("number", 5)] rfl sc_Board_m___init__.nd (di_zip (by rfl) T.z_zip (da_cons (de_fldI T.tO (de_var 0)) (da_cons (de_var 3) da_nil))) (blkOk_by (N := ["self", "columns", "goal", "row", "place", "number", "helpers", "other", "one", "column"]) (sc := defScope s_Board_m___init__) (by decide +kernel)) (fun _ _ _ _ _ => (dg_tup rfl (dgs_cons (dg_name 8 sc_Board_m___init__.nd) (dgs_cons (dg_name 5 sc_Board_m___init__.nd) dgs_nil)))) (fun _ _ _ _ _ => dts_nil) (fun _ _ _ _ _ => (de_bin op_sub act_sub (de_var 8) (de_var 5))))))) (dss_cons (ds_for (passes_of rfl) rfl (di_rng1 (by rfl) T.z_range (da_cons (de_callB call_len act_len (by rfl) T.z_len PySem.boot_len (da_cons (de_var 2) da_nil)) da_nil)) (dg_name 4 sc_Board_m___init__.nd) (dss_one (ds_sub set_list act_setD de_int (de_fldI T.tO (de_var 0)) (de_bin opr_add act_add (de_fldI T.tO (de_var 0)) (de_var 4)) (pg_sub (de_fldI T.tO (de_var 0)) (de_bin opr_add act_add (de_fldI T.tO (de_var 0)) (de_var 4)) set_list)))) (dss_one (ds_fldI T.tO (de_var 0) (de_lcC [("place", 4)] rfl sc_Board_m___init__.nd (di_rng1 (by rfl) T.z_range (da_cons (de_callB call_len act_len (by rfl) T.z_len PySem.boot_len (da_cons (de_var 2) da_nil)) da_nil)) (blkOk_by (N := ["self", "columns", "goal", "row", "place", "number", "helpers", "other", "one", "column"]) (sc := defScope s_Board_m___init__) (by decide +kernel)) (fun _ _ _ _ _ => (dg_name 4 sc_Board_m___init__.nd)) (fun _ _ _ _ _ => dts_nil) (fun _ _ _ _ _ => (de_bin opr_add act_add (de_fldI T.tO (de_var 0)) (de_var 4))))))))))))))
theorem sc_Board_m_wanted : FnScope ["self", "column"] ["self"] (defScope s_Board_m_wanted) := ⟨rfl, rfl, rfl, by decide +kernel, rfl, by decide +kernel, by decide +kernel⟩
set_option maxHeartbeats 1000000 in
theorem ok_Board_m_wanted (T : Txt w K mg) : MethD P w K mg base 1 "Board" "wanted" ["self"] f_Board_m_wanted :=
  meth_of (N := ["self", "column"]) (m := d_Board_m_wanted) T.d_Board_m_wanted sc_Board_m_wanted fun f cdv A outer s H E hr hg0 =>
    have hu1 : (A.deeper (PyProof.Rows.envOfC "Board.wanted" (defScope s_Board_m_wanted) s.heap.objs.size f cdv)).units + 64 < cLine := hr.units
    have hu2 : (A.deeper (PyProof.Rows.envOfC "Board.wanted" (defScope s_Board_m_wanted) s.heap.objs.size f cdv)).units + 66 < cLine := by have := hr.un; omega
    (dss_cons (ds_for (passes_of rfl) rfl (di_rng1 (by rfl) T.z_range (da_cons (de_fldI T.tO (de_var 0)) da_nil)) (dg_name 1 sc_Board_m_wanted.nd) (dss_one (ds_if (dt_cmp op_lt act_lt (de_ix ix_seq act_ix (de_fldI T.tO (de_var 0)) (de_var 1)) de_int (nomark _)) (dss_one (ds_ret (de_var 1))) dss_nil))) (dss_one (ds_ret de_non)))
theorem sc_Board_m_leaving : FnScope ["self", "column", "found", "number", "row", "best", "here", "there"] ["self", "column"] (defScope s_Board_m_leaving) := ⟨rfl, rfl, rfl, by decide +kernel, rfl, by decide +kernel, by decide +kernel⟩
set_option maxHeartbeats 1000000 in
theorem ok_Board_m_leaving (T : Txt w K mg) : MethD P w K mg base 1 "Board" "leaving" ["self", "column"] f_Board_m_leaving :=
  meth_of (N := ["self", "column", "found", "number", "row", "best", "here", "there"]) (m := d_Board_m_leaving) T.d_Board_m_leaving sc_Board_m_leaving fun f cdv A outer s H E hr hg0 =>
    have hu1 : (A.deeper (PyProof.Rows.envOfC "Board.leaving" (defScope s_Board_m_leaving) s.heap.objs.size f cdv)).units + 64 < cLine := hr.units
    have hu2 : (A.deeper (PyProof.Rows.envOfC "Board.leaving" (defScope s_Board_m_leaving) s.heap.objs.size f cdv)).units + 66 < cLine := by have := hr.un; omega
    (dss_cons (ds_set 2 sc_Board_m_leaving.nd de_non) (dss_cons (ds_for (passes_of rfl) rfl (di_enum (by rfl) T.z_enumerate (da_cons (de_fldI T.tO (de_var 0)) da_nil)) (dg_tup rfl (dgs_cons (dg_name 3 sc_Board_m_leaving.nd) (dgs_cons (dg_name 4 sc_Board_m_leaving.nd) dgs_nil))) (dss_one (ds_if (dt_cmp op_gt act_gt (de_ix ix_seq act_ix (de_var 4) (de_var 1)) de_int (nomark _)) (dss_one (ds_if (dt_cmp op_isN act_isN (de_var 2) de_non (nomark _)) (dss_one (ds_set 2 sc_Board_m_leaving.nd (de_var 3))) (dss_cons (ds_set 5 sc_Board_m_leaving.nd (de_ix ix_seq act_ix (de_fldI T.tO (de_var 0)) (de_var 2))) (dss_cons (ds_set 6 sc_Board_m_leaving.nd (de_bin opr_mul act_mul (de_ix ix_seq act_ix (de_var 4) (de_un un_neg act_neg de_int)) (de_ix ix_seq act_ix (de_var 5) (de_var 1)))) (dss_cons (ds_set 7 sc_Board_m_leaving.nd (de_bin opr_mul act_mul (de_ix ix_seq act_ix (de_var 5) (de_un un_neg act_neg de_int)) (de_ix ix_seq act_ix (de_var 4) (de_var 1)))) (dss_one (ds_if (PW.pt (dw_or (dt_cmp op_lt act_lt (de_var 6) (de_var 7) (nomark _)) (dw_or1 (PW.pt (dw_and (dt_cmp (opr_eq hu1) act_eq (de_var 6) (de_var 7) (nomark _)) (dw_and1 (dt_cmp op_lt act_lt (de_ix ix_seq act_ix (de_fldI T.tO (de_var 0)) (de_var 3)) (de_ix ix_seq act_ix (de_fldI T.tO (de_var 0)) (de_var 2)) (nomark _)))))))) (dss_one (ds_set 2 sc_Board_m_leaving.nd (de_var 3))) dss_nil))))))) dss_nil))) (dss_one (ds_ret (de_var 2)))))
theorem sc_Board_m_turn : FnScope ["self", "number", "column", "pivot", "by", "row", "part", "place"] ["self", "number", "column"] (defScope s_Board_m_turn) := ⟨rfl, rfl, rfl, by decide +kernel, rfl, by decide +kernel, by decide +kernel⟩
set_option maxHeartbeats 1000000 in
theorem ok_Board_m_turn (T : Txt w K mg) : MethD P w K mg base 1 "Board" "turn" ["self", "number", "column"] f_Board_m_turn :=
  meth_of (N := ["self", "number", "column", "pivot", "by", "row", "part", "place"]) (m := d_Board_m_turn) T.d_Board_m_turn sc_Board_m_turn fun f cdv A outer s H E hr hg0 =>
    have hu1 : (A.deeper (PyProof.Rows.envOfC "Board.turn" (defScope s_Board_m_turn) s.heap.objs.size f cdv)).units + 64 < cLine := hr.units
    have hu2 : (A.deeper (PyProof.Rows.envOfC "Board.turn" (defScope s_Board_m_turn) s.heap.objs.size f cdv)).units + 66 < cLine := by have := hr.un; omega
    (dss_cons (ds_set 3 sc_Board_m_turn.nd (de_ix ix_seq act_ix (de_fldI T.tO (de_var 0)) (de_var 1))) (dss_cons (ds_set 4 sc_Board_m_turn.nd (de_ix ix_seq act_ix (de_var 3) (de_var 2))) (dss_cons (ds_for (passes_of rfl) rfl (di_list (de_bin opr_add act_add (de_bin opr_add act_add (de_slice slr_all act_sl (de_fldI T.tO (de_var 0)) do_none (do_some (de_var 1))) (de_slice slr_all act_sl (de_fldI T.tO (de_var 0)) (do_some (de_bin opr_add act_add (de_var 1) de_int)) do_none)) (de_lst (da_cons (de_fldI T.tO (de_var 0)) da_nil)))) (dg_name 5 sc_Board_m_turn.nd) (dss_cons (ds_set 6 sc_Board_m_turn.nd (de_ix ix_seq act_ix (de_var 5) (de_var 2))) (dss_one (ds_for (passes_of rfl) rfl (di_rng1 (by rfl) T.z_range (da_cons (de_callB call_len act_len (by rfl) T.z_len PySem.boot_len (da_cons (de_var 5) da_nil)) da_nil)) (dg_name 7 sc_Board_m_turn.nd) (dss_one (ds_sub set_list act_setD (de_bin opr_fdiv act_fdiv (de_bin op_sub act_sub (de_bin opr_mul act_mul (de_ix ix_seq act_ix (de_var 5) (de_var 7)) (de_var 4)) (de_bin opr_mul act_mul (de_var 6) (de_ix ix_seq act_ix (de_var 3) (de_var 7)))) (de_fldI T.tO (de_var 0))) (de_var 5) (de_var 7) (pg_sub (de_var 5) (de_var 7) set_list))))))) (dss_cons (ds_fldI T.tO (de_var 0) (de_var 4)) (dss_one (ds_sub set_list act_setD (de_var 2) (de_fldI T.tO (de_var 0)) (de_var 1) (pg_sub (de_fldI T.tO (de_var 0)) (de_var 1) set_list)))))))
theorem sc_Board_m_settle : FnScope ["self", "column"] ["self"] (defScope s_Board_m_settle) := ⟨rfl, rfl, rfl, by decide +kernel, rfl, by decide +kernel, by decide +kernel⟩
set_option maxHeartbeats 1000000 in
theorem ok_Board_m_settle (T : Txt w K mg) (h_Board_m_wanted : MethD P w K mg base 1 "Board" "wanted" ["self"] f_Board_m_wanted) (h_Board_m_leaving : MethD P w K mg base 1 "Board" "leaving" ["self", "column"] f_Board_m_leaving) (h_Board_m_turn : MethD P w K mg base 1 "Board" "turn" ["self", "number", "column"] f_Board_m_turn) : MethD P w K mg base 2 "Board" "settle" ["self"] f_Board_m_settle :=
  meth_of (N := ["self", "column"]) (m := d_Board_m_settle) T.d_Board_m_settle sc_Board_m_settle fun f cdv A outer s H E hr hg0 =>
    have hu1 : (A.deeper (PyProof.Rows.envOfC "Board.settle" (defScope s_Board_m_settle) s.heap.objs.size f cdv)).units + 64 < cLine := hr.units
    have hu2 : (A.deeper (PyProof.Rows.envOfC "Board.settle" (defScope s_Board_m_settle) s.heap.objs.size f cdv)).units + 66 < cLine := by have := hr.un; omega
    (dss_cons (ds_set 1 sc_Board_m_settle.nd (de_meth0 h_Board_m_wanted hr (by first | decide | omega) hg0 (takes_of rfl rfl rfl rfl) (de_var 0))) (dss_one (ds_while (passes_of rfl) (dt_cmp op_notN act_notN (de_var 1) de_non (nomark _)) (dss_cons (ds_expr (de_meth h_Board_m_turn hr (by first | decide | omega) hg0 (takes_of rfl rfl rfl rfl) (de_var 0) (da_cons (de_meth h_Board_m_leaving hr (by first | decide | omega) hg0 (takes_of rfl rfl rfl rfl) (de_var 0) (da_cons (de_var 1) da_nil)) (da_cons (de_var 1) da_nil)))) (dss_one (ds_set 1 sc_Board_m_settle.nd (de_meth0 h_Board_m_wanted hr (by first | decide | omega) hg0 (takes_of rfl rfl rfl rfl) (de_var 0))))))))
theorem sc_shared_by : FnScope ["one", "other"] ["one", "other"] (defScope s_shared_by) := ⟨rfl, rfl, rfl, by decide +kernel, rfl, by decide +kernel, by decide +kernel⟩
set_option maxHeartbeats 1000000 in
theorem ok_shared_by (T : Txt w K mg) : Has P w K mg base 1 "shared_by" s_shared_by ["one", "other"] f_shared_by :=
  has_of (N := ["one", "other"]) (m := d_shared_by) T.d_shared_by sc_shared_by fun f cdv A outer s H E hr hg0 =>
    have hu1 : (A.deeper (PyProof.Rows.envOfC "shared_by" (defScope s_shared_by) s.heap.objs.size f cdv)).units + 64 < cLine := hr.units
    have hu2 : (A.deeper (PyProof.Rows.envOfC "shared_by" (defScope s_shared_by) s.heap.objs.size f cdv)).units + 66 < cLine := by have := hr.un; omega
    (dss_cons (ds_set 0 sc_shared_by.nd (de_callB call_abs act_abs (by rfl) T.z_abs (by decide +kernel) (da_cons (de_var 0) da_nil))) (dss_cons (ds_set 1 sc_shared_by.nd (de_callB call_abs act_abs (by rfl) T.z_abs (by decide +kernel) (da_cons (de_var 1) da_nil))) (dss_cons (ds_while (passes_of rfl) (dt_cmp op_gt act_gt (de_var 1) de_int (nomark _)) (dss_one (ds_par 0 1 rfl sc_shared_by.nd (da_cons (de_var 1) (da_cons (de_bin op_modN act_mod (de_var 0) (de_var 1)) da_nil))))) (dss_one (ds_ret (de_var 0))))))
theorem sc_lowest : FnScope ["top", "bottom", "by"] ["top", "bottom"] (defScope s_lowest) := ⟨rfl, rfl, rfl, by decide +kernel, rfl, by decide +kernel, by decide +kernel⟩
set_option maxHeartbeats 1000000 in
theorem ok_lowest (T : Txt w K mg) (h_shared_by : Has P w K mg base 1 "shared_by" s_shared_by ["one", "other"] f_shared_by) : Has P w K mg base 2 "lowest" s_lowest ["top", "bottom"] f_lowest :=
  has_of (N := ["top", "bottom", "by"]) (m := d_lowest) T.d_lowest sc_lowest fun f cdv A outer s H E hr hg0 =>
    have hu1 : (A.deeper (PyProof.Rows.envOfC "lowest" (defScope s_lowest) s.heap.objs.size f cdv)).units + 64 < cLine := hr.units
    have hu2 : (A.deeper (PyProof.Rows.envOfC "lowest" (defScope s_lowest) s.heap.objs.size f cdv)).units + 66 < cLine := by have := hr.un; omega
    (dss_cons (ds_set 2 sc_lowest.nd (de_fn h_shared_by hr (by first | decide | omega) hg0 (takes_of rfl rfl rfl rfl) (by rfl) (da_cons (de_var 0) (da_cons (de_var 1) da_nil)))) (dss_cons (ds_if (dt_cmp op_lt act_lt (de_var 1) de_int (nomark _)) (dss_one (ds_set 2 sc_lowest.nd (de_un un_neg act_neg (de_var 2)))) dss_nil) (dss_one (ds_ret (de_tup (da_cons (de_bin opr_fdiv act_fdiv (de_var 0) (de_var 2)) (da_cons (de_bin opr_fdiv act_fdiv (de_var 1) (de_var 2)) da_nil)))))))
theorem sc_Board_m_shares : FnScope ["self", "found", "column", "row"] ["self"] (defScope s_Board_m_shares) := ⟨rfl, rfl, rfl, by decide +kernel, rfl, by decide +kernel, by decide +kernel⟩
set_option maxHeartbeats 1000000 in
theorem ok_Board_m_shares (T : Txt w K mg) (h_lowest : Has P w K mg base 2 "lowest" s_lowest ["top", "bottom"] f_lowest) : MethD P w K mg base 3 "Board" "shares" ["self"] f_Board_m_shares :=
  meth_of (N := ["self", "found", "column", "row"]) (m := d_Board_m_shares) T.d_Board_m_shares sc_Board_m_shares fun f cdv A outer s H E hr hg0 =>
    have hu1 : (A.deeper (PyProof.Rows.envOfC "Board.shares" (defScope s_Board_m_shares) s.heap.objs.size f cdv)).units + 64 < cLine := hr.units
    have hu2 : (A.deeper (PyProof.Rows.envOfC "Board.shares" (defScope s_Board_m_shares) s.heap.objs.size f cdv)).units + 66 < cLine := by have := hr.un; omega
    (dss_cons (ds_set 1 sc_Board_m_shares.nd (de_bin opr_mul act_mulC (de_lst (da_cons (T.c_NOUGHT (by rfl)) da_nil)) (de_fldI T.tO (de_var 0)))) (dss_cons (ds_for (passes_of rfl) rfl (di_zip (by rfl) T.z_zip (da_cons (de_fldI T.tO (de_var 0)) (da_cons (de_fldI T.tO (de_var 0)) da_nil))) (dg_tup rfl (dgs_cons (dg_name 2 sc_Board_m_shares.nd) (dgs_cons (dg_name 3 sc_Board_m_shares.nd) dgs_nil))) (dss_one (ds_if (dt_cmp op_lt act_lt (de_var 2) (de_fldI T.tO (de_var 0)) (nomark _)) (dss_one (ds_sub set_list act_setD (de_fn h_lowest hr (by first | decide | omega) hg0 (takes_of rfl rfl rfl rfl) (by rfl) (da_cons (de_ix ix_seq act_ix (de_var 3) (de_un un_neg act_neg de_int)) (da_cons (de_fldI T.tO (de_var 0)) da_nil))) (de_var 1) (de_var 2) (pg_sub (de_var 1) (de_var 2) set_list))) dss_nil))) (dss_one (ds_ret (de_var 1)))))
theorem sc_Board_m_against : FnScope ["self", "found", "by", "number", "place", "sign"] ["self"] (defScope s_Board_m_against) := ⟨rfl, rfl, rfl, by decide +kernel, rfl, by decide +kernel, by decide +kernel⟩
set_option maxHeartbeats 1000000 in
theorem ok_Board_m_against (T : Txt w K mg) (h_shared_by : Has P w K mg base 1 "shared_by" s_shared_by ["one", "other"] f_shared_by) : MethD P w K mg base 2 "Board" "against" ["self"] f_Board_m_against :=
  meth_of (N := ["self", "found", "by", "number", "place", "sign"]) (m := d_Board_m_against) T.d_Board_m_against sc_Board_m_against fun f cdv A outer s H E hr hg0 =>
    have hu1 : (A.deeper (PyProof.Rows.envOfC "Board.against" (defScope s_Board_m_against) s.heap.objs.size f cdv)).units + 64 < cLine := hr.units
    have hu2 : (A.deeper (PyProof.Rows.envOfC "Board.against" (defScope s_Board_m_against) s.heap.objs.size f cdv)).units + 66 < cLine := by have := hr.un; omega
    (dss_cons (ds_set 1 sc_Board_m_against.nd (de_lstC da_nil)) (dss_cons (ds_for (passes_of rfl) rfl (di_enum (by rfl) T.z_enumerate (da_cons (de_fldI T.tO (de_var 0)) da_nil)) (dg_tup rfl (dgs_cons (dg_name 4 sc_Board_m_against.nd) (dgs_cons (dg_name 5 sc_Board_m_against.nd) dgs_nil))) (dss_one (ds_expr (de_bm PySem.F.plainAttrs_list PySem.F.slot_list_append PySem.F.type_list_append mt_append act_append ty_list (de_var 1) (da_cons (de_bin opr_mul act_mul (de_bin op_sub act_sub (de_ix ix_seq act_ix (de_fldI T.tO (de_var 0)) (de_bin opr_add act_add (de_fldI T.tO (de_var 0)) (de_var 4))) (de_fldI T.tO (de_var 0))) (de_var 5)) da_nil))))) (dss_cons (ds_set 2 sc_Board_m_against.nd de_int) (dss_cons (ds_for (passes_of rfl) rfl (di_list (de_var 1)) (dg_name 3 sc_Board_m_against.nd) (dss_one (ds_set 2 sc_Board_m_against.nd (de_fn h_shared_by hr (by first | decide | omega) hg0 (takes_of rfl rfl rfl rfl) (by rfl) (da_cons (de_var 2) (da_cons (de_var 3) da_nil)))))) (dss_one (ds_ret (de_lcC [("number", 3)] rfl sc_Board_m_against.nd (di_list (de_var 1)) (blkOk_by (N := ["self", "found", "by", "number", "place", "sign"]) (sc := defScope s_Board_m_against) (by decide +kernel)) (fun _ _ _ _ _ => (dg_name 3 sc_Board_m_against.nd)) (fun _ _ _ _ _ => dts_nil) (fun _ _ _ _ _ => (de_bin opr_fdiv act_fdiv (de_var 3) (de_var 2))))))))))
theorem sc_balance : FnScope ["columns", "goal", "board"] ["columns", "goal"] (defScope s_balance) := ⟨rfl, rfl, rfl, by decide +kernel, rfl, by decide +kernel, by decide +kernel⟩
set_option maxHeartbeats 1000000 in
theorem ok_balance (T : Txt w K mg) (h_Board_m___init__ : MakeD P w K mg base 1 "Board" ["self", "columns", "goal"] f_Board_m___init__) (h_Board_m_settle : MethD P w K mg base 2 "Board" "settle" ["self"] f_Board_m_settle) (h_Board_m_shares : MethD P w K mg base 3 "Board" "shares" ["self"] f_Board_m_shares) (h_Board_m_against : MethD P w K mg base 2 "Board" "against" ["self"] f_Board_m_against) : Has P w K mg base 4 "balance" s_balance ["columns", "goal"] f_balance :=
  has_of (N := ["columns", "goal", "board"]) (m := d_balance) T.d_balance sc_balance fun f cdv A outer s H E hr hg0 =>
    have hu1 : (A.deeper (PyProof.Rows.envOfC "balance" (defScope s_balance) s.heap.objs.size f cdv)).units + 64 < cLine := hr.units
    have hu2 : (A.deeper (PyProof.Rows.envOfC "balance" (defScope s_balance) s.heap.objs.size f cdv)).units + 66 < cLine := by have := hr.un; omega
    (dss_cons (ds_set 2 sc_balance.nd (de_make h_Board_m___init__ hr (by first | decide | omega) hg0 (takes_of rfl rfl rfl rfl) (by rfl) (da_cons (de_var 0) (da_cons (de_var 1) da_nil)))) (dss_cons (ds_expr (de_meth0 h_Board_m_settle hr (by first | decide | omega) hg0 (takes_of rfl rfl rfl rfl) (de_var 2))) (dss_cons (ds_if (dt_cmp (opr_eq hu1) act_eq (de_ix ix_seq act_ix (de_fldI T.tO (de_var 2)) (de_un un_neg act_neg de_int)) de_int (nomark _)) (dss_one (ds_ret (de_tup (da_cons de_str (da_cons (de_meth0 h_Board_m_shares hr (by first | decide | omega) hg0 (takes_of rfl rfl rfl rfl) (de_var 2)) da_nil))))) dss_nil) (dss_one (ds_ret (de_tup (da_cons de_str (da_cons (de_meth0 h_Board_m_against hr (by first | decide | omega) hg0 (takes_of rfl rfl rfl rfl) (de_var 2)) da_nil))))))))
theorem sc_is_whole : FnScope ["thing"] ["thing"] (defScope s_is_whole) := ⟨rfl, rfl, rfl, by decide +kernel, rfl, by decide +kernel, by decide +kernel⟩
set_option maxHeartbeats 1000000 in
theorem ok_is_whole (T : Txt w K mg) : Has P w K mg base 1 "is_whole" s_is_whole ["thing"] f_is_whole :=
  has_of (N := ["thing"]) (m := d_is_whole) T.d_is_whole sc_is_whole fun f cdv A outer s H E hr hg0 =>
    have hu1 : (A.deeper (PyProof.Rows.envOfC "is_whole" (defScope s_is_whole) s.heap.objs.size f cdv)).units + 64 < cLine := hr.units
    have hu2 : (A.deeper (PyProof.Rows.envOfC "is_whole" (defScope s_is_whole) s.heap.objs.size f cdv)).units + 66 < cLine := by have := hr.un; omega
    (dss_one (ds_ret (de_and (de_callB call_isi act_isi (by rfl) T.z_isinstance (by decide +kernel) (da_cons (de_var 0) (da_cons (de_ty (by rfl) T.z_int (by decide +kernel)) da_nil))) (de_one (de_not (de_callB call_isi act_isi (by rfl) T.z_isinstance (by decide +kernel) (da_cons (de_var 0) (da_cons (de_ty (by rfl) T.z_bool (by decide +kernel)) da_nil))))))))
theorem sc_is_fraction : FnScope ["thing"] ["thing"] (defScope s_is_fraction) := ⟨rfl, rfl, rfl, by decide +kernel, rfl, by decide +kernel, by decide +kernel⟩
set_option maxHeartbeats 1000000 in
theorem ok_is_fraction (T : Txt w K mg) (h_shared_by : Has P w K mg base 1 "shared_by" s_shared_by ["one", "other"] f_shared_by) (h_is_whole : Has P w K mg base 1 "is_whole" s_is_whole ["thing"] f_is_whole) : Has P w K mg base 2 "is_fraction" s_is_fraction ["thing"] f_is_fraction :=
  has_of (N := ["thing"]) (m := d_is_fraction) T.d_is_fraction sc_is_fraction fun f cdv A outer s H E hr hg0 =>
    have hu1 : (A.deeper (PyProof.Rows.envOfC "is_fraction" (defScope s_is_fraction) s.heap.objs.size f cdv)).units + 64 < cLine := hr.units
    have hu2 : (A.deeper (PyProof.Rows.envOfC "is_fraction" (defScope s_is_fraction) s.heap.objs.size f cdv)).units + 66 < cLine := by have := hr.un; omega
    (dss_cons (ds_if (PW.pt (dw_or (dt_not (dt_val (de_callB call_isi act_isi (by rfl) T.z_isinstance (by decide +kernel) (da_cons (de_var 0) (da_cons (de_ty (by rfl) T.z_tuple (by decide +kernel)) da_nil))))) (dw_or (dt_cmp (opr_ne hu1) act_ne (de_callB call_len act_len (by rfl) T.z_len PySem.boot_len (da_cons (de_var 0) da_nil)) de_int (nomark _)) (dw_or (dt_not (dt_val (de_fn h_is_whole hr (by first | decide | omega) hg0 (takes_of rfl rfl rfl rfl) (by rfl) (da_cons (de_ix ix_seq act_ix (de_var 0) de_int) da_nil)))) (dw_or1 (dt_not (dt_val (de_fn h_is_whole hr (by first | decide | omega) hg0 (takes_of rfl rfl rfl rfl) (by rfl) (da_cons (de_ix ix_seq act_ix (de_var 0) de_int) da_nil))))))))) (dss_one (ds_ret de_bl)) dss_nil) (dss_one (ds_ret (de_and (de_cmp op_ge act_ge (de_ix ix_seq act_ix (de_var 0) de_int) de_int (nomark _)) (de_one (de_cmp (opr_eq hu1) act_eq (de_fn h_shared_by hr (by first | decide | omega) hg0 (takes_of rfl rfl rfl rfl) (by rfl) (da_cons (de_ix ix_seq act_ix (de_var 0) de_int) (da_cons (de_ix ix_seq act_ix (de_var 0) de_int) da_nil))) de_int (nomark _)))))))
theorem sc_plus : FnScope ["one", "other"] ["one", "other"] (defScope s_plus) := ⟨rfl, rfl, rfl, by decide +kernel, rfl, by decide +kernel, by decide +kernel⟩
set_option maxHeartbeats 1000000 in
theorem ok_plus (T : Txt w K mg) (h_lowest : Has P w K mg base 2 "lowest" s_lowest ["top", "bottom"] f_lowest) : Has P w K mg base 3 "plus" s_plus ["one", "other"] f_plus :=
  has_of (N := ["one", "other"]) (m := d_plus) T.d_plus sc_plus fun f cdv A outer s H E hr hg0 =>
    have hu1 : (A.deeper (PyProof.Rows.envOfC "plus" (defScope s_plus) s.heap.objs.size f cdv)).units + 64 < cLine := hr.units
    have hu2 : (A.deeper (PyProof.Rows.envOfC "plus" (defScope s_plus) s.heap.objs.size f cdv)).units + 66 < cLine := by have := hr.un; omega
    (dss_cons (ds_if (dt_chain (opr_eq hu1) (opr_eq hu1) act_eq act_eq (de_ix ix_seq act_ix (de_var 0) de_int) (de_ix ix_seq act_ix (de_var 1) de_int) de_int) (dss_one (ds_ret (de_tup (da_cons (de_bin opr_add act_add (de_ix ix_seq act_ix (de_var 0) de_int) (de_ix ix_seq act_ix (de_var 1) de_int)) (da_cons de_int da_nil))))) dss_nil) (dss_one (ds_ret (de_fn h_lowest hr (by first | decide | omega) hg0 (takes_of rfl rfl rfl rfl) (by rfl) (da_cons (de_bin opr_add act_add (de_bin opr_mul act_mul (de_ix ix_seq act_ix (de_var 0) de_int) (de_ix ix_seq act_ix (de_var 1) de_int)) (de_bin opr_mul act_mul (de_ix ix_seq act_ix (de_var 1) de_int) (de_ix ix_seq act_ix (de_var 0) de_int))) (da_cons (de_bin opr_mul act_mul (de_ix ix_seq act_ix (de_var 0) de_int) (de_ix ix_seq act_ix (de_var 1) de_int)) da_nil))))))
theorem sc_times : FnScope ["one", "other"] ["one", "other"] (defScope s_times) := ⟨rfl, rfl, rfl, by decide +kernel, rfl, by decide +kernel, by decide +kernel⟩
set_option maxHeartbeats 1000000 in
theorem ok_times (T : Txt w K mg) (h_lowest : Has P w K mg base 2 "lowest" s_lowest ["top", "bottom"] f_lowest) : Has P w K mg base 3 "times" s_times ["one", "other"] f_times :=
  has_of (N := ["one", "other"]) (m := d_times) T.d_times sc_times fun f cdv A outer s H E hr hg0 =>
    have hu1 : (A.deeper (PyProof.Rows.envOfC "times" (defScope s_times) s.heap.objs.size f cdv)).units + 64 < cLine := hr.units
    have hu2 : (A.deeper (PyProof.Rows.envOfC "times" (defScope s_times) s.heap.objs.size f cdv)).units + 66 < cLine := by have := hr.un; omega
    (dss_one (ds_ret (de_fn h_lowest hr (by first | decide | omega) hg0 (takes_of rfl rfl rfl rfl) (by rfl) (da_cons (de_bin opr_mul act_mul (de_ix ix_seq act_ix (de_var 0) de_int) (de_ix ix_seq act_ix (de_var 1) de_int)) (da_cons (de_bin opr_mul act_mul (de_ix ix_seq act_ix (de_var 0) de_int) (de_ix ix_seq act_ix (de_var 1) de_int)) da_nil)))))
theorem sc_come_to : FnScope ["columns", "goal", "thing", "found", "column", "share", "number", "one"] ["columns", "goal", "thing"] (defScope s_come_to) := ⟨rfl, rfl, rfl, by decide +kernel, rfl, by decide +kernel, by decide +kernel⟩
set_option maxHeartbeats 1000000 in
theorem ok_come_to (T : Txt w K mg) (h_is_fraction : Has P w K mg base 2 "is_fraction" s_is_fraction ["thing"] f_is_fraction) (h_plus : Has P w K mg base 3 "plus" s_plus ["one", "other"] f_plus) (h_times : Has P w K mg base 3 "times" s_times ["one", "other"] f_times) : Has P w K mg base 4 "come_to" s_come_to ["columns", "goal", "thing"] f_come_to :=
  has_of (N := ["columns", "goal", "thing", "found", "column", "share", "number", "one"]) (m := d_come_to) T.d_come_to sc_come_to fun f cdv A outer s H E hr hg0 =>
    have hu1 : (A.deeper (PyProof.Rows.envOfC "come_to" (defScope s_come_to) s.heap.objs.size f cdv)).units + 64 < cLine := hr.units
    have hu2 : (A.deeper (PyProof.Rows.envOfC "come_to" (defScope s_come_to) s.heap.objs.size f cdv)).units + 66 < cLine := by have := hr.un; omega
    (dss_cons (ds_if (PW.pt (dw_or (dt_not (dt_val (de_callB call_isi act_isi (by rfl) T.z_isinstance (by decide +kernel) (da_cons (de_var 2) (da_cons (de_ty (by rfl) T.z_list (by decide +kernel)) da_nil))))) (dw_or1 (dt_cmp (opr_ne hu1) act_ne (de_callB call_len act_len (by rfl) T.z_len PySem.boot_len (da_cons (de_var 2) da_nil)) (de_callB call_len act_len (by rfl) T.z_len PySem.boot_len (da_cons (de_var 0) da_nil)) (nomark _))))) (dss_one (ds_ret de_bl)) dss_nil) (dss_cons (ds_if (dt_not (dt_val (de_callB (cr_all rfl) act_all (by rfl) T.z_all (by decide +kernel) (da_cons (de_lc [("share", 5)] rfl sc_come_to.nd (di_list (de_var 2)) (blkOk_by (N := ["columns", "goal", "thing", "found", "column", "share", "number", "one"]) (sc := defScope s_come_to) (by decide +kernel)) (fun _ _ _ _ _ => (dg_name 5 sc_come_to.nd)) (fun _ _ _ _ _ => dts_nil) (fun _ _ _ _ _ => (de_and (de_fn h_is_fraction hr (by first | decide | omega) hg0 takes_no (by rfl) (da_cons (de_var 5) da_nil)) (de_one (de_cmp op_ge act_ge (de_ix ix_seq act_ix (de_var 5) de_int) de_int (nomark _)))))) da_nil)))) (dss_one (ds_ret de_bl)) dss_nil) (dss_cons (ds_set 3 sc_come_to.nd (de_bin opr_mul act_mul (de_lst (da_cons (T.c_NOUGHT (by rfl)) da_nil)) (de_callB call_len act_len (by rfl) T.z_len PySem.boot_len (da_cons (de_var 1) da_nil)))) (dss_cons (ds_for (passes_of rfl) rfl (di_zip (by rfl) T.z_zip (da_cons (de_var 0) (da_cons (de_var 2) da_nil))) (dg_tup rfl (dgs_cons (dg_name 4 sc_come_to.nd) (dgs_cons (dg_name 5 sc_come_to.nd) dgs_nil))) (dss_one (ds_setLc 3 [("one", 7), ("number", 6)] rfl sc_come_to.nd (di_zip (by rfl) T.z_zip (da_cons (de_var 3) (da_cons (de_var 4) da_nil))) (blkOk_by (N := ["columns", "goal", "thing", "found", "column", "share", "number", "one"]) (sc := defScope s_come_to) (by decide +kernel)) (fun _ _ _ _ _ => (dg_tup rfl (dgs_cons (dg_name 7 sc_come_to.nd) (dgs_cons (dg_name 6 sc_come_to.nd) dgs_nil)))) (fun _ _ _ _ _ => dts_nil) (fun _ _ _ _ _ => (de_fn h_plus hr (by first | decide | omega) hg0 takes_no (by rfl) (da_cons (de_var 7) (da_cons (de_fn h_times hr (by first | decide | omega) hg0 takes_no (by rfl) (da_cons (de_var 5) (da_cons (de_tup (da_cons (de_var 6) (da_cons de_int da_nil))) da_nil))) da_nil))))))) (dss_one (ds_ret (de_cmp (opr_eq hu1) act_eq (de_var 3) (de_lc [("number", 6)] rfl sc_come_to.nd (di_list (de_var 1)) (blkOk_by (N := ["columns", "goal", "thing", "found", "column", "share", "number", "one"]) (sc := defScope s_come_to) (by decide +kernel)) (fun _ _ _ _ _ => (dg_name 6 sc_come_to.nd)) (fun _ _ _ _ _ => dts_nil) (fun _ _ _ _ _ => (de_tup (da_cons (de_var 6) (da_cons de_int da_nil))))) (nomark _))))))))
theorem sc_comes_to : FnScope ["column", "numbers", "one", "number"] ["column", "numbers"] (defScope s_comes_to) := ⟨rfl, rfl, rfl, by decide +kernel, rfl, by decide +kernel, by decide +kernel⟩
set_option maxHeartbeats 1000000 in
theorem ok_comes_to (T : Txt w K mg) : Has P w K mg base 1 "comes_to" s_comes_to ["column", "numbers"] f_comes_to :=
  has_of (N := ["column", "numbers", "one", "number"]) (m := d_comes_to) T.d_comes_to sc_comes_to fun f cdv A outer s H E hr hg0 =>
    have hu1 : (A.deeper (PyProof.Rows.envOfC "comes_to" (defScope s_comes_to) s.heap.objs.size f cdv)).units + 64 < cLine := hr.units
    have hu2 : (A.deeper (PyProof.Rows.envOfC "comes_to" (defScope s_comes_to) s.heap.objs.size f cdv)).units + 66 < cLine := by have := hr.un; omega
    (dss_one (ds_ret (de_callB (cr_sum rfl) act_sum (by rfl) T.z_sum (by decide +kernel) (da_cons (de_lc [("one", 2), ("number", 3)] rfl sc_comes_to.nd (di_zip (by rfl) T.z_zip (da_cons (de_var 0) (da_cons (de_var 1) da_nil))) (blkOk_by (N := ["column", "numbers", "one", "number"]) (sc := defScope s_comes_to) (by decide +kernel)) (fun _ _ _ _ _ => (dg_tup rfl (dgs_cons (dg_name 2 sc_comes_to.nd) (dgs_cons (dg_name 3 sc_comes_to.nd) dgs_nil)))) (fun _ _ _ _ _ => dts_nil) (fun _ _ _ _ _ => (de_bin opr_mul act_mul (de_var 2) (de_var 3)))) da_nil))))
theorem sc_are_against : FnScope ["columns", "goal", "thing", "column", "number"] ["columns", "goal", "thing"] (defScope s_are_against) := ⟨rfl, rfl, rfl, by decide +kernel, rfl, by decide +kernel, by decide +kernel⟩
set_option maxHeartbeats 1000000 in
theorem ok_are_against (T : Txt w K mg) (h_is_whole : Has P w K mg base 1 "is_whole" s_is_whole ["thing"] f_is_whole) (h_comes_to : Has P w K mg base 1 "comes_to" s_comes_to ["column", "numbers"] f_comes_to) : Has P w K mg base 2 "are_against" s_are_against ["columns", "goal", "thing"] f_are_against :=
  has_of (N := ["columns", "goal", "thing", "column", "number"]) (m := d_are_against) T.d_are_against sc_are_against fun f cdv A outer s H E hr hg0 =>
    have hu1 : (A.deeper (PyProof.Rows.envOfC "are_against" (defScope s_are_against) s.heap.objs.size f cdv)).units + 64 < cLine := hr.units
    have hu2 : (A.deeper (PyProof.Rows.envOfC "are_against" (defScope s_are_against) s.heap.objs.size f cdv)).units + 66 < cLine := by have := hr.un; omega
    (dss_cons (ds_if (PW.pt (dw_or (dt_not (dt_val (de_callB call_isi act_isi (by rfl) T.z_isinstance (by decide +kernel) (da_cons (de_var 2) (da_cons (de_ty (by rfl) T.z_list (by decide +kernel)) da_nil))))) (dw_or (dt_cmp (opr_ne hu1) act_ne (de_callB call_len act_len (by rfl) T.z_len PySem.boot_len (da_cons (de_var 2) da_nil)) (de_callB call_len act_len (by rfl) T.z_len PySem.boot_len (da_cons (de_var 1) da_nil)) (nomark _)) (dw_or1 (dt_not (dt_val (de_callB (cr_all rfl) act_all (by rfl) T.z_all (by decide +kernel) (da_cons (de_lc [("number", 4)] rfl sc_are_against.nd (di_list (de_var 2)) (blkOk_by (N := ["columns", "goal", "thing", "column", "number"]) (sc := defScope s_are_against) (by decide +kernel)) (fun _ _ _ _ _ => (dg_name 4 sc_are_against.nd)) (fun _ _ _ _ _ => dts_nil) (fun _ _ _ _ _ => (de_fn h_is_whole hr (by first | decide | omega) hg0 takes_no (by rfl) (da_cons (de_var 4) da_nil)))) da_nil)))))))) (dss_one (ds_ret de_bl)) dss_nil) (dss_one (ds_ret (de_and (de_callB (cr_all rfl) act_all (by rfl) T.z_all (by decide +kernel) (da_cons (de_lc [("column", 3)] rfl sc_are_against.nd (di_list (de_var 0)) (blkOk_by (N := ["columns", "goal", "thing", "column", "number"]) (sc := defScope s_are_against) (by decide +kernel)) (fun _ _ _ _ _ => (dg_name 3 sc_are_against.nd)) (fun _ _ _ _ _ => dts_nil) (fun _ _ _ _ _ => (de_cmp op_ge act_ge (de_fn h_comes_to hr (by first | decide | omega) hg0 takes_no (by rfl) (da_cons (de_var 3) (da_cons (de_var 2) da_nil))) de_int (nomark _)))) da_nil)) (de_one (de_cmp op_lt act_lt (de_fn h_comes_to hr (by first | decide | omega) hg0 (takes_of rfl rfl rfl rfl) (by rfl) (da_cons (de_var 1) (da_cons (de_var 2) da_nil))) de_int (nomark _)))))))
theorem sc_lets_balance : FnScope ["columns", "goal", "thing"] ["columns", "goal", "thing"] (defScope s_lets_balance) := ⟨rfl, rfl, rfl, by decide +kernel, rfl, by decide +kernel, by decide +kernel⟩
set_option maxHeartbeats 1000000 in
theorem ok_lets_balance (T : Txt w K mg) (h_come_to : Has P w K mg base 4 "come_to" s_come_to ["columns", "goal", "thing"] f_come_to) (h_are_against : Has P w K mg base 2 "are_against" s_are_against ["columns", "goal", "thing"] f_are_against) : Has P w K mg base 5 "lets_balance" s_lets_balance ["columns", "goal", "thing"] f_lets_balance :=
  has_of (N := ["columns", "goal", "thing"]) (m := d_lets_balance) T.d_lets_balance sc_lets_balance fun f cdv A outer s H E hr hg0 =>
    have hu1 : (A.deeper (PyProof.Rows.envOfC "lets_balance" (defScope s_lets_balance) s.heap.objs.size f cdv)).units + 64 < cLine := hr.units
    have hu2 : (A.deeper (PyProof.Rows.envOfC "lets_balance" (defScope s_lets_balance) s.heap.objs.size f cdv)).units + 66 < cLine := by have := hr.un; omega
    (dss_cons (ds_if (PW.pt (dw_or (dt_not (dt_val (de_callB call_isi act_isi (by rfl) T.z_isinstance (by decide +kernel) (da_cons (de_var 2) (da_cons (de_ty (by rfl) T.z_tuple (by decide +kernel)) da_nil))))) (dw_or (dt_cmp (opr_ne hu1) act_ne (de_callB call_len act_len (by rfl) T.z_len PySem.boot_len (da_cons (de_var 2) da_nil)) de_int (nomark _)) (dw_or1 (dt_not (dt_val (de_callB call_isi act_isi (by rfl) T.z_isinstance (by decide +kernel) (da_cons (de_ix ix_seq act_ix (de_var 2) de_int) (da_cons (de_ty (by rfl) T.z_str (by decide +kernel)) da_nil))))))))) (dss_one (ds_ret de_bl)) dss_nil) (dss_cons (ds_if (dt_cmp (opr_eq hu1) act_eq (de_ix ix_seq act_ix (de_var 2) de_int) de_str (nomark _)) (dss_one (ds_ret (de_fn h_come_to hr (by first | decide | omega) hg0 (takes_of rfl rfl rfl rfl) (by rfl) (da_cons (de_var 0) (da_cons (de_var 1) (da_cons (de_ix ix_seq act_ix (de_var 2) de_int) da_nil)))))) dss_nil) (dss_one (ds_ret (de_and (de_cmp (opr_eq hu1) act_eq (de_ix ix_seq act_ix (de_var 2) de_int) de_str (nomark _)) (de_one (de_fn h_are_against hr (by first | decide | omega) hg0 (takes_of rfl rfl rfl rfl) (by rfl) (da_cons (de_var 0) (da_cons (de_var 1) (da_cons (de_ix ix_seq act_ix (de_var 2) de_int) da_nil))))))))))
theorem sc__law_low : FnScope ["_law_upper", "_law_lower", "_law_here", "_law_there"] ["_law_upper", "_law_lower"] (defScope s__law_low) := ⟨rfl, rfl, rfl, by decide +kernel, rfl, by decide +kernel, by decide +kernel⟩
set_option maxHeartbeats 1000000 in
theorem ok__law_low (T : Txt w K mg) : Has P w K mg base 1 "_law_low" s__law_low ["_law_upper", "_law_lower"] f__law_low :=
  has_of (N := ["_law_upper", "_law_lower", "_law_here", "_law_there"]) (m := d__law_low) T.d__law_low sc__law_low fun f cdv A outer s H E hr hg0 =>
    have hu1 : (A.deeper (PyProof.Rows.envOfC "_law_low" (defScope s__law_low) s.heap.objs.size f cdv)).units + 64 < cLine := hr.units
    have hu2 : (A.deeper (PyProof.Rows.envOfC "_law_low" (defScope s__law_low) s.heap.objs.size f cdv)).units + 66 < cLine := by have := hr.un; omega
    (dss_cons (ds_set 2 sc__law_low.nd (de_callB call_abs act_abs (by rfl) T.z_abs (by decide +kernel) (da_cons (de_var 0) da_nil))) (dss_cons (ds_set 3 sc__law_low.nd (de_callB call_abs act_abs (by rfl) T.z_abs (by decide +kernel) (da_cons (de_var 1) da_nil))) (dss_cons (ds_while (passes_of rfl) (dt_cmp op_gt act_gt (de_var 3) de_int (nomark _)) (dss_one (ds_par 2 3 rfl sc__law_low.nd (da_cons (de_var 3) (da_cons (de_bin op_modN act_mod (de_var 2) (de_var 3)) da_nil))))) (dss_cons (ds_if (dt_cmp op_lt act_lt (de_var 1) de_int (nomark _)) (dss_one (ds_set 2 sc__law_low.nd (de_bin op_sub act_sub de_int (de_var 2)))) dss_nil) (dss_one (ds_ret (de_tup (da_cons (de_bin opr_fdiv act_fdiv (de_var 0) (de_var 2)) (da_cons (de_bin opr_fdiv act_fdiv (de_var 1) (de_var 2)) da_nil)))))))))
theorem sc__law_plus : FnScope ["_law_here", "_law_there"] ["_law_here", "_law_there"] (defScope s__law_plus) := ⟨rfl, rfl, rfl, by decide +kernel, rfl, by decide +kernel, by decide +kernel⟩
set_option maxHeartbeats 1000000 in
theorem ok__law_plus (T : Txt w K mg) (h__law_low : Has P w K mg base 1 "_law_low" s__law_low ["_law_upper", "_law_lower"] f__law_low) : Has P w K mg base 2 "_law_plus" s__law_plus ["_law_here", "_law_there"] f__law_plus :=
  has_of (N := ["_law_here", "_law_there"]) (m := d__law_plus) T.d__law_plus sc__law_plus fun f cdv A outer s H E hr hg0 =>
    have hu1 : (A.deeper (PyProof.Rows.envOfC "_law_plus" (defScope s__law_plus) s.heap.objs.size f cdv)).units + 64 < cLine := hr.units
    have hu2 : (A.deeper (PyProof.Rows.envOfC "_law_plus" (defScope s__law_plus) s.heap.objs.size f cdv)).units + 66 < cLine := by have := hr.un; omega
    (dss_one (ds_ret (de_fn h__law_low hr (by first | decide | omega) hg0 (takes_of rfl rfl rfl rfl) (by rfl) (da_cons (de_bin opr_add act_add (de_bin opr_mul act_mul (de_ix ix_seq act_ix (de_var 0) de_int) (de_ix ix_seq act_ix (de_var 1) de_int)) (de_bin opr_mul act_mul (de_ix ix_seq act_ix (de_var 1) de_int) (de_ix ix_seq act_ix (de_var 0) de_int))) (da_cons (de_bin opr_mul act_mul (de_ix ix_seq act_ix (de_var 0) de_int) (de_ix ix_seq act_ix (de_var 1) de_int)) da_nil)))))
theorem sc__law_times : FnScope ["_law_here", "_law_there"] ["_law_here", "_law_there"] (defScope s__law_times) := ⟨rfl, rfl, rfl, by decide +kernel, rfl, by decide +kernel, by decide +kernel⟩
set_option maxHeartbeats 1000000 in
theorem ok__law_times (T : Txt w K mg) (h__law_low : Has P w K mg base 1 "_law_low" s__law_low ["_law_upper", "_law_lower"] f__law_low) : Has P w K mg base 2 "_law_times" s__law_times ["_law_here", "_law_there"] f__law_times :=
  has_of (N := ["_law_here", "_law_there"]) (m := d__law_times) T.d__law_times sc__law_times fun f cdv A outer s H E hr hg0 =>
    have hu1 : (A.deeper (PyProof.Rows.envOfC "_law_times" (defScope s__law_times) s.heap.objs.size f cdv)).units + 64 < cLine := hr.units
    have hu2 : (A.deeper (PyProof.Rows.envOfC "_law_times" (defScope s__law_times) s.heap.objs.size f cdv)).units + 66 < cLine := by have := hr.un; omega
    (dss_one (ds_ret (de_fn h__law_low hr (by first | decide | omega) hg0 (takes_of rfl rfl rfl rfl) (by rfl) (da_cons (de_bin opr_mul act_mul (de_ix ix_seq act_ix (de_var 0) de_int) (de_ix ix_seq act_ix (de_var 1) de_int)) (da_cons (de_bin opr_mul act_mul (de_ix ix_seq act_ix (de_var 0) de_int) (de_ix ix_seq act_ix (de_var 1) de_int)) da_nil)))))
theorem sc__law_is_whole : FnScope ["_law_item"] ["_law_item"] (defScope s__law_is_whole) := ⟨rfl, rfl, rfl, by decide +kernel, rfl, by decide +kernel, by decide +kernel⟩
set_option maxHeartbeats 1000000 in
theorem ok__law_is_whole (T : Txt w K mg) : Has P w K mg base 1 "_law_is_whole" s__law_is_whole ["_law_item"] f__law_is_whole :=
  has_of (N := ["_law_item"]) (m := d__law_is_whole) T.d__law_is_whole sc__law_is_whole fun f cdv A outer s H E hr hg0 =>
    have hu1 : (A.deeper (PyProof.Rows.envOfC "_law_is_whole" (defScope s__law_is_whole) s.heap.objs.size f cdv)).units + 64 < cLine := hr.units
    have hu2 : (A.deeper (PyProof.Rows.envOfC "_law_is_whole" (defScope s__law_is_whole) s.heap.objs.size f cdv)).units + 66 < cLine := by have := hr.un; omega
    (dss_one (ds_ret (de_and (de_callB call_isi act_isi (by rfl) T.z_isinstance (by decide +kernel) (da_cons (de_var 0) (da_cons (de_ty (by rfl) T.z_int (by decide +kernel)) da_nil))) (de_one (de_not (de_callB call_isi act_isi (by rfl) T.z_isinstance (by decide +kernel) (da_cons (de_var 0) (da_cons (de_ty (by rfl) T.z_bool (by decide +kernel)) da_nil))))))))
theorem sc__law_is_fraction : FnScope ["_law_item"] ["_law_item"] (defScope s__law_is_fraction) := ⟨rfl, rfl, rfl, by decide +kernel, rfl, by decide +kernel, by decide +kernel⟩
set_option maxHeartbeats 1000000 in
theorem ok__law_is_fraction (T : Txt w K mg) (h__law_low : Has P w K mg base 1 "_law_low" s__law_low ["_law_upper", "_law_lower"] f__law_low) (h__law_is_whole : Has P w K mg base 1 "_law_is_whole" s__law_is_whole ["_law_item"] f__law_is_whole) : Has P w K mg base 2 "_law_is_fraction" s__law_is_fraction ["_law_item"] f__law_is_fraction :=
  has_of (N := ["_law_item"]) (m := d__law_is_fraction) T.d__law_is_fraction sc__law_is_fraction fun f cdv A outer s H E hr hg0 =>
    have hu1 : (A.deeper (PyProof.Rows.envOfC "_law_is_fraction" (defScope s__law_is_fraction) s.heap.objs.size f cdv)).units + 64 < cLine := hr.units
    have hu2 : (A.deeper (PyProof.Rows.envOfC "_law_is_fraction" (defScope s__law_is_fraction) s.heap.objs.size f cdv)).units + 66 < cLine := by have := hr.un; omega
    (dss_cons (ds_if (PW.pt (dw_or (dt_not (dt_val (de_callB call_isi act_isi (by rfl) T.z_isinstance (by decide +kernel) (da_cons (de_var 0) (da_cons (de_ty (by rfl) T.z_tuple (by decide +kernel)) da_nil))))) (dw_or (dt_cmp (opr_ne hu1) act_ne (de_callB call_len act_len (by rfl) T.z_len PySem.boot_len (da_cons (de_var 0) da_nil)) de_int (nomark _)) (dw_or (dt_not (dt_val (de_fn h__law_is_whole hr (by first | decide | omega) hg0 (takes_of rfl rfl rfl rfl) (by rfl) (da_cons (de_ix ix_seq act_ix (de_var 0) de_int) da_nil)))) (dw_or1 (dt_not (dt_val (de_fn h__law_is_whole hr (by first | decide | omega) hg0 (takes_of rfl rfl rfl rfl) (by rfl) (da_cons (de_ix ix_seq act_ix (de_var 0) de_int) da_nil))))))))) (dss_one (ds_ret de_bl)) dss_nil) (dss_one (ds_ret (de_and (de_cmp op_gt act_gt (de_ix ix_seq act_ix (de_var 0) de_int) de_int (nomark _)) (de_one (de_cmp (opr_eq hu1) act_eq (de_fn h__law_low hr (by first | decide | omega) hg0 (takes_of rfl rfl rfl rfl) (by rfl) (da_cons (de_ix ix_seq act_ix (de_var 0) de_int) (da_cons (de_ix ix_seq act_ix (de_var 0) de_int) da_nil))) (de_var 0) (nomark _)))))))
theorem sc__law_shares_right : FnScope ["_law_cols", "_law_aim", "_law_item", "_law_place", "_law_total", "_law_column", "_law_share", "_law_one"] ["_law_cols", "_law_aim", "_law_item"] (defScope s__law_shares_right) := ⟨rfl, rfl, rfl, by decide +kernel, rfl, by decide +kernel, by decide +kernel⟩
set_option maxHeartbeats 1000000 in
theorem ok__law_shares_right (T : Txt w K mg) (h__law_plus : Has P w K mg base 2 "_law_plus" s__law_plus ["_law_here", "_law_there"] f__law_plus) (h__law_times : Has P w K mg base 2 "_law_times" s__law_times ["_law_here", "_law_there"] f__law_times) (h__law_is_fraction : Has P w K mg base 2 "_law_is_fraction" s__law_is_fraction ["_law_item"] f__law_is_fraction) : Has P w K mg base 3 "_law_shares_right" s__law_shares_right ["_law_cols", "_law_aim", "_law_item"] f__law_shares_right :=
  has_of (N := ["_law_cols", "_law_aim", "_law_item", "_law_place", "_law_total", "_law_column", "_law_share", "_law_one"]) (m := d__law_shares_right) T.d__law_shares_right sc__law_shares_right fun f cdv A outer s H E hr hg0 =>
    have hu1 : (A.deeper (PyProof.Rows.envOfC "_law_shares_right" (defScope s__law_shares_right) s.heap.objs.size f cdv)).units + 64 < cLine := hr.units
    have hu2 : (A.deeper (PyProof.Rows.envOfC "_law_shares_right" (defScope s__law_shares_right) s.heap.objs.size f cdv)).units + 66 < cLine := by have := hr.un; omega
    (dss_cons (ds_if (PW.pt (dw_or (dt_not (dt_val (de_callB call_isi act_isi (by rfl) T.z_isinstance (by decide +kernel) (da_cons (de_var 2) (da_cons (de_ty (by rfl) T.z_list (by decide +kernel)) da_nil))))) (dw_or (dt_cmp (opr_ne hu1) act_ne (de_callB call_len act_len (by rfl) T.z_len PySem.boot_len (da_cons (de_var 2) da_nil)) (de_callB call_len act_len (by rfl) T.z_len PySem.boot_len (da_cons (de_var 0) da_nil)) (nomark _)) (dw_or1 (dt_cmp (opr_ne hu1) act_ne (de_lc [("_law_one", 7)] rfl sc__law_shares_right.nd (di_list (de_var 2)) (blkOk_by (N := ["_law_cols", "_law_aim", "_law_item", "_law_place", "_law_total", "_law_column", "_law_share", "_law_one"]) (sc := defScope s__law_shares_right) (by decide +kernel)) (fun _ _ _ _ _ => (dg_name 7 sc__law_shares_right.nd)) (fun _ _ _ _ _ => (dts_one (dt_not (dt_val (de_fn h__law_is_fraction hr (by first | decide | omega) hg0 takes_no (by rfl) (da_cons (de_var 7) da_nil)))))) (fun _ _ _ _ _ => (de_var 7))) (de_lst da_nil) (nomark _)))))) (dss_one (ds_ret de_bl)) dss_nil) (dss_cons (ds_if (dt_cmp (opr_ne hu1) act_ne (de_lc [("_law_one", 7)] rfl sc__law_shares_right.nd (di_list (de_var 2)) (blkOk_by (N := ["_law_cols", "_law_aim", "_law_item", "_law_place", "_law_total", "_law_column", "_law_share", "_law_one"]) (sc := defScope s__law_shares_right) (by decide +kernel)) (fun _ _ _ _ _ => (dg_name 7 sc__law_shares_right.nd)) (fun _ _ _ _ _ => (dts_one (dt_cmp op_lt act_lt (de_ix ix_seq act_ix (de_var 7) de_int) de_int (nomark _)))) (fun _ _ _ _ _ => (de_var 7))) (de_lst da_nil) (nomark _)) (dss_one (ds_ret de_bl)) dss_nil) (dss_cons (ds_for (passes_of rfl) rfl (di_rng1 (by rfl) T.z_range (da_cons (de_callB call_len act_len (by rfl) T.z_len PySem.boot_len (da_cons (de_var 1) da_nil)) da_nil)) (dg_name 3 sc__law_shares_right.nd) (dss_cons (ds_set 4 sc__law_shares_right.nd (de_tup (da_cons de_int (da_cons de_int da_nil)))) (dss_cons (ds_for (passes_of rfl) rfl (di_zip (by rfl) T.z_zip (da_cons (de_var 0) (da_cons (de_var 2) da_nil))) (dg_tup rfl (dgs_cons (dg_name 5 sc__law_shares_right.nd) (dgs_cons (dg_name 6 sc__law_shares_right.nd) dgs_nil))) (dss_one (ds_set 4 sc__law_shares_right.nd (de_fn h__law_plus hr (by first | decide | omega) hg0 (takes_of rfl rfl rfl rfl) (by rfl) (da_cons (de_var 4) (da_cons (de_fn h__law_times hr (by first | decide | omega) hg0 (takes_of rfl rfl rfl rfl) (by rfl) (da_cons (de_tup (da_cons (de_ix ix_seq act_ix (de_var 5) (de_var 3)) (da_cons de_int da_nil))) (da_cons (de_var 6) da_nil))) da_nil)))))) (dss_one (ds_if (dt_cmp (opr_ne hu1) act_ne (de_var 4) (de_tup (da_cons (de_ix ix_seq act_ix (de_var 1) (de_var 3)) (da_cons de_int da_nil))) (nomark _)) (dss_one (ds_ret de_bl)) dss_nil))))) (dss_one (ds_ret de_bl)))))
theorem sc__law_dot : FnScope ["_law_column", "_law_row", "_law_one", "_law_other"] ["_law_column", "_law_row"] (defScope s__law_dot) := ⟨rfl, rfl, rfl, by decide +kernel, rfl, by decide +kernel, by decide +kernel⟩
set_option maxHeartbeats 1000000 in
theorem ok__law_dot (T : Txt w K mg) : Has P w K mg base 1 "_law_dot" s__law_dot ["_law_column", "_law_row"] f__law_dot :=
  has_of (N := ["_law_column", "_law_row", "_law_one", "_law_other"]) (m := d__law_dot) T.d__law_dot sc__law_dot fun f cdv A outer s H E hr hg0 =>
    have hu1 : (A.deeper (PyProof.Rows.envOfC "_law_dot" (defScope s__law_dot) s.heap.objs.size f cdv)).units + 64 < cLine := hr.units
    have hu2 : (A.deeper (PyProof.Rows.envOfC "_law_dot" (defScope s__law_dot) s.heap.objs.size f cdv)).units + 66 < cLine := by have := hr.un; omega
    (dss_one (ds_ret (de_callB (cr_sum rfl) act_sum (by rfl) T.z_sum (by decide +kernel) (da_cons (de_lc [("_law_one", 2), ("_law_other", 3)] rfl sc__law_dot.nd (di_zip (by rfl) T.z_zip (da_cons (de_var 0) (da_cons (de_var 1) da_nil))) (blkOk_by (N := ["_law_column", "_law_row", "_law_one", "_law_other"]) (sc := defScope s__law_dot) (by decide +kernel)) (fun _ _ _ _ _ => (dg_tup rfl (dgs_cons (dg_name 2 sc__law_dot.nd) (dgs_cons (dg_name 3 sc__law_dot.nd) dgs_nil)))) (fun _ _ _ _ _ => dts_nil) (fun _ _ _ _ _ => (de_bin opr_mul act_mul (de_var 2) (de_var 3)))) da_nil))))
theorem sc__law_against_right : FnScope ["_law_cols", "_law_aim", "_law_item", "_law_one", "_law_column"] ["_law_cols", "_law_aim", "_law_item"] (defScope s__law_against_right) := ⟨rfl, rfl, rfl, by decide +kernel, rfl, by decide +kernel, by decide +kernel⟩
set_option maxHeartbeats 1000000 in
theorem ok__law_against_right (T : Txt w K mg) (h__law_is_whole : Has P w K mg base 1 "_law_is_whole" s__law_is_whole ["_law_item"] f__law_is_whole) (h__law_dot : Has P w K mg base 1 "_law_dot" s__law_dot ["_law_column", "_law_row"] f__law_dot) : Has P w K mg base 2 "_law_against_right" s__law_against_right ["_law_cols", "_law_aim", "_law_item"] f__law_against_right :=
  has_of (N := ["_law_cols", "_law_aim", "_law_item", "_law_one", "_law_column"]) (m := d__law_against_right) T.d__law_against_right sc__law_against_right fun f cdv A outer s H E hr hg0 =>
    have hu1 : (A.deeper (PyProof.Rows.envOfC "_law_against_right" (defScope s__law_against_right) s.heap.objs.size f cdv)).units + 64 < cLine := hr.units
    have hu2 : (A.deeper (PyProof.Rows.envOfC "_law_against_right" (defScope s__law_against_right) s.heap.objs.size f cdv)).units + 66 < cLine := by have := hr.un; omega
    (dss_cons (ds_if (PW.pt (dw_or (dt_not (dt_val (de_callB call_isi act_isi (by rfl) T.z_isinstance (by decide +kernel) (da_cons (de_var 2) (da_cons (de_ty (by rfl) T.z_list (by decide +kernel)) da_nil))))) (dw_or (dt_cmp (opr_ne hu1) act_ne (de_callB call_len act_len (by rfl) T.z_len PySem.boot_len (da_cons (de_var 2) da_nil)) (de_callB call_len act_len (by rfl) T.z_len PySem.boot_len (da_cons (de_var 1) da_nil)) (nomark _)) (dw_or1 (dt_cmp (opr_ne hu1) act_ne (de_lc [("_law_one", 3)] rfl sc__law_against_right.nd (di_list (de_var 2)) (blkOk_by (N := ["_law_cols", "_law_aim", "_law_item", "_law_one", "_law_column"]) (sc := defScope s__law_against_right) (by decide +kernel)) (fun _ _ _ _ _ => (dg_name 3 sc__law_against_right.nd)) (fun _ _ _ _ _ => (dts_one (dt_not (dt_val (de_fn h__law_is_whole hr (by first | decide | omega) hg0 takes_no (by rfl) (da_cons (de_var 3) da_nil)))))) (fun _ _ _ _ _ => (de_var 3))) (de_lst da_nil) (nomark _)))))) (dss_one (ds_ret de_bl)) dss_nil) (dss_one (ds_ret (de_and (de_cmp op_lt act_lt (de_fn h__law_dot hr (by first | decide | omega) hg0 (takes_of rfl rfl rfl rfl) (by rfl) (da_cons (de_var 1) (da_cons (de_var 2) da_nil))) de_int (nomark _)) (de_one (de_cmp (opr_eqZ hu1) act_eqZ (de_lc [("_law_column", 4)] rfl sc__law_against_right.nd (di_list (de_var 0)) (blkOk_by (N := ["_law_cols", "_law_aim", "_law_item", "_law_one", "_law_column"]) (sc := defScope s__law_against_right) (by decide +kernel)) (fun _ _ _ _ _ => (dg_name 4 sc__law_against_right.nd)) (fun _ _ _ _ _ => (dts_one (dt_cmp op_lt act_lt (de_fn h__law_dot hr (by first | decide | omega) hg0 takes_no (by rfl) (da_cons (de_var 4) (da_cons (de_var 2) da_nil))) de_int (nomark _)))) (fun _ _ _ _ _ => (de_var 4))) (de_lst da_nil) (nomark _)))))))
theorem sc__law_is_balance : FnScope ["_law_cols", "_law_aim", "_law_item"] ["_law_cols", "_law_aim", "_law_item"] (defScope s__law_is_balance) := ⟨rfl, rfl, rfl, by decide +kernel, rfl, by decide +kernel, by decide +kernel⟩
set_option maxHeartbeats 1000000 in
theorem ok__law_is_balance (T : Txt w K mg) (h__law_shares_right : Has P w K mg base 3 "_law_shares_right" s__law_shares_right ["_law_cols", "_law_aim", "_law_item"] f__law_shares_right) (h__law_against_right : Has P w K mg base 2 "_law_against_right" s__law_against_right ["_law_cols", "_law_aim", "_law_item"] f__law_against_right) : Has P w K mg base 4 "_law_is_balance" s__law_is_balance ["_law_cols", "_law_aim", "_law_item"] f__law_is_balance :=
  has_of (N := ["_law_cols", "_law_aim", "_law_item"]) (m := d__law_is_balance) T.d__law_is_balance sc__law_is_balance fun f cdv A outer s H E hr hg0 =>
    have hu1 : (A.deeper (PyProof.Rows.envOfC "_law_is_balance" (defScope s__law_is_balance) s.heap.objs.size f cdv)).units + 64 < cLine := hr.units
    have hu2 : (A.deeper (PyProof.Rows.envOfC "_law_is_balance" (defScope s__law_is_balance) s.heap.objs.size f cdv)).units + 66 < cLine := by have := hr.un; omega
    (dss_cons (ds_if (PW.pt (dw_or (dt_not (dt_val (de_callB call_isi act_isi (by rfl) T.z_isinstance (by decide +kernel) (da_cons (de_var 2) (da_cons (de_ty (by rfl) T.z_tuple (by decide +kernel)) da_nil))))) (dw_or (dt_cmp (opr_ne hu1) act_ne (de_callB call_len act_len (by rfl) T.z_len PySem.boot_len (da_cons (de_var 2) da_nil)) de_int (nomark _)) (dw_or1 (dt_not (dt_val (de_callB call_isi act_isi (by rfl) T.z_isinstance (by decide +kernel) (da_cons (de_ix ix_seq act_ix (de_var 2) de_int) (da_cons (de_ty (by rfl) T.z_str (by decide +kernel)) da_nil))))))))) (dss_one (ds_ret de_bl)) dss_nil) (dss_cons (ds_if (dt_cmp (opr_eq hu1) act_eq (de_ix ix_seq act_ix (de_var 2) de_int) de_str (nomark _)) (dss_one (ds_ret (de_fn h__law_shares_right hr (by first | decide | omega) hg0 (takes_of rfl rfl rfl rfl) (by rfl) (da_cons (de_var 0) (da_cons (de_var 1) (da_cons (de_ix ix_seq act_ix (de_var 2) de_int) da_nil)))))) dss_nil) (dss_one (ds_ret (de_and (de_cmp (opr_eq hu1) act_eq (de_ix ix_seq act_ix (de_var 2) de_int) de_str (nomark _)) (de_one (de_fn h__law_against_right hr (by first | decide | omega) hg0 (takes_of rfl rfl rfl rfl) (by rfl) (da_cons (de_var 0) (da_cons (de_var 1) (da_cons (de_ix ix_seq act_ix (de_var 2) de_int) da_nil))))))))))
theorem sc__law_right : FnScope ["_law_cols", "_law_aim", "_law_due", "_law_told"] ["_law_cols", "_law_aim", "_law_due"] (defScope s__law_right) := ⟨rfl, rfl, rfl, by decide +kernel, rfl, by decide +kernel, by decide +kernel⟩
set_option maxHeartbeats 1000000 in
theorem ok__law_right (T : Txt w K mg) (h_balance : Has P w K mg base 4 "balance" s_balance ["columns", "goal"] f_balance) (h_lets_balance : Has P w K mg base 5 "lets_balance" s_lets_balance ["columns", "goal", "thing"] f_lets_balance) (h__law_is_balance : Has P w K mg base 4 "_law_is_balance" s__law_is_balance ["_law_cols", "_law_aim", "_law_item"] f__law_is_balance) : Has P w K mg base 6 "_law_right" s__law_right ["_law_cols", "_law_aim", "_law_due"] f__law_right :=
  has_of (N := ["_law_cols", "_law_aim", "_law_due", "_law_told"]) (m := d__law_right) T.d__law_right sc__law_right fun f cdv A outer s H E hr hg0 =>
    have hu1 : (A.deeper (PyProof.Rows.envOfC "_law_right" (defScope s__law_right) s.heap.objs.size f cdv)).units + 64 < cLine := hr.units
    have hu2 : (A.deeper (PyProof.Rows.envOfC "_law_right" (defScope s__law_right) s.heap.objs.size f cdv)).units + 66 < cLine := by have := hr.un; omega
    (dss_cons (ds_set 3 sc__law_right.nd (de_fn h_balance hr (by first | decide | omega) hg0 (takes_of rfl rfl rfl rfl) (by rfl) (da_cons (de_var 0) (da_cons (de_var 1) da_nil)))) (dss_cons (ds_if (PW.pt (dw_or (dt_not (dt_val (de_fn h__law_is_balance hr (by first | decide | omega) hg0 (takes_of rfl rfl rfl rfl) (by rfl) (da_cons (de_var 0) (da_cons (de_var 1) (da_cons (de_var 3) da_nil)))))) (dw_or1 (dt_cmp op_notBl act_notB (de_fn h_lets_balance hr (by first | decide | omega) hg0 (takes_of rfl rfl rfl rfl) (by rfl) (da_cons (de_var 0) (da_cons (de_var 1) (da_cons (de_var 3) da_nil)))) de_bl (nomark _))))) (dss_one (ds_ret de_bl)) dss_nil) (dss_one (ds_ret (de_or (de_cmp op_isN act_isN (de_var 2) de_non (nomark _)) (de_one (de_cmp (opr_eq hu1) act_eq (de_ix ix_seq act_ix (de_var 3) de_int) (de_var 2) (nomark _))))))))
theorem sc__law_chain : FnScope ["_law_places", "_law_cols", "_law_k", "_law_row", "_law_one"] ["_law_places"] (defScope s__law_chain) := ⟨rfl, rfl, rfl, by decide +kernel, rfl, by decide +kernel, by decide +kernel⟩
set_option maxHeartbeats 1000000 in
theorem ok__law_chain (T : Txt w K mg) : Has P w K mg base 1 "_law_chain" s__law_chain ["_law_places"] f__law_chain :=
  has_of (N := ["_law_places", "_law_cols", "_law_k", "_law_row", "_law_one"]) (m := d__law_chain) T.d__law_chain sc__law_chain fun f cdv A outer s H E hr hg0 =>
    have hu1 : (A.deeper (PyProof.Rows.envOfC "_law_chain" (defScope s__law_chain) s.heap.objs.size f cdv)).units + 64 < cLine := hr.units
    have hu2 : (A.deeper (PyProof.Rows.envOfC "_law_chain" (defScope s__law_chain) s.heap.objs.size f cdv)).units + 66 < cLine := by have := hr.un; omega
    (dss_cons (ds_set 1 sc__law_chain.nd (de_lst da_nil)) (dss_cons (ds_for (passes_of rfl) rfl (di_rng1 (by rfl) T.z_range (da_cons (de_bin op_sub act_sub (de_var 0) de_int) da_nil)) (dg_name 2 sc__law_chain.nd) (dss_cons (ds_set 3 sc__law_chain.nd (de_bin opr_add act_add (de_bin opr_add act_add (de_bin opr_mul act_mul (de_lst (da_cons de_int da_nil)) (de_var 2)) (de_lst (da_cons (de_un un_neg act_neg de_int) (da_cons de_int da_nil)))) (de_bin opr_mul act_mul (de_lst (da_cons de_int da_nil)) (de_bin op_sub act_sub (de_bin op_sub act_sub (de_var 0) de_int) (de_var 2))))) (dss_one (ds_set 1 sc__law_chain.nd (de_bin opr_add act_add (de_var 1) (de_lst (da_cons (de_lc [("_law_one", 4)] rfl sc__law_chain.nd (di_list (de_var 3)) (blkOk_by (N := ["_law_places", "_law_cols", "_law_k", "_law_row", "_law_one"]) (sc := defScope s__law_chain) (by decide +kernel)) (fun _ _ _ _ _ => (dg_name 4 sc__law_chain.nd)) (fun _ _ _ _ _ => dts_nil) (fun _ _ _ _ _ => (de_bin op_sub act_sub de_int (de_var 4)))) (da_cons (de_var 3) da_nil)))))))) (dss_one (ds_ret (de_tup (da_cons (de_var 1) (da_cons (de_bin opr_add act_add (de_bin opr_add act_add (de_lst (da_cons (de_un un_neg act_neg de_int) da_nil)) (de_bin opr_mul act_mul (de_lst (da_cons de_int da_nil)) (de_bin op_sub act_sub (de_var 0) de_int))) (de_lst (da_cons de_int da_nil))) da_nil)))))))
theorem sc__law_bounds_right : FnScope ["_law_far", "_law_cols", "_law_aim"] [] (defScope s__law_bounds_right) := ⟨rfl, rfl, rfl, by decide +kernel, rfl, by decide +kernel, by decide +kernel⟩
set_option maxHeartbeats 1000000 in
theorem ok__law_bounds_right (T : Txt w K mg) (h__law_right : Has P w K mg base 6 "_law_right" s__law_right ["_law_cols", "_law_aim", "_law_due"] f__law_right) (h__law_chain : Has P w K mg base 1 "_law_chain" s__law_chain ["_law_places"] f__law_chain) : Has P w K mg base 7 "_law_bounds_right" s__law_bounds_right [] f__law_bounds_right :=
  has_of (N := ["_law_far", "_law_cols", "_law_aim"]) (m := d__law_bounds_right) T.d__law_bounds_right sc__law_bounds_right fun f cdv A outer s H E hr hg0 =>
    have hu1 : (A.deeper (PyProof.Rows.envOfC "_law_bounds_right" (defScope s__law_bounds_right) s.heap.objs.size f cdv)).units + 64 < cLine := hr.units
    have hu2 : (A.deeper (PyProof.Rows.envOfC "_law_bounds_right" (defScope s__law_bounds_right) s.heap.objs.size f cdv)).units + 66 < cLine := by have := hr.un; omega
    (dss_cons (ds_asg (de_fn h__law_chain hr (by first | decide | omega) hg0 (takes_of rfl rfl rfl rfl) (by rfl) (da_cons de_int da_nil)) (dg_tup rfl (dgs_cons (dg_name 1 sc__law_bounds_right.nd) (dgs_cons (dg_name 2 sc__law_bounds_right.nd) dgs_nil)))) (dss_cons (ds_if (PW.pt (dw_or (dt_not (dt_val (de_fn h__law_right hr (by first | decide | omega) hg0 (takes_of rfl rfl rfl rfl) (by rfl) (da_cons (de_var 1) (da_cons (de_var 2) (da_cons de_str da_nil)))))) (dw_or1 (dt_not (dt_val (de_fn h__law_right hr (by first | decide | omega) hg0 (takes_of rfl rfl rfl rfl) (by rfl) (da_cons (de_bin opr_add act_add (de_slice slr_all act_sl (de_var 1) do_none (do_some de_int)) (de_slice slr_all act_sl (de_var 1) (do_some de_int) do_none)) (da_cons (de_var 2) (da_cons de_str da_nil))))))))) (dss_one (ds_ret de_bl)) dss_nil) (dss_cons (ds_if (PW.pt (dw_or (dt_not (dt_val (de_fn h__law_right hr (by first | decide | omega) hg0 (takes_of rfl rfl rfl rfl) (by rfl) (da_cons (de_bin opr_add act_add (de_bin opr_mul act_mul (de_lst (da_cons (de_lst (da_cons de_int (da_cons de_int da_nil))) da_nil)) de_int) (de_lst (da_cons (de_lst (da_cons de_int (da_cons de_int da_nil))) da_nil))) (da_cons (de_lst (da_cons de_int (da_cons de_int da_nil))) (da_cons de_str da_nil)))))) (dw_or1 (dt_not (dt_val (de_fn h__law_right hr (by first | decide | omega) hg0 (takes_of rfl rfl rfl rfl) (by rfl) (da_cons (de_lst (da_cons (de_bin opr_mul act_mul (de_lst (da_cons de_int da_nil)) de_int) da_nil)) (da_cons (de_bin opr_mul act_mul (de_lst (da_cons de_int da_nil)) de_int) (da_cons de_str da_nil))))))))) (dss_one (ds_ret de_bl)) dss_nil) (dss_cons (ds_if (dt_not (dt_val (de_fn h__law_right hr (by first | decide | omega) hg0 (takes_of rfl rfl rfl rfl) (by rfl) (da_cons (de_lst (da_cons (de_bin opr_mul act_mul (de_lst (da_cons de_int da_nil)) de_int) da_nil)) (da_cons (de_bin opr_add act_add (de_bin opr_mul act_mul (de_lst (da_cons de_int da_nil)) de_int) (de_lst (da_cons de_int da_nil))) (da_cons de_str da_nil)))))) (dss_one (ds_ret de_bl)) dss_nil) (dss_cons (ds_set 0 sc__law_bounds_right.nd (de_bin op_pow act_pow de_int de_int)) (dss_cons (ds_if (dt_not (dt_val (de_fn h__law_right hr (by first | decide | omega) hg0 (takes_of rfl rfl rfl rfl) (by rfl) (da_cons (de_lst (da_cons (de_lst (da_cons (de_bin opr_add act_add (de_var 0) de_int) (da_cons (de_var 0) da_nil))) (da_cons (de_lst (da_cons (de_bin op_sub act_sub de_int (de_var 0)) (da_cons (de_bin op_sub act_sub de_int (de_var 0)) da_nil))) da_nil))) (da_cons (de_lst (da_cons de_int (da_cons de_int da_nil))) (da_cons de_str da_nil)))))) (dss_one (ds_ret de_bl)) dss_nil) (dss_one (ds_ret (de_fn h__law_right hr (by first | decide | omega) hg0 (takes_of rfl rfl rfl rfl) (by rfl) (da_cons (de_lst (da_cons (de_lst (da_cons (de_bin opr_add act_add (de_var 0) de_int) (da_cons (de_var 0) da_nil))) (da_cons (de_lst (da_cons (de_var 0) (da_cons (de_bin op_sub act_sub (de_var 0) de_int) da_nil))) da_nil))) (da_cons (de_lst (da_cons de_int (da_cons de_int da_nil))) (da_cons de_str da_nil))))))))))))
theorem sc_law : FnScope ["_law_script", "_law_cols", "_law_k", "_law_aim", "_law_due"] ["_law_script"] (defScope s_law) := ⟨rfl, rfl, rfl, by decide +kernel, rfl, by decide +kernel, by decide +kernel⟩
set_option maxHeartbeats 1000000 in
theorem ok_law (T : Txt w K mg) (h__law_pool : Has P w K mg base 1 "_law_pool" s__law_pool ["_law_script", "_law_k"] f__law_pool) (h__law_flat : Has P w K mg base 2 "_law_flat" s__law_flat ["_law_pool_here"] f__law_flat) (h__law_round_columns : Has P w K mg base 1 "_law_round_columns" s__law_round_columns [] f__law_round_columns) (h__law_right : Has P w K mg base 6 "_law_right" s__law_right ["_law_cols", "_law_aim", "_law_due"] f__law_right) (h__law_bounds_right : Has P w K mg base 7 "_law_bounds_right" s__law_bounds_right [] f__law_bounds_right) : Has P w K mg base 8 "law" s_law ["_law_script"] f_law :=
  has_of (N := ["_law_script", "_law_cols", "_law_k", "_law_aim", "_law_due"]) (m := d_law) T.d_law sc_law fun f cdv A outer s H E hr hg0 =>
    have hu1 : (A.deeper (PyProof.Rows.envOfC "law" (defScope s_law) s.heap.objs.size f cdv)).units + 64 < cLine := hr.units
    have hu2 : (A.deeper (PyProof.Rows.envOfC "law" (defScope s_law) s.heap.objs.size f cdv)).units + 66 < cLine := by have := hr.un; omega
    (dss_cons (ds_set 1 sc_law.nd (de_fn0 h__law_round_columns hr (by first | decide | omega) hg0 (takes_of rfl rfl rfl rfl) (by rfl))) (dss_cons (ds_if (PW.pt (dw_or (dt_not (dt_val (de_fn h__law_right hr (by first | decide | omega) hg0 (takes_of rfl rfl rfl rfl) (by rfl) (da_cons (de_var 1) (da_cons (de_lst (da_cons de_int (da_cons de_int (da_cons de_int (da_cons de_int da_nil))))) (da_cons de_str da_nil)))))) (dw_or1 (dt_not (dt_val (de_fn h__law_right hr (by first | decide | omega) hg0 (takes_of rfl rfl rfl rfl) (by rfl) (da_cons (de_var 1) (da_cons (de_lst (da_cons de_int (da_cons de_int (da_cons de_int (da_cons de_int da_nil))))) (da_cons de_str da_nil))))))))) (dss_one (ds_ret de_bl)) dss_nil) (dss_cons (ds_if (PW.pt (dw_or (dt_not (dt_val (de_fn h__law_right hr (by first | decide | omega) hg0 (takes_of rfl rfl rfl rfl) (by rfl) (da_cons (de_bin opr_mul act_mul (de_lst (da_cons (de_lst (da_cons de_int (da_cons de_int da_nil))) da_nil)) de_int) (da_cons (de_lst (da_cons de_int (da_cons de_int da_nil))) (da_cons de_str da_nil)))))) (dw_or1 (dt_not (dt_val (de_fn h__law_right hr (by first | decide | omega) hg0 (takes_of rfl rfl rfl rfl) (by rfl) (da_cons (de_bin opr_mul act_mul (de_lst (da_cons (de_lst (da_cons de_int (da_cons de_int da_nil))) da_nil)) de_int) (da_cons (de_lst (da_cons de_int (da_cons de_int da_nil))) (da_cons de_str da_nil))))))))) (dss_one (ds_ret de_bl)) dss_nil) (dss_cons (ds_if (PW.pt (dw_or (dt_not (dt_val (de_fn h__law_right hr (by first | decide | omega) hg0 (takes_of rfl rfl rfl rfl) (by rfl) (da_cons (de_lst (da_cons (de_lst (da_cons de_int da_nil)) (da_cons (de_lst (da_cons (de_un un_neg act_neg de_int) da_nil)) da_nil))) (da_cons (de_lst (da_cons (de_un un_neg act_neg de_int) da_nil)) (da_cons de_str da_nil)))))) (dw_or1 (dt_not (dt_val (de_fn h__law_right hr (by first | decide | omega) hg0 (takes_of rfl rfl rfl rfl) (by rfl) (da_cons (de_bin opr_mul act_mul (de_lst (da_cons (de_lst (da_cons de_int (da_cons de_int da_nil))) da_nil)) de_int) (da_cons (de_lst (da_cons de_int (da_cons de_int da_nil))) (da_cons de_str da_nil))))))))) (dss_one (ds_ret de_bl)) dss_nil) (dss_cons (ds_if (dt_not (dt_val (de_fn h__law_right hr (by first | decide | omega) hg0 (takes_of rfl rfl rfl rfl) (by rfl) (da_cons (de_bin opr_add act_add (de_bin opr_mul act_mul (de_lst (da_cons (de_lst (da_cons de_int (da_cons de_int da_nil))) da_nil)) de_int) (de_lst (da_cons (de_lst (da_cons de_int (da_cons de_int da_nil))) (da_cons (de_lst (da_cons de_int (da_cons de_int da_nil))) da_nil)))) (da_cons (de_lst (da_cons de_int (da_cons de_int da_nil))) (da_cons de_str da_nil)))))) (dss_one (ds_ret de_bl)) dss_nil) (dss_cons (ds_if (PW.pt (dw_or (dt_not (dt_val (de_fn h__law_right hr (by first | decide | omega) hg0 (takes_of rfl rfl rfl rfl) (by rfl) (da_cons (de_bin opr_mul act_mul (de_lst (da_cons (de_lst (da_cons de_int (da_cons de_int da_nil))) da_nil)) de_int) (da_cons (de_lst (da_cons (de_un un_neg act_neg de_int) (da_cons (de_un un_neg act_neg de_int) da_nil))) (da_cons de_str da_nil)))))) (dw_or1 (dt_not (dt_val (de_fn h__law_right hr (by first | decide | omega) hg0 (takes_of rfl rfl rfl rfl) (by rfl) (da_cons (de_bin opr_mul act_mul (de_lst (da_cons (de_lst (da_cons de_int (da_cons de_int da_nil))) da_nil)) de_int) (da_cons (de_lst (da_cons de_int (da_cons de_int da_nil))) (da_cons de_str da_nil))))))))) (dss_one (ds_ret de_bl)) dss_nil) (dss_cons (ds_if (dt_not (dt_val (de_fn0 h__law_bounds_right hr (by first | decide | omega) hg0 (takes_of rfl rfl rfl rfl) (by rfl)))) (dss_one (ds_ret de_bl)) dss_nil) (dss_cons (ds_for (passes_of rfl) rfl (di_rng1 (by rfl) T.z_range (da_cons (de_callB (call_max2 rfl) act_max2 (by rfl) T.z_max (by decide +kernel) (da_cons de_int (da_cons (de_callB (call_min2 rfl) act_min2 (by rfl) T.z_min (by decide +kernel) (da_cons (de_callB call_len act_len (by rfl) T.z_len PySem.boot_len (da_cons (de_var 0) da_nil)) (da_cons de_int da_nil))) da_nil))) da_nil)) (dg_name 2 sc_law.nd) (dss_cons (ds_asg (de_fn h__law_flat hr (by first | decide | omega) hg0 (takes_of rfl rfl rfl rfl) (by rfl) (da_cons (de_fn h__law_pool hr (by first | decide | omega) hg0 (takes_of rfl rfl rfl rfl) (by rfl) (da_cons (de_var 0) (da_cons (de_var 2) da_nil))) da_nil)) (dg_tup rfl (dgs_cons (dg_name 1 sc_law.nd) (dgs_cons (dg_name 3 sc_law.nd) (dgs_cons (dg_name 4 sc_law.nd) dgs_nil))))) (dss_one (ds_if (dt_not (dt_val (de_fn h__law_right hr (by first | decide | omega) hg0 (takes_of rfl rfl rfl rfl) (by rfl) (da_cons (de_var 1) (da_cons (de_var 3) (da_cons (de_var 4) da_nil)))))) (dss_one (ds_ret de_bl)) dss_nil)))) (dss_one (ds_ret de_bl))))))))))
theorem all_ok (T : Txt w K mg) : Has P w K mg base 8 "law" s_law ["_law_script"] f_law :=
  have h__law_pool := ok__law_pool (P := P) (w := w) (base := base) T
  have h__law_take := ok__law_take (P := P) (w := w) (base := base) T
  have h__law_flat := ok__law_flat (P := P) (w := w) (base := base) T h__law_take
  have h__law_round_columns := ok__law_round_columns (P := P) (w := w) (base := base) T
  have h_Board_m___init__ := ok_Board_m___init__ (P := P) (w := w) (base := base) T
  have h_Board_m_wanted := ok_Board_m_wanted (P := P) (w := w) (base := base) T
  have h_Board_m_leaving := ok_Board_m_leaving (P := P) (w := w) (base := base) T
  have h_Board_m_turn := ok_Board_m_turn (P := P) (w := w) (base := base) T
  have h_Board_m_settle := ok_Board_m_settle (P := P) (w := w) (base := base) T h_Board_m_wanted h_Board_m_leaving h_Board_m_turn
  have h_shared_by := ok_shared_by (P := P) (w := w) (base := base) T
  have h_lowest := ok_lowest (P := P) (w := w) (base := base) T h_shared_by
  have h_Board_m_shares := ok_Board_m_shares (P := P) (w := w) (base := base) T h_lowest
  have h_Board_m_against := ok_Board_m_against (P := P) (w := w) (base := base) T h_shared_by
  have h_balance := ok_balance (P := P) (w := w) (base := base) T h_Board_m___init__ h_Board_m_settle h_Board_m_shares h_Board_m_against
  have h_is_whole := ok_is_whole (P := P) (w := w) (base := base) T
  have h_is_fraction := ok_is_fraction (P := P) (w := w) (base := base) T h_shared_by h_is_whole
  have h_plus := ok_plus (P := P) (w := w) (base := base) T h_lowest
  have h_times := ok_times (P := P) (w := w) (base := base) T h_lowest
  have h_come_to := ok_come_to (P := P) (w := w) (base := base) T h_is_fraction h_plus h_times
  have h_comes_to := ok_comes_to (P := P) (w := w) (base := base) T
  have h_are_against := ok_are_against (P := P) (w := w) (base := base) T h_is_whole h_comes_to
  have h_lets_balance := ok_lets_balance (P := P) (w := w) (base := base) T h_come_to h_are_against
  have h__law_low := ok__law_low (P := P) (w := w) (base := base) T
  have h__law_plus := ok__law_plus (P := P) (w := w) (base := base) T h__law_low
  have h__law_times := ok__law_times (P := P) (w := w) (base := base) T h__law_low
  have h__law_is_whole := ok__law_is_whole (P := P) (w := w) (base := base) T
  have h__law_is_fraction := ok__law_is_fraction (P := P) (w := w) (base := base) T h__law_low h__law_is_whole
  have h__law_shares_right := ok__law_shares_right (P := P) (w := w) (base := base) T h__law_plus h__law_times h__law_is_fraction
  have h__law_dot := ok__law_dot (P := P) (w := w) (base := base) T
  have h__law_against_right := ok__law_against_right (P := P) (w := w) (base := base) T h__law_is_whole h__law_dot
  have h__law_is_balance := ok__law_is_balance (P := P) (w := w) (base := base) T h__law_shares_right h__law_against_right
  have h__law_right := ok__law_right (P := P) (w := w) (base := base) T h_balance h_lets_balance h__law_is_balance
  have h__law_chain := ok__law_chain (P := P) (w := w) (base := base) T
  have h__law_bounds_right := ok__law_bounds_right (P := P) (w := w) (base := base) T h__law_right h__law_chain
  ok_law T h__law_pool h__law_flat h__law_round_columns h__law_right h__law_bounds_right
end
set_option maxHeartbeats 4000000 in
theorem all_mk {l : PySem.W.OpenLaw} {w : World} {K : PySem.W.Frag} {h : Heap} {mg : Str → Option Value} {fa : Addr} (X : K.In h) (G : h.Ns mainGlobals mg) (hfa : mg "law" = some (.ref fa))
    {O_Board : Addr}
    {f0 : Addr} {od0 an0 : Option Addr} {sl0 : Array (Option Value)} {oc0 kV0 dc0 pm0 cd0 ct0 : Value}
    {f1 : Addr} {od1 an1 : Option Addr} {sl1 : Array (Option Value)} {oc1 kV1 dc1 pm1 cd1 ct1 : Value}
    {f2 : Addr} {od2 an2 : Option Addr} {sl2 : Array (Option Value)} {oc2 kV2 dc2 pm2 cd2 ct2 : Value}
    {f3 : Addr} {od3 an3 : Option Addr} {sl3 : Array (Option Value)} {oc3 kV3 dc3 pm3 cd3 ct3 : Value}
    {f4 : Addr} {od4 an4 : Option Addr} {sl4 : Array (Option Value)} {oc4 kV4 dc4 pm4 cd4 ct4 : Value}
    {f5 : Addr} {od5 an5 : Option Addr} {sl5 : Array (Option Value)} {oc5 kV5 dc5 pm5 cd5 ct5 : Value}
    {f6 : Addr} {od6 an6 : Option Addr} {sl6 : Array (Option Value)} {oc6 kV6 dc6 pm6 cd6 ct6 : Value}
    {f7 : Addr} {od7 an7 : Option Addr} {sl7 : Array (Option Value)} {oc7 kV7 dc7 pm7 cd7 ct7 : Value}
    {f8 : Addr} {od8 an8 : Option Addr} {sl8 : Array (Option Value)} {oc8 kV8 dc8 pm8 cd8 ct8 : Value}
    {f9 : Addr} {od9 an9 : Option Addr} {sl9 : Array (Option Value)} {oc9 kV9 dc9 pm9 cd9 ct9 : Value}
    {f10 : Addr} {od10 an10 : Option Addr} {sl10 : Array (Option Value)} {oc10 kV10 dc10 pm10 cd10 ct10 : Value}
    {f11 : Addr} {od11 an11 : Option Addr} {sl11 : Array (Option Value)} {oc11 kV11 dc11 pm11 cd11 ct11 : Value}
    {f12 : Addr} {od12 an12 : Option Addr} {sl12 : Array (Option Value)} {oc12 kV12 dc12 pm12 cd12 ct12 : Value}
    {f13 : Addr} {od13 an13 : Option Addr} {sl13 : Array (Option Value)} {oc13 kV13 dc13 pm13 cd13 ct13 : Value}
    {f14 : Addr} {od14 an14 : Option Addr} {sl14 : Array (Option Value)} {oc14 kV14 dc14 pm14 cd14 ct14 : Value}
    {f15 : Addr} {od15 an15 : Option Addr} {sl15 : Array (Option Value)} {oc15 kV15 dc15 pm15 cd15 ct15 : Value}
    {f16 : Addr} {od16 an16 : Option Addr} {sl16 : Array (Option Value)} {oc16 kV16 dc16 pm16 cd16 ct16 : Value}
    {f17 : Addr} {od17 an17 : Option Addr} {sl17 : Array (Option Value)} {oc17 kV17 dc17 pm17 cd17 ct17 : Value}
    {f18 : Addr} {od18 an18 : Option Addr} {sl18 : Array (Option Value)} {oc18 kV18 dc18 pm18 cd18 ct18 : Value}
    {f19 : Addr} {od19 an19 : Option Addr} {sl19 : Array (Option Value)} {oc19 kV19 dc19 pm19 cd19 ct19 : Value}
    {f20 : Addr} {od20 an20 : Option Addr} {sl20 : Array (Option Value)} {oc20 kV20 dc20 pm20 cd20 ct20 : Value}
    {f21 : Addr} {od21 an21 : Option Addr} {sl21 : Array (Option Value)} {oc21 kV21 dc21 pm21 cd21 ct21 : Value}
    {f22 : Addr} {od22 an22 : Option Addr} {sl22 : Array (Option Value)} {oc22 kV22 dc22 pm22 cd22 ct22 : Value}
    {f23 : Addr} {od23 an23 : Option Addr} {sl23 : Array (Option Value)} {oc23 kV23 dc23 pm23 cd23 ct23 : Value}
    {f24 : Addr} {od24 an24 : Option Addr} {sl24 : Array (Option Value)} {oc24 kV24 dc24 pm24 cd24 ct24 : Value}
    {f25 : Addr} {od25 an25 : Option Addr} {sl25 : Array (Option Value)} {oc25 kV25 dc25 pm25 cd25 ct25 : Value}
    {f26 : Addr} {od26 an26 : Option Addr} {sl26 : Array (Option Value)} {oc26 kV26 dc26 pm26 cd26 ct26 : Value}
    {f27 : Addr} {od27 an27 : Option Addr} {sl27 : Array (Option Value)} {oc27 kV27 dc27 pm27 cd27 ct27 : Value}
    {f28 : Addr} {od28 an28 : Option Addr} {sl28 : Array (Option Value)} {oc28 kV28 dc28 pm28 cd28 ct28 : Value}
    {f29 : Addr} {od29 an29 : Option Addr} {sl29 : Array (Option Value)} {oc29 kV29 dc29 pm29 cd29 ct29 : Value}
    {f30 : Addr} {od30 an30 : Option Addr} {sl30 : Array (Option Value)} {oc30 kV30 dc30 pm30 cd30 ct30 : Value}
    {f31 : Addr} {od31 an31 : Option Addr} {sl31 : Array (Option Value)} {oc31 kV31 dc31 pm31 cd31 ct31 : Value}
    {f32 : Addr} {od32 an32 : Option Addr} {sl32 : Array (Option Value)} {oc32 kV32 dc32 pm32 cd32 ct32 : Value}
    {f33 : Addr} {od33 an33 : Option Addr} {sl33 : Array (Option Value)} {oc33 kV33 dc33 pm33 cd33 ct33 : Value}
    {f34 : Addr} {od34 an34 : Option Addr} {sl34 : Array (Option Value)} {oc34 kV34 dc34 pm34 cd34 ct34 : Value}
    {ta0 : Addr} {tl0 : Option Addr} {tn0 : Nat} {ts0 : Array (Option Value)} {tt0_0 : Tok} {tt0_1 : Tok}
    (oG_Board : PySem.W.nsIn K mainGlobals "Board" = some (some (.ref O_Board)))
    (oP_Board : PySem.W.plainGet K O_Board Str.empty = true)
    (oD_Board : PySem.W.hasDictIn K O_Board = true)
    (oO_Board : PySem.W.plainOver K O_Board = true)
    (oS_Board : PySem.W.findIn K (.ref O_Board) "__setattr__" = some (some (.builtin "object.__setattr__")))
    (oM_Board : PySem.W.makesIn K O_Board = true)
    (oK_Board : PySem.W.keepIn K (.ref O_Board) = true)
    (oN_Board_basis : PySem.W.findIn K (.ref O_Board) "basis" = some none)
    (oN_Board_bottom : PySem.W.findIn K (.ref O_Board) "bottom" = some none)
    (oN_Board_left : PySem.W.findIn K (.ref O_Board) "left" = some none)
    (oN_Board_many : PySem.W.findIn K (.ref O_Board) "many" = some none)
    (oN_Board_table : PySem.W.findIn K (.ref O_Board) "table" = some none)
    (oN_Board_turned : PySem.W.findIn K (.ref O_Board) "turned" = some none)
    (a0 : PySem.W.nsIn K mainGlobals "_law_pool" = some (some (.ref f0)))
    (l0 : K.lookup f0 = some ⟨oc0, od0, .func (PySem.W.fnOf "_law_pool" "_law_pool" (defArgs s__law_pool) (defBody s__law_pool) (defScope s__law_pool) .none kV0 dc0 pm0 an0 cd0 ct0), sl0⟩)
    (c0 : PySem.W.codeIn K cd0 "_law_pool" = true)
    (k0 : PySem.W.keepIn K (.ref f0) = true)
    (a1 : PySem.W.nsIn K mainGlobals "_law_take" = some (some (.ref f1)))
    (l1 : K.lookup f1 = some ⟨oc1, od1, .func (PySem.W.fnOf "_law_take" "_law_take" (defArgs s__law_take) (defBody s__law_take) (defScope s__law_take) .none kV1 dc1 pm1 an1 cd1 ct1), sl1⟩)
    (c1 : PySem.W.codeIn K cd1 "_law_take" = true)
    (k1 : PySem.W.keepIn K (.ref f1) = true)
    (a2 : PySem.W.nsIn K mainGlobals "_law_flat" = some (some (.ref f2)))
    (l2 : K.lookup f2 = some ⟨oc2, od2, .func (PySem.W.fnOf "_law_flat" "_law_flat" (defArgs s__law_flat) (defBody s__law_flat) (defScope s__law_flat) .none kV2 dc2 pm2 an2 cd2 ct2), sl2⟩)
    (c2 : PySem.W.codeIn K cd2 "_law_flat" = true)
    (k2 : PySem.W.keepIn K (.ref f2) = true)
    (a3 : PySem.W.nsIn K mainGlobals "_law_round_columns" = some (some (.ref f3)))
    (l3 : K.lookup f3 = some ⟨oc3, od3, .func (PySem.W.fnOf "_law_round_columns" "_law_round_columns" (defArgs s__law_round_columns) (defBody s__law_round_columns) (defScope s__law_round_columns) .none kV3 dc3 pm3 an3 cd3 ct3), sl3⟩)
    (c3 : PySem.W.codeIn K cd3 "_law_round_columns" = true)
    (k3 : PySem.W.keepIn K (.ref f3) = true)
    (a4 : PySem.W.findIn K (.ref O_Board) "__init__" = some (some (.ref f4)))
    (i4 : PySem.W.isFn K (.ref f4) = true)
    (l4 : K.lookup f4 = some ⟨oc4, od4, .func (PySem.W.fnOf "__init__" "Board.__init__" (defArgs s_Board_m___init__) (defBody s_Board_m___init__) (defScope s_Board_m___init__) .none kV4 dc4 pm4 an4 cd4 ct4), sl4⟩)
    (c4 : PySem.W.codeIn K cd4 "Board.__init__" = true)
    (k4 : PySem.W.keepIn K (.ref f4) = true)
    (a5 : PySem.W.findIn K (.ref O_Board) "wanted" = some (some (.ref f5)))
    (i5 : PySem.W.isFn K (.ref f5) = true)
    (l5 : K.lookup f5 = some ⟨oc5, od5, .func (PySem.W.fnOf "wanted" "Board.wanted" (defArgs s_Board_m_wanted) (defBody s_Board_m_wanted) (defScope s_Board_m_wanted) .none kV5 dc5 pm5 an5 cd5 ct5), sl5⟩)
    (c5 : PySem.W.codeIn K cd5 "Board.wanted" = true)
    (k5 : PySem.W.keepIn K (.ref f5) = true)
    (a6 : PySem.W.findIn K (.ref O_Board) "leaving" = some (some (.ref f6)))
    (i6 : PySem.W.isFn K (.ref f6) = true)
    (l6 : K.lookup f6 = some ⟨oc6, od6, .func (PySem.W.fnOf "leaving" "Board.leaving" (defArgs s_Board_m_leaving) (defBody s_Board_m_leaving) (defScope s_Board_m_leaving) .none kV6 dc6 pm6 an6 cd6 ct6), sl6⟩)
    (c6 : PySem.W.codeIn K cd6 "Board.leaving" = true)
    (k6 : PySem.W.keepIn K (.ref f6) = true)
    (a7 : PySem.W.findIn K (.ref O_Board) "turn" = some (some (.ref f7)))
    (i7 : PySem.W.isFn K (.ref f7) = true)
    (l7 : K.lookup f7 = some ⟨oc7, od7, .func (PySem.W.fnOf "turn" "Board.turn" (defArgs s_Board_m_turn) (defBody s_Board_m_turn) (defScope s_Board_m_turn) .none kV7 dc7 pm7 an7 cd7 ct7), sl7⟩)
    (c7 : PySem.W.codeIn K cd7 "Board.turn" = true)
    (k7 : PySem.W.keepIn K (.ref f7) = true)
    (a8 : PySem.W.findIn K (.ref O_Board) "settle" = some (some (.ref f8)))
    (i8 : PySem.W.isFn K (.ref f8) = true)
    (l8 : K.lookup f8 = some ⟨oc8, od8, .func (PySem.W.fnOf "settle" "Board.settle" (defArgs s_Board_m_settle) (defBody s_Board_m_settle) (defScope s_Board_m_settle) .none kV8 dc8 pm8 an8 cd8 ct8), sl8⟩)
    (c8 : PySem.W.codeIn K cd8 "Board.settle" = true)
    (k8 : PySem.W.keepIn K (.ref f8) = true)
    (a9 : PySem.W.nsIn K mainGlobals "shared_by" = some (some (.ref f9)))
    (l9 : K.lookup f9 = some ⟨oc9, od9, .func (PySem.W.fnOf "shared_by" "shared_by" (defArgs s_shared_by) (defBody s_shared_by) (defScope s_shared_by) .none kV9 dc9 pm9 an9 cd9 ct9), sl9⟩)
    (c9 : PySem.W.codeIn K cd9 "shared_by" = true)
    (k9 : PySem.W.keepIn K (.ref f9) = true)
    (a10 : PySem.W.nsIn K mainGlobals "lowest" = some (some (.ref f10)))
    (l10 : K.lookup f10 = some ⟨oc10, od10, .func (PySem.W.fnOf "lowest" "lowest" (defArgs s_lowest) (defBody s_lowest) (defScope s_lowest) .none kV10 dc10 pm10 an10 cd10 ct10), sl10⟩)
    (c10 : PySem.W.codeIn K cd10 "lowest" = true)
    (k10 : PySem.W.keepIn K (.ref f10) = true)
    (a11 : PySem.W.findIn K (.ref O_Board) "shares" = some (some (.ref f11)))
    (i11 : PySem.W.isFn K (.ref f11) = true)
    (l11 : K.lookup f11 = some ⟨oc11, od11, .func (PySem.W.fnOf "shares" "Board.shares" (defArgs s_Board_m_shares) (defBody s_Board_m_shares) (defScope s_Board_m_shares) .none kV11 dc11 pm11 an11 cd11 ct11), sl11⟩)
    (c11 : PySem.W.codeIn K cd11 "Board.shares" = true)
    (k11 : PySem.W.keepIn K (.ref f11) = true)
    (a12 : PySem.W.findIn K (.ref O_Board) "against" = some (some (.ref f12)))
    (i12 : PySem.W.isFn K (.ref f12) = true)
    (l12 : K.lookup f12 = some ⟨oc12, od12, .func (PySem.W.fnOf "against" "Board.against" (defArgs s_Board_m_against) (defBody s_Board_m_against) (defScope s_Board_m_against) .none kV12 dc12 pm12 an12 cd12 ct12), sl12⟩)
    (c12 : PySem.W.codeIn K cd12 "Board.against" = true)
    (k12 : PySem.W.keepIn K (.ref f12) = true)
    (a13 : PySem.W.nsIn K mainGlobals "balance" = some (some (.ref f13)))
    (l13 : K.lookup f13 = some ⟨oc13, od13, .func (PySem.W.fnOf "balance" "balance" (defArgs s_balance) (defBody s_balance) (defScope s_balance) .none kV13 dc13 pm13 an13 cd13 ct13), sl13⟩)
    (c13 : PySem.W.codeIn K cd13 "balance" = true)
    (k13 : PySem.W.keepIn K (.ref f13) = true)
    (a14 : PySem.W.nsIn K mainGlobals "is_whole" = some (some (.ref f14)))
    (l14 : K.lookup f14 = some ⟨oc14, od14, .func (PySem.W.fnOf "is_whole" "is_whole" (defArgs s_is_whole) (defBody s_is_whole) (defScope s_is_whole) .none kV14 dc14 pm14 an14 cd14 ct14), sl14⟩)
    (c14 : PySem.W.codeIn K cd14 "is_whole" = true)
    (k14 : PySem.W.keepIn K (.ref f14) = true)
    (a15 : PySem.W.nsIn K mainGlobals "is_fraction" = some (some (.ref f15)))
    (l15 : K.lookup f15 = some ⟨oc15, od15, .func (PySem.W.fnOf "is_fraction" "is_fraction" (defArgs s_is_fraction) (defBody s_is_fraction) (defScope s_is_fraction) .none kV15 dc15 pm15 an15 cd15 ct15), sl15⟩)
    (c15 : PySem.W.codeIn K cd15 "is_fraction" = true)
    (k15 : PySem.W.keepIn K (.ref f15) = true)
    (a16 : PySem.W.nsIn K mainGlobals "plus" = some (some (.ref f16)))
    (l16 : K.lookup f16 = some ⟨oc16, od16, .func (PySem.W.fnOf "plus" "plus" (defArgs s_plus) (defBody s_plus) (defScope s_plus) .none kV16 dc16 pm16 an16 cd16 ct16), sl16⟩)
    (c16 : PySem.W.codeIn K cd16 "plus" = true)
    (k16 : PySem.W.keepIn K (.ref f16) = true)
    (a17 : PySem.W.nsIn K mainGlobals "times" = some (some (.ref f17)))
    (l17 : K.lookup f17 = some ⟨oc17, od17, .func (PySem.W.fnOf "times" "times" (defArgs s_times) (defBody s_times) (defScope s_times) .none kV17 dc17 pm17 an17 cd17 ct17), sl17⟩)
    (c17 : PySem.W.codeIn K cd17 "times" = true)
    (k17 : PySem.W.keepIn K (.ref f17) = true)
    (a18 : PySem.W.nsIn K mainGlobals "come_to" = some (some (.ref f18)))
    (l18 : K.lookup f18 = some ⟨oc18, od18, .func (PySem.W.fnOf "come_to" "come_to" (defArgs s_come_to) (defBody s_come_to) (defScope s_come_to) .none kV18 dc18 pm18 an18 cd18 ct18), sl18⟩)
    (c18 : PySem.W.codeIn K cd18 "come_to" = true)
    (k18 : PySem.W.keepIn K (.ref f18) = true)
    (a19 : PySem.W.nsIn K mainGlobals "comes_to" = some (some (.ref f19)))
    (l19 : K.lookup f19 = some ⟨oc19, od19, .func (PySem.W.fnOf "comes_to" "comes_to" (defArgs s_comes_to) (defBody s_comes_to) (defScope s_comes_to) .none kV19 dc19 pm19 an19 cd19 ct19), sl19⟩)
    (c19 : PySem.W.codeIn K cd19 "comes_to" = true)
    (k19 : PySem.W.keepIn K (.ref f19) = true)
    (a20 : PySem.W.nsIn K mainGlobals "are_against" = some (some (.ref f20)))
    (l20 : K.lookup f20 = some ⟨oc20, od20, .func (PySem.W.fnOf "are_against" "are_against" (defArgs s_are_against) (defBody s_are_against) (defScope s_are_against) .none kV20 dc20 pm20 an20 cd20 ct20), sl20⟩)
    (c20 : PySem.W.codeIn K cd20 "are_against" = true)
    (k20 : PySem.W.keepIn K (.ref f20) = true)
    (a21 : PySem.W.nsIn K mainGlobals "lets_balance" = some (some (.ref f21)))
    (l21 : K.lookup f21 = some ⟨oc21, od21, .func (PySem.W.fnOf "lets_balance" "lets_balance" (defArgs s_lets_balance) (defBody s_lets_balance) (defScope s_lets_balance) .none kV21 dc21 pm21 an21 cd21 ct21), sl21⟩)
    (c21 : PySem.W.codeIn K cd21 "lets_balance" = true)
    (k21 : PySem.W.keepIn K (.ref f21) = true)
    (a22 : PySem.W.nsIn K mainGlobals "_law_low" = some (some (.ref f22)))
    (l22 : K.lookup f22 = some ⟨oc22, od22, .func (PySem.W.fnOf "_law_low" "_law_low" (defArgs s__law_low) (defBody s__law_low) (defScope s__law_low) .none kV22 dc22 pm22 an22 cd22 ct22), sl22⟩)
    (c22 : PySem.W.codeIn K cd22 "_law_low" = true)
    (k22 : PySem.W.keepIn K (.ref f22) = true)
    (a23 : PySem.W.nsIn K mainGlobals "_law_plus" = some (some (.ref f23)))
    (l23 : K.lookup f23 = some ⟨oc23, od23, .func (PySem.W.fnOf "_law_plus" "_law_plus" (defArgs s__law_plus) (defBody s__law_plus) (defScope s__law_plus) .none kV23 dc23 pm23 an23 cd23 ct23), sl23⟩)
    (c23 : PySem.W.codeIn K cd23 "_law_plus" = true)
    (k23 : PySem.W.keepIn K (.ref f23) = true)
    (a24 : PySem.W.nsIn K mainGlobals "_law_times" = some (some (.ref f24)))
    (l24 : K.lookup f24 = some ⟨oc24, od24, .func (PySem.W.fnOf "_law_times" "_law_times" (defArgs s__law_times) (defBody s__law_times) (defScope s__law_times) .none kV24 dc24 pm24 an24 cd24 ct24), sl24⟩)
    (c24 : PySem.W.codeIn K cd24 "_law_times" = true)
    (k24 : PySem.W.keepIn K (.ref f24) = true)
    (a25 : PySem.W.nsIn K mainGlobals "_law_is_whole" = some (some (.ref f25)))
    (l25 : K.lookup f25 = some ⟨oc25, od25, .func (PySem.W.fnOf "_law_is_whole" "_law_is_whole" (defArgs s__law_is_whole) (defBody s__law_is_whole) (defScope s__law_is_whole) .none kV25 dc25 pm25 an25 cd25 ct25), sl25⟩)
    (c25 : PySem.W.codeIn K cd25 "_law_is_whole" = true)
    (k25 : PySem.W.keepIn K (.ref f25) = true)
    (a26 : PySem.W.nsIn K mainGlobals "_law_is_fraction" = some (some (.ref f26)))
    (l26 : K.lookup f26 = some ⟨oc26, od26, .func (PySem.W.fnOf "_law_is_fraction" "_law_is_fraction" (defArgs s__law_is_fraction) (defBody s__law_is_fraction) (defScope s__law_is_fraction) .none kV26 dc26 pm26 an26 cd26 ct26), sl26⟩)
    (c26 : PySem.W.codeIn K cd26 "_law_is_fraction" = true)
    (k26 : PySem.W.keepIn K (.ref f26) = true)
    (a27 : PySem.W.nsIn K mainGlobals "_law_shares_right" = some (some (.ref f27)))
    (l27 : K.lookup f27 = some ⟨oc27, od27, .func (PySem.W.fnOf "_law_shares_right" "_law_shares_right" (defArgs s__law_shares_right) (defBody s__law_shares_right) (defScope s__law_shares_right) .none kV27 dc27 pm27 an27 cd27 ct27), sl27⟩)
    (c27 : PySem.W.codeIn K cd27 "_law_shares_right" = true)
    (k27 : PySem.W.keepIn K (.ref f27) = true)
    (a28 : PySem.W.nsIn K mainGlobals "_law_dot" = some (some (.ref f28)))
    (l28 : K.lookup f28 = some ⟨oc28, od28, .func (PySem.W.fnOf "_law_dot" "_law_dot" (defArgs s__law_dot) (defBody s__law_dot) (defScope s__law_dot) .none kV28 dc28 pm28 an28 cd28 ct28), sl28⟩)
    (c28 : PySem.W.codeIn K cd28 "_law_dot" = true)
    (k28 : PySem.W.keepIn K (.ref f28) = true)
    (a29 : PySem.W.nsIn K mainGlobals "_law_against_right" = some (some (.ref f29)))
    (l29 : K.lookup f29 = some ⟨oc29, od29, .func (PySem.W.fnOf "_law_against_right" "_law_against_right" (defArgs s__law_against_right) (defBody s__law_against_right) (defScope s__law_against_right) .none kV29 dc29 pm29 an29 cd29 ct29), sl29⟩)
    (c29 : PySem.W.codeIn K cd29 "_law_against_right" = true)
    (k29 : PySem.W.keepIn K (.ref f29) = true)
    (a30 : PySem.W.nsIn K mainGlobals "_law_is_balance" = some (some (.ref f30)))
    (l30 : K.lookup f30 = some ⟨oc30, od30, .func (PySem.W.fnOf "_law_is_balance" "_law_is_balance" (defArgs s__law_is_balance) (defBody s__law_is_balance) (defScope s__law_is_balance) .none kV30 dc30 pm30 an30 cd30 ct30), sl30⟩)
    (c30 : PySem.W.codeIn K cd30 "_law_is_balance" = true)
    (k30 : PySem.W.keepIn K (.ref f30) = true)
    (a31 : PySem.W.nsIn K mainGlobals "_law_right" = some (some (.ref f31)))
    (l31 : K.lookup f31 = some ⟨oc31, od31, .func (PySem.W.fnOf "_law_right" "_law_right" (defArgs s__law_right) (defBody s__law_right) (defScope s__law_right) .none kV31 dc31 pm31 an31 cd31 ct31), sl31⟩)
    (c31 : PySem.W.codeIn K cd31 "_law_right" = true)
    (k31 : PySem.W.keepIn K (.ref f31) = true)
    (a32 : PySem.W.nsIn K mainGlobals "_law_chain" = some (some (.ref f32)))
    (l32 : K.lookup f32 = some ⟨oc32, od32, .func (PySem.W.fnOf "_law_chain" "_law_chain" (defArgs s__law_chain) (defBody s__law_chain) (defScope s__law_chain) .none kV32 dc32 pm32 an32 cd32 ct32), sl32⟩)
    (c32 : PySem.W.codeIn K cd32 "_law_chain" = true)
    (k32 : PySem.W.keepIn K (.ref f32) = true)
    (a33 : PySem.W.nsIn K mainGlobals "_law_bounds_right" = some (some (.ref f33)))
    (l33 : K.lookup f33 = some ⟨oc33, od33, .func (PySem.W.fnOf "_law_bounds_right" "_law_bounds_right" (defArgs s__law_bounds_right) (defBody s__law_bounds_right) (defScope s__law_bounds_right) .none kV33 dc33 pm33 an33 cd33 ct33), sl33⟩)
    (c33 : PySem.W.codeIn K cd33 "_law_bounds_right" = true)
    (k33 : PySem.W.keepIn K (.ref f33) = true)
    (a34 : PySem.W.nsIn K mainGlobals "law" = some (some (.ref f34)))
    (l34 : K.lookup f34 = some ⟨oc34, od34, .func (PySem.W.fnOf "law" "law" (defArgs s_law) (defBody s_law) (defScope s_law) .none kV34 dc34 pm34 an34 cd34 ct34), sl34⟩)
    (c34 : PySem.W.codeIn K cd34 "law" = true)
    (k34 : PySem.W.keepIn K (.ref f34) = true)
    (z_abs : PySem.W.nsIn K mainGlobals "abs" = some none)
    (z_all : PySem.W.nsIn K mainGlobals "all" = some none)
    (z_bool : PySem.W.nsIn K mainGlobals "bool" = some none)
    (z_enumerate : PySem.W.nsIn K mainGlobals "enumerate" = some none)
    (z_int : PySem.W.nsIn K mainGlobals "int" = some none)
    (z_isinstance : PySem.W.nsIn K mainGlobals "isinstance" = some none)
    (z_len : PySem.W.nsIn K mainGlobals "len" = some none)
    (z_list : PySem.W.nsIn K mainGlobals "list" = some none)
    (z_max : PySem.W.nsIn K mainGlobals "max" = some none)
    (z_min : PySem.W.nsIn K mainGlobals "min" = some none)
    (z_range : PySem.W.nsIn K mainGlobals "range" = some none)
    (z_str : PySem.W.nsIn K mainGlobals "str" = some none)
    (z_sum : PySem.W.nsIn K mainGlobals "sum" = some none)
    (z_tuple : PySem.W.nsIn K mainGlobals "tuple" = some none)
    (z_zip : PySem.W.nsIn K mainGlobals "zip" = some none)
    (q0 : PySem.W.nsIn K mainGlobals "NOUGHT" = some (some (.ref ta0)))
    (r0 : K.lookup ta0 = some ⟨.type "tuple", tl0, .seq #[.int 0 tt0_0, .int 1 tt0_1] tn0, ts0⟩) :
    ∃ fd : FuncData, (∀ (s : Shared) (v : Value), BindsTo s fd ⟨[v], []⟩ [("_law_script", v)]) ∧ ∀ base : Heap, K.In base → base.Ns mainGlobals mg → FnG l.prog w K mg base 8 fa fd ["_law_script"] f_law := by
  have T : Txt w K mg := by
    constructor
    · have F := fun_mk (st := s__law_pool) l0 c0 k0
      exact ⟨f0, _, F, PySem.W.mg_of X G a0, F.binds fun _ _ _ _ _ _ us hl => match us, hl with | [_, _], _ => rfl⟩
    · have F := fun_mk (st := s__law_take) l1 c1 k1
      exact ⟨f1, _, F, PySem.W.mg_of X G a1, F.binds fun _ _ _ _ _ _ us hl => match us, hl with | [_, _], _ => rfl⟩
    · have F := fun_mk (st := s__law_flat) l2 c2 k2
      exact ⟨f2, _, F, PySem.W.mg_of X G a2, F.binds fun _ _ _ _ _ _ us hl => match us, hl with | [_], _ => rfl⟩
    · have F := fun_mk (st := s__law_round_columns) l3 c3 k3
      exact ⟨f3, _, F, PySem.W.mg_of X G a3, F.binds fun _ _ _ _ _ _ us hl => match us, hl with | [], _ => rfl⟩
    · have F := fun_mk (x := "__init__") (qual := "Board.__init__") (st := s_Board_m___init__) l4 c4 k4
      exact ⟨O_Board, f4, _, PySem.W.mg_of X G oG_Board, oG_Board, ⟨oM_Board, a4, i4, oK_Board⟩, F, F.binds fun _ _ _ _ _ _ us hl => match us, hl with | [_, _, _], _ => rfl⟩
    · have F := fun_mk (x := "wanted") (qual := "Board.wanted") (st := s_Board_m_wanted) l5 c5 k5
      exact ⟨O_Board, f5, _, oG_Board, ⟨oP_Board, oD_Board, oO_Board, oS_Board⟩, ⟨a5, i5, k5⟩, F, F.binds fun _ _ _ _ _ _ us hl => match us, hl with | [_], _ => rfl⟩
    · have F := fun_mk (x := "leaving") (qual := "Board.leaving") (st := s_Board_m_leaving) l6 c6 k6
      exact ⟨O_Board, f6, _, oG_Board, ⟨oP_Board, oD_Board, oO_Board, oS_Board⟩, ⟨a6, i6, k6⟩, F, F.binds fun _ _ _ _ _ _ us hl => match us, hl with | [_, _], _ => rfl⟩
    · have F := fun_mk (x := "turn") (qual := "Board.turn") (st := s_Board_m_turn) l7 c7 k7
      exact ⟨O_Board, f7, _, oG_Board, ⟨oP_Board, oD_Board, oO_Board, oS_Board⟩, ⟨a7, i7, k7⟩, F, F.binds fun _ _ _ _ _ _ us hl => match us, hl with | [_, _, _], _ => rfl⟩
    · have F := fun_mk (x := "settle") (qual := "Board.settle") (st := s_Board_m_settle) l8 c8 k8
      exact ⟨O_Board, f8, _, oG_Board, ⟨oP_Board, oD_Board, oO_Board, oS_Board⟩, ⟨a8, i8, k8⟩, F, F.binds fun _ _ _ _ _ _ us hl => match us, hl with | [_], _ => rfl⟩
    · have F := fun_mk (st := s_shared_by) l9 c9 k9
      exact ⟨f9, _, F, PySem.W.mg_of X G a9, F.binds fun _ _ _ _ _ _ us hl => match us, hl with | [_, _], _ => rfl⟩
    · have F := fun_mk (st := s_lowest) l10 c10 k10
      exact ⟨f10, _, F, PySem.W.mg_of X G a10, F.binds fun _ _ _ _ _ _ us hl => match us, hl with | [_, _], _ => rfl⟩
    · have F := fun_mk (x := "shares") (qual := "Board.shares") (st := s_Board_m_shares) l11 c11 k11
      exact ⟨O_Board, f11, _, oG_Board, ⟨oP_Board, oD_Board, oO_Board, oS_Board⟩, ⟨a11, i11, k11⟩, F, F.binds fun _ _ _ _ _ _ us hl => match us, hl with | [_], _ => rfl⟩
    · have F := fun_mk (x := "against") (qual := "Board.against") (st := s_Board_m_against) l12 c12 k12
      exact ⟨O_Board, f12, _, oG_Board, ⟨oP_Board, oD_Board, oO_Board, oS_Board⟩, ⟨a12, i12, k12⟩, F, F.binds fun _ _ _ _ _ _ us hl => match us, hl with | [_], _ => rfl⟩
    · have F := fun_mk (st := s_balance) l13 c13 k13
      exact ⟨f13, _, F, PySem.W.mg_of X G a13, F.binds fun _ _ _ _ _ _ us hl => match us, hl with | [_, _], _ => rfl⟩
    · have F := fun_mk (st := s_is_whole) l14 c14 k14
      exact ⟨f14, _, F, PySem.W.mg_of X G a14, F.binds fun _ _ _ _ _ _ us hl => match us, hl with | [_], _ => rfl⟩
    · have F := fun_mk (st := s_is_fraction) l15 c15 k15
      exact ⟨f15, _, F, PySem.W.mg_of X G a15, F.binds fun _ _ _ _ _ _ us hl => match us, hl with | [_], _ => rfl⟩
    · have F := fun_mk (st := s_plus) l16 c16 k16
      exact ⟨f16, _, F, PySem.W.mg_of X G a16, F.binds fun _ _ _ _ _ _ us hl => match us, hl with | [_, _], _ => rfl⟩
    · have F := fun_mk (st := s_times) l17 c17 k17
      exact ⟨f17, _, F, PySem.W.mg_of X G a17, F.binds fun _ _ _ _ _ _ us hl => match us, hl with | [_, _], _ => rfl⟩
    · have F := fun_mk (st := s_come_to) l18 c18 k18
      exact ⟨f18, _, F, PySem.W.mg_of X G a18, F.binds fun _ _ _ _ _ _ us hl => match us, hl with | [_, _, _], _ => rfl⟩
    · have F := fun_mk (st := s_comes_to) l19 c19 k19
      exact ⟨f19, _, F, PySem.W.mg_of X G a19, F.binds fun _ _ _ _ _ _ us hl => match us, hl with | [_, _], _ => rfl⟩
    · have F := fun_mk (st := s_are_against) l20 c20 k20
      exact ⟨f20, _, F, PySem.W.mg_of X G a20, F.binds fun _ _ _ _ _ _ us hl => match us, hl with | [_, _, _], _ => rfl⟩
    · have F := fun_mk (st := s_lets_balance) l21 c21 k21
      exact ⟨f21, _, F, PySem.W.mg_of X G a21, F.binds fun _ _ _ _ _ _ us hl => match us, hl with | [_, _, _], _ => rfl⟩
    · have F := fun_mk (st := s__law_low) l22 c22 k22
      exact ⟨f22, _, F, PySem.W.mg_of X G a22, F.binds fun _ _ _ _ _ _ us hl => match us, hl with | [_, _], _ => rfl⟩
    · have F := fun_mk (st := s__law_plus) l23 c23 k23
      exact ⟨f23, _, F, PySem.W.mg_of X G a23, F.binds fun _ _ _ _ _ _ us hl => match us, hl with | [_, _], _ => rfl⟩
    · have F := fun_mk (st := s__law_times) l24 c24 k24
      exact ⟨f24, _, F, PySem.W.mg_of X G a24, F.binds fun _ _ _ _ _ _ us hl => match us, hl with | [_, _], _ => rfl⟩
    · have F := fun_mk (st := s__law_is_whole) l25 c25 k25
      exact ⟨f25, _, F, PySem.W.mg_of X G a25, F.binds fun _ _ _ _ _ _ us hl => match us, hl with | [_], _ => rfl⟩
    · have F := fun_mk (st := s__law_is_fraction) l26 c26 k26
      exact ⟨f26, _, F, PySem.W.mg_of X G a26, F.binds fun _ _ _ _ _ _ us hl => match us, hl with | [_], _ => rfl⟩
    · have F := fun_mk (st := s__law_shares_right) l27 c27 k27
      exact ⟨f27, _, F, PySem.W.mg_of X G a27, F.binds fun _ _ _ _ _ _ us hl => match us, hl with | [_, _, _], _ => rfl⟩
    · have F := fun_mk (st := s__law_dot) l28 c28 k28
      exact ⟨f28, _, F, PySem.W.mg_of X G a28, F.binds fun _ _ _ _ _ _ us hl => match us, hl with | [_, _], _ => rfl⟩
    · have F := fun_mk (st := s__law_against_right) l29 c29 k29
      exact ⟨f29, _, F, PySem.W.mg_of X G a29, F.binds fun _ _ _ _ _ _ us hl => match us, hl with | [_, _, _], _ => rfl⟩
    · have F := fun_mk (st := s__law_is_balance) l30 c30 k30
      exact ⟨f30, _, F, PySem.W.mg_of X G a30, F.binds fun _ _ _ _ _ _ us hl => match us, hl with | [_, _, _], _ => rfl⟩
    · have F := fun_mk (st := s__law_right) l31 c31 k31
      exact ⟨f31, _, F, PySem.W.mg_of X G a31, F.binds fun _ _ _ _ _ _ us hl => match us, hl with | [_, _, _], _ => rfl⟩
    · have F := fun_mk (st := s__law_chain) l32 c32 k32
      exact ⟨f32, _, F, PySem.W.mg_of X G a32, F.binds fun _ _ _ _ _ _ us hl => match us, hl with | [_], _ => rfl⟩
    · have F := fun_mk (st := s__law_bounds_right) l33 c33 k33
      exact ⟨f33, _, F, PySem.W.mg_of X G a33, F.binds fun _ _ _ _ _ _ us hl => match us, hl with | [], _ => rfl⟩
    · have F := fun_mk (st := s_law) l34 c34 k34
      exact ⟨f34, _, F, PySem.W.mg_of X G a34, F.binds fun _ _ _ _ _ _ us hl => match us, hl with | [_], _ => rfl⟩
    · exact PySem.W.mg_none_of X G z_abs
    · exact PySem.W.mg_none_of X G z_all
    · exact PySem.W.mg_none_of X G z_bool
    · exact PySem.W.mg_none_of X G z_enumerate
    · exact PySem.W.mg_none_of X G z_int
    · exact PySem.W.mg_none_of X G z_isinstance
    · exact PySem.W.mg_none_of X G z_len
    · exact PySem.W.mg_none_of X G z_list
    · exact PySem.W.mg_none_of X G z_max
    · exact PySem.W.mg_none_of X G z_min
    · exact PySem.W.mg_none_of X G z_range
    · exact PySem.W.mg_none_of X G z_str
    · exact PySem.W.mg_none_of X G z_sum
    · exact PySem.W.mg_none_of X G z_tuple
    · exact PySem.W.mg_none_of X G z_zip
    · exact ⟨_, PySem.W.mg_of X G q0, .ref ta0, rfl, fun as F => .tup (.inr ⟨_, _, _, r0, rfl, rfl, by rw [sizeLine_eq]; simp, show Vals [V.int 0, V.int 1] _ from (.cons ⟨_, rfl⟩ (.cons ⟨_, rfl⟩ .nil))⟩) (.cons (.int _) (.cons (.int _) .nil))⟩
    · exact tblO_mk (List.forall_mem_cons.mpr ⟨fun cls h => by rw [Value.ref.inj (clsK_eq h oG_Board)]; exact ⟨⟨oP_Board, oD_Board, oO_Board, oS_Board⟩, oN_Board_basis⟩, (List.forall_mem_cons.mpr ⟨fun cls h => by rw [Value.ref.inj (clsK_eq h oG_Board)]; exact ⟨⟨oP_Board, oD_Board, oO_Board, oS_Board⟩, oN_Board_bottom⟩, (List.forall_mem_cons.mpr ⟨fun cls h => by rw [Value.ref.inj (clsK_eq h oG_Board)]; exact ⟨⟨oP_Board, oD_Board, oO_Board, oS_Board⟩, oN_Board_left⟩, (List.forall_mem_cons.mpr ⟨fun cls h => by rw [Value.ref.inj (clsK_eq h oG_Board)]; exact ⟨⟨oP_Board, oD_Board, oO_Board, oS_Board⟩, oN_Board_many⟩, (List.forall_mem_cons.mpr ⟨fun cls h => by rw [Value.ref.inj (clsK_eq h oG_Board)]; exact ⟨⟨oP_Board, oD_Board, oO_Board, oS_Board⟩, oN_Board_table⟩, (List.forall_mem_cons.mpr ⟨fun cls h => by rw [Value.ref.inj (clsK_eq h oG_Board)]; exact ⟨⟨oP_Board, oD_Board, oO_Board, oS_Board⟩, oN_Board_turned⟩, (fun _ h => (List.not_mem_nil h).elim)⟩)⟩)⟩)⟩)⟩)⟩)
  have e := hfa.symm.trans (PySem.W.mg_of X G a34)
  cases e
  have Fl := fun_mk (st := s_law) l34 c34 k34
  refine ⟨_, fun s v => .of_eq (show bindArgs (PySem.W.fnOf "law" "law" (defArgs s_law) (defBody s_law) (defScope s_law) .none kV34 dc34 pm34 an34 cd34 ct34) ⟨[v], []⟩ = _ from rfl), fun base _ _ => ?_⟩
  obtain ⟨f, fd, F, hm, Fu, _⟩ := (all_ok (P := l.prog) (w := w) (base := base) T).ex
  cases hfa.symm.trans hm
  obtain ⟨_, _, _, _, _, _, _, _, _, e1, lk, _⟩ := Fu.ex
  cases lk.symm.trans l34
  exact F
end
end Lw

theorem Lw.f_law_true : ∀ ns : List Int, ns.length ≤ 63 → ∃ S', Lw.f_law [.ro (ns.map DL.D.int)] [] = .ok (.bl true) S' := fun ns h => Lp.f_law_true ns h

open PySem PySem.W PyProof.Rows
set_option maxRecDepth 100000 in
set_option maxHeartbeats 0 in
theorem PySem.Challenge.cw_downweigh_k14_balance_of_great_and_flat_holds : PySem.Challenge.rw_downweigh_k14_balance_of_great_and_flat.Holds := by
  w_on; o_law; k_head; (case hw => w_witness2)
  k_fill
  refine DL.walk_ofG (l := PySem.Challenge.rw_downweigh_k14_balance_of_great_and_flat) (n := 63) (k := 8) (m := Lw.f_law) (x := "_law_script") (by decide +kernel) rfl (by decide) rfl ⟨rfl, by decide, by decide⟩ (fun w h Y => PySem.W.kIn_of Y) ?F Lw.f_law_true
  case F =>
    intro w mg fa h KX G hmg
    refine' Lw.all_mk KX G hmg ?oG_Board ?oP_Board ?oD_Board ?oO_Board ?oS_Board ?oM_Board ?oK_Board ?oN_Board_basis ?oN_Board_bottom ?oN_Board_left ?oN_Board_many ?oN_Board_table ?oN_Board_turned ?a0 ?l0 ?c0 ?k0 ?a1 ?l1 ?c1 ?k1 ?a2 ?l2 ?c2 ?k2 ?a3 ?l3 ?c3 ?k3 ?a4 ?i4 ?l4 ?c4 ?k4 ?a5 ?i5 ?l5 ?c5 ?k5 ?a6 ?i6 ?l6 ?c6 ?k6 ?a7 ?i7 ?l7 ?c7 ?k7 ?a8 ?i8 ?l8 ?c8 ?k8 ?a9 ?l9 ?c9 ?k9 ?a10 ?l10 ?c10 ?k10 ?a11 ?i11 ?l11 ?c11 ?k11 ?a12 ?i12 ?l12 ?c12 ?k12 ?a13 ?l13 ?c13 ?k13 ?a14 ?l14 ?c14 ?k14 ?a15 ?l15 ?c15 ?k15 ?a16 ?l16 ?c16 ?k16 ?a17 ?l17 ?c17 ?k17 ?a18 ?l18 ?c18 ?k18 ?a19 ?l19 ?c19 ?k19 ?a20 ?l20 ?c20 ?k20 ?a21 ?l21 ?c21 ?k21 ?a22 ?l22 ?c22 ?k22 ?a23 ?l23 ?c23 ?k23 ?a24 ?l24 ?c24 ?k24 ?a25 ?l25 ?c25 ?k25 ?a26 ?l26 ?c26 ?k26 ?a27 ?l27 ?c27 ?k27 ?a28 ?l28 ?c28 ?k28 ?a29 ?l29 ?c29 ?k29 ?a30 ?l30 ?c30 ?k30 ?a31 ?l31 ?c31 ?k31 ?a32 ?l32 ?c32 ?k32 ?a33 ?l33 ?c33 ?k33 ?a34 ?l34 ?c34 ?k34 ?z_abs ?z_all ?z_bool ?z_enumerate ?z_int ?z_isinstance ?z_len ?z_list ?z_max ?z_min ?z_range ?z_str ?z_sum ?z_tuple ?z_zip ?q0 ?r0
    (case oG_Board => k_is)
    (case oP_Board => k_is)
    (case oD_Board => k_is)
    (case oO_Board => k_is)
    (case oS_Board => k_is)
    (case oM_Board => k_is)
    (case oK_Board => k_is)
    (case oN_Board_basis => k_is)
    (case oN_Board_bottom => k_is)
    (case oN_Board_left => k_is)
    (case oN_Board_many => k_is)
    (case oN_Board_table => k_is)
    (case oN_Board_turned => k_is)
    (case a0 => k_is)
    (case l0 => k_is)
    (case c0 => k_is)
    (case k0 => k_is)
    (case a1 => k_is)
    (case l1 => k_is)
    (case c1 => k_is)
    (case k1 => k_is)
    (case a2 => k_is)
    (case l2 => k_is)
    (case c2 => k_is)
    (case k2 => k_is)
    (case a3 => k_is)
    (case l3 => k_is)
    (case c3 => k_is)
    (case k3 => k_is)
    (case a4 => k_is)
    (case i4 => k_is)
    (case l4 => k_is)
    (case c4 => k_is)
    (case k4 => k_is)
    (case a5 => k_is)
    (case i5 => k_is)
    (case l5 => k_is)
    (case c5 => k_is)
    (case k5 => k_is)
    (case a6 => k_is)
    (case i6 => k_is)
    (case l6 => k_is)
    (case c6 => k_is)
    (case k6 => k_is)
    (case a7 => k_is)
    (case i7 => k_is)
    (case l7 => k_is)
    (case c7 => k_is)
    (case k7 => k_is)
    (case a8 => k_is)
    (case i8 => k_is)
    (case l8 => k_is)
    (case c8 => k_is)
    (case k8 => k_is)
    (case a9 => k_is)
    (case l9 => k_is)
    (case c9 => k_is)
    (case k9 => k_is)
    (case a10 => k_is)
    (case l10 => k_is)
    (case c10 => k_is)
    (case k10 => k_is)
    (case a11 => k_is)
    (case i11 => k_is)
    (case l11 => k_is)
    (case c11 => k_is)
    (case k11 => k_is)
    (case a12 => k_is)
    (case i12 => k_is)
    (case l12 => k_is)
    (case c12 => k_is)
    (case k12 => k_is)
    (case a13 => k_is)
    (case l13 => k_is)
    (case c13 => k_is)
    (case k13 => k_is)
    (case a14 => k_is)
    (case l14 => k_is)
    (case c14 => k_is)
    (case k14 => k_is)
    (case a15 => k_is)
    (case l15 => k_is)
    (case c15 => k_is)
    (case k15 => k_is)
    (case a16 => k_is)
    (case l16 => k_is)
    (case c16 => k_is)
    (case k16 => k_is)
    (case a17 => k_is)
    (case l17 => k_is)
    (case c17 => k_is)
    (case k17 => k_is)
    (case a18 => k_is)
    (case l18 => k_is)
    (case c18 => k_is)
    (case k18 => k_is)
    (case a19 => k_is)
    (case l19 => k_is)
    (case c19 => k_is)
    (case k19 => k_is)
    (case a20 => k_is)
    (case l20 => k_is)
    (case c20 => k_is)
    (case k20 => k_is)
    (case a21 => k_is)
    (case l21 => k_is)
    (case c21 => k_is)
    (case k21 => k_is)
    (case a22 => k_is)
    (case l22 => k_is)
    (case c22 => k_is)
    (case k22 => k_is)
    (case a23 => k_is)
    (case l23 => k_is)
    (case c23 => k_is)
    (case k23 => k_is)
    (case a24 => k_is)
    (case l24 => k_is)
    (case c24 => k_is)
    (case k24 => k_is)
    (case a25 => k_is)
    (case l25 => k_is)
    (case c25 => k_is)
    (case k25 => k_is)
    (case a26 => k_is)
    (case l26 => k_is)
    (case c26 => k_is)
    (case k26 => k_is)
    (case a27 => k_is)
    (case l27 => k_is)
    (case c27 => k_is)
    (case k27 => k_is)
    (case a28 => k_is)
    (case l28 => k_is)
    (case c28 => k_is)
    (case k28 => k_is)
    (case a29 => k_is)
    (case l29 => k_is)
    (case c29 => k_is)
    (case k29 => k_is)
    (case a30 => k_is)
    (case l30 => k_is)
    (case c30 => k_is)
    (case k30 => k_is)
    (case a31 => k_is)
    (case l31 => k_is)
    (case c31 => k_is)
    (case k31 => k_is)
    (case a32 => k_is)
    (case l32 => k_is)
    (case c32 => k_is)
    (case k32 => k_is)
    (case a33 => k_is)
    (case l33 => k_is)
    (case c33 => k_is)
    (case k33 => k_is)
    (case a34 => k_is)
    (case l34 => k_is)
    (case c34 => k_is)
    (case k34 => k_is)
    (case z_abs => k_is)
    (case z_all => k_is)
    (case z_bool => k_is)
    (case z_enumerate => k_is)
    (case z_int => k_is)
    (case z_isinstance => k_is)
    (case z_len => k_is)
    (case z_list => k_is)
    (case z_max => k_is)
    (case z_min => k_is)
    (case z_range => k_is)
    (case z_str => k_is)
    (case z_sum => k_is)
    (case z_tuple => k_is)
    (case z_zip => k_is)
    (case q0 => k_is)
    (case r0 => k_is)
#print axioms PySem.Challenge.cw_downweigh_k14_balance_of_great_and_flat_holds
