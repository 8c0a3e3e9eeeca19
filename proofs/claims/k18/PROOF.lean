import PyProof.Rows.All
import Wide.All
import OpenK.AllK
import Wide.FinOn
import HandS.ForMost
import HandS.Exc
import HandS.TryOnly
import HandS.TryMany
import HandS.ExcOwn
import HandS.Defaults
import HandS.Wide
import HandS.IsInst
import HandS.Flow
import HandS.Style
import HandS.FStr
import HandS.Zip
import HandS.ExcValue
import KE.KUnpackStar
import PySem.Challenge.RW_downweigh_k18_papers_of_wishes_looked_at
set_option Elab.async false
set_option linter.all false
set_option maxRecDepth 100000
/-! DL: data semantics over the hand layer. D: what a value is as data; a store of lists that are changed (cells); Rep: a value of the heap bears such data. -/
namespace DL
open PySem PySem.Spec PyProof.Rows L2

/-! ### data, cells, results -/
inductive D where
  | non | bl (b : Bool) | int (i : Int) | str (s : Str)
  | tup (xs : List D) | lst (xs : List D) | ro (xs : List D) | cell (n : Nat) | ty (n : String) | dE
  deriving Inhabited
inductive CO where
  | lst (xs : List D)
abbrev Sto := List (Option CO)
/-- an error as data: its class's name, its one field if it has any -/
structure XD where
  name : Str
  flds : Option (List (Str × D))
inductive R (α : Type) where
  | ok (a : α) (s : Sto)
  | exc (x : XD) (s : Sto)
  | stuck
abbrev M (α : Type) := Sto → R α
def M.pure {α : Type} (a : α) : M α := fun s => .ok a s
def R.bind {α β : Type} (r : R α) (f : α → M β) : R β := match r with
  | .ok a s => f a s
  | .exc x s => .exc x s
  | .stuck => .stuck
def M.bind {α β : Type} (m : M α) (f : α → M β) : M β := fun s => (m s).bind f
@[simp] theorem R.bind_ok {α β : Type} (a : α) (s : Sto) (f : α → M β) : (R.ok a s).bind f = f a s := rfl
@[simp] theorem R.bind_exc {α β : Type} (x : XD) (s : Sto) (f : α → M β) : (R.exc (α := α) x s).bind f = .exc x s := rfl
@[simp] theorem R.bind_stuck {α β : Type} (f : α → M β) : (R.stuck (α := α)).bind f = .stuck := rfl
instance : Monad M where
  pure := M.pure
  bind := M.bind
abbrev Env := List (Option D)

mutual
/-- no cell from n on -/
def D.bel (n : Nat) : D → Bool
  | .non | .bl _ | .int _ | .str _ | .ty _ | .dE => true
  | .tup xs | .lst xs | .ro xs => D.belL n xs
  | .cell m => decide (m < n)
def D.belL (n : Nat) : List D → Bool
  | [] => true
  | x :: xs => D.bel n x && D.belL n xs
end
def CO.bel (n : Nat) : CO → Bool
  | .lst xs => D.belL n xs

/-! ### what bears data -/
mutual
inductive Rep (K : PySem.W.Frag) (as : List Addr) (F : Hp) : V → D → Prop
  | non : Rep K as F .non .non
  | bl (b : Bool) : Rep K as F (.bl b) (.bl b)
  | int (i : Int) : Rep K as F (.int i) (.int i)
  | str (x : Str) : Rep K as F (.str x) (.str x)
  | ty (n : String) : Rep K as F (.ty n) (.ty n)
  | tup {a : Addr} {vs : List V} {ds : List D} : SqT K F a vs → RepL K as F vs ds → Rep K as F (.ref a) (.tup ds)
  | lst {a : Addr} {vs : List V} {ds : List D} : F a = some (.lst vs) → RepL K as F vs ds → Rep K as F (.ref a) (.lst ds)
  | ro {a : Addr} {vs : List V} {ds : List D} : SqL K F a vs → RepL K as F vs ds → Rep K as F (.ref a) (.ro ds)
  | cell {n : Nat} {a : Addr} : as[n]? = some a → Rep K as F (.ref a) (.cell n)
  | dE {a : Addr} : Rd F a (.dK []) → Rep K as F (.ref a) .dE
inductive RepL (K : PySem.W.Frag) (as : List Addr) (F : Hp) : List V → List D → Prop
  | nil : RepL K as F [] []
  | cons {v : V} {vs : List V} {d : D} {ds : List D} : Rep K as F v d → RepL K as F vs ds → RepL K as F (v :: vs) (d :: ds)
end
theorem same_rd {F F' : Hp} {a : Addr} {u : HO} (e : Same F F') (h : Rd F a u) : Rd F' a u := by
  rcases h with h | ⟨o, h⟩
  · exact .inl (e a _ h)
  · exact .inr ⟨o, e a _ h⟩
theorem same_l {K : PySem.W.Frag} {F F' : Hp} {a : Addr} {xs : List V} (e : Same F F') (h : SqL K F a xs) : SqL K F' a xs := h.elim (fun h => .inl (same_rd e h)) .inr
theorem same_t {K : PySem.W.Frag} {F F' : Hp} {a : Addr} {xs : List V} (e : Same F F') (h : SqT K F a xs) : SqT K F' a xs := h.elim (fun h => .inl (same_rd e h)) .inr
section
variable {K : PySem.W.Frag} {as as' : List Addr} {F F' : Hp}
mutual
/-- more is known: the same data -/
theorem Rep.mono (ha : ∀ n a : Nat, as[n]? = some a → as'[n]? = some a) (e : Same F F') : ∀ {d : D} {v : V}, Rep K as F v d → Rep K as' F' v d
  | .non, _, h => by cases h; exact .non
  | .bl b, _, h => by cases h; exact .bl b
  | .int i, _, h => by cases h; exact .int i
  | .str x, _, h => by cases h; exact .str x
  | .ty x, _, h => by cases h; exact .ty x
  | .tup ds, _, h => by cases h with | tup q r => exact .tup (same_t e q) (RepL.mono ha e r)
  | .lst ds, _, h => by cases h with | lst q r => exact .lst (e _ _ q) (RepL.mono ha e r)
  | .ro ds, _, h => by cases h with | ro q r => exact .ro (same_l e q) (RepL.mono ha e r)
  | .cell n, _, h => by cases h with | cell q => exact .cell (ha _ _ q)
  | .dE, _, h => by cases h with | dE q => exact .dE (same_rd e q)
theorem RepL.mono (ha : ∀ n a : Nat, as[n]? = some a → as'[n]? = some a) (e : Same F F') : ∀ {ds : List D} {vs : List V}, RepL K as F vs ds → RepL K as' F' vs ds
  | [], _, h => by cases h; exact .nil
  | d :: ds, _, h => by cases h with | cons q r => exact .cons (Rep.mono ha e q) (RepL.mono ha e r)
end
mutual
/-- cells below n alone: the addresses beyond don't matter -/
theorem Rep.cut {n : Nat} : ∀ {d : D} {v : V}, d.bel n = true → Rep K as F v d → Rep K (as.take n) F v d
  | .non, _, _, h => by cases h; exact .non
  | .bl b, _, _, h => by cases h; exact .bl b
  | .int i, _, _, h => by cases h; exact .int i
  | .str x, _, _, h => by cases h; exact .str x
  | .ty x, _, _, h => by cases h; exact .ty x
  | .tup ds, _, b, h => by cases h with | tup q r => exact .tup q (RepL.cut (by simpa [D.bel] using b) r)
  | .lst ds, _, b, h => by cases h with | lst q r => exact .lst q (RepL.cut (by simpa [D.bel] using b) r)
  | .ro ds, _, b, h => by cases h with | ro q r => exact .ro q (RepL.cut (by simpa [D.bel] using b) r)
  | .cell m, _, b, h => by
    cases h with
    | cell q =>
      have hm : m < n := by simpa [D.bel] using b
      exact .cell (by rw [List.getElem?_take_of_lt hm]; exact q)
  | .dE, _, _, h => by cases h with | dE q => exact .dE q
theorem RepL.cut {n : Nat} : ∀ {ds : List D} {vs : List V}, D.belL n ds = true → RepL K as F vs ds → RepL K (as.take n) F vs ds
  | [], _, _, h => by cases h; exact .nil
  | d :: ds, _, b, h => by
    have b' : d.bel n = true ∧ D.belL n ds = true := by simpa [D.belL] using b
    cases h with | cons q r => exact .cons (Rep.cut b'.1 q) (RepL.cut b'.2 r)
end
mutual
theorem Rep.bel_of : ∀ {d : D} {v : V}, Rep K as F v d → d.bel as.length = true
  | .non, _, _ => by simp [D.bel]
  | .bl b, _, _ => by simp [D.bel]
  | .int i, _, _ => by simp [D.bel]
  | .str x, _, _ => by simp [D.bel]
  | .ty x, _, _ => by simp [D.bel]
  | .tup ds, _, h => by cases h with | tup q r => simpa [D.bel] using RepL.bel_of r
  | .lst ds, _, h => by cases h with | lst q r => simpa [D.bel] using RepL.bel_of r
  | .ro ds, _, h => by cases h with | ro q r => simpa [D.bel] using RepL.bel_of r
  | .cell m, _, h => by
    cases h with
    | cell q => simpa [D.bel] using (List.getElem?_eq_some_iff.mp q).1
  | .dE, _, _ => by simp [D.bel]
theorem RepL.bel_of : ∀ {ds : List D} {vs : List V}, RepL K as F vs ds → D.belL as.length ds = true
  | [], _, _ => by simp [D.belL]
  | d :: ds, _, h => by cases h with | cons q r => simp [D.belL, Rep.bel_of q, RepL.bel_of r]
end
theorem RepL.length : ∀ {ds : List D} {vs : List V}, RepL K as F vs ds → vs.length = ds.length
  | [], _, h => by cases h; rfl
  | d :: ds, _, h => by cases h with | cons q r => simp [RepL.length r]
theorem RepL.get : ∀ {ds : List D} {vs : List V} {i : Nat} {d : D}, RepL K as F vs ds → ds[i]? = some d → ∃ v, vs[i]? = some v ∧ Rep K as F v d
  | [], _, i, d, _, e => by simp at e
  | x :: ds, _, 0, d, h, e => by cases h with | cons q r => simp at e; subst e; exact ⟨_, rfl, q⟩
  | x :: ds, _, i + 1, d, h, e => by cases h with | cons q r => simpa using RepL.get (i := i) r (by simpa using e)
theorem RepL.append : ∀ {ds es : List D} {vs us : List V}, RepL K as F vs ds → RepL K as F us es → RepL K as F (vs ++ us) (ds ++ es)
  | [], _, _, _, h, g => by cases h; simpa using g
  | d :: ds, _, _, _, h, g => by cases h with | cons q r => exact .cons q (RepL.append r g)
theorem RepL.take : ∀ {ds : List D} {vs : List V} (n : Nat), RepL K as F vs ds → RepL K as F (vs.take n) (ds.take n)
  | _, _, 0, _ => by simpa using RepL.nil
  | [], _, n + 1, h => by cases h; exact .nil
  | d :: ds, _, n + 1, h => by cases h with | cons q r => exact .cons q (RepL.take n r)
theorem RepL.drop : ∀ {ds : List D} {vs : List V} (n : Nat), RepL K as F vs ds → RepL K as F (vs.drop n) (ds.drop n)
  | _, _, 0, h => by simpa using h
  | [], _, n + 1, h => by cases h; exact .nil
  | d :: ds, _, n + 1, h => by cases h with | cons q r => simpa using RepL.drop n r
theorem RepL.set {v : V} {d : D} (q : Rep K as F v d) : ∀ {ds : List D} {vs : List V} (n : Nat), RepL K as F vs ds → RepL K as F (vs.set n v) (ds.set n d)
  | [], _, n, h => by cases h; exact .nil
  | x :: ds, _, 0, h => by cases h with | cons p r => exact .cons q r
  | x :: ds, _, n + 1, h => by cases h with | cons p r => exact .cons p (RepL.set q n r)
end

/-! ### the heap without what is changed -/
def live (as : List Addr) (S : Sto) : List Addr := (as.zip S).filterMap fun p => if p.2.isSome then some p.1 else none
/-- hd: what is hidden from the data (a list that a comprehension fills) -/
abbrev Hid := List (Addr × HO)
def fz (hd : Hid) (as : List Addr) (S : Sto) (H : Hp) : Hp := fun a => if a ∈ live as S ∨ a ∈ hd.map (·.1) then none else H a
theorem mem_live {as : List Addr} {S : Sto} {a : Addr} : a ∈ live as S ↔ ∃ (n : Nat) (c : CO), as[n]? = some a ∧ S[n]? = some (some c) := by
  unfold live
  rw [List.mem_filterMap]
  constructor
  · rintro ⟨⟨b, o⟩, hm, e⟩
    obtain ⟨n, hn⟩ := List.getElem?_of_mem hm
    rw [List.getElem?_zip_eq_some] at hn
    cases o with
    | none => simp at e
    | some c => simp at e; subst e; exact ⟨n, c, hn.1, hn.2⟩
  · rintro ⟨n, c, h1, h2⟩
    refine ⟨(a, some c), List.mem_of_getElem? (i := n) ?_, by simp⟩
    rw [List.getElem?_zip_eq_some]
    exact ⟨h1, h2⟩
theorem fz_same {hd : Hid} {as : List Addr} {S : Sto} {H : Hp} : Same (fz hd as S H) H := fun b o e => by
  unfold fz at e
  split at e
  · cases e
  · exact e
theorem fz_of {hd : Hid} {as : List Addr} {S : Sto} {H : Hp} {a : Addr} {o : HO} (h : H a = some o) (n : a ∉ live as S) (nh : a ∉ hd.map (·.1)) : fz hd as S H a = some o := by
  unfold fz; rw [if_neg (fun z => z.elim n nh)]; exact h
theorem fz_not {hd : Hid} {as : List Addr} {S : Sto} {H : Hp} {a : Addr} {o : HO} (h : fz hd as S H a = some o) : a ∉ live as S := fun z => by
  unfold fz at h; rw [if_pos (.inl z)] at h; cases h
theorem fz_nh {hd : Hid} {as : List Addr} {S : Sto} {H : Hp} {a : Addr} {o : HO} (h : fz hd as S H a = some o) : a ∉ hd.map (·.1) := fun z => by
  unfold fz at h; rw [if_pos (.inr z)] at h; cases h

structure Wld (K : PySem.W.Frag) (hd : Hid) (as : List Addr) (S : Sto) (H : Hp) : Prop where
  len : as.length = S.length
  inj : ∀ (i j : Nat) a c c', as[i]? = some a → as[j]? = some a → S[i]? = some (some c) → S[j]? = some (some c') → i = j
  hid : ∀ p ∈ hd, H p.1 = some p.2 ∧ p.1 ∉ live as S
  at_ : ∀ (n : Nat) xs, S[n]? = some (some (CO.lst xs)) → ∃ a vs, as[n]? = some a ∧ H a = some (.lst vs) ∧ RepL K as (fz hd as S H) vs xs
theorem Wld.live_some {K : PySem.W.Frag} {hd : Hid} {as : List Addr} {S : Sto} {H : Hp} (w : Wld K hd as S H) {a : Addr} (h : a ∈ live as S) : ∃ vs, H a = some (.lst vs) := by
  obtain ⟨n, c, h1, h2⟩ := mem_live.mp h
  cases c with
  | lst xs =>
    obtain ⟨b, vs, e1, e2, _⟩ := w.at_ n xs h2
    rw [h1] at e1; cases e1
    exact ⟨vs, e2⟩
theorem Wld.new_live {K : PySem.W.Frag} {hd : Hid} {as : List Addr} {S : Sto} {H : Hp} (w : Wld K hd as S H) {p : Addr} (h : H p = none) : p ∉ live as S := fun z => by
  obtain ⟨vs, e⟩ := w.live_some z
  rw [h] at e; cases e
structure Grow (hd : Hid) (as : List Addr) (S : Sto) (H : Hp) (as' : List Addr) (S' : Sto) (H' : Hp) : Prop where
  pre : ∀ n a : Nat, as[n]? = some a → as'[n]? = some a
  same : Same (fz hd as S H) (fz hd as' S' H')
theorem Grow.refl {hd : Hid} {as : List Addr} {S : Sto} {H : Hp} : Grow hd as S H as S H := ⟨fun _ _ h => h, Same.refl _⟩
theorem Grow.trans {hd : Hid} {as as1 as2 : List Addr} {S S1 S2 : Sto} {H H1 H2 : Hp} (a : Grow hd as S H as1 S1 H1) (b : Grow hd as1 S1 H1 as2 S2 H2) : Grow hd as S H as2 S2 H2 :=
  ⟨fun n x h => b.pre n x (a.pre n x h), a.same.trans b.same⟩
theorem Rep.grow {K : PySem.W.Frag} {hd : Hid} {as as' : List Addr} {S S' : Sto} {H H' : Hp} {v : V} {d : D} (h : Rep K as (fz hd as S H) v d) (g : Grow hd as S H as' S' H') : Rep K as' (fz hd as' S' H') v d := h.mono g.pre g.same
theorem RepL.grow {K : PySem.W.Frag} {hd : Hid} {as as' : List Addr} {S S' : Sto} {H H' : Hp} {v : List V} {d : List D} (h : RepL K as (fz hd as S H) v d) (g : Grow hd as S H as' S' H') : RepL K as' (fz hd as' S' H') v d := h.mono g.pre g.same

section
variable {K : PySem.W.Frag} {hd : Hid} {as : List Addr} {S : Sto} {H : Hp}
theorem Wld.hid_ne (w : Wld K hd as S H) {p : Addr} (h : H p = none) : p ∉ hd.map (·.1) := fun z => by
  obtain ⟨q, hq, e⟩ := List.mem_map.mp z
  have := (w.hid q hq).1
  rw [e, h] at this; cases this
/-- a new object that isn't changed -/
theorem Wld.fresh (w : Wld K hd as S H) {p : Addr} {o : HO} (h : H p = none) : Wld K hd as S (upd H p o) ∧ Grow hd as S H as S (upd H p o) ∧ fz hd as S (upd H p o) p = some o := by
  have np := w.new_live h
  have hs : Same (fz hd as S H) (fz hd as S (upd H p o)) := fun b u e => by
    have hb : b ≠ p := fun z => by
      subst z
      rw [fz_same _ _ e] at h; cases h
    exact fz_of (by rw [upd_ne hb]; exact fz_same _ _ e) (fz_not e) (fz_nh e)
  refine ⟨⟨w.len, w.inj, fun q hq => ⟨?_, (w.hid q hq).2⟩, fun n xs e => ?_⟩, ⟨fun _ _ h => h, hs⟩, fz_of upd_same np (w.hid_ne h)⟩
  · rw [upd_ne (fun z => by have := (w.hid q hq).1; rw [z, h] at this; cases this)]; exact (w.hid q hq).1
  obtain ⟨a, vs, e1, e2, r⟩ := w.at_ n xs e
  have ha : a ≠ p := fun z => by subst z; rw [h] at e2; cases e2
  exact ⟨a, vs, e1, by rw [upd_ne ha]; exact e2, r.mono (fun _ _ h => h) hs⟩
/-- a new cell -/
theorem Wld.newCell (w : Wld K hd as S H) {p : Addr} {vs : List V} {xs : List D} (h : H p = none) (r : RepL K as (fz hd as S H) vs xs) :
    Wld K hd (as ++ [p]) (S ++ [some (.lst xs)]) (upd H p (.lst vs)) ∧ Grow hd as S H (as ++ [p]) (S ++ [some (.lst xs)]) (upd H p (.lst vs)) ∧ (as ++ [p])[S.length]? = some p := by
  have np := w.new_live h
  have hl : (as ++ [p])[S.length]? = some p := by rw [← w.len]; simp
  have pre : ∀ n a : Nat, as[n]? = some a → (as ++ [p])[n]? = some a := fun n a e => by
    rw [List.getElem?_append_left (List.getElem?_eq_some_iff.mp e).1]; exact e
  have split : ∀ {n : Nat} {c : CO}, (S ++ [some (CO.lst xs)])[n]? = some (some c) → S[n]? = some (some c) ∨ (n = S.length ∧ c = .lst xs) := fun {n c} e => by
    by_cases hn : n < S.length
    · rw [List.getElem?_append_left hn] at e; exact .inl e
    · rw [List.getElem?_append_right (by omega)] at e
      have hz : n - S.length = 0 := by
        have := (List.getElem?_eq_some_iff.mp e).1
        simp at this; omega
      rw [hz] at e
      simp at e
      exact .inr ⟨by omega, e.symm⟩
  have old : ∀ {n : Nat} {c : CO} {a : Addr}, S[n]? = some (some c) → (as ++ [p])[n]? = some a → as[n]? = some a := fun {n c a} e1 e2 => by
    have hn : n < as.length := by rw [w.len]; exact (List.getElem?_eq_some_iff.mp e1).1
    rw [List.getElem?_append_left hn] at e2; exact e2
  have hlive : ∀ {b : Addr}, b ≠ p → b ∉ live as S → b ∉ live (as ++ [p]) (S ++ [some (CO.lst xs)]) := fun {b} hb n z => by
    obtain ⟨i, c, e1, e2⟩ := mem_live.mp z
    rcases split e2 with e2 | ⟨rfl, _⟩
    · exact n (mem_live.mpr ⟨i, c, old e2 e1, e2⟩)
    · rw [hl] at e1; exact hb (Option.some.inj e1).symm
  have hs : Same (fz hd as S H) (fz hd (as ++ [p]) (S ++ [some (.lst xs)]) (upd H p (.lst vs))) := fun b u e => by
    have hb : b ≠ p := fun z => by
      subst z
      rw [fz_same _ _ e] at h; cases h
    exact fz_of (by rw [upd_ne hb]; exact fz_same _ _ e) (hlive hb (fz_not e)) (fz_nh e)
  refine ⟨⟨by simp [w.len], fun i j a c c' h1 h2 h3 h4 => ?_, fun q hq => ?_, fun n ys e => ?_⟩, ⟨pre, hs⟩, hl⟩
  · rcases split h3 with h3 | ⟨rfl, _⟩ <;> rcases split h4 with h4 | ⟨rfl, _⟩
    · exact w.inj i j a c c' (old h3 h1) (old h4 h2) h3 h4
    · rw [hl] at h2
      obtain rfl := Option.some.inj h2
      obtain ⟨vs', e⟩ := w.live_some (mem_live.mpr ⟨i, c, old h3 h1, h3⟩)
      rw [h] at e; cases e
    · rw [hl] at h1
      obtain rfl := Option.some.inj h1
      obtain ⟨vs', e⟩ := w.live_some (mem_live.mpr ⟨j, c', old h4 h2, h4⟩)
      rw [h] at e; cases e
    · rfl
  · have hqp : q.1 ≠ p := fun z => by have := (w.hid q hq).1; rw [z, h] at this; cases this
    exact ⟨by rw [upd_ne hqp]; exact (w.hid q hq).1, hlive hqp (w.hid q hq).2⟩
  · rcases split e with e0 | ⟨hz, e0⟩
    · obtain ⟨a, vs', e1, e2, r'⟩ := w.at_ n ys e0
      have ha : a ≠ p := fun z => by subst z; rw [h] at e2; cases e2
      exact ⟨a, vs', pre _ _ e1, by rw [upd_ne ha]; exact e2, r'.mono pre hs⟩
    · cases e0
      subst hz
      exact ⟨p, vs, hl, upd_same, r.mono pre hs⟩
theorem live_set {n : Nat} {xs ys : List D} (e : S[n]? = some (some (.lst xs))) {b : Addr} : b ∈ live as (S.set n (some (.lst ys))) ↔ b ∈ live as S := by
  have hn := (List.getElem?_eq_some_iff.mp e).1
  rw [mem_live, mem_live]
  constructor
  · rintro ⟨i, c, h1, h2⟩
    by_cases hi : n = i
    · subst hi; exact ⟨n, _, h1, e⟩
    · rw [List.getElem?_set_ne hi] at h2; exact ⟨i, c, h1, h2⟩
  · rintro ⟨i, c, h1, h2⟩
    by_cases hi : n = i
    · subst hi; exact ⟨n, _, h1, by rw [List.getElem?_set_self hn]⟩
    · exact ⟨i, c, h1, by rw [List.getElem?_set_ne hi]; exact h2⟩
/-- a cell is written -/
theorem Wld.write (w : Wld K hd as S H) {n : Nat} {a : Addr} {xs ys : List D} {us : List V} (e : S[n]? = some (some (.lst xs))) (ha : as[n]? = some a) (r : RepL K as (fz hd as S H) us ys) :
    Wld K hd as (S.set n (some (.lst ys))) (upd H a (.lst us)) ∧ Grow hd as S H as (S.set n (some (.lst ys))) (upd H a (.lst us)) := by
  have hn := (List.getElem?_eq_some_iff.mp e).1
  have la : a ∈ live as S := mem_live.mpr ⟨n, _, ha, e⟩
  have hs : Same (fz hd as S H) (fz hd as (S.set n (some (.lst ys))) (upd H a (.lst us))) := fun b u q => by
    have nb := fz_not q
    have hb : b ≠ a := fun z => nb (by rw [z]; exact la)
    exact fz_of (by rw [upd_ne hb]; exact fz_same _ _ q) (by rw [live_set e]; exact nb) (fz_nh q)
  refine ⟨⟨by simp [w.len], fun i j b c c' h1 h2 h3 h4 => ?_, fun q hq => ⟨by rw [upd_ne (fun z => (w.hid q hq).2 (by rw [z]; exact la))]; exact (w.hid q hq).1, by rw [live_set e]; exact (w.hid q hq).2⟩, fun m zs q => ?_⟩, ⟨fun _ _ h => h, hs⟩⟩
  · have f : ∀ {i : Nat} {c : CO}, (S.set n (some (.lst ys)))[i]? = some (some c) → ∃ c, S[i]? = some (some c) := fun {i c} h => by
      by_cases hi : n = i
      · subst hi; exact ⟨_, e⟩
      · rw [List.getElem?_set_ne hi] at h; exact ⟨c, h⟩
    obtain ⟨_, g3⟩ := f h3
    obtain ⟨_, g4⟩ := f h4
    exact w.inj i j b _ _ h1 h2 g3 g4
  · by_cases hm : n = m
    · subst hm
      rw [List.getElem?_set_self hn] at q
      cases q
      exact ⟨a, us, ha, upd_same, r.mono (fun _ _ h => h) hs⟩
    · rw [List.getElem?_set_ne hm] at q
      obtain ⟨b, vs, e1, e2, r'⟩ := w.at_ m zs q
      have hb : b ≠ a := fun z => hm (w.inj n m a _ _ ha (by rw [← z]; exact e1) e q)
      exact ⟨b, vs, e1, by rw [upd_ne hb]; exact e2, r'.mono (fun _ _ h => h) hs⟩
/-- a cell is changed no more -/
theorem Wld.freeze (w : Wld K hd as S H) {n : Nat} {a : Addr} {xs : List D} (e : S[n]? = some (some (.lst xs))) (ha : as[n]? = some a) :
    Wld K hd as (S.set n none) H ∧ Grow hd as S H as (S.set n none) H ∧ Rep K as (fz hd as (S.set n none) H) (.ref a) (.lst xs) := by
  have hn := (List.getElem?_eq_some_iff.mp e).1
  have f : ∀ {i : Nat} {c : CO}, (S.set n none)[i]? = some (some c) → S[i]? = some (some c) ∧ i ≠ n := fun {i c} h => by
    by_cases hi : n = i
    · subst hi; rw [List.getElem?_set_self hn] at h; cases h
    · rw [List.getElem?_set_ne hi] at h; exact ⟨h, fun z => hi z.symm⟩
  have hl : ∀ {b : Addr}, b ∈ live as (S.set n none) → b ∈ live as S := fun {b} z => by
    obtain ⟨i, c, h1, h2⟩ := mem_live.mp z
    exact mem_live.mpr ⟨i, c, h1, (f h2).1⟩
  have hs : Same (fz hd as S H) (fz hd as (S.set n none) H) := fun b u q => fz_of (fz_same _ _ q) (fun z => fz_not q (hl z)) (fz_nh q)
  obtain ⟨b, vs, e1, e2, r⟩ := w.at_ n xs e
  rw [ha] at e1; cases e1
  have nh : a ∉ hd.map (·.1) := fun z => by
    obtain ⟨q, hq, eq⟩ := List.mem_map.mp z
    exact (w.hid q hq).2 (by rw [eq]; exact mem_live.mpr ⟨n, _, ha, e⟩)
  have na : a ∉ live as (S.set n none) := fun z => by
    obtain ⟨i, c, h1, h2⟩ := mem_live.mp z
    obtain ⟨g, hi⟩ := f h2
    exact hi (w.inj i n a _ _ h1 ha g e)
  refine ⟨⟨by simp [w.len], fun i j b c c' h1 h2 h3 h4 => w.inj i j b c c' h1 h2 (f h3).1 (f h4).1, fun q hq => ⟨(w.hid q hq).1, fun z => (w.hid q hq).2 (hl z)⟩, fun m zs q => ?_⟩, ⟨fun _ _ h => h, hs⟩, .lst (fz_of e2 na nh) (r.mono (fun _ _ h => h) hs)⟩
  obtain ⟨b, us, g1, g2, r'⟩ := w.at_ m zs (f q).1
  exact ⟨b, us, g1, g2, r'.mono (fun _ _ h => h) hs⟩
end
end DL

set_option Elab.async false
set_option linter.all false
set_option maxRecDepth 100000
/-! DL2: judgements: an expression, a test, arguments, statements do to data what a function in M does. -/
namespace DL
open PySem PySem.Spec PyProof.Rows L2

abbrev EM := Env → M D
abbrev BM := Env → M Bool
abbrev AM := Env → M (List D)
inductive Flw where
  | nx | ret (d : D) | brk | cnt
abbrev SM := Env → M (Flw × Env)
@[simp] theorem bind_ap {α β : Type} (m : M α) (f : α → M β) (s : Sto) : M.bind m f s = (m s).bind f := rfl

structure Slots (K : PySem.W.Frag) (as : List Addr) (F : Hp) (σ : L2.St) (ρ : Env) : Prop where
  len : σ.length = ρ.length
  at_ : ∀ (i : Nat) (d : D), ρ[i]? = some (some d) → ∃ v, σ[i]? = some (some v) ∧ Rep K as F v d
structure REL (K : PySem.W.Frag) (hd : Hid) (as : List Addr) (ρ : Env) (S : Sto) (σ : L2.St) (H : Hp) : Prop where
  w : Wld K hd as S H
  s : Slots K as (fz hd as S H) σ ρ
theorem Slots.mono {K : PySem.W.Frag} {as as' : List Addr} {F F' : Hp} {σ : L2.St} {ρ : Env} (h : Slots K as F σ ρ) (ha : ∀ n a : Nat, as[n]? = some a → as'[n]? = some a) (e : Same F F') : Slots K as' F' σ ρ :=
  ⟨h.len, fun i d q => let ⟨v, e1, r⟩ := h.at_ i d q; ⟨v, e1, r.mono ha e⟩⟩
theorem REL.grow {K : PySem.W.Frag} {hd : Hid} {as as' : List Addr} {ρ : Env} {S S' : Sto} {σ : L2.St} {H H' : Hp} (h : REL K hd as ρ S σ H) (g : Grow hd as S H as' S' H') (w : Wld K hd as' S' H') : REL K hd as' ρ S' σ H' := ⟨w, h.s.mono g.pre g.same⟩
theorem Slots.set {K : PySem.W.Frag} {as : List Addr} {F : Hp} {σ : L2.St} {ρ : Env} {v : V} {d : D} (h : Slots K as F σ ρ) (r : Rep K as F v d) (i : Nat) : Slots K as F (σ.set i (some v)) (ρ.set i (some d)) := by
  refine ⟨by simp [h.len], fun j e q => ?_⟩
  by_cases hij : i = j
  · subst hij
    by_cases hi : i < ρ.length
    · rw [List.getElem?_set_self hi] at q
      cases q
      exact ⟨v, by rw [List.getElem?_set_self (by rw [h.len]; exact hi)], r⟩
    · rw [List.getElem?_eq_none (by simpa using Nat.le_of_not_lt hi)] at q; cases q
  · rw [List.getElem?_set_ne hij] at q
    obtain ⟨u, e1, r1⟩ := h.at_ j e q
    exact ⟨u, by rw [List.getElem?_set_ne hij]; exact e1, r1⟩

/-- an error in the air -/
def XRep (K : PySem.W.Frag) (mg : Str → Option Value) (as : List Addr) (F : Hp) (x : XD) (cls : Value) (dd : Option Addr) : Prop :=
  mg x.name = some cls ∧ match x.flds with
    | none => dd = none
    | some fs => ∃ d vs, dd = some d ∧ F d = some (.xd vs) ∧ vs.map (·.1) = fs.map (·.1) ∧ RepL K as F (vs.map (·.2)) (fs.map (·.2))

/-- how a step ends, and what is wanted then -/
def Post {α : Type} (K : PySem.W.Frag) (mg : Str → Option Value) (W : WX) (σ : L2.St) (ρ : Env) (hd : Hid) (as : List Addr) (S : Sto) (H : Hp) (r : R α) (k : α → List Addr → Sto → Hp → Prop) : Prop :=
  match r with
  | .ok a S' => ∀ as' H', Grow hd as S H as' S' H' → REL K hd as' ρ S' σ H' → k a as' S' H'
  | .exc x S' => ∀ as' cls dd H', Grow hd as S H as' S' H' → REL K hd as' ρ S' σ H' → XRep K mg as' (fz hd as' S' H') x cls dd → W cls dd σ H'
  | .stuck => False
section
variable {α β : Type} {K : PySem.W.Frag} {mg : Str → Option Value} {W : WX} {σ : L2.St} {ρ : Env} {hd : Hid} {as as1 : List Addr} {S S1 : Sto} {H H1 : Hp}
theorem Post.later {r : R α} {k : α → List Addr → Sto → Hp → Prop} (h : Post K mg W σ ρ hd as S H r k) (g : Grow hd as S H as1 S1 H1) : Post K mg W σ ρ hd as1 S1 H1 r k := by
  cases r with
  | ok a S' => exact fun as' H' g' rel => h as' H' (g.trans g') rel
  | exc x S' => exact fun as' cls dd H' g' rel => h as' cls dd H' (g.trans g') rel
  | stuck => exact h
theorem Post.imp {r : R α} {k k' : α → List Addr → Sto → Hp → Prop} (h : Post K mg W σ ρ hd as S H r k) (f : ∀ a as' S' H', Grow hd as S H as' S' H' → REL K hd as' ρ S' σ H' → k a as' S' H' → k' a as' S' H') : Post K mg W σ ρ hd as S H r k' := by
  cases r with
  | ok a S' => exact fun as' H' g rel => f a as' S' H' g rel (h as' H' g rel)
  | exc x S' => exact h
  | stuck => exact h
theorem Post.bind {r : R α} {f : α → M β} {k : β → List Addr → Sto → Hp → Prop} (h : Post K mg W σ ρ hd as S H (r.bind f) k) : Post K mg W σ ρ hd as S H r (fun a as' S' H' => Post K mg W σ ρ hd as' S' H' (f a S') k) := by
  cases r with
  | ok a S' => exact fun as' H' g rel => Post.later (r := f a S') h g
  | exc x S' => exact h
  | stuck => exact h
end

def tE (K : PySem.W.Frag) (mg : Str → Option Value) (W : WX) (m : EM) : TE := fun σ H Q => ∃ hd as ρ S, REL K hd as ρ S σ H ∧ Post K mg W σ ρ hd as S H (m ρ S) fun d as' S' H' => ∀ v, Rep K as' (fz hd as' S' H') v d → Q v H'
def tT (K : PySem.W.Frag) (mg : Str → Option Value) (W : WX) (m : BM) : TT := fun σ H Q => ∃ hd as ρ S, REL K hd as ρ S σ H ∧ Post K mg W σ ρ hd as S H (m ρ S) fun b _ _ H' => Q b H'
def tA (K : PySem.W.Frag) (mg : Str → Option Value) (W : WX) (m : AM) : TA := fun σ H Q => ∃ hd as ρ S, REL K hd as ρ S σ H ∧ Post K mg W σ ρ hd as S H (m ρ S) fun ds as' S' H' => ∀ vs, RepL K as' (fz hd as' S' H') vs ds → Q vs H'
abbrev DE (X : Cx) (W : WX) (e : Expr) (m : EM) : Prop := PE X e (tE X.K X.mg W m)
abbrev DT (X : Cx) (W : WX) (e : Expr) (m : BM) : Prop := PT X e (tT X.K X.mg W m)
abbrev DW (X : Cx) (W : WX) (e : Expr) (m : BM) : Prop := PW X e (tT X.K X.mg W m)
abbrev DA (X : Cx) (W : WX) (es : List Expr) (m : AM) : Prop := PA X es (tA X.K X.mg W m)

theorem PE.le {X : Cx} {e : Expr} {t t' : TE} (h : PE X e t) (k : ∀ σ H Q, t' σ H Q → t σ H Q) : PE X e t' := ⟨fun pins s σ H Q I q => h.run pins s σ H Q I (k σ H Q q)⟩
theorem PT.le {X : Cx} {e : Expr} {t t' : TT} (h : PT X e t) (k : ∀ σ H Q, t' σ H Q → t σ H Q) : PT X e t' := ⟨fun pins s σ H Q I q => h.run pins s σ H Q I (k σ H Q q)⟩
theorem PW.le {X : Cx} {e : Expr} {t t' : TT} (h : PW X e t) (k : ∀ σ H Q, t' σ H Q → t σ H Q) : PW X e t' := ⟨fun wh pins s σ H Q I q => h.run wh pins s σ H Q I (k σ H Q q)⟩
theorem PA.le {X : Cx} {es : List Expr} {t t' : TA} (h : PA X es t) (k : ∀ σ H Q, t' σ H Q → t σ H Q) : PA X es t' := ⟨fun p pins s σ H Q I q => h.run p pins s σ H Q I (k σ H Q q)⟩
theorem PS.le {X : Cx} {st : Stmt} {t t' : TS} (h : PS X st t) (k : ∀ D σ H, t' D σ H → t D σ H) : PS X st t' := ⟨fun pins s σ H D I q => h.run pins s σ H D I (k D σ H q)⟩
theorem PSs.le {X : Cx} {st : List Stmt} {t t' : TS} (h : PSs X st t) (k : ∀ D σ H, t' D σ H → t D σ H) : PSs X st t' := ⟨fun pins s σ H D I q => h.run pins s σ H D I (k D σ H q)⟩

section
variable {β : Type} {K : PySem.W.Frag} {mg : Str → Option Value} {W : WX} {σ : L2.St} {ρ : Env} {hd : Hid} {as : List Addr} {S : Sto} {H : Hp} {k : β → List Addr → Sto → Hp → Prop}
theorem tE_seq {m : EM} {f : D → M β} {Q : VK} (rel : REL K hd as ρ S σ H) (po : Post K mg W σ ρ hd as S H ((m ρ S).bind f) k)
    (h : ∀ as1 S1 H1 v1 d, Grow hd as S H as1 S1 H1 → REL K hd as1 ρ S1 σ H1 → Rep K as1 (fz hd as1 S1 H1) v1 d → Post K mg W σ ρ hd as1 S1 H1 (f d S1) k → Q v1 H1) : tE K mg W m σ H Q :=
  ⟨hd, as, ρ, S, rel, po.bind.imp fun d as1 S1 H1 g rel1 q v r => h as1 S1 H1 v d g rel1 r q⟩
theorem tT_seq {m : BM} {f : Bool → M β} {Q : Bool → Hp → Prop} (rel : REL K hd as ρ S σ H) (po : Post K mg W σ ρ hd as S H ((m ρ S).bind f) k)
    (h : ∀ as1 S1 H1 b, Grow hd as S H as1 S1 H1 → REL K hd as1 ρ S1 σ H1 → Post K mg W σ ρ hd as1 S1 H1 (f b S1) k → Q b H1) : tT K mg W m σ H Q :=
  ⟨hd, as, ρ, S, rel, po.bind.imp fun b as1 S1 H1 g rel1 q => h as1 S1 H1 b g rel1 q⟩
theorem tA_seq {m : AM} {f : List D → M β} {Q : List V → Hp → Prop} (rel : REL K hd as ρ S σ H) (po : Post K mg W σ ρ hd as S H ((m ρ S).bind f) k)
    (h : ∀ as1 S1 H1 vs ds, Grow hd as S H as1 S1 H1 → REL K hd as1 ρ S1 σ H1 → RepL K as1 (fz hd as1 S1 H1) vs ds → Post K mg W σ ρ hd as1 S1 H1 (f ds S1) k → Q vs H1) : tA K mg W m σ H Q :=
  ⟨hd, as, ρ, S, rel, po.bind.imp fun ds as1 S1 H1 g rel1 q vs r => h as1 S1 H1 vs ds g rel1 r q⟩
/-- the step itself -/
theorem tE_last {m : EM} {Q : VK} (rel : REL K hd as ρ S σ H) (po : Post K mg W σ ρ hd as S H (m ρ S) fun d as' S' H' => ∀ v, Rep K as' (fz hd as' S' H') v d → Q v H') : tE K mg W m σ H Q := ⟨hd, as, ρ, S, rel, po⟩
theorem tT_last {m : BM} {Q : Bool → Hp → Prop} (rel : REL K hd as ρ S σ H) (po : Post K mg W σ ρ hd as S H (m ρ S) fun b _ _ H' => Q b H') : tT K mg W m σ H Q := ⟨hd, as, ρ, S, rel, po⟩
end

/-! ### operations by values -/
def Ret (K : PySem.W.Frag) (hd : Hid) (as : List Addr) (S : Sto) (H : Hp) (r : R D) (run : VK → Prop) : Prop :=
  match r with
  | .ok d S' => ∀ Q : VK, (∀ as' v H', Grow hd as S H as' S' H' → Wld K hd as' S' H' → Rep K as' (fz hd as' S' H') v d → Q v H') → run Q
  | .exc _ _ => False
  | .stuck => True
def Act1 (K : PySem.W.Frag) (r : V → Hp → VK → Prop) (f : D → M D) : Prop := ∀ hd as S H v d, Wld K hd as S H → Rep K as (fz hd as S H) v d → Ret K hd as S H (f d S) (r v H)
def Act2 (K : PySem.W.Frag) (r : R2) (f : D → D → M D) : Prop := ∀ hd as S H v u d e, Wld K hd as S H → Rep K as (fz hd as S H) v d → Rep K as (fz hd as S H) u e → Ret K hd as S H (f d e S) (r v u H)
def ActL (K : PySem.W.Frag) (r : List V → Hp → VK → Prop) (f : List D → M D) : Prop := ∀ hd as S H vs ds, Wld K hd as S H → RepL K as (fz hd as S H) vs ds → Ret K hd as S H (f ds S) (r vs H)
def ActM (K : PySem.W.Frag) (r : V → List V → Hp → VK → Prop) (f : D → List D → M D) : Prop := ∀ hd as S H v vs d ds, Wld K hd as S H → Rep K as (fz hd as S H) v d → RepL K as (fz hd as S H) vs ds → Ret K hd as S H (f d ds S) (r v vs H)
theorem Ret.out {K : PySem.W.Frag} {mg : Str → Option Value} {W : WX} {σ : L2.St} {ρ : Env} {hd : Hid} {as : List Addr} {S : Sto} {H : Hp} {r : R D} {run : VK → Prop} {Q : VK} (h : Ret K hd as S H r run) (rel : REL K hd as ρ S σ H)
    (po : Post K mg W σ ρ hd as S H r fun d as' S' H' => ∀ v, Rep K as' (fz hd as' S' H') v d → Q v H') : run Q := by
  cases r with
  | ok d S' => exact h Q fun as' v H' g w r => po as' H' g (rel.grow g w) v r
  | exc x S' => exact h.elim
  | stuck => exact po.elim
/-- no new cell, nothing changed: the same heap -/
theorem Ret.now {K : PySem.W.Frag} {hd : Hid} {as : List Addr} {S : Sto} {H : Hp} {d : D} {v : V} {run : VK → Prop} (w : Wld K hd as S H) (r : Rep K as (fz hd as S H) v d) (h : ∀ Q : VK, Q v H → run Q) : Ret K hd as S H (.ok d S) run := fun Q q => h Q (q as v H .refl w r)
/-- a new object -/
theorem Ret.fresh {K : PySem.W.Frag} {hd : Hid} {as : List Addr} {S : Sto} {H : Hp} {d : D} {o : HO} {run : VK → Prop} (w : Wld K hd as S H) (r : ∀ p, (fz hd as S (upd H p o)) p = some o → Grow hd as S H as S (upd H p o) → Rep K as (fz hd as S (upd H p o)) (.ref p) d)
    (h : ∀ Q : VK, (∀ p, H p = none → Q (.ref p) (upd H p o)) → run Q) : Ret K hd as S H (.ok d S) run := fun Q q => h Q fun p hp => by
  obtain ⟨w', g, e⟩ := w.fresh (o := o) hp
  exact q as _ _ g w' (r p e g)

/-! ### what stands where a list is wanted -/
def listOf (S : Sto) : D → Option (List D)
  | .lst xs => some xs
  | .ro xs => some xs
  | .cell n => match S[n]? with
    | some (some (.lst xs)) => some xs
    | _ => none
  | _ => none
theorem seqL {K : PySem.W.Frag} {hd : Hid} {as : List Addr} {S : Sto} {H : Hp} {v : V} {d : D} {xs : List D} (w : Wld K hd as S H) (r : Rep K as (fz hd as S H) v d) (h : listOf S d = some xs) : ∃ a vs, v = .ref a ∧ SqL K H a vs ∧ RepL K as (fz hd as S H) vs xs := by
  cases r with
  | lst q r => simp [listOf] at h; subst h; exact ⟨_, _, rfl, .inl (.inl (fz_same _ _ q)), r⟩
  | ro q r => simp [listOf] at h; subst h; exact ⟨_, _, rfl, same_l fz_same q, r⟩
  | cell q =>
    simp only [listOf] at h
    split at h
    · rename_i ys e
      cases h
      obtain ⟨a, vs, e1, e2, r⟩ := w.at_ _ _ e
      rw [q] at e1; cases e1
      exact ⟨_, _, rfl, .inl (.inl e2), r⟩
    · cases h
  | _ => simp [listOf] at h
/-- a list that stands by itself (no script, no constant) -/
def listOw (S : Sto) : D → Option (List D)
  | .lst xs => some xs
  | .cell n => match S[n]? with
    | some (some (.lst xs)) => some xs
    | _ => none
  | _ => none
theorem seqO {K : PySem.W.Frag} {hd : Hid} {as : List Addr} {S : Sto} {H : Hp} {v : V} {d : D} {xs : List D} (w : Wld K hd as S H) (r : Rep K as (fz hd as S H) v d) (h : listOw S d = some xs) : ∃ a vs, v = .ref a ∧ H a = some (.lst vs) ∧ RepL K as (fz hd as S H) vs xs := by
  cases r with
  | lst q r => simp [listOw] at h; subst h; exact ⟨_, _, rfl, fz_same _ _ q, r⟩
  | cell q =>
    simp only [listOw] at h
    split at h
    · rename_i ys e
      cases h
      obtain ⟨a, vs, e1, e2, r⟩ := w.at_ _ _ e
      rw [q] at e1; cases e1
      exact ⟨_, _, rfl, e2, r⟩
    · cases h
  | _ => simp [listOw] at h
theorem seqT {K : PySem.W.Frag} {hd : Hid} {as : List Addr} {S : Sto} {H : Hp} {v : V} {xs : List D} (r : Rep K as (fz hd as S H) v (.tup xs)) : ∃ a vs, v = .ref a ∧ SqT K H a vs ∧ RepL K as (fz hd as S H) vs xs := by
  cases r with
  | tup q r => exact ⟨_, _, rfl, same_t fz_same q, r⟩

/-! ### expressions -/
def eVar (i : Nat) : EM := fun ρ S => match ρ[i]? with
  | some (some d) => .ok d S
  | _ => .stuck
def eC (d : D) : EM := fun _ S => .ok d S
def e1 (f : D → M D) (a : EM) : EM := fun ρ => M.bind (a ρ) f
def e2 (f : D → D → M D) (a b : EM) : EM := fun ρ => M.bind (a ρ) fun x => M.bind (b ρ) fun y => f x y
def aNil : AM := fun _ S => .ok [] S
def aCons (a : EM) (r : AM) : AM := fun ρ => M.bind (a ρ) fun x => M.bind (r ρ) fun xs S => .ok (x :: xs) S
def eL (f : List D → M D) (a : AM) : EM := fun ρ => M.bind (a ρ) f
def eM (f : D → List D → M D) (o : EM) (a : AM) : EM := fun ρ => M.bind (o ρ) fun x => M.bind (a ρ) fun xs => f x xs
def mTup (ds : List D) : M D := fun S => if ds.length ≤ sizeLine then .ok (.tup ds) S else .stuck
def mLst (ds : List D) : M D := fun S => if ds.length ≤ sizeLine then .ok (.lst ds) S else .stuck
def mCell (ds : List D) : M D := fun S => if ds.length ≤ sizeLine then .ok (.cell S.length) (S ++ [some (.lst ds)]) else .stuck
def mBool : D → M Bool
  | .bl b => fun S => .ok b S
  | _ => fun _ => .stuck
def bVal (a : EM) : BM := fun ρ => M.bind (a ρ) mBool
def bNot (a : BM) : BM := fun ρ => M.bind (a ρ) fun b S => .ok (!b) S
def bAnd (a b : BM) : BM := fun ρ => M.bind (a ρ) fun x => if x then b ρ else fun S => .ok false S
def bOr (a b : BM) : BM := fun ρ => M.bind (a ρ) fun x => if x then fun S => .ok true S else b ρ
def eAnd (a b : EM) : EM := fun ρ => M.bind (a ρ) fun d => M.bind (mBool d) fun x => if x then b ρ else fun S => .ok (.bl false) S
def eOr (a b : EM) : EM := fun ρ => M.bind (a ρ) fun d => M.bind (mBool d) fun x => if x then fun S => .ok (.bl true) S else b ρ
def eNot (a : EM) : EM := fun ρ => M.bind (a ρ) fun d => M.bind (mBool d) fun x S => .ok (.bl (!x)) S
def eIf (c : BM) (a b : EM) : EM := fun ρ => M.bind (c ρ) fun x => if x then a ρ else b ρ
/-- what is changed no more is data -/
def mFrz : D → M D
  | .cell n => fun S => match S[n]? with
    | some (some (.lst xs)) => .ok (.lst xs) (S.set n none)
    | _ => .stuck
  | d => fun S => .ok d S

section
variable {X : Cx} {W : WX} {a b c e o : Expr} {es : List Expr} {ma mb mc me : EM} {mt mu : BM} {mr : AM} {pos : Pos}
theorem de_var (i : Nat) {x : Str} (hN : X.N[i]? = some x := by rfl) (hv : Vis X.env.scope x := by first | exact Or.inl rfl | exact Or.inr (Or.inl rfl) | exact Or.inr (Or.inr rfl)) (hd : (x == ("__debug__" : Str)) = false := by decide)
    (hcd : (x == ("__classdict__" : Str)) = false := by decide) : DE X W (.Name x pos) (eVar i) := PE.le (pe_var hN hv hd hcd) fun σ H Q ⟨hd, as, ρ, S, rel, po⟩ => by
  unfold eVar at po
  split at po
  · rename_i d e
    obtain ⟨v, e1, r⟩ := rel.s.at_ i d e
    exact ⟨v, e1, po as H .refl rel v r⟩
  · exact po.elim
theorem PE.const {v : V} {d : D} (h : PE X e (tC v)) (r : ∀ as F, Rep X.K as F v d) : DE X W e (eC d) := PE.le h fun σ H Q ⟨hd, as, ρ, S, rel, po⟩ => po as H .refl rel v (r _ _)
theorem de_int {i : Int} {j} : DE X W (.Constant (.int i) j pos) (eC (.int i)) := PE.const pe_int fun _ _ => .int i
theorem de_bl {i : Bool} {j} : DE X W (.Constant (.bool i) j pos) (eC (.bl i)) := PE.const pe_bl fun _ _ => .bl i
theorem de_str {i : Str} {j} : DE X W (.Constant (.str i) j pos) (eC (.str i)) := PE.const pe_str fun _ _ => .str i
theorem de_non {j} : DE X W (.Constant .none j pos) (eC .non) := PE.const pe_non fun _ _ => .non
/-- a constant of the module -/
theorem de_glob {x : Str} {v : V} {u : Value} {d : D} (hg : Gl X x) (hm : X.mg x = some u) (r : RelV v u) (rd : ∀ as F, Rep X.K as F v d) (hd : (x == ("__debug__" : Str)) = false := by decide) : DE X W (.Name x pos) (eC d) := PE.const (pe_glob hg hm r hd) rd
theorem de_bin {op : Operator} {r : R2} {f : D → D → M D} (ho : OpR X (binaryOp op) r) (act : Act2 X.K r f) (ha : DE X W a ma) (hb : DE X W b mb) : DE X W (.BinOp a op b pos) (e2 f ma mb) :=
  PE.le (pe_op ho ha hb) fun σ H Q ⟨hd, as, ρ, S, rel, po⟩ => tE_seq rel po fun as1 S1 H1 v1 d1 g1 rel1 r1 po1 => tE_seq rel1 po1 fun as2 S2 H2 v2 d2 g2 rel2 r2 po2 =>
    (act hd as2 S2 H2 v1 v2 d1 d2 rel2.w (r1.grow g2) r2).out rel2 po2
theorem de_cmp {op : CmpOp} {r : R2} {f : D → D → M D} (ho : OpR X (compareOp op) r) (act : Act2 X.K r f) (ha : DE X W a ma) (hb : DE X W b mb) (hm : behindInMarks op b = false) : DE X W (.Compare a [op] [b] pos) (e2 f ma mb) :=
  PE.le (pe_cmpR ho ha hb hm) fun σ H Q ⟨hd, as, ρ, S, rel, po⟩ => tE_seq rel po fun as1 S1 H1 v1 d1 g1 rel1 r1 po1 => tE_seq rel1 po1 fun as2 S2 H2 v2 d2 g2 rel2 r2 po2 =>
    (act hd as2 S2 H2 v1 v2 d1 d2 rel2.w (r1.grow g2) r2).out rel2 po2
theorem de_un {op : UnaryOp} {r : V → Hp → VK → Prop} {f : D → M D} (ho : UnR X (unaryOp op) r) (act : Act1 X.K r f) (ha : DE X W a ma) : DE X W (.UnaryOp op a pos) (e1 f ma) :=
  PE.le (pe_un ho ha) fun σ H Q ⟨hd, as, ρ, S, rel, po⟩ => tE_seq rel po fun as1 S1 H1 v1 d1 g1 rel1 r1 po1 => (act hd as1 S1 H1 v1 d1 rel1.w r1).out rel1 po1
theorem da_nil : DA X W [] aNil := PA.le pa_nil fun σ H Q ⟨hd, as, ρ, S, rel, po⟩ => po as H .refl rel [] .nil
theorem da_cons (ha : DE X W a ma) (hr : DA X W es mr) (hs : starEach (a :: es) X.env = (false, eval a X.env) :: starEach es X.env := by rfl) : DA X W (a :: es) (aCons ma mr) :=
  PA.le (pa_cons ha hr hs) fun σ H Q ⟨hd, as, ρ, S, rel, po⟩ => tE_seq rel po fun as1 S1 H1 v1 d1 g1 rel1 r1 po1 => tA_seq rel1 po1 fun as2 S2 H2 vs ds g2 rel2 r2 po2 =>
    po2 as2 H2 .refl rel2 (v1 :: vs) (.cons (r1.grow g2) r2)
theorem de_dE : DE X W (.Dict [] [] pos) (eC .dE) := PE.le pe_dnewK fun σ H Q ⟨hd, as, ρ, S, rel, po⟩ => (Ret.fresh (o := .dK []) rel.w (fun p e g => .dE (.inl e)) fun Q q => q).out rel po
theorem ret_tup {K : PySem.W.Frag} {hd : Hid} {as : List Addr} {S : Sto} {H : Hp} {vs : List V} {ds : List D} (w : Wld K hd as S H) (r : RepL K as (fz hd as S H) vs ds) : Ret K hd as S H (mTup ds S) fun Q => vs.length ≤ sizeLine ∧ ∀ p, H p = none → Q (.ref p) (upd H p (.tup vs)) := by
  unfold mTup
  split
  · rename_i hz
    exact Ret.fresh w (fun p e g => .tup (.inl (.inl e)) (r.grow g)) fun Q q => ⟨by rw [r.length]; exact hz, q⟩
  · exact trivial
theorem ret_lst {K : PySem.W.Frag} {hd : Hid} {as : List Addr} {S : Sto} {H : Hp} {vs : List V} {ds : List D} (w : Wld K hd as S H) (r : RepL K as (fz hd as S H) vs ds) : Ret K hd as S H (mLst ds S) fun Q => vs.length ≤ sizeLine ∧ ∀ p, H p = none → Q (.ref p) (upd H p (.lst vs)) := by
  unfold mLst
  split
  · rename_i hz
    exact Ret.fresh w (fun p e g => .lst e (r.grow g)) fun Q q => ⟨by rw [r.length]; exact hz, q⟩
  · exact trivial
theorem ret_cell {K : PySem.W.Frag} {hd : Hid} {as : List Addr} {S : Sto} {H : Hp} {vs : List V} {ds : List D} (w : Wld K hd as S H) (r : RepL K as (fz hd as S H) vs ds) : Ret K hd as S H (mCell ds S) fun Q => vs.length ≤ sizeLine ∧ ∀ p, H p = none → Q (.ref p) (upd H p (.lst vs)) := by
  unfold mCell
  split
  · rename_i hz
    exact fun Q q => ⟨by rw [r.length]; exact hz, fun p hp => by
      obtain ⟨w', g, e⟩ := w.newCell hp r
      exact q _ _ _ g w' (.cell e)⟩
  · exact trivial
theorem de_tup {x1} (h : DA X W es mr) : DE X W (.Tuple es x1 pos) (eL mTup mr) := PE.le (pe_tup h) fun σ H Q ⟨hd, as, ρ, S, rel, po⟩ => tA_seq rel po fun as1 S1 H1 vs ds g1 rel1 r1 po1 => (ret_tup rel1.w r1).out rel1 po1
theorem de_lst (h : DA X W es mr) : DE X W (.List es pos) (eL mLst mr) := PE.le (pe_lst h) fun σ H Q ⟨hd, as, ρ, S, rel, po⟩ => tA_seq rel po fun as1 S1 H1 vs ds g1 rel1 r1 po1 => (ret_lst rel1.w r1).out rel1 po1
theorem de_lstC (h : DA X W es mr) : DE X W (.List es pos) (eL mCell mr) := PE.le (pe_lst h) fun σ H Q ⟨hd, as, ρ, S, rel, po⟩ => tA_seq rel po fun as1 S1 H1 vs ds g1 rel1 r1 po1 => (ret_cell rel1.w r1).out rel1 po1
theorem de_callB {x : Str} {p : Pos} {id : String} {r : List V → Hp → VK → Prop} {f : List D → M D} (hc : CallR X (.builtin id) r) (act : ActL X.K r f) (hg : Gl X x) (hm : X.mg x = none) (hv : bootBuiltins x = some (.builtin id)) (ha : DA X W (e :: es) mr)
    (hn : x ≠ "__name__" := by decide) (hdb : (x == ("__debug__" : Str)) = false := by decide)
    (he : starEach (e :: es) X.env = (false, eval e X.env) :: starEach es X.env := by rfl) (hpl : (backTo pos (starEach es X.env)).any (·.1) = false := by rfl) : DE X W (.Call (.Name x p) (e :: es) [] pos) (eL f mr) :=
  PE.le (pe_callB hc hg hm hv ha hn hdb he hpl) fun σ H Q ⟨hd, as, ρ, S, rel, po⟩ => tA_seq rel po fun as1 S1 H1 vs ds g1 rel1 r1 po1 => (act hd as1 S1 H1 vs ds rel1.w r1).out rel1 po1
theorem de_callTy {x : Str} {p : Pos} {T : String} {r : List V → Hp → VK → Prop} {f : List D → M D} (hc : CallR X (.type T) r) (act : ActL X.K r f) (hg : Gl X x) (hm : X.mg x = none) (hv : bootBuiltins x = some (.type T)) (ha : DA X W (e :: es) mr)
    (hn : x ≠ "__name__" := by decide) (hdb : (x == ("__debug__" : Str)) = false := by decide)
    (he : starEach (e :: es) X.env = (false, eval e X.env) :: starEach es X.env := by rfl) (hpl : (backTo pos (starEach es X.env)).any (·.1) = false := by rfl) : DE X W (.Call (.Name x p) (e :: es) [] pos) (eL f mr) :=
  PE.le (pe_callTy hc hg hm hv ha hn hdb he hpl) fun σ H Q ⟨hd, as, ρ, S, rel, po⟩ => tA_seq rel po fun as1 S1 H1 vs ds g1 rel1 r1 po1 => (act hd as1 S1 H1 vs ds rel1.w r1).out rel1 po1
theorem de_ix {r : R2} {f : D → D → M D} (hr : IxR X r) (act : Act2 X.K r f) (ha : DE X W a ma) (hb : DE X W b mb) (hs : PlainIx b := by intro _ _; rfl) : DE X W (.Subscript a b pos) (e2 f ma mb) :=
  PE.le (pe_ix hr ha hb hs) fun σ H Q ⟨hd, as, ρ, S, rel, po⟩ => tE_seq rel po fun as1 S1 H1 v1 d1 g1 rel1 r1 po1 => tE_seq rel1 po1 fun as2 S2 H2 v2 d2 g2 rel2 r2 po2 =>
    (act hd as2 S2 H2 v1 v2 d1 d2 rel2.w (r1.grow g2) r2).out rel2 po2
theorem de_frz (h : DE X W e me) : DE X W e (e1 mFrz me) := PE.le h fun σ H Q ⟨hd, as, ρ, S, rel, po⟩ => tE_seq rel po fun as1 S1 H1 v1 d1 g1 rel1 r1 po1 => by
  cases r1 with
  | cell q =>
    rename_i n b
    cases e : S1[n]? with
    | none => simp only [mFrz, e] at po1; exact po1.elim
    | some z =>
      cases z with
      | none => simp only [mFrz, e] at po1; exact po1.elim
      | some c =>
        cases c with
        | lst xs =>
          simp only [mFrz, e] at po1
          obtain ⟨w', g, r⟩ := rel1.w.freeze e q
          exact po1 _ _ g (rel1.grow g w') _ r
  | non => exact po1 _ _ .refl rel1 _ .non
  | bl i => exact po1 _ _ .refl rel1 _ (.bl i)
  | int i => exact po1 _ _ .refl rel1 _ (.int i)
  | str i => exact po1 _ _ .refl rel1 _ (.str i)
  | dE q => exact po1 _ _ .refl rel1 _ (.dE q)
  | ty i => exact po1 _ _ .refl rel1 _ (.ty i)
  | tup q r => exact po1 _ _ .refl rel1 _ (.tup q r)
  | lst q r => exact po1 _ _ .refl rel1 _ (.lst q r)
  | ro q r => exact po1 _ _ .refl rel1 _ (.ro q r)

/-! ### tests -/
theorem mBool_bl {K : PySem.W.Frag} {as : List Addr} {F : Hp} {v : V} {d : D} (r : Rep K as F v d) {S : Sto} : mBool d S = .stuck ∨ ∃ b, v = .bl b ∧ d = .bl b := by
  cases r with
  | bl i => exact .inr ⟨i, rfl, rfl⟩
  | _ => exact .inl rfl
theorem dt_val (h : DE X W e me) (he : ∀ whole, isTrue e X.env whole = (do let v ← whole; standAt e.pos; holding [v] (truthy v)) := by intro _; rfl) : DT X W e (bVal me) :=
  PT.le (pt_val h he) fun σ H Q ⟨hd, as, ρ, S, rel, po⟩ => tE_seq rel po fun as1 S1 H1 v1 d1 g1 rel1 r1 po1 => by
    rcases mBool_bl r1 (S := S1) with z | ⟨b, rfl, rfl⟩
    · rw [z] at po1; exact po1.elim
    · exact ⟨b, rfl, po1 as1 H1 .refl rel1⟩
theorem dt_not (h : DT X W a mt) : DT X W (.UnaryOp .Not a pos) (bNot mt) := PT.le (pt_not h) fun σ H Q ⟨hd, as, ρ, S, rel, po⟩ => tT_seq rel po fun as1 S1 H1 b g1 rel1 po1 => po1 as1 H1 .refl rel1
theorem dw_and1 (h : DT X W a mt) : DW X W (.BoolOp .And [a] pos) mt := pw_and1 h
theorem dw_or1 (h : DT X W a mt) : DW X W (.BoolOp .Or [a] pos) mt := pw_or1 h
theorem dw_and (ha : DT X W a mt) (hb : DW X W (.BoolOp .And (b :: es) pos) mu) : DW X W (.BoolOp .And (a :: b :: es) pos) (bAnd mt mu) :=
  PW.le (pw_and ha hb) fun σ H Q ⟨hd, as, ρ, S, rel, po⟩ => tT_seq rel po fun as1 S1 H1 b g1 rel1 po1 => by
    cases b with
    | true => exact iteT (tT_last rel1 po1)
    | false => exact iteF (po1 as1 H1 .refl rel1)
theorem dw_or (ha : DT X W a mt) (hb : DW X W (.BoolOp .Or (b :: es) pos) mu) : DW X W (.BoolOp .Or (a :: b :: es) pos) (bOr mt mu) :=
  PW.le (pw_or ha hb) fun σ H Q ⟨hd, as, ρ, S, rel, po⟩ => tT_seq rel po fun as1 S1 H1 b g1 rel1 po1 => by
    cases b with
    | true => exact iteT (po1 as1 H1 .refl rel1)
    | false => exact iteF (tT_last rel1 po1)
theorem de_one {op} (h : DE X W a ma) : DE X W (.BoolOp op [a] pos) ma := pe_one h
theorem de_and (ha : DE X W a ma) (hb : DE X W (.BoolOp .And (b :: es) pos) mb) : DE X W (.BoolOp .And (a :: b :: es) pos) (eAnd ma mb) :=
  PE.le (pe_and ha hb) fun σ H Q ⟨hd, as, ρ, S, rel, po⟩ => tE_seq rel po fun as1 S1 H1 v1 d1 g1 rel1 r1 po1 => by
    rcases mBool_bl r1 (S := S1) with z | ⟨b, rfl, rfl⟩
    · rw [bind_ap, z] at po1; exact po1.elim
    · refine ⟨b, rfl, ?_⟩
      cases b with
      | true => exact iteT (tE_last rel1 po1)
      | false => exact iteF (po1 as1 H1 .refl rel1 _ (.bl false))
theorem de_or (ha : DE X W a ma) (hb : DE X W (.BoolOp .Or (b :: es) pos) mb) : DE X W (.BoolOp .Or (a :: b :: es) pos) (eOr ma mb) :=
  PE.le (pe_or ha hb) fun σ H Q ⟨hd, as, ρ, S, rel, po⟩ => tE_seq rel po fun as1 S1 H1 v1 d1 g1 rel1 r1 po1 => by
    rcases mBool_bl r1 (S := S1) with z | ⟨b, rfl, rfl⟩
    · rw [bind_ap, z] at po1; exact po1.elim
    · refine ⟨b, rfl, ?_⟩
      cases b with
      | true => exact iteT (po1 as1 H1 .refl rel1 _ (.bl true))
      | false => exact iteF (tE_last rel1 po1)
theorem de_not (ha : DE X W a ma) : DE X W (.UnaryOp .Not a pos) (eNot ma) :=
  PE.le (pe_not ha) fun σ H Q ⟨hd, as, ρ, S, rel, po⟩ => tE_seq rel po fun as1 S1 H1 v1 d1 g1 rel1 r1 po1 => by
    rcases mBool_bl r1 (S := S1) with z | ⟨b, rfl, rfl⟩
    · rw [bind_ap, z] at po1; exact po1.elim
    · exact ⟨b, rfl, po1 as1 H1 .refl rel1 _ (.bl _)⟩
theorem de_if (hc : DT X W c mt) (ha : DE X W a ma) (hb : DE X W b mb) : DE X W (.IfExp c a b pos) (eIf mt ma mb) :=
  PE.le (pe_ifExp hc ha hb) fun σ H Q ⟨hd, as, ρ, S, rel, po⟩ => tT_seq rel po fun as1 S1 H1 b g1 rel1 po1 => by
    cases b with
    | true => exact iteT (tE_last rel1 po1)
    | false => exact iteF (tE_last rel1 po1)
/-- a < b < c -/
def eChain (f g : D → D → M D) (a b c : EM) : EM := fun ρ => M.bind (a ρ) fun x => M.bind (b ρ) fun y => M.bind (f x y) fun z => M.bind (mBool z) fun k => if k then M.bind (c ρ) fun w => g y w else fun S => .ok (.bl false) S
theorem tR_seq {β : Type} {K : PySem.W.Frag} {mg : Str → Option Value} {σ : L2.St} {ρ : Env} {hd : Hid} {as : List Addr} {S : Sto} {H : Hp} {k : β → List Addr → Sto → Hp → Prop} {m : M D} {f : D → M β} {run : VK → Prop} {Q : VK} (h : Ret K hd as S H (m S) run) (rel : REL K hd as ρ S σ H)
    (po : Post K mg W σ ρ hd as S H ((m S).bind f) k) (q : ∀ as1 S1 H1 v d, Grow hd as S H as1 S1 H1 → REL K hd as1 ρ S1 σ H1 → Rep K as1 (fz hd as1 S1 H1) v d → Post K mg W σ ρ hd as1 S1 H1 (f d S1) k → Q v H1) : run Q :=
  h.out rel (po.bind.imp fun d as1 S1 H1 g rel1 p v r => q as1 S1 H1 v d g rel1 r p)
theorem de_chain {op op' : CmpOp} {r r' : R2} {f g : D → D → M D} (ho : OpR X (compareOp op) r) (ho' : OpR X (compareOp op') r') (act : Act2 X.K r f) (act' : Act2 X.K r' g) (ha : DE X W a ma) (hb : DE X W b mb) (hc : DE X W c mc) (hl : lastMarks [op, op'] [b, c] = false := by with_unfolding_all rfl) :
    DE X W (.Compare a [op, op'] [b, c] pos) (eChain f g ma mb mc) :=
  PE.le (pe_chain ho ho' ha hb hc hl) fun σ H Q ⟨hd, as, ρ, S, rel, po⟩ => tE_seq rel po fun as1 S1 H1 v1 d1 g1 rel1 r1 po1 => tE_seq rel1 po1 fun as2 S2 H2 v2 d2 g2 rel2 r2 po2 =>
    tR_seq (act hd as2 S2 H2 v1 v2 d1 d2 rel2.w (r1.grow g2) r2) rel2 po2 fun as3 S3 H3 v3 d3 g3 rel3 r3 po3 => by
      rcases mBool_bl r3 (S := S3) with z | ⟨b, rfl, rfl⟩
      · rw [bind_ap, z] at po3; exact po3.elim
      · refine ⟨b, rfl, ?_⟩
        cases b with
        | true => exact iteT (tE_seq rel3 po3 fun as4 S4 H4 v4 d4 g4 rel4 r4 po4 => (act' hd as4 S4 H4 v2 v4 d2 d4 rel4.w ((r2.grow g3).grow g4) r4).out rel4 po4)
        | false => exact iteF (po3 as3 H3 .refl rel3 _ (.bl false))
/-- slices -/
abbrev OM := Env → M (Option Int)
def oNone : OM := fun _ S => .ok none S
def oSome (m : EM) : OM := fun ρ => M.bind (m ρ) fun d => match d with
  | .int i => fun S => .ok (some i) S
  | _ => fun _ => .stuck
def tO (K : PySem.W.Frag) (mg : Str → Option Value) (W : WX) (m : OM) : TO := fun σ H Q => ∃ hd as ρ S, REL K hd as ρ S σ H ∧ Post K mg W σ ρ hd as S H (m ρ S) fun o _ _ H' => Q o H'
abbrev DO (X : Cx) (W : WX) (e : Option Expr) (m : OM) : Prop := PO X e (tO X.K X.mg W m)
theorem PO.le {X : Cx} {e : Option Expr} {t t' : TO} (h : PO X e t) (k : ∀ σ H Q, t' σ H Q → t σ H Q) : PO X e t' := ⟨fun pins s σ H Q I q => h.run pins s σ H Q I (k σ H Q q)⟩
theorem do_none : DO X W none oNone := PO.le po_none fun σ H Q ⟨hd, as, ρ, S, rel, po⟩ => po as H .refl rel
theorem do_some (h : DE X W e me) : DO X W (some e) (oSome me) := PO.le (po_some h) fun σ H Q ⟨hd, as, ρ, S, rel, po⟩ => tE_seq rel po fun as1 S1 H1 v1 d1 g1 rel1 r1 po1 => by
  cases r1 with
  | int i => exact ⟨i, rfl, po1 as1 H1 .refl rel1⟩
  | _ => exact po1.elim
theorem tO_seq {β : Type} {K : PySem.W.Frag} {mg : Str → Option Value} {σ : L2.St} {ρ : Env} {hd : Hid} {as : List Addr} {S : Sto} {H : Hp} {k : β → List Addr → Sto → Hp → Prop} {m : OM} {f : Option Int → M β} {Q : Option Int → Hp → Prop} (rel : REL K hd as ρ S σ H)
    (po : Post K mg W σ ρ hd as S H ((m ρ S).bind f) k) (h : ∀ as1 S1 H1 o, Grow hd as S H as1 S1 H1 → REL K hd as1 ρ S1 σ H1 → Post K mg W σ ρ hd as1 S1 H1 (f o S1) k → Q o H1) : tO K mg W m σ H Q :=
  ⟨hd, as, ρ, S, rel, po.bind.imp fun o as1 S1 H1 g rel1 q => h as1 S1 H1 o g rel1 q⟩
def ActS (K : PySem.W.Frag) (r : V → Option Int → Option Int → Hp → VK → Prop) (f : D → Option Int → Option Int → M D) : Prop := ∀ hd as S H v d lo hi, Wld K hd as S H → Rep K as (fz hd as S H) v d → Ret K hd as S H (f d lo hi S) (r v lo hi H)
def eSl (f : D → Option Int → Option Int → M D) (a : EM) (l u : OM) : EM := fun ρ => M.bind (a ρ) fun x => M.bind (l ρ) fun i => M.bind (u ρ) fun j => f x i j
theorem de_slice {lo hi : Option Expr} {p2 : Pos} {r : V → Option Int → Option Int → Hp → VK → Prop} {f : D → Option Int → Option Int → M D} {ml mh : OM} (hr : SlR X r) (act : ActS X.K r f) (he : DE X W e me) (hl : DO X W lo ml) (hu : DO X W hi mh) :
    DE X W (.Subscript e (.Slice lo hi none p2) pos) (eSl f me ml mh) :=
  PE.le (pe_slice hr he hl hu) fun σ H Q ⟨hd, as, ρ, S, rel, po⟩ => tE_seq rel po fun as1 S1 H1 v1 d1 g1 rel1 r1 po1 => tO_seq rel1 po1 fun as2 S2 H2 i g2 rel2 po2 => tO_seq rel2 po2 fun as3 S3 H3 j g3 rel3 po3 =>
    (act hd as3 S3 H3 v1 d1 i j rel3.w ((r1.grow g2).grow g3)).out rel3 po3
/-- a built-in's methods -/
def eMt (chk : D → Sto → Bool) (f : D → List D → M D) (o : EM) (a : AM) : EM := fun ρ => M.bind (o ρ) fun x => fun S => if chk x S then ((a ρ S).bind fun xs => f x xs) else .stuck
def TyOk (K : PySem.W.Frag) (T : String) (chk : D → Sto → Bool) : Prop := ∀ hd as S H v d, Wld K hd as S H → Rep K as (fz hd as S H) v d → chk d S = true → tyV K T v H
theorem de_bm {T id : String} {name : Str} {apos : Pos} {r : V → List V → Hp → VK → Prop} {f : D → List D → M D} {chk : D → Sto → Bool} (pa : PlainAttrs T) (slot : Slot T name id) (hty : typeOf (.builtin id) = pure (.type "method_descriptor")) (hm : MtR X id r)
    (act : ActM X.K r f) (ty : TyOk X.K T chk) (ho : DE X W o mb) (ha : DA X W (e :: es) mr) (hbase : attributeBase o name X.env (eval o X.env) = eval o X.env := by rfl) (hline : (apos.endLine == pos.line) = true := by rfl)
    (hst : starEach (e :: es) X.env = (false, eval e X.env) :: starEach es X.env := by rfl) (hpl : (backTo pos (starEach es X.env)).any (·.1) = false := by rfl)
    (hfw : ((backTo pos (starEach (e :: es) X.env)).all (fun x => !x.1) && (backToKw pos (keywordEach [] X.env)).all (fun x => x.1.isSome) && decide ((e :: es).length + ([] : List Keyword).length + (if ([] : List Keyword).isEmpty then 0 else 1) < 30)) = true := by rfl) :
    DE X W (.Call (.Attribute o name apos) (e :: es) [] pos) (eMt chk f mb mr) :=
  PE.le (pe_bm pa slot hty hm ho ha hbase hfw hline hst hpl) fun σ H Q ⟨hd, as, ρ, S, rel, po⟩ => tE_seq rel po fun as1 S1 H1 v1 d1 g1 rel1 r1 po1 => by
    by_cases hk : chk d1 S1 = true
    · rw [if_pos hk] at po1
      exact ⟨ty hd as1 S1 H1 v1 d1 rel1.w r1 hk, tA_seq rel1 po1 fun as2 S2 H2 vs ds g2 rel2 r2 po2 => (act hd as2 S2 H2 v1 vs d1 ds rel2.w (r1.grow g2) r2).out rel2 po2⟩
    · rw [if_neg hk] at po1; exact po1.elim
theorem de_bm0 {T id : String} {name : Str} {apos : Pos} {r : V → List V → Hp → VK → Prop} {f : D → List D → M D} {chk : D → Sto → Bool} (pa : PlainAttrs T) (slot : Slot T name id) (hty : typeOf (.builtin id) = pure (.type "method_descriptor")) (hm : MtR X id r)
    (act : ActM X.K r f) (ty : TyOk X.K T chk) (ho : DE X W o mb) (hbase : attributeBase o name X.env (eval o X.env) = eval o X.env := by rfl) (hline : (apos.endLine == pos.line) = true := by rfl) : DE X W (.Call (.Attribute o name apos) [] [] pos) (eMt chk f mb aNil) :=
  PE.le (pe_bm0 pa slot hty hm ho hbase hline) fun σ H Q ⟨hd, as, ρ, S, rel, po⟩ => tE_seq rel po fun as1 S1 H1 v1 d1 g1 rel1 r1 po1 => by
    by_cases hk : chk d1 S1 = true
    · rw [if_pos hk] at po1
      exact ⟨ty hd as1 S1 H1 v1 d1 rel1.w r1 hk, (act hd as1 S1 H1 v1 [] d1 [] rel1.w r1 .nil).out rel1 po1⟩
    · rw [if_neg hk] at po1; exact po1.elim
end
end DL

set_option Elab.async false
set_option linter.all false
set_option maxRecDepth 100000
/-! DL3: statements, targets, what is walked, loops, comprehensions. -/
namespace DL
open PySem PySem.Spec PyProof.Rows L2

/-! ### statements -/
inductive RS where
  | ok (f : Flw) (ρ : Env) (S : Sto)
  | exc (x : XD) (ρ : Env) (S : Sto)
  | stuck
abbrev SD := Env → Sto → RS
def R.to {α : Type} (r : R α) (ρ : Env) (k : α → Sto → RS) : RS := match r with
  | .ok a S => k a S
  | .exc x S => .exc x ρ S
  | .stuck => .stuck
@[simp] theorem R.to_ok {α : Type} (a : α) (S : Sto) (ρ : Env) (k : α → Sto → RS) : (R.ok a S).to ρ k = k a S := rfl
@[simp] theorem R.to_exc {α : Type} (x : XD) (S : Sto) (ρ : Env) (k : α → Sto → RS) : (R.exc (α := α) x S).to ρ k = .exc x ρ S := rfl
@[simp] theorem R.to_stuck {α : Type} (ρ : Env) (k : α → Sto → RS) : (R.stuck (α := α)).to ρ k = .stuck := rfl
def PostS (K : PySem.W.Frag) (mg : Str → Option Value) (W : WX) (hd : Hid) (as : List Addr) (S : Sto) (H : Hp) (Dn : Ends) (r : RS) : Prop :=
  match r with
  | .ok .nx ρ' S' => ∀ as' σ' H', Grow hd as S H as' S' H' → REL K hd as' ρ' S' σ' H' → Dn.nx σ' H'
  | .ok (.ret d) ρ' S' => ∀ as' v H', Grow hd as S H as' S' H' → Wld K hd as' S' H' → Rep K as' (fz hd as' S' H') v d → Dn.rt v H'
  | .ok .brk ρ' S' => ∀ as' σ' H', Grow hd as S H as' S' H' → REL K hd as' ρ' S' σ' H' → Dn.bk σ' H'
  | .ok .cnt ρ' S' => ∀ as' σ' H', Grow hd as S H as' S' H' → REL K hd as' ρ' S' σ' H' → Dn.ct σ' H'
  | .exc x ρ' S' => ∀ as' cls dd σ' H', Grow hd as S H as' S' H' → REL K hd as' ρ' S' σ' H' → XRep K mg as' (fz hd as' S' H') x cls dd → W cls dd σ' H'
  | .stuck => False
def tS (K : PySem.W.Frag) (mg : Str → Option Value) (W : WX) (m : SD) : TS := fun Dn σ H => ∃ hd as ρ S, REL K hd as ρ S σ H ∧ PostS K mg W hd as S H Dn (m ρ S)
abbrev DS (X : Cx) (W : WX) (st : Stmt) (m : SD) : Prop := PS X st (tS X.K X.mg W m)
abbrev DSs (X : Cx) (W : WX) (st : List Stmt) (m : SD) : Prop := PSs X st (tS X.K X.mg W m)
section
variable {K : PySem.W.Frag} {mg : Str → Option Value} {W : WX} {hd : Hid} {as as1 : List Addr} {S S1 : Sto} {σ : L2.St} {ρ : Env} {H H1 : Hp} {Dn : Ends}
theorem PostS.later {r : RS} (h : PostS K mg W hd as S H Dn r) (g : Grow hd as S H as1 S1 H1) : PostS K mg W hd as1 S1 H1 Dn r := by
  match r, h with
  | .ok .nx ρ' S', h => exact fun as' σ' H' g' rel => h as' σ' H' (g.trans g') rel
  | .ok (.ret d) ρ' S', h => exact fun as' v H' g' w r => h as' v H' (g.trans g') w r
  | .ok .brk ρ' S', h => exact fun as' σ' H' g' rel => h as' σ' H' (g.trans g') rel
  | .ok .cnt ρ' S', h => exact fun as' σ' H' g' rel => h as' σ' H' (g.trans g') rel
  | .exc x ρ' S', h => exact fun as' cls dd σ' H' g' rel => h as' cls dd σ' H' (g.trans g') rel
  | .stuck, h => exact h
theorem PostS.toE {α : Type} {r : R α} {k : α → Sto → RS} (rel : REL K hd as ρ S σ H) (h : PostS K mg W hd as S H Dn (r.to ρ k)) : Post K mg W σ ρ hd as S H r fun a as' S' H' => PostS K mg W hd as' S' H' Dn (k a S') := by
  cases r with
  | ok a S' => exact fun as' H' g rel' => PostS.later (r := k a S') h g
  | exc x S' => exact fun as' cls dd H' g rel' xr => h as' cls dd σ H' g rel' xr
  | stuck => exact h
theorem tE_to {m : EM} {k : D → Sto → RS} {Q : VK} (rel : REL K hd as ρ S σ H) (po : PostS K mg W hd as S H Dn ((m ρ S).to ρ k))
    (h : ∀ as1 S1 H1 v1 d, Grow hd as S H as1 S1 H1 → REL K hd as1 ρ S1 σ H1 → Rep K as1 (fz hd as1 S1 H1) v1 d → PostS K mg W hd as1 S1 H1 Dn (k d S1) → Q v1 H1) : tE K mg W m σ H Q :=
  ⟨hd, as, ρ, S, rel, (po.toE rel).imp fun d as1 S1 H1 g rel1 q v r => h as1 S1 H1 v d g rel1 r q⟩
theorem tT_to {m : BM} {k : Bool → Sto → RS} {Q : Bool → Hp → Prop} (rel : REL K hd as ρ S σ H) (po : PostS K mg W hd as S H Dn ((m ρ S).to ρ k))
    (h : ∀ as1 S1 H1 b, Grow hd as S H as1 S1 H1 → REL K hd as1 ρ S1 σ H1 → PostS K mg W hd as1 S1 H1 Dn (k b S1) → Q b H1) : tT K mg W m σ H Q :=
  ⟨hd, as, ρ, S, rel, (po.toE rel).imp fun b as1 S1 H1 g rel1 q => h as1 S1 H1 b g rel1 q⟩
theorem tA_to {m : AM} {k : List D → Sto → RS} {Q : List V → Hp → Prop} (rel : REL K hd as ρ S σ H) (po : PostS K mg W hd as S H Dn ((m ρ S).to ρ k))
    (h : ∀ as1 S1 H1 vs ds, Grow hd as S H as1 S1 H1 → REL K hd as1 ρ S1 σ H1 → RepL K as1 (fz hd as1 S1 H1) vs ds → PostS K mg W hd as1 S1 H1 Dn (k ds S1) → Q vs H1) : tA K mg W m σ H Q :=
  ⟨hd, as, ρ, S, rel, (po.toE rel).imp fun ds as1 S1 H1 g rel1 q vs r => h as1 S1 H1 vs ds g rel1 r q⟩
end

/-- behind a: b -/
def sSeq (a b : SD) : SD := fun ρ S => match a ρ S with
  | .ok .nx ρ' S' => b ρ' S'
  | r => r
def sNx : SD := fun ρ S => .ok .nx ρ S
def sBrk : SD := fun ρ S => .ok .brk ρ S
def sCnt : SD := fun ρ S => .ok .cnt ρ S
def sRet (m : EM) : SD := fun ρ S => (m ρ S).to ρ fun d S' => .ok (.ret d) ρ S'
def sRetN : SD := fun ρ S => .ok (.ret .non) ρ S
def sSet (i : Nat) (m : EM) : SD := fun ρ S => (m ρ S).to ρ fun d S' => .ok .nx (ρ.set i (some d)) S'
def sExpr (m : EM) : SD := fun ρ S => (m ρ S).to ρ fun _ S' => .ok .nx ρ S'
def sIf (c : BM) (a b : SD) : SD := fun ρ S => (c ρ S).to ρ fun k S' => if k then a ρ S' else b ρ S'
def sNever : SD := fun _ _ => .stuck

/-! ### targets -/
inductive Tg where
  | nm (i : Nat) | tup (ts : List Tg)
mutual
def Tg.slots : Tg → List Nat
  | .nm i => [i]
  | .tup ts => Tg.slotsL ts
def Tg.slotsL : List Tg → List Nat
  | [] => []
  | t :: ts => t.slots ++ Tg.slotsL ts
end
mutual
def asg : Tg → D → Env → Option Env
  | .nm i, d, ρ => some (ρ.set i (some d))
  | .tup ts, .tup ds, ρ => if ds.length = ts.length then asgL ts ds ρ else none
  | .tup _, _, _ => none
def asgL : List Tg → List D → Env → Option Env
  | [], [], ρ => some ρ
  | t :: ts, d :: ds, ρ => (asg t d ρ).bind fun ρ' => asgL ts ds ρ'
  | _, _, _ => none
end
mutual
def gOf (K : PySem.W.Frag) : Tg → TG
  | .nm i => gName i
  | .tup ts => gTup K ts.length (gOfL K ts)
def gOfL (K : PySem.W.Frag) : List Tg → TGs
  | [] => gNil
  | t :: ts => gCons (gOf K t) (gOfL K ts)
end
theorem wipe_set {σ : L2.St} {i : Nat} {x : Option V} : ∀ {vs : List Nat}, i ∈ vs → wipe (σ.set i x) vs = wipe σ vs
  | [], h => by simp at h
  | v :: vs, h => by
    unfold wipe
    by_cases hi : i ∈ vs
    · rw [wipe_set hi]
    · have e : i = v := by simpa [hi] using h
      subst e
      have k : ∀ (ws : List Nat), i ∉ ws → wipe (σ.set i x) ws = (wipe σ ws).set i x := by
        intro ws
        induction ws with
        | nil => intro _; rfl
        | cons w ws ih =>
          intro hw
          have h1 : i ≠ w := fun z => hw (by simp [z])
          have h2 : i ∉ ws := fun z => hw (by simp [z])
          unfold wipe
          rw [ih h2, List.set_comm _ _ h1]
      rw [k vs hi, List.set_set]
theorem wipe_wipe {σ : L2.St} (vs : List Nat) : wipe (wipe σ vs) vs = wipe σ vs := by
  have k : ∀ (us : List Nat), (∀ u ∈ us, u ∈ vs) → wipe (wipe σ us) vs = wipe σ vs := by
    intro us
    induction us with
    | nil => intro _; rfl
    | cons u us ih =>
      intro h
      show wipe ((wipe σ us).set u none) vs = _
      rw [wipe_set (h u (by simp)), ih fun x hx => h x (by simp [hx])]
  exact k vs fun _ h => h
section
variable {K : PySem.W.Frag} {as : List Addr} {F : Hp}
mutual
theorem gOf_ok : ∀ {T : Tg} {σ : L2.St} {ρ ρ' : Env} {v : V} {d : D} {H : Hp} {Q : L2.St → Hp → Prop}, Slots K as F σ ρ → Rep K as F v d → Same F H → asg T d ρ = some ρ' →
    (∀ σ', Slots K as F σ' ρ' → (∀ vs, (∀ i ∈ T.slots, i ∈ vs) → wipe σ' vs = wipe σ vs) → Q σ' H) → gOf K T v σ H Q
  | .nm i, σ, ρ, ρ', v, d, H, Q, s, r, _, e, q => by
    simp only [asg, Option.some.injEq] at e
    subst e
    exact q _ (s.set r i) fun vs hv => wipe_set (hv i (by simp [Tg.slots]))
  | .tup ts, σ, ρ, ρ', v, d, H, Q, s, r, hF, e, q => by
    cases d with
    | tup ds =>
      simp only [asg] at e
      split at e
      · rename_i hl
        cases r with
        | tup hq hr =>
          refine ⟨_, _, rfl, same_t hF hq, by rw [hr.length]; exact hl, gOfL_ok s hr hF e fun σ' s' w => q σ' s' fun vs hv => w vs fun i hi => hv i (by simpa [Tg.slots] using hi)⟩
      · cases e
    | _ => simp [asg] at e
theorem gOfL_ok : ∀ {ts : List Tg} {σ : L2.St} {ρ ρ' : Env} {vs : List V} {ds : List D} {H : Hp} {Q : L2.St → Hp → Prop}, Slots K as F σ ρ → RepL K as F vs ds → Same F H → asgL ts ds ρ = some ρ' →
    (∀ σ', Slots K as F σ' ρ' → (∀ ws, (∀ i ∈ Tg.slotsL ts, i ∈ ws) → wipe σ' ws = wipe σ ws) → Q σ' H) → gOfL K ts vs σ H Q
  | [], σ, ρ, ρ', vs, ds, H, Q, s, r, _, e, q => by
    cases ds with
    | nil =>
      cases r
      simp only [asgL, Option.some.injEq] at e
      subst e
      exact ⟨rfl, q σ s fun _ _ => rfl⟩
    | cons d ds => simp [asgL] at e
  | t :: ts, σ, ρ, ρ', vs, ds, H, Q, s, r, hF, e, q => by
    cases ds with
    | nil => simp [asgL] at e
    | cons d ds =>
      cases r with
      | cons r1 r2 =>
        simp only [asgL] at e
        cases e1 : asg t d ρ with
        | none => rw [e1] at e; cases e
        | some ρ1 =>
          rw [e1] at e
          exact ⟨_, _, rfl, gOf_ok s r1 hF e1 fun σ1 s1 w1 => gOfL_ok s1 r2 hF e fun σ2 s2 w2 => q σ2 s2 fun ws hw => by
            rw [w2 ws fun i hi => hw i (by simp [Tg.slotsL, hi]), w1 ws fun i hi => hw i (by simp [Tg.slotsL, hi])]⟩
end
end
abbrev DG (X : Cx) (tg : Expr) (T : Tg) : Prop := PG X tg (gOf X.K T)
abbrev DGs (X : Cx) (es : List Expr) (ts : List Tg) : Prop := PGs X es (gOfL X.K ts)
def sAsg (T : Tg) (m : EM) : SD := fun ρ S => (m ρ S).to ρ fun d S' => match asg T d ρ with
  | some ρ' => .ok .nx ρ' S'
  | none => .stuck

/-! ### what is walked -/
structure ItD where
  nx : Nat → Sto → Option (Option D)
  fu : Nat
abbrev IM := Env → M ItD
def itL (xs : List D) : ItD := ⟨fun i _ => some xs[i]?, xs.length + 1⟩
def itC (n : Nat) (k : Nat) : ItD := ⟨fun i S => match S[n]? with
  | some (some (.lst xs)) => some xs[i]?
  | _ => none, k + 1⟩
def JOk (K : PySem.W.Frag) (as0 : List Addr) (F0 : Hp) (J : It) (it : ItD) : Prop := ∀ (i : Nat) (hd : Hid) (as : List Addr) (S : Sto) (H : Hp), (∀ n a : Nat, as0[n]? = some a → as[n]? = some a) → Same F0 (fz hd as S H) → Wld K hd as S H →
  match it.nx i S with
  | none => True
  | some none => J.stop i H
  | some (some d) => J.go i H ∧ ∀ x H', J.yld i H x H' → Wld K hd as S H' ∧ Grow hd as S H as S H' ∧ Rep K as (fz hd as S H') x d
def tI (K : PySem.W.Frag) (mg : Str → Option Value) (W : WX) (m : IM) : TI := fun σ H Rk => ∃ hd as ρ S, REL K hd as ρ S σ H ∧ Post K mg W σ ρ hd as S H (m ρ S) fun it as' S' H' => ∀ J, JOk K as' (fz hd as' S' H') J it → Rk J H'
abbrev DI (X : Cx) (W : WX) (tg iter : Expr) (m : IM) : Prop := PI X tg iter (tI X.K X.mg W m)
theorem PI.le {X : Cx} {tg iter : Expr} {t t' : TI} (h : PI X tg iter t) (k : ∀ σ H R, t' σ H R → t σ H R) : PI X tg iter t' := ⟨fun pins s σ H R I q => h.run pins s σ H R I (k σ H R q)⟩

/-! ### loops -/
def forLoop (nx : Nat → Sto → Option (Option D)) (T : Tg) (b : SD) : Nat → Nat → SD
  | 0, _, _, _ => .stuck
  | n + 1, i, ρ, S => match nx i S with
    | none => .stuck
    | some none => .ok .nx ρ S
    | some (some d) => match asg T d ρ with
      | none => .stuck
      | some ρ' => match b ρ' S with
        | .ok .nx ρ2 S2 => forLoop nx T b n (i + 1) ρ2 S2
        | .ok .cnt ρ2 S2 => forLoop nx T b n (i + 1) ρ2 S2
        | .ok .brk ρ2 S2 => .ok .nx ρ2 S2
        | r => r
def sFor (im : IM) (T : Tg) (b : SD) : SD := fun ρ S => (im ρ S).to ρ fun it S' => forLoop it.nx T b it.fu 0 ρ S'
def whLoop (c : BM) (b : SD) : Nat → SD
  | 0, _, _ => .stuck
  | n + 1, ρ, S => (c ρ S).to ρ fun k S1 => if k then (match b ρ S1 with
        | .ok .nx ρ2 S2 => whLoop c b n ρ2 S2
        | .ok .cnt ρ2 S2 => whLoop c b n ρ2 S2
        | .ok .brk ρ2 S2 => .ok .nx ρ2 S2
        | r => r) else .ok .nx ρ S1
/-- how often a while goes at most: a number that is never reckoned -/
@[irreducible] def FU : Nat := 2 ^ 100000
def sWhile (c : BM) (b : SD) : SD := fun ρ S => whLoop c b FU ρ S
/-- a comprehension -/
def wipeD (ρ : Env) : List Nat → Env
  | [] => ρ
  | v :: vs => (wipeD ρ vs).set v none
def bYes : BM := fun _ S => .ok true S
def lcLoop (nx : Nat → Sto → Option (Option D)) (T : Tg) (c : BM) (e : EM) (ρ : Env) : Nat → Nat → List D → M (List D)
  | 0, _, _, _ => .stuck
  | n + 1, i, acc, S => match nx i S with
    | none => .stuck
    | some none => .ok acc S
    | some (some d) => match asg T d ρ with
      | none => .stuck
      | some ρ' => (c ρ' S).bind fun k S1 => if k then (e ρ' S1).bind fun y S2 => (if acc.length < sizeLine then lcLoop nx T c e ρ n (i + 1) (acc ++ [y]) S2 else .stuck) else lcLoop nx T c e ρ n (i + 1) acc S1
/-- no error leaves a comprehension -/
def noX {α : Type} : R α → R α
  | .exc _ _ => .stuck
  | r => r
def eLc (im : IM) (T : Tg) (c : BM) (e : EM) (vs : List Nat) : EM := fun ρ => M.bind (im ρ) fun it S => (noX (lcLoop it.nx T c e (wipeD ρ vs) it.fu 0 [] S)).bind fun xs S' => .ok (.lst xs) S'
def eLcC (im : IM) (T : Tg) (c : BM) (e : EM) (vs : List Nat) : EM := fun ρ => M.bind (im ρ) fun it S => (noX (lcLoop it.nx T c e (wipeD ρ vs) it.fu 0 [] S)).bind fun xs S' => .ok (.cell S'.length) (S' ++ [some (.lst xs)])
abbrev WNo : WX := fun _ _ _ _ => False
theorem Slots.wipe {K : PySem.W.Frag} {as : List Addr} {F : Hp} {σ : L2.St} {ρ : Env} (h : Slots K as F σ ρ) : ∀ vs : List Nat, Slots K as F (L2.wipe σ vs) (wipeD ρ vs)
  | [] => h
  | v :: vs => by
    have ih := Slots.wipe h vs
    refine ⟨by show ((L2.wipe σ vs).set v none).length = ((wipeD ρ vs).set v none).length; simp [ih.len], fun i d e => ?_⟩
    have e : ((wipeD ρ vs).set v none)[i]? = some (some d) := e
    show ∃ u, ((L2.wipe σ vs).set v none)[i]? = some (some u) ∧ _
    by_cases hi : v = i
    · subst hi
      by_cases hl : v < (wipeD ρ vs).length
      · rw [List.getElem?_set_self hl] at e; cases e
      · rw [List.getElem?_eq_none (by simpa using Nat.le_of_not_lt hl)] at e; cases e
    · rw [List.getElem?_set_ne hi] at e ⊢
      exact ih.at_ i d e

section
variable {X : Cx} {W : WX} {c e tg iter : Expr} {body rest orelse : List Stmt} {st : Stmt} {me : EM} {mb : BM} {ms mt : SD} {pos : Pos}
theorem dss_nil : DSs X W [] sNx := PSs.le pss_nil fun Dn σ H ⟨hd, as, ρ, S, rel, po⟩ => po as σ H .refl rel
theorem seq_post {K : PySem.W.Frag} {mg : Str → Option Value} {hd : Hid} {as : List Addr} {S : Sto} {H : Hp} {Dn : Ends} {a : RS} {b : SD} (h : PostS K mg W hd as S H Dn (match a with
  | .ok .nx ρ' S' => b ρ' S'
  | r => r)) : PostS K mg W hd as S H { Dn with nx := tS K mg W b Dn } a := by
  match a, h with
  | .ok .nx ρ' S', h => exact fun as' σ' H' g rel => ⟨hd, as', ρ', S', rel, PostS.later (r := b ρ' S') h g⟩
  | .ok (.ret d) ρ' S', h => exact h
  | .ok .brk ρ' S', h => exact h
  | .ok .cnt ρ' S', h => exact h
  | .exc x ρ' S', h => exact h
  | .stuck, h => exact h
theorem dss_cons (h1 : DS X W st ms) (h2 : DSs X W rest mt) : DSs X W (st :: rest) (sSeq ms mt) := PSs.le (pss_cons h1 h2) fun Dn σ H ⟨hd, as, ρ, S, rel, po⟩ => ⟨hd, as, ρ, S, rel, seq_post po⟩
theorem dss_one (h1 : DS X W st ms) : DSs X W [st] ms := pss_one h1
theorem ds_pass : DS X W (.Pass pos) sNx := PS.le ps_pass fun Dn σ H ⟨hd, as, ρ, S, rel, po⟩ => po as σ H .refl rel
theorem ds_break : DS X W (.Break pos) sBrk := PS.le ps_break fun Dn σ H ⟨hd, as, ρ, S, rel, po⟩ => po as σ H .refl rel
theorem ds_continue : DS X W (.Continue pos) sCnt := PS.le ps_continue fun Dn σ H ⟨hd, as, ρ, S, rel, po⟩ => po as σ H .refl rel
theorem ds_never : DS X W st sNever := PS.le ps_never fun Dn σ H ⟨hd, as, ρ, S, rel, po⟩ => po
theorem dss_never : DSs X W body sNever := PSs.le pss_never fun Dn σ H ⟨hd, as, ρ, S, rel, po⟩ => po
theorem ds_ret (h : DE X W e me) : DS X W (.Return (some e) pos) (sRet me) := PS.le (ps_ret h) fun Dn σ H ⟨hd, as, ρ, S, rel, po⟩ => tE_to rel po fun as1 S1 H1 v d g rel1 r q => q as1 v H1 .refl rel1.w r
theorem ds_retN : DS X W (.Return none pos) sRetN := PS.le ps_retN fun Dn σ H ⟨hd, as, ρ, S, rel, po⟩ => po as .non H .refl rel.w .non
theorem ds_expr (h : DE X W e me) (hs : swapsWith e none pos.line X.env = pure false := by rfl) : DS X W (.Expr e pos) (sExpr me) := PS.le (ps_expr h hs) fun Dn σ H ⟨hd, as, ρ, S, rel, po⟩ => tE_to rel po fun as1 S1 H1 v d g rel1 r q => q as1 σ H1 .refl rel1
theorem ds_if (hc : DT X W c mb) (ha : DSs X W body ms) (hb : DSs X W orelse mt) : DS X W (.If c body orelse pos) (sIf mb ms mt) :=
  PS.le (ps_if hc ha hb) fun Dn σ H ⟨hd, as, ρ, S, rel, po⟩ => tT_to rel po fun as1 S1 H1 b g rel1 q => by
    cases b with
    | true => exact iteT ⟨hd, as1, ρ, S1, rel1, q⟩
    | false => exact iteF ⟨hd, as1, ρ, S1, rel1, q⟩
theorem ds_set (i : Nat) {x : Str} {pos' : Pos} (hN : X.N.Nodup) (h : DE X W e me) (hi : X.N[i]? = some x := by rfl) (hx : Loc X.env.scope x := by first | exact Or.inl rfl | exact Or.inr rfl) (hs : swapsWith e (some (.Name x pos')) pos.line X.env = pure false := by rfl)
    (hf : X.fn x = true ∨ X.env.scope.names.lookup x = some .local := by first | exact .inl rfl | exact .inr rfl | assumption) : DS X W (.Assign [.Name x pos'] e pos) (sSet i me) :=
  PS.le (ps_set hN hi hx h hs hf) fun Dn σ H ⟨hd, as, ρ, S, rel, po⟩ => tE_to rel po fun as1 S1 H1 v d g rel1 r q => q as1 _ H1 .refl ⟨rel1.w, rel1.s.set r i⟩
/-- x = e where CPython stores within a comprehension's frame: given as tAsg -/
theorem ds_setOf {i : Nat} {t : TE} (hp : PS X st (tAsg t (gName i))) (h : ∀ σ H Q, tE X.K X.mg W me σ H Q → t σ H Q) : DS X W st (sSet i me) :=
  PS.le hp fun Dn σ H ⟨hd, as, ρ, S, rel, po⟩ => h σ H _ (tE_to rel po fun as1 S1 H1 v d g rel1 r q => q as1 _ H1 .refl ⟨rel1.w, rel1.s.set r i⟩)
theorem dg_name (i : Nat) {x : Str} (hN : X.N.Nodup) (hi : X.N[i]? = some x := by rfl) (hx : Loc X.env.scope x := by first | exact Or.inl rfl | exact Or.inr rfl) (hf : X.fn x = true ∨ X.env.scope.names.lookup x = some .local := by first | exact .inl rfl | exact .inr rfl | assumption) : DG X (.Name x pos) (.nm i) := pg_name hN hi hx hf
theorem dgs_nil : DGs X [] [] := pgs_nil
theorem dgs_cons {es : List Expr} {t : Tg} {ts : List Tg} (h1 : DG X e t) (h2 : DGs X es ts) (hs : (assignEach (e :: es) X.env).map (·.2) = assign e X.env :: (assignEach es X.env).map (·.2) := by rfl) : DGs X (e :: es) (t :: ts) := pgs_cons h1 h2 hs
end
end DL

set_option Elab.async false
set_option linter.all false
set_option maxRecDepth 100000
/-! DL4: loops, comprehensions, what is walked: the rules. -/
namespace DL
open PySem PySem.Spec PyProof.Rows L2

section
variable {X : Cx} {W : WX} {a b c e tg iter : Expr} {body rest orelse : List Stmt} {st : Stmt} {me ma mb : EM} {mt : BM} {ms : SD} {mr : AM} {im : IM} {T : Tg} {pos : Pos}
theorem ds_asg {es : List Expr} {k : Nat} {tpos : Pos} {ts : List Tg} (h : DE X W e me) (hg : DG X (.Tuple es k tpos) (.tup ts)) (hs : swapsWithSole [.Tuple es k tpos] e pos.line X.env = pure false := by rfl) (hw : swappedStores [.Tuple es k tpos] e X.env = pure none := by rfl)
    (h1 : (assignEach [.Tuple es k tpos] X.env).map (·.2) = [assign (.Tuple es k tpos) X.env] := by rfl) : DS X W (.Assign [.Tuple es k tpos] e pos) (sAsg (.tup ts) me) :=
  PS.le (ps_asg h hg hs hw h1) fun Dn σ H ⟨hd, as, ρ, S, rel, po⟩ => tE_to rel po fun as1 S1 H1 v d g rel1 r q => by
    cases e1 : asg (.tup ts) d ρ with
    | none => rw [e1] at q; exact q.elim
    | some ρ' => rw [e1] at q; exact gOf_ok rel1.s r fz_same e1 fun σ' s' _ => q as1 σ' H1 .refl ⟨rel1.w, s'⟩
theorem dg_tup {es : List Expr} {k : Nat} {ts : List Tg} (hc : X.calm = true) (h : DGs X es ts) (hn : (assignEach es X.env).length = ts.length := by rfl) (hst : (assignEach es X.env).findIdx? (·.1) = none := by rfl) : DG X (.Tuple es k pos) (.tup ts) := pg_tup hc h hn hst
/-- a, b = e, f of two locals -/
def sPar (i j : Nat) (m : AM) : SD := fun ρ S => (m ρ S).to ρ fun ds S1 => match ds with
  | [x, y] => .ok .nx ((ρ.set i (some x)).set j (some y)) S1
  | _ => .stuck
theorem ds_par (i j : Nat) {x y : Str} {px py pt : Pos} {kt k2 pt2} (hc : X.calm = true) (hN : X.N.Nodup) (ha : DA X W [a, b] mr) (hi : X.N[i]? = some x := by rfl) (hj : X.N[j]? = some y := by rfl) (hij : i ≠ j := by decide)
    (hx : X.env.scope.names.lookup x = some .local := by rfl) (hy : X.env.scope.names.lookup y = some .local := by rfl)
    (hw : swappedStores [.Tuple [.Name x px, .Name y py] kt pt] (.Tuple [a, b] k2 pt2) X.env = pure (some [x, y]) := by rfl)
    (hs : swapsWithSole [.Tuple [.Name x px, .Name y py] kt pt] (.Tuple [a, b] k2 pt2) pos.line X.env = pure false := by rfl) :
    DS X W (.Assign [.Tuple [.Name x px, .Name y py] kt pt] (.Tuple [a, b] k2 pt2) pos) (sPar i j mr) :=
  PS.le (ps_par hc hN hi hj hij hx hy ha hw hs) fun Dn σ H ⟨hd, as, ρ, S, rel, po⟩ => tA_to rel po fun as1 S1 H1 vs ds g rel1 r q => by
    match ds, r, q with
    | [d1, d2], .cons r1 (.cons r2 .nil), q => exact ⟨_, _, rfl, q as1 _ H1 .refl ⟨rel1.w, (rel1.s.set r1 i).set r2 j⟩⟩
    | [], _, q => exact q.elim
    | [_], _, q => exact q.elim
    | _ :: _ :: _ :: _, _, q => exact q.elim
/-- xs[i] = e -/
def sSub (f : D → D → D → Sto → Option Sto) (o i m : EM) : SD := fun ρ S => (m ρ S).to ρ fun v S1 => (o ρ S1).to ρ fun x S2 => (i ρ S2).to ρ fun k S3 => match f x k v S3 with
  | some S4 => .ok .nx ρ S4
  | none => .stuck
def ActSet (K : PySem.W.Frag) (t : TSet) (f : D → D → D → Sto → Option Sto) : Prop := ∀ hd as S H o i v x k d S', Wld K hd as S H → Rep K as (fz hd as S H) o x → Rep K as (fz hd as S H) i k → Rep K as (fz hd as S H) v d → f x k d S = some S' →
  ∀ Q : Hp → Prop, (∀ H', Grow hd as S H as S' H' → Wld K hd as S' H' → Q H') → t o i v H Q
theorem ds_sub {o i : Expr} {mo mi : EM} {t : TSet} {f : D → D → D → Sto → Option Sto} {p2 : Pos} (hset : PSet X t) (act : ActSet X.K t f) (h : DE X W e me) (ho : DE X W o mo) (hi : DE X W i mi)
    (hg : PG X (.Subscript o i p2) (gSub (tE X.K X.mg W mo) (tE X.K X.mg W mi) t)) (hs : swapsWithSole [.Subscript o i p2] e pos.line X.env = pure false := by rfl) (hw : swappedStores [.Subscript o i p2] e X.env = pure none := by rfl)
    (h1 : (assignEach [.Subscript o i p2] X.env).map (·.2) = [assign (.Subscript o i p2) X.env] := by rfl) : DS X W (.Assign [.Subscript o i p2] e pos) (sSub f mo mi me) :=
  PS.le (ps_asg h hg hs hw h1) fun Dn σ H ⟨hd, as, ρ, S, rel, po⟩ => tE_to rel po fun as1 S1 H1 v d g1 rel1 r1 q1 => tE_to rel1 q1 fun as2 S2 H2 u x g2 rel2 r2 q2 => tE_to rel2 q2 fun as3 S3 H3 y k g3 rel3 r3 q3 => by
    cases e1 : f x k d S3 with
    | none => rw [e1] at q3; exact q3.elim
    | some S4 => rw [e1] at q3; exact act hd as3 S3 H3 u y v x k d S4 rel3.w (r2.grow g3) r3 ((r1.grow g2).grow g3) e1 _ fun H' g w => q3 as3 σ H' g (rel3.grow g w)
def setD : D → D → D → Sto → Option Sto
  | .cell n, .int i, d, S => match S[n]? with
    | some (some (.lst xs)) => match ixN xs.length i with
      | some j => some (S.set n (some (.lst (xs.set j d))))
      | none => none
    | _ => none
  | _, _, _, _ => none
theorem act_setD {K : PySem.W.Frag} : ActSet K rSetL setD := by
  intro hd as S H o i v x k d S' w ro ri rv h Q q
  cases ro with
  | cell ho =>
    rename_i n p
    cases ri with
    | int z =>
      simp only [setD] at h
      split at h
      · rename_i xs e
        split at h
        · rename_i j ej
          cases h
          obtain ⟨p', vs, e1, e2, r⟩ := w.at_ n xs e
          rw [ho] at e1; cases e1
          obtain ⟨w', g⟩ := w.write e ho (r.set rv j)
          exact ⟨p, vs, z, j, rfl, rfl, e2, by rw [r.length]; exact ej, q _ g w'⟩
        · cases h
      · cases h
    | _ => simp [setD] at h
  | _ => simp [setD] at h
/-- x op= e of a local -/
def sAug (i : Nat) (f : D → D → M D) (m : EM) : SD := fun ρ S => (eVar i ρ S).to ρ fun x _ => (m ρ S).to ρ fun y S1 => (f x y S1).to ρ fun z S2 => .ok .nx (ρ.set i (some z)) S2
theorem ds_aug (i : Nat) {x : Str} {op : Operator} {ti : TIp} {f : D → D → M D} {pos' : Pos} (hN : X.N.Nodup) (h : DE X W e me) (ho : PIp X op ti) (act : Act2 X.K ti f) (hi : X.N[i]? = some x := by rfl) (hx : Loc X.env.scope x := by first | exact Or.inl rfl | exact Or.inr rfl)
    (hf : X.fn x = true ∨ X.env.scope.names.lookup x = some .local := by first | exact .inl rfl | exact .inr rfl | assumption) : DS X W (.AugAssign (.Name x pos') op e pos) (sAug i f me) :=
  PS.le (ps_aug hN hi hx h ho hf) fun Dn σ H ⟨hd, as, ρ, S, rel, po⟩ => by
    unfold sAug eVar at po
    split at po
    · rename_i d ed
      obtain ⟨u, eu, ru⟩ := rel.s.at_ i d ed
      refine ⟨u, eu, tE_to rel po fun as1 S1 H1 v1 d1 g1 rel1 r1 q1 => ?_⟩
      exact (act hd as1 S1 H1 u v1 d d1 rel1.w (ru.grow g1) r1).out (mg := X.mg) (W := W) rel1 ((q1.toE rel1).imp fun z as2 S2 H2 g2 rel2 q2 v r => q2 as2 _ H2 .refl ⟨rel2.w, rel2.s.set r i⟩)
    · exact po.elim

/-! ### for -/
theorem for_body {K : PySem.W.Frag} {mg : Str → Option Value} {hd : Hid} {as : List Addr} {S : Sto} {H : Hp} {Dn : Ends} {r : RS} {k : SD} {N : L2.St → Hp → Prop} (h : PostS K mg W hd as S H Dn (match r with
        | .ok .nx ρ2 S2 => k ρ2 S2
        | .ok .cnt ρ2 S2 => k ρ2 S2
        | .ok .brk ρ2 S2 => .ok .nx ρ2 S2
        | r => r)) (hN : ∀ as' σ' ρ' S' H', Grow hd as S H as' S' H' → REL K hd as' ρ' S' σ' H' → PostS K mg W hd as' S' H' Dn (k ρ' S') → N σ' H') : PostS K mg W hd as S H { Dn with nx := N, ct := N, bk := Dn.nx } r := by
  match r, h with
  | .ok .nx ρ' S', h => exact fun as' σ' H' g rel => hN as' σ' ρ' S' H' g rel (PostS.later (r := k ρ' S') h g)
  | .ok .cnt ρ' S', h => exact fun as' σ' H' g rel => hN as' σ' ρ' S' H' g rel (PostS.later (r := k ρ' S') h g)
  | .ok .brk ρ' S', h => exact h
  | .ok (.ret d) ρ' S', h => exact h
  | .exc x ρ' S', h => exact h
  | .stuck, h => exact h
theorem ds_for (hp : PassesOwn (model X.prog X.w) X.A X.env X.xe) (hc : X.calm = true) (hi : DI X W tg iter im) (hg : DG X tg T) (hb : DSs X W body ms) (hs : ∀ x, foldedSetIterable iter X.env x = pure x := by intro _; rfl) : DS X W (.For tg iter body [] pos) (sFor im T ms) :=
  PS.le (ps_for hp hc hi hg hb hs) fun Dn σ H ⟨hd, as, ρ, S, rel, po⟩ => by
    refine ⟨hd, as, ρ, S, rel, (po.toE rel).imp fun it as1 S1 H1 g1 rel1 po1 J hJ => ?_⟩
    refine ⟨fun i m σ H => ∃ as ρ S, REL X.K hd as ρ S σ H ∧ Grow hd as1 S1 H1 as S H ∧ PostS X.K X.mg W hd as S H Dn (forLoop it.nx T ms m i ρ S), ⟨it.fu, as1, ρ, S1, rel1, .refl, po1⟩, ?_⟩
    rintro i m σ2 H2 ⟨as2, ρ2, S2, rel2, g2, po2⟩
    cases m with
    | zero => exact po2.elim
    | succ n =>
      have hj := hJ i hd as2 S2 H2 g2.pre g2.same rel2.w
      unfold forLoop at po2
      cases en : it.nx i S2 with
      | none => rw [en] at po2; exact po2.elim
      | some o =>
        rw [en] at po2 hj
        cases o with
        | none => exact .inl ⟨hj, po2 as2 σ2 H2 .refl rel2⟩
        | some d =>
          refine .inr ⟨hj.1, fun σ' H' => ∃ as ρ S, REL X.K hd as ρ S σ' H' ∧ Grow hd as1 S1 H1 as S H' ∧ PostS X.K X.mg W hd as S H' Dn (forLoop it.nx T ms n (i + 1) ρ S), fun σ' H' h => ⟨n, Nat.lt_succ_self n, h⟩, fun x H' hy => ?_⟩
          obtain ⟨w', g', r'⟩ := hj.2 x H' hy
          dsimp only at po2
          cases ea : asg T d ρ2 with
          | none => rw [ea] at po2; exact po2.elim
          | some ρ' =>
            rw [ea] at po2
            dsimp only at po2
            refine gOf_ok ((rel2.grow g' w').s) r' fz_same ea fun σ' s' _ => ?_
            refine ⟨hd, as2, ρ', S2, ⟨w', s'⟩, for_body (k := fun ρ2 S2 => forLoop it.nx T ms n (i + 1) ρ2 S2) (PostS.later po2 g') fun as3 σ3 ρ3 S3 H3 g3 rel3 po3 => ?_⟩
            exact ⟨as3, ρ3, S3, rel3, (g2.trans g').trans g3, po3⟩
theorem ds_while (hp : PassesOwn (model X.prog X.w) X.A X.env X.xe) (hc : DT X W c mt) (hb : DSs X W body ms) : DS X W (.While c body [] pos) (sWhile mt ms) :=
  PS.le (ps_while hp hc hb) fun Dn σ H ⟨hd, as, ρ, S, rel, po⟩ => by
    unfold sWhile at po
    generalize FU = fu at po
    refine ⟨fun m σ H => ∃ as ρ S, REL X.K hd as ρ S σ H ∧ PostS X.K X.mg W hd as S H Dn (whLoop mt ms m ρ S), ⟨fu, as, ρ, S, rel, po⟩, ?_⟩
    rintro m σ2 H2 ⟨as2, ρ2, S2, rel2, po2⟩
    cases m with
    | zero => exact po2.elim
    | succ n =>
      refine tT_to (Dn := Dn) rel2 (k := fun k S1 => if k then (match ms ρ2 S1 with
        | .ok .nx ρ2 S2 => whLoop mt ms n ρ2 S2
        | .ok .cnt ρ2 S2 => whLoop mt ms n ρ2 S2
        | .ok .brk ρ2 S2 => .ok .nx ρ2 S2
        | r => r) else .ok .nx ρ2 S1) (by unfold whLoop at po2; exact po2) fun as3 S3 H3 b g3 rel3 po3 => ?_
      cases b with
      | false => exact iteF (po3 as3 σ2 H3 .refl rel3)
      | true =>
        refine iteT ⟨fun σ' H' => ∃ as ρ S, REL X.K hd as ρ S σ' H' ∧ PostS X.K X.mg W hd as S H' Dn (whLoop mt ms n ρ S), fun σ' H' h => ⟨n, Nat.lt_succ_self n, h⟩, ?_⟩
        exact ⟨hd, as3, ρ2, S3, rel3, for_body (k := fun ρ S => whLoop mt ms n ρ S) po3 fun as4 σ4 ρ4 S4 H4 g4 rel4 po4 => ⟨as4, ρ4, S4, rel4, po4⟩⟩
end
end DL

set_option Elab.async false
set_option linter.all false
set_option maxRecDepth 100000
/-! DL5: comprehensions; what is walked. -/
namespace DL
open PySem PySem.Spec PyProof.Rows L2

/-! ### hidden lists -/
section
variable {K : PySem.W.Frag} {hd : Hid} {as : List Addr} {S : Sto} {H : Hp} {Dl : Addr} {o o' : HO}
theorem fz_hide (hn : H Dl = none) : fz ((Dl, o) :: hd) as S (upd H Dl o) = fz hd as S H := by
  funext b
  unfold fz
  by_cases hb : b = Dl
  · subst hb
    rw [if_pos (.inr (by simp))]
    split
    · rfl
    · exact hn.symm
  · by_cases h : b ∈ live as S ∨ b ∈ hd.map (·.1)
    · rw [if_pos h, if_pos (h.elim .inl fun z => .inr (List.mem_cons_of_mem _ z))]
    · rw [if_neg h, if_neg (fun z => h (z.elim .inl fun z => .inr ((List.mem_cons.mp z).elim (fun e => absurd e hb) id))), upd_ne hb]
theorem Wld.hide (w : Wld K hd as S H) (hn : H Dl = none) : Wld K ((Dl, o) :: hd) as S (upd H Dl o) := by
  refine ⟨w.len, w.inj, fun q hq => ?_, fun n xs e => ?_⟩
  · rcases List.mem_cons.mp hq with rfl | hq
    · exact ⟨upd_same, w.new_live hn⟩
    · exact ⟨by rw [upd_ne (fun z => by have := (w.hid q hq).1; rw [z, hn] at this; cases this)]; exact (w.hid q hq).1, (w.hid q hq).2⟩
  · obtain ⟨a, vs, e1, e2, r⟩ := w.at_ n xs e
    exact ⟨a, vs, e1, by rw [upd_ne (fun z => by rw [z, hn] at e2; cases e2)]; exact e2, by rw [fz_hide hn]; exact r⟩
theorem fz_rewrite : fz ((Dl, o') :: hd) as S (upd H Dl o') = fz ((Dl, o) :: hd) as S H := by
  funext b
  unfold fz
  by_cases hb : b = Dl
  · subst hb
    rw [if_pos (.inr (by simp)), if_pos (.inr (by simp))]
  · by_cases h : b ∈ live as S ∨ b ∈ ((Dl, o) :: hd).map (·.1)
    · rw [if_pos h, if_pos (h.elim .inl fun z => .inr (by simpa using z))]
    · rw [if_neg h, if_neg (fun z => h (z.elim .inl fun z => .inr (by simpa using z))), upd_ne hb]
theorem Wld.rewrite (w : Wld K ((Dl, o) :: hd) as S H) (nd : Dl ∉ hd.map (·.1)) : Wld K ((Dl, o') :: hd) as S (upd H Dl o') := by
  have h0 := w.hid (Dl, o) (by simp)
  refine ⟨w.len, w.inj, fun q hq => ?_, fun n xs e => ?_⟩
  · rcases List.mem_cons.mp hq with rfl | hq
    · exact ⟨upd_same, h0.2⟩
    · have k := w.hid q (List.mem_cons_of_mem _ hq)
      exact ⟨by rw [upd_ne (fun z => nd (List.mem_map.mpr ⟨q, hq, z⟩))]; exact k.1, k.2⟩
  · obtain ⟨a, vs, e1, e2, r⟩ := w.at_ n xs e
    have la : a ∈ live as S := mem_live.mpr ⟨n, _, e1, e⟩
    exact ⟨a, vs, e1, by rw [upd_ne (fun z => h0.2 (by rw [← z]; exact la))]; exact e2, by rw [fz_rewrite (o := o)]; exact r⟩
theorem fz_show (nh : Dl ∉ hd.map (·.1)) : Same (fz ((Dl, o) :: hd) as S H) (fz hd as S H) := fun b u e =>
  fz_of (fz_same _ _ e) (fz_not e) fun z => fz_nh e (List.mem_cons_of_mem _ z)
theorem Wld.show_ (w : Wld K ((Dl, o) :: hd) as S H) (nh : Dl ∉ hd.map (·.1)) : Wld K hd as S H ∧ fz hd as S H Dl = some o := by
  refine ⟨⟨w.len, w.inj, fun q hq => w.hid q (List.mem_cons_of_mem _ hq), fun n xs e => ?_⟩, fz_of (w.hid (Dl, o) (by simp)).1 (w.hid (Dl, o) (by simp)).2 nh⟩
  obtain ⟨a, vs, e1, e2, r⟩ := w.at_ n xs e
  exact ⟨a, vs, e1, e2, r.mono (fun _ _ h => h) (fz_show nh)⟩
theorem live_app {c : CO} (hl : as.length = S.length) {b : Addr} : b ∈ live (as ++ [Dl]) (S ++ [some c]) ↔ b ∈ live as S ∨ b = Dl := by
  rw [mem_live, mem_live]
  constructor
  · rintro ⟨n, d, h1, h2⟩
    by_cases hn : n < S.length
    · rw [List.getElem?_append_left hn] at h2
      rw [List.getElem?_append_left (by omega)] at h1
      exact .inl ⟨n, d, h1, h2⟩
    · rw [List.getElem?_append_right (by omega)] at h1
      have : n - as.length = 0 := by
        have := (List.getElem?_eq_some_iff.mp h1).1
        simp at this; omega
      rw [this] at h1
      simp at h1
      exact .inr h1.symm
  · rintro (⟨n, d, h1, h2⟩ | rfl)
    · exact ⟨n, d, by rw [List.getElem?_append_left (List.getElem?_eq_some_iff.mp h1).1]; exact h1, by rw [List.getElem?_append_left (List.getElem?_eq_some_iff.mp h2).1]; exact h2⟩
    · exact ⟨S.length, c, by rw [← hl]; simp, by simp⟩
/-- what was hidden becomes a cell -/
theorem Wld.celled {vF : List V} {acc : List D} (w : Wld K ((Dl, .lst vF) :: hd) as S H) (nh : Dl ∉ hd.map (·.1)) (r : RepL K as (fz ((Dl, .lst vF) :: hd) as S H) vF acc) :
    Wld K hd (as ++ [Dl]) (S ++ [some (.lst acc)]) H ∧ fz hd (as ++ [Dl]) (S ++ [some (.lst acc)]) H = fz ((Dl, .lst vF) :: hd) as S H ∧ (as ++ [Dl])[S.length]? = some Dl := by
  have h0 := w.hid (Dl, .lst vF) (by simp)
  have hf : fz hd (as ++ [Dl]) (S ++ [some (.lst acc)]) H = fz ((Dl, .lst vF) :: hd) as S H := by
    funext b
    unfold fz
    by_cases h : b ∈ live as S ∨ b ∈ ((Dl, .lst vF) :: hd).map (·.1)
    · rw [if_pos h, if_pos]
      rw [live_app w.len]
      rcases h with h | h
      · exact .inl (.inl h)
      · rcases List.mem_cons.mp h with e | h
        · exact .inl (.inr e)
        · exact .inr h
    · rw [if_neg h, if_neg]
      rw [live_app w.len]
      rintro ((z | z) | z)
      · exact h (.inl z)
      · exact h (.inr (by simp [z]))
      · exact h (.inr (List.mem_cons_of_mem _ z))
  have hlast : (as ++ [Dl])[S.length]? = some Dl := by rw [← w.len]; simp
  have split : ∀ {n : Nat} {c : CO} {a : Addr}, (S ++ [some (CO.lst acc)])[n]? = some (some c) → (as ++ [Dl])[n]? = some a → (S[n]? = some (some c) ∧ as[n]? = some a) ∨ (n = S.length ∧ c = .lst acc ∧ a = Dl) := fun {n c a} e1 e2 => by
    by_cases hn : n < S.length
    · rw [List.getElem?_append_left hn] at e1
      rw [List.getElem?_append_left (by rw [w.len]; exact hn)] at e2
      exact .inl ⟨e1, e2⟩
    · have hz : n = S.length := by
        have := (List.getElem?_eq_some_iff.mp e1).1
        simp at this; omega
      subst hz
      rw [hlast] at e2
      simp at e1 e2
      exact .inr ⟨rfl, e1.symm, e2.symm⟩
  refine ⟨⟨by simp [w.len], fun i j a c c' h1 h2 h3 h4 => ?_, fun q hq => ⟨(w.hid q (List.mem_cons_of_mem _ hq)).1, fun z => ?_⟩, fun n xs e => ?_⟩, hf, hlast⟩
  · rcases split h3 h1 with ⟨g3, g1⟩ | ⟨rfl, _, rfl⟩ <;> rcases split h4 h2 with ⟨g4, g2⟩ | ⟨rfl, _, e2⟩
    · exact w.inj i j a c c' g1 g2 g3 g4
    · subst e2
      exact absurd (mem_live.mpr ⟨i, c, g1, g3⟩) h0.2
    · exact absurd (mem_live.mpr ⟨j, c', g2, g4⟩) h0.2
    · rfl
  · rcases (live_app w.len).mp z with z | z
    · exact (w.hid q (List.mem_cons_of_mem _ hq)).2 z
    · exact nh (List.mem_map.mpr ⟨q, hq, z⟩)
  · have ha : ∃ a, (as ++ [Dl])[n]? = some a := by
      have : n < (as ++ [Dl]).length := by
        have := (List.getElem?_eq_some_iff.mp e).1
        simp at this; simp [w.len]; omega
      exact ⟨_, List.getElem?_eq_getElem this⟩
    obtain ⟨a, ea⟩ := ha
    have pre : ∀ n a : Nat, as[n]? = some a → (as ++ [Dl])[n]? = some a := fun n a h => by rw [List.getElem?_append_left (List.getElem?_eq_some_iff.mp h).1]; exact h
    rcases split e ea with ⟨g1, g2⟩ | ⟨rfl, e1, rfl⟩
    · obtain ⟨b, vs, e1, e2, r'⟩ := w.at_ n xs g1
      exact ⟨b, vs, pre _ _ e1, e2, by rw [hf]; exact r'.mono pre (Same.refl _)⟩
    · cases e1
      exact ⟨a, vF, hlast, h0.1, by rw [hf]; exact r.mono pre (Same.refl _)⟩
end
abbrev DTs (X : Cx) (ifs : List Expr) (m : BM) : Prop := PTs X ifs (tT X.K X.mg WNo m)
theorem PTs.le {X : Cx} {ifs : List Expr} {t t' : TT} (h : PTs X ifs t) (k : ∀ σ H Q, t' σ H Q → t σ H Q) : PTs X ifs t' := ⟨fun pins s σ H Q I q => h.run pins s σ H Q I (k σ H Q q)⟩
theorem dts_nil {X : Cx} : DTs X [] bYes := PTs.le pts_nil fun σ H Q ⟨hd, as, ρ, S, rel, po⟩ => po as H .refl rel
theorem dts_one {X : Cx} {c : Expr} {m : BM} (h : DT X WNo c m) : DTs X [c] m := pts_one h

/-- the loop of a comprehension: from its start to its end -/
theorem lc_turns {K : PySem.W.Frag} {mg : Str → Option Value} {hd : Hid} {as1 : List Addr} {ρ : Env} {S1 : Sto} {σ : L2.St} {H1 : Hp} {J : It} {it : ItD} {T : Tg} {mt : BM} {me : EM} {vs : List Nat} {Dl : Addr} {Q : VK} {accF : List D} {SF : Sto}
    (rel1 : REL K hd as1 ρ S1 σ H1) (hJ : JOk K as1 (fz hd as1 S1 H1) J it) (hv : ∀ i ∈ T.slots, i ∈ vs) (hD : H1 Dl = none) (hl : lcLoop it.nx T mt me (wipeD ρ vs) it.fu 0 [] S1 = .ok accF SF)
    (hQ : ∀ as' H' vF, (∀ n a : Nat, as1[n]? = some a → as'[n]? = some a) → Same (fz hd as1 S1 H1) (fz ((Dl, .lst vF) :: hd) as' SF H') → Wld K ((Dl, .lst vF) :: hd) as' SF H' → RepL K as' (fz ((Dl, .lst vF) :: hd) as' SF H') vF accF → Q (.ref Dl) H') :
    ∃ W : Nat → Nat → Hp → Prop, (∃ m, W 0 m (upd H1 Dl (.lst []))) ∧ ∀ i m H, W i m H →
      (J.stop i H ∧ Q (.ref Dl) H) ∨ (J.go i H ∧ ∃ Nx : Hp → Prop, (∀ H', Nx H' → ∃ m', m' < m ∧ W (i + 1) m' H') ∧ ∀ x H', J.yld i H x H' → gOf K T x (wipe σ vs) H' fun σ2 H2 => wipe σ2 vs = wipe σ vs ∧ tT K mg WNo mt σ2 H2 fun b H3 =>
        if b = true then tE K mg WNo me σ2 H3 fun y H4 => ∃ acc, H4 Dl = some (.lst acc) ∧ acc.length < sizeLine ∧ Nx (upd H4 Dl (.lst (acc ++ [y]))) else Nx H3) := by
  have nh : Dl ∉ hd.map (·.1) := rel1.w.hid_ne hD
  -- the state at a turn
  refine ⟨fun i m H => ∃ as S acc vacc, REL K ((Dl, .lst vacc) :: hd) as (wipeD ρ vs) S (wipe σ vs) H ∧ (∀ n a : Nat, as1[n]? = some a → as[n]? = some a) ∧ Same (fz hd as1 S1 H1) (fz ((Dl, .lst vacc) :: hd) as S H) ∧
    RepL K as (fz ((Dl, .lst vacc) :: hd) as S H) vacc acc ∧ lcLoop it.nx T mt me (wipeD ρ vs) m i acc S = .ok accF SF, ⟨it.fu, as1, S1, [], [], ⟨rel1.w.hide hD, by rw [fz_hide hD]; exact rel1.s.wipe vs⟩, fun _ _ h => h, by rw [fz_hide hD]; exact Same.refl _, .nil, hl⟩, ?_⟩
  rintro i m H ⟨as, S, acc, vacc, rel, pre, sm, racc, el⟩
  cases m with
  | zero => cases el
  | succ n =>
    have hj := hJ i _ as S H pre sm rel.w
    unfold lcLoop at el
    cases en : it.nx i S with
    | none => rw [en] at el; cases el
    | some od =>
      rw [en] at el hj
      cases od with
      | none =>
        cases el
        exact .inl ⟨hj, hQ as H vacc pre sm rel.w racc⟩
      | some d =>
        refine .inr ⟨hj.1, fun H' => ∃ as S acc vacc, REL K ((Dl, .lst vacc) :: hd) as (wipeD ρ vs) S (wipe σ vs) H' ∧ (∀ n a : Nat, as1[n]? = some a → as[n]? = some a) ∧ Same (fz hd as1 S1 H1) (fz ((Dl, .lst vacc) :: hd) as S H') ∧
          RepL K as (fz ((Dl, .lst vacc) :: hd) as S H') vacc acc ∧ lcLoop it.nx T mt me (wipeD ρ vs) n (i + 1) acc S = .ok accF SF, fun H' h => ⟨n, Nat.lt_succ_self n, h⟩, fun x H' hy => ?_⟩
        obtain ⟨w', g', r'⟩ := hj.2 x H' hy
        dsimp only at el
        cases ea : asg T d (wipeD ρ vs) with
        | none => rw [ea] at el; cases el
        | some ρ' =>
          rw [ea] at el
          dsimp only at el
          have relY := rel.grow g' w'
          refine gOf_ok relY.s r' fz_same ea fun σ2 s2 hw => ⟨by rw [hw vs hv, wipe_wipe], ?_⟩
          refine ⟨_, as, ρ', S, ⟨w', s2⟩, ?_⟩
          cases ec : mt ρ' S with
          | exc z S2 => rw [ec] at el; cases el
          | stuck => rw [ec] at el; cases el
          | ok b S2 =>
            rw [ec] at el
            intro as3 H3 g3 rel3
            have gg := g'.trans g3
            cases b with
            | false =>
              refine iteF ⟨as3, S2, acc, vacc, rel.grow gg rel3.w, fun n a h => gg.pre n a (pre n a h), sm.trans gg.same, racc.grow gg, ?_⟩
              simpa using el
            | true =>
              refine iteT ⟨_, as3, ρ', S2, rel3, ?_⟩
              have el : (me ρ' S2).bind (fun y S2 => (if acc.length < sizeLine then lcLoop it.nx T mt me (wipeD ρ vs) n (i + 1) (acc ++ [y]) S2 else .stuck)) = .ok accF SF := by simpa using el
              cases ee : me ρ' S2 with
              | exc z S4 => rw [ee] at el; cases el
              | stuck => rw [ee] at el; cases el
              | ok y S4 =>
                rw [ee] at el
                intro as4 H4 g4 rel4 v rv
                have el : (if acc.length < sizeLine then lcLoop it.nx T mt me (wipeD ρ vs) n (i + 1) (acc ++ [y]) S4 else .stuck) = .ok accF SF := el
                split at el
                · rename_i hz
                  have g5 := gg.trans g4
                  have hh := rel4.w.hid (Dl, .lst vacc) (by simp)
                  refine ⟨vacc, hh.1, by rw [racc.length]; exact hz, as4, S4, acc ++ [y], vacc ++ [v], ⟨rel4.w.rewrite nh, ?_⟩, fun n a h => g5.pre n a (pre n a h), ?_, ?_, el⟩
                  · rw [fz_rewrite (o := .lst vacc)]
                    exact (rel.grow g5 rel4.w).s
                  · rw [fz_rewrite (o := .lst vacc)]
                    exact sm.trans g5.same
                  · rw [fz_rewrite (o := .lst vacc)]
                    exact (racc.grow g5).append (.cons rv .nil)
                · cases el

section
variable {X : Cx} {W : WX} {elt tg iter : Expr} {ifs : List Expr} {scope : Scope} {own : List (Str × Nat)} {pos spos : Pos} {im : IM} {T : Tg} {mt : BM} {me : EM}
/-- the contexts in which a comprehension's block is run -/
abbrev InBlk (X : Cx) (scope : Scope) (P : Cx → Prop) : Prop := ∀ (s : Shared) (H : Hp) (C : Addr) (cl : List (Str × Addr)) (fp : List Addr), P (X.blk s H scope (compEnvC scope cl C X.env) fp)
theorem lc_le {K : PySem.W.Frag} {mg : Str → Option Value} (hv : ∀ i ∈ T.slots, i ∈ own.map (·.2)) {σ : L2.St} {H : Hp} {Q : VK} (h : tE K mg W (eLc im T mt me (own.map (·.2))) σ H Q) : tLc (tI K mg W im) (gOf K T) (tT K mg WNo mt) (tE K mg WNo me) (own.map (·.2)) σ H Q := by
  obtain ⟨hd, as, ρ, S, rel, po⟩ := h
  refine ⟨hd, as, ρ, S, rel, po.bind.imp fun it as1 S1 H1 g1 rel1 po1 J hJ Dl hD => ?_⟩
  cases el : lcLoop it.nx T mt me (wipeD ρ (own.map (·.2))) it.fu 0 [] S1 with
  | exc z S2 => simp only [el, noX, R.bind_stuck] at po1; exact po1.elim
  | stuck => simp only [el, noX, R.bind_stuck] at po1; exact po1.elim
  | ok accF SF =>
    simp only [el, noX, R.bind_ok] at po1
    have nh := rel1.w.hid_ne hD
    refine lc_turns rel1 hJ hv hD el fun as' H' vF pre sm w r => ?_
    obtain ⟨w', e'⟩ := w.show_ nh
    have g : Grow hd as1 S1 H1 as' SF H' := ⟨pre, sm.trans (fz_show nh)⟩
    exact po1 as' H' g (rel1.grow g w') _ (.lst e' (r.mono (fun _ _ h => h) (fz_show nh)))
theorem lcC_le {K : PySem.W.Frag} {mg : Str → Option Value} (hv : ∀ i ∈ T.slots, i ∈ own.map (·.2)) {σ : L2.St} {H : Hp} {Q : VK} (h : tE K mg W (eLcC im T mt me (own.map (·.2))) σ H Q) : tLc (tI K mg W im) (gOf K T) (tT K mg WNo mt) (tE K mg WNo me) (own.map (·.2)) σ H Q := by
  obtain ⟨hd, as, ρ, S, rel, po⟩ := h
  refine ⟨hd, as, ρ, S, rel, po.bind.imp fun it as1 S1 H1 g1 rel1 po1 J hJ Dl hD => ?_⟩
  cases el : lcLoop it.nx T mt me (wipeD ρ (own.map (·.2))) it.fu 0 [] S1 with
  | exc z S2 => simp only [el, noX, R.bind_stuck] at po1; exact po1.elim
  | stuck => simp only [el, noX, R.bind_stuck] at po1; exact po1.elim
  | ok accF SF =>
    simp only [el, noX, R.bind_ok] at po1
    have nh := rel1.w.hid_ne hD
    refine lc_turns rel1 hJ hv hD el fun as' H' vF pre sm w r => ?_
    obtain ⟨w', e', el'⟩ := w.celled nh r
    have g : Grow hd as1 S1 H1 (as' ++ [Dl]) (SF ++ [some (.lst accF)]) H' := ⟨fun n a h => by rw [List.getElem?_append_left (List.getElem?_eq_some_iff.mp (pre n a h)).1]; exact pre n a h, by rw [e']; exact sm⟩
    exact po1 _ H' g (rel1.grow g w') _ (.cell el')
theorem de_lc (own : List (Str × Nat)) (hc : X.calm = true) (hN : X.N.Nodup) (hi : DI X W tg iter im) (ok : BlkOk X.N X.env.scope scope own) (hg : InBlk X scope fun Y => DG Y tg T) (ht : InBlk X scope fun Y => DTs Y ifs mt) (he : InBlk X scope fun Y => DE Y WNo elt me)
    (hv : ∀ i ∈ T.slots, i ∈ own.map (·.2) := by decide) (hs : ∀ x, foldedSetIterable iter X.env x = pure x := by intro _; rfl) : DE X W (.ListComp elt [⟨tg, iter, ifs, 0⟩] scope pos) (eLc im T mt me (own.map (·.2))) :=
  PE.le (pe_lc hc hN hi ok hg ht he hs) fun σ H Q h => lc_le hv h
theorem de_lcC (own : List (Str × Nat)) (hc : X.calm = true) (hN : X.N.Nodup) (hi : DI X W tg iter im) (ok : BlkOk X.N X.env.scope scope own) (hg : InBlk X scope fun Y => DG Y tg T) (ht : InBlk X scope fun Y => DTs Y ifs mt) (he : InBlk X scope fun Y => DE Y WNo elt me)
    (hv : ∀ i ∈ T.slots, i ∈ own.map (·.2) := by decide) (hs : ∀ x, foldedSetIterable iter X.env x = pure x := by intro _; rfl) : DE X W (.ListComp elt [⟨tg, iter, ifs, 0⟩] scope pos) (eLcC im T mt me (own.map (·.2))) :=
  PE.le (pe_lc hc hN hi ok hg ht he hs) fun σ H Q h => lcC_le hv h
/-- y = [..] alone on a row, y a local -/
theorem ds_setLc (i : Nat) {y : Str} {py : Pos} (own : List (Str × Nat)) (hc : X.calm = true) (hN : X.N.Nodup) (hi : DI X W tg iter im) (ok : BlkOk X.N X.env.scope scope own) (hg : InBlk X scope fun Y => DG Y tg T) (ht : InBlk X scope fun Y => DTs Y ifs mt) (he : InBlk X scope fun Y => DE Y WNo elt me)
    (hy : X.N[i]? = some y := by rfl) (hyl : X.env.scope.names.lookup y = some .local := by rfl) (hsw : swapsWith (.ListComp elt [⟨tg, iter, ifs, 0⟩] scope pos) (some (.Name y py)) spos.line X.env = pure true := by exact sw_true rfl rfl rfl (by decide +kernel))
    (hv : ∀ i ∈ T.slots, i ∈ own.map (·.2) := by decide) (hs : ∀ x, foldedSetIterable iter X.env x = pure x := by intro _; rfl) :
    DS X W (.Assign [.Name y py] (.ListComp elt [⟨tg, iter, ifs, 0⟩] scope pos) spos) (sSet i (eLc im T mt me (own.map (·.2)))) := ds_setOf (ps_setLc hc hN hy hyl hsw hi ok hg ht he hs) fun σ H Q h => lc_le hv h
theorem ds_setLcC (i : Nat) {y : Str} {py : Pos} (own : List (Str × Nat)) (hc : X.calm = true) (hN : X.N.Nodup) (hi : DI X W tg iter im) (ok : BlkOk X.N X.env.scope scope own) (hg : InBlk X scope fun Y => DG Y tg T) (ht : InBlk X scope fun Y => DTs Y ifs mt) (he : InBlk X scope fun Y => DE Y WNo elt me)
    (hy : X.N[i]? = some y := by rfl) (hyl : X.env.scope.names.lookup y = some .local := by rfl) (hsw : swapsWith (.ListComp elt [⟨tg, iter, ifs, 0⟩] scope pos) (some (.Name y py)) spos.line X.env = pure true := by exact sw_true rfl rfl rfl (by decide +kernel))
    (hv : ∀ i ∈ T.slots, i ∈ own.map (·.2) := by decide) (hs : ∀ x, foldedSetIterable iter X.env x = pure x := by intro _; rfl) :
    DS X W (.Assign [.Name y py] (.ListComp elt [⟨tg, iter, ifs, 0⟩] scope pos) spos) (sSet i (eLcC im T mt me (own.map (·.2)))) := ds_setOf (ps_setLc hc hN hy hyl hsw hi ok hg ht he hs) fun σ H Q h => lcC_le hv h
end

/-! ### what is walked -/
def frozenL : D → Option (List D)
  | .lst xs => some xs
  | .ro xs => some xs
  | _ => none
def mItL (d : D) : M ItD := match d with
  | .lst xs => fun S => .ok (itL xs) S
  | .ro xs => fun S => .ok (itL xs) S
  | .cell n => fun S => match S[n]? with
    | some (some (.lst xs)) => .ok (itC n xs.length) S
    | _ => .stuck
  | _ => fun _ => .stuck
def mItT (d : D) : M ItD := match d with
  | .tup xs => fun S => .ok (itL xs) S
  | _ => fun _ => .stuck
def mItR1 : List D → M ItD
  | [.int j] => fun S => if -(2 ^ 62) ≤ j ∧ j < 2 ^ 62 then .ok (itL ((List.range j.toNat).map fun i : Nat => D.int i)) S else .stuck
  | _ => fun _ => .stuck
def mItR2 : List D → M ItD
  | [.int i, .int j] => fun S => if -(2 ^ 62) ≤ i ∧ i < 2 ^ 62 ∧ -(2 ^ 62) ≤ j ∧ j < 2 ^ 62 then .ok (itL ((List.range (j - i).toNat).map fun k : Nat => D.int (i + k))) S else .stuck
  | _ => fun _ => .stuck
def zipD : List D → List D → List D
  | x :: xs, y :: ys => .tup [x, y] :: zipD xs ys
  | _, _ => []
def enumD (xs : List D) : List D := (xs.zipIdx).map fun p => .tup [.int p.2, p.1]
def itZ (d e : D) (k : Nat) : ItD := ⟨fun i S => match listOf S d, listOf S e with
  | some xs, some ys => some ((zipD xs ys)[i]?)
  | _, _ => none, k + 1⟩
def itE (d : D) (k : Nat) : ItD := ⟨fun i S => match listOf S d with
  | some xs => some ((enumD xs)[i]?)
  | _ => none, k + 1⟩
def mItZ : List D → M ItD
  | [d, e] => fun S => match frozenL d, frozenL e with
    | some xs, some ys => .ok (itL (zipD xs ys)) S
    | _, _ => match listOf S d, listOf S e with
      | some xs, some ys => .ok (itZ d e (zipD xs ys).length) S
      | _, _ => .stuck
  | _ => fun _ => .stuck
def mItE : List D → M ItD
  | [d] => fun S => match frozenL d with
    | some xs => .ok (itL (enumD xs)) S
    | _ => match listOf S d with
      | some xs => .ok (itE d (enumD xs).length) S
      | _ => .stuck
  | _ => fun _ => .stuck
def imOf (f : D → M ItD) (m : EM) : IM := fun ρ => M.bind (m ρ) f
def imOfA (f : List D → M ItD) (m : AM) : IM := fun ρ => M.bind (m ρ) f
theorem zipD_get : ∀ (xs ys : List D) (i : Nat), (zipD xs ys)[i]? = (match xs[i]?, ys[i]? with
  | some x, some y => some (.tup [x, y])
  | _, _ => none)
  | [], _, i => by simp [zipD]
  | x :: xs, [], i => by simp [zipD]
  | x :: xs, y :: ys, 0 => by simp [zipD]
  | x :: xs, y :: ys, i + 1 => by simpa [zipD] using zipD_get xs ys i
theorem enumD_get (xs : List D) (i : Nat) : (enumD xs)[i]? = xs[i]?.map fun x => .tup [.int i, x] := by
  unfold enumD
  rw [List.getElem?_map, List.getElem?_zipIdx]
  cases xs[i]? <;> simp
section
variable {K : PySem.W.Frag} {hd : Hid} {as : List Addr} {S : Sto} {H : Hp} {a b : Addr} {d e : D}
theorem jok_list (ra : Rep K as (fz hd as S H) (.ref a) d) (f : ItD) (hf : ∀ i S' hd' as' H', Wld K hd' as' S' H' → (∀ n x : Nat, as[n]? = some x → as'[n]? = some x) → ∀ o, f.nx i S' = some o → ∃ xs, listOf S' d = some xs ∧ o = xs[i]?) : JOk K as (fz hd as S H) (Itl K a) f := by
  intro i hd' as' S' H' pre sm w
  cases en : f.nx i S' with
  | none => trivial
  | some o =>
    obtain ⟨xs, e1, e2⟩ := hf i S' hd' as' H' w pre o en
    obtain ⟨a', vs, e3, hq, r⟩ := seqL w (ra.mono pre sm) e1
    cases e3
    cases o with
    | none =>
      refine ⟨vs, hq, ?_⟩
      rw [r.length]
      exact List.getElem?_eq_none_iff.mp e2.symm
    | some x =>
      obtain ⟨v, ev, rv⟩ := r.get e2.symm
      refine ⟨⟨vs, v, hq, ev⟩, fun y H2 hy => ?_⟩
      obtain ⟨rfl, hy⟩ := hy
      have := hy vs hq
      rw [ev] at this; cases this
      exact ⟨w, .refl, rv⟩
theorem jok_tup {xs : List D} (ra : Rep K as (fz hd as S H) (.ref a) (.tup xs)) : JOk K as (fz hd as S H) (Itt K a) (itL xs) := by
  intro i hd' as' S' H' pre sm w
  obtain ⟨a', vs, e3, hq, r⟩ := seqT (ra.mono pre sm)
  cases e3
  show match some xs[i]? with
    | none => True
    | some none => _
    | some (some d) => _
  cases e : xs[i]? with
  | none => exact ⟨vs, hq, by rw [r.length]; exact List.getElem?_eq_none_iff.mp e⟩
  | some x =>
    obtain ⟨v, ev, rv⟩ := r.get e
    refine ⟨⟨vs, v, hq, ev⟩, fun y H2 hy => ?_⟩
    obtain ⟨rfl, hy⟩ := hy
    have := hy vs hq
    rw [ev] at this; cases this
    exact ⟨w, .refl, rv⟩
theorem jok_rng {lo : Int} {n : Nat} : JOk K as (fz hd as S H) (Itr lo n) (itL ((List.range n).map fun i : Nat => D.int (lo + i))) := by
  intro i hd' as' S' H' pre sm w
  show match some ((List.range n).map fun i : Nat => D.int (lo + i))[i]? with
    | none => True
    | some none => _
    | some (some d) => _
  rw [List.getElem?_map]
  by_cases hi : i < n
  · rw [List.getElem?_range hi]
    refine ⟨hi, fun y H2 hy => ?_⟩
    obtain ⟨rfl, rfl⟩ := hy
    exact ⟨w, .refl, .int _⟩
  · rw [List.getElem?_eq_none (by simpa using hi)]
    exact Nat.le_of_not_lt hi
theorem jok_zip (ra : Rep K as (fz hd as S H) (.ref a) d) (rb : Rep K as (fz hd as S H) (.ref b) e) (f : ItD) (hf : ∀ i S' hd' as' H', Wld K hd' as' S' H' → (∀ n x : Nat, as[n]? = some x → as'[n]? = some x) → ∀ o, f.nx i S' = some o → ∃ xs ys, listOf S' d = some xs ∧ listOf S' e = some ys ∧ o = (zipD xs ys)[i]?) :
    JOk K as (fz hd as S H) (Itz K a b) f := by
  intro i hd' as' S' H' pre sm w
  cases en : f.nx i S' with
  | none => trivial
  | some o =>
    obtain ⟨xs, ys, e1, e1', e2⟩ := hf i S' hd' as' H' w pre o en
    obtain ⟨a', vs, e3, hq, r⟩ := seqL w (ra.mono pre sm) e1
    cases e3
    obtain ⟨b', us, e3, hq', r'⟩ := seqL w (rb.mono pre sm) e1'
    cases e3
    rw [zipD_get] at e2
    cases ex : xs[i]? with
    | none =>
      rw [ex] at e2; subst e2
      exact ⟨vs, us, hq, hq', .inl (by rw [r.length]; exact List.getElem?_eq_none_iff.mp ex)⟩
    | some x =>
      cases ey : ys[i]? with
      | none =>
        rw [ex, ey] at e2; subst e2
        exact ⟨vs, us, hq, hq', .inr (by rw [r'.length]; exact List.getElem?_eq_none_iff.mp ey)⟩
      | some y =>
        rw [ex, ey] at e2; subst e2
        obtain ⟨v, ev, rv⟩ := r.get ex
        obtain ⟨u, eu, ru⟩ := r'.get ey
        refine ⟨⟨vs, us, v, u, hq, hq', ev, eu⟩, fun z H2 hy => ?_⟩
        obtain ⟨Tt, x1, y1, rfl, hT, rfl, k1, k2⟩ := hy
        have q1 := k1 vs hq
        have q2 := k2 us hq'
        rw [ev] at q1; cases q1
        rw [eu] at q2; cases q2
        obtain ⟨w', g, e⟩ := w.fresh (o := .tup [v, u]) hT
        exact ⟨w', g, .tup (.inl (.inl e)) (.cons (rv.grow g) (.cons (ru.grow g) .nil))⟩
theorem jok_enum (ra : Rep K as (fz hd as S H) (.ref a) d) (f : ItD) (hf : ∀ i S' hd' as' H', Wld K hd' as' S' H' → (∀ n x : Nat, as[n]? = some x → as'[n]? = some x) → ∀ o, f.nx i S' = some o → ∃ xs, listOf S' d = some xs ∧ o = (enumD xs)[i]?) : JOk K as (fz hd as S H) (Ite K a) f := by
  intro i hd' as' S' H' pre sm w
  cases en : f.nx i S' with
  | none => trivial
  | some o =>
    obtain ⟨xs, e1, e2⟩ := hf i S' hd' as' H' w pre o en
    obtain ⟨a', vs, e3, hq, r⟩ := seqL w (ra.mono pre sm) e1
    cases e3
    rw [enumD_get] at e2
    cases ex : xs[i]? with
    | none =>
      rw [ex] at e2; subst e2
      exact ⟨vs, hq, by rw [r.length]; exact List.getElem?_eq_none_iff.mp ex⟩
    | some x =>
      rw [ex] at e2; subst e2
      obtain ⟨v, ev, rv⟩ := r.get ex
      refine ⟨⟨vs, v, hq, ev⟩, fun z H2 hy => ?_⟩
      obtain ⟨Tt, x1, rfl, hT, rfl, k1⟩ := hy
      have q1 := k1 vs hq
      rw [ev] at q1; cases q1
      obtain ⟨w', g, e⟩ := w.fresh (o := .tup [.int (i : Nat), v]) hT
      exact ⟨w', g, .tup (.inl (.inl e)) (.cons (.int _) (.cons (rv.grow g) .nil))⟩
end
section
variable {X : Cx} {W : WX} {tg e e2 : Expr} {me : EM} {mr : AM} {pos tpos p : Pos} {elts : List Expr} {kk : Nat}
theorem di_list (h : DE X W e me) : DI X W tg e (imOf mItL me) := PI.le (pi_list h) fun σ H Rk ⟨hd, as, ρ, S, rel, po⟩ => tE_seq rel po fun as1 S1 H1 v d g1 rel1 r po1 => by
  cases r with
  | lst q r => exact ⟨_, rfl, ⟨_, .inl (.inl (fz_same _ _ q))⟩, po1 as1 H1 .refl rel1 _ (jok_list (.lst q r) _ fun i S' _ _ _ _ _ o h => ⟨_, rfl, (Option.some.inj h).symm⟩)⟩
  | ro q r => exact ⟨_, rfl, ⟨_, same_l fz_same q⟩, po1 as1 H1 .refl rel1 _ (jok_list (.ro q r) _ fun i S' _ _ _ _ _ o h => ⟨_, rfl, (Option.some.inj h).symm⟩)⟩
  | cell q =>
    rename_i n a
    cases e : S1[n]? with
    | none => simp only [mItL, e] at po1; exact po1.elim
    | some z =>
      cases z with
      | none => simp only [mItL, e] at po1; exact po1.elim
      | some c =>
        cases c with
        | lst xs =>
          simp only [mItL, e] at po1
          obtain ⟨a', vs, e1, hq, r⟩ := seqL rel1.w (.cell q) (show listOf S1 (.cell n) = some xs by simp [listOf, e])
          cases e1
          refine ⟨_, rfl, ⟨_, hq⟩, po1 as1 H1 .refl rel1 _ (jok_list (.cell q) _ fun i S' _ _ _ _ _ o h => ?_)⟩
          simp only [itC] at h
          split at h
          · rename_i ys e'
            exact ⟨ys, by simp [listOf, e'], (Option.some.inj h).symm⟩
          · cases h
  | _ => exact po1.elim
theorem di_tup (h : DE X W e me) : DI X W tg e (imOf mItT me) := PI.le (pi_tup h) fun σ H Rk ⟨hd, as, ρ, S, rel, po⟩ => tE_seq rel po fun as1 S1 H1 v d g1 rel1 r po1 => by
  cases r with
  | tup q r => exact ⟨_, rfl, ⟨_, same_t fz_same q⟩, po1 as1 H1 .refl rel1 _ (jok_tup (.tup q r))⟩
  | _ => exact po1.elim
end
end DL

set_option Elab.async false
set_option linter.all false
set_option maxRecDepth 100000
/-! DL6: operations on data and their rules. -/
namespace DL
open PySem PySem.Spec PyProof.Rows L2
noncomputable section

/-! ### data as the library has it -/
mutual
def D.py : D → PyData
  | .non => .none
  | .bl b => .bool b
  | .int i => .int i
  | .str s => .str s
  | .tup xs => .tuple (D.pyL xs)
  | .lst xs => .list (D.pyL xs)
  | .ro xs => .list (D.pyL xs)
  | .cell _ => .none
  | .ty _ => .none
  | .dE => .dict []
def D.pyL : List D → List PyData
  | [] => []
  | x :: xs => D.py x :: D.pyL xs
end
mutual
/-- data without cells, at most k deep -/
def D.pl : Nat → D → Bool
  | _, .non => true
  | _, .bl _ => true
  | _, .int _ => true
  | _, .str s => PyData.strOk s
  | k, .tup xs => decide (0 < k) && D.plL (k - 1) xs
  | k, .lst xs => decide (0 < k) && D.plL (k - 1) xs
  | k, .ro xs => decide (0 < k) && D.plL (k - 1) xs
  | _, .cell _ => false
  | _, .ty _ => false
  | _, .dE => false
def D.plL : Nat → List D → Bool
  | _, [] => true
  | k, x :: xs => D.pl k x && D.plL k xs
end
section
variable {K : PySem.W.Frag} {as : List Addr} {F : Hp}
mutual
theorem Rep.dp : ∀ {d : D} {v : V} {k : Nat}, d.pl k = true → Rep K as F v d → Dp K F v d.py
  | .non, _, _, _, h => by cases h; simp only [D.py]; exact .non
  | .bl b, _, _, _, h => by cases h; simp only [D.py]; exact .bl b
  | .int i, _, _, _, h => by cases h; simp only [D.py]; exact .int i
  | .str s, _, _, _, h => by cases h; simp only [D.py]; exact .str s
  | .tup xs, _, k, p, h => by
    cases h with
    | tup q r => simp only [D.py]; exact .tup q (RepL.dp (k := k - 1) (by simp only [D.pl, Bool.and_eq_true] at p; exact p.2) r)
  | .lst xs, _, k, p, h => by
    cases h with
    | lst q r => simp only [D.py]; exact .lst (.inl (.inl q)) (RepL.dp (k := k - 1) (by simp only [D.pl, Bool.and_eq_true] at p; exact p.2) r)
  | .ro xs, _, k, p, h => by
    cases h with
    | ro q r => simp only [D.py]; exact .lst q (RepL.dp (k := k - 1) (by simp only [D.pl, Bool.and_eq_true] at p; exact p.2) r)
  | .cell n, _, _, p, _ => by simp [D.pl] at p
  | .ty n, _, _, p, _ => by simp [D.pl] at p
  | .dE, _, _, p, _ => by simp [D.pl] at p
theorem RepL.dp : ∀ {ds : List D} {vs : List V} {k : Nat}, D.plL k ds = true → RepL K as F vs ds → DpAll K F vs (D.pyL ds)
  | [], _, _, _, h => by cases h; simp only [D.pyL]; exact .nil
  | d :: ds, _, k, p, h => by
    simp only [D.plL, Bool.and_eq_true] at p
    cases h with | cons q r => simp only [D.pyL]; exact .cons (Rep.dp p.1 q) (RepL.dp p.2 r)
end
end
mutual
theorem D.pl_shape : ∀ {d : D} {k : Nat}, d.pl k = true → d.py.canLay0 = true ∧ d.py.depth ≤ k ∧ d.py.hasDict = false
  | .non, _, _ => by simp [D.py, PyData.canLay0, PyData.depth, PyData.hasDict]
  | .bl b, _, _ => by simp [D.py, PyData.canLay0, PyData.depth, PyData.hasDict]
  | .int i, _, _ => by simp [D.py, PyData.canLay0, PyData.depth, PyData.hasDict]
  | .str s, _, h => by simpa [D.py, PyData.canLay0, PyData.depth, PyData.hasDict, D.pl] using h
  | .tup xs, k, h => by
    simp only [D.pl, Bool.and_eq_true, decide_eq_true_eq] at h
    have := D.plL_shape h.2
    simp only [D.py, PyData.canLay0, PyData.depth, PyData.hasDict]
    exact ⟨this.1, by omega, this.2.2⟩
  | .lst xs, k, h => by
    simp only [D.pl, Bool.and_eq_true, decide_eq_true_eq] at h
    have := D.plL_shape h.2
    simp only [D.py, PyData.canLay0, PyData.depth, PyData.hasDict]
    exact ⟨this.1, by omega, this.2.2⟩
  | .ro xs, k, h => by
    simp only [D.pl, Bool.and_eq_true, decide_eq_true_eq] at h
    have := D.plL_shape h.2
    simp only [D.py, PyData.canLay0, PyData.depth, PyData.hasDict]
    exact ⟨this.1, by omega, this.2.2⟩
  | .cell n, _, h => by simp [D.pl] at h
  | .ty n, _, h => by simp [D.pl] at h
  | .dE, _, h => by simp [D.pl] at h
theorem D.plL_shape : ∀ {ds : List D} {k : Nat}, D.plL k ds = true → PyData.canLayAll0 (D.pyL ds) = true ∧ PyData.depthAll (D.pyL ds) ≤ k ∧ PyData.hasDictAll (D.pyL ds) = false
  | [], _, _ => by simp [D.pyL, PyData.canLayAll0, PyData.depthAll, PyData.hasDictAll]
  | d :: ds, k, h => by
    simp only [D.plL, Bool.and_eq_true] at h
    have h1 := D.pl_shape h.1
    have h2 := D.plL_shape h.2
    simp only [D.pyL, PyData.canLayAll0, PyData.depthAll, PyData.hasDictAll, Bool.and_eq_true, Bool.or_eq_false_iff]
    exact ⟨⟨h1.1, h2.1⟩, by omega, h1.2.2, h2.2.2⟩
end
theorem D.pl_shaped {d : D} (h : d.pl 60 = true) : SeqAt.shaped d.py = true := by
  obtain ⟨h1, h2, _⟩ := D.pl_shape h
  unfold SeqAt.shaped
  rw [h1]
  simp only [Bool.true_and, decide_eq_true_eq]
  omega
theorem dp_mono {K : PySem.W.Frag} {F F' : Hp} (e : Same F F') : (∀ {d : PyData} {v : V}, Dp K F v d → Dp K F' v d) := by
  intro d v h
  exact Dp.rec (motive_1 := fun v d _ => Dp K F' v d) (motive_2 := fun vs ds _ => DpAll K F' vs ds) .non .bl .int .str (fun q _ r => .lst (same_l e q) r) (fun q _ r => .tup (same_t e q) r) .nil (fun _ _ a b => .cons a b) h

/-- what a value is now: a cell is read -/
def topD (S : Sto) : D → D
  | .cell n => match S[n]? with
    | some (some (.lst xs)) => .lst xs
    | _ => .cell n
  | d => d
theorem Rep.dpNow {K : PySem.W.Frag} {hd : Hid} {as : List Addr} {S : Sto} {H : Hp} {v : V} {d : D} (w : Wld K hd as S H) (r : Rep K as (fz hd as S H) v d) (p : (topD S d).pl 60 = true) : Dp K H v (topD S d).py := by
  have r0 := r
  cases r with
  | cell q =>
    rename_i n a
    cases e : S[n]? with
    | none => simp [topD, e, D.pl] at p
    | some z =>
      cases z with
      | none => simp [topD, e, D.pl] at p
      | some c =>
        cases c with
        | lst xs =>
          simp only [topD, e, D.pl, Bool.and_eq_true] at p ⊢
          obtain ⟨b, vs, e1, e2, r⟩ := w.at_ n xs e
          rw [q] at e1; cases e1
          simp only [D.py]
          have := RepL.dp p.2 r
          exact dp_mono (F := H) (Same.refl _) (.lst (.inl (.inl e2)) (by
            have k : ∀ {ds : List PyData} {us : List V}, DpAll K (fz hd as S H) us ds → DpAll K H us ds := by
              intro ds
              induction ds with
              | nil => intro us h; cases h; exact .nil
              | cons d ds ih => intro us h; cases h with | cons a b => exact .cons (dp_mono fz_same a) (ih b)
            exact k this))
  | non => exact dp_mono fz_same (Rep.dp p r0)
  | bl b => exact dp_mono fz_same (Rep.dp p r0)
  | int i => exact dp_mono fz_same (Rep.dp p r0)
  | str x => exact dp_mono fz_same (Rep.dp p r0)
  | ty x => simp [topD, D.pl] at p
  | dE _ => simp [topD, D.pl] at p
  | tup q r => exact dp_mono fz_same (Rep.dp p r0)
  | lst q r => exact dp_mono fz_same (Rep.dp p r0)
  | ro q r => exact dp_mono fz_same (Rep.dp p r0)

/-! ### ints -/
open Classical in
def opI (C : Int → Int → Prop) (g : Int → Int → D) : D → D → M D
  | .int i, .int j => fun S => if C i j then .ok (g i j) S else .stuck
  | _, _ => fun _ => .stuck
theorem act_I {K : PySem.W.Frag} {C : Int → Int → Prop} {g : Int → Int → V} {g' : Int → Int → D} (h : ∀ i j as F, Rep K as F (g i j) (g' i j)) : Act2 K (rI C g) (opI C g') := by
  intro hd as S H v u d e w r1 r2
  cases r1 with
  | int i =>
    cases r2 with
    | int j =>
      simp only [opI]
      split
      · rename_i hc
        exact .now w (h i j _ _) fun Q q => ⟨i, j, rfl, rfl, hc, q⟩
      · trivial
    | _ => trivial
  | _ => trivial
def opI0 (g : Int → Int → D) : D → D → M D
  | .int i, .int j => fun S => .ok (g i j) S
  | _, _ => fun _ => .stuck
theorem act_I0 {K : PySem.W.Frag} {g : Int → Int → V} {g' : Int → Int → D} (h : ∀ i j as F, Rep K as F (g i j) (g' i j)) : Act2 K (rI0 g) (opI0 g') := by
  intro hd as S H v u d e w r1 r2
  cases r1 with
  | int i =>
    cases r2 with
    | int j => exact .now w (h i j _ _) fun Q q => ⟨i, j, rfl, rfl, q⟩
    | _ => trivial
  | _ => trivial
def CDivA (i j : Int) : Prop := j ≠ 0 ∧ j.natAbs.log2 < 9000
abbrev oSub := opI0 fun i j => .int (i - j)
abbrev oFdiv := opI CDivA fun i j => .int (i.fdiv j)
abbrev oMod := opI (fun _ j => j ≠ 0) fun i j => .int (i.fmod j)
abbrev oPow := opI CPow fun i j => .int (i ^ j.toNat)
abbrev oLt := opI0 fun i j => .bl (decide (i < j))
abbrev oLe := opI0 fun i j => .bl (decide (i ≤ j))
abbrev oGt := opI0 fun i j => .bl (decide (j < i))
abbrev oGe := opI0 fun i j => .bl (decide (j ≤ i))
def oNeg : D → M D
  | .int i => fun S => .ok (.int (-i)) S
  | _ => fun _ => .stuck
section
variable {X : Cx}
theorem opr_fdiv : OpR X (binaryOp .FloorDiv) (rI CDivA fun i j => .int (i.fdiv j)) := L2.opI fun _ _ _ _ _ _ _ hc q => floordiv_int hc.1 q (.inl (PyProof.noPylong_of_log2 hc.2))
theorem act_sub {K : PySem.W.Frag} : Act2 K (rI0 fun i j => .int (i - j)) oSub := act_I0 fun _ _ _ _ => .int _
theorem act_fdiv {K : PySem.W.Frag} : Act2 K (rI CDivA fun i j => .int (i.fdiv j)) oFdiv := act_I fun _ _ _ _ => .int _
theorem act_mod {K : PySem.W.Frag} : Act2 K (rI (fun _ j => j ≠ 0) fun i j => .int (i.fmod j)) oMod := act_I fun _ _ _ _ => .int _
theorem act_pow {K : PySem.W.Frag} : Act2 K (rI CPow fun i j => .int (i ^ j.toNat)) oPow := act_I fun _ _ _ _ => .int _
theorem act_lt {K : PySem.W.Frag} : Act2 K (rI0 fun i j => .bl (decide (i < j))) oLt := act_I0 fun _ _ _ _ => .bl _
theorem act_le {K : PySem.W.Frag} : Act2 K (rI0 fun i j => .bl (decide (i ≤ j))) oLe := act_I0 fun _ _ _ _ => .bl _
theorem act_gt {K : PySem.W.Frag} : Act2 K (rI0 fun i j => .bl (decide (j < i))) oGt := act_I0 fun _ _ _ _ => .bl _
theorem act_ge {K : PySem.W.Frag} : Act2 K (rI0 fun i j => .bl (decide (j ≤ i))) oGe := act_I0 fun _ _ _ _ => .bl _
theorem act_neg {K : PySem.W.Frag} : Act1 K (rU fun i => .int (-i)) oNeg := by
  intro hd as S H v d w r
  cases r with
  | int i => exact .now w (.int _) fun Q q => ⟨i, rfl, q⟩
  | _ => trivial
end

/-! ### +, * -/
def oAddInt : D → D → M D
  | .int i, .int j => fun S => .ok (.int (i + j)) S
  | _, _ => fun _ => .stuck
def oAddStr : D → D → M D
  | .str a, .str b => fun S => if a.length + b.length ≤ sizeLine then .ok (.str (a ++ b)) S else .stuck
  | _, _ => fun _ => .stuck
def oAddTup : D → D → M D
  | .tup xs, .tup ys => fun S => if xs.isEmpty = false ∧ ys.isEmpty = false ∧ xs.length + ys.length ≤ sizeLine then .ok (.tup (xs ++ ys)) S else .stuck
  | _, _ => fun _ => .stuck
def oCat (d e : D) : M D := fun S => match listOw S d, listOw S e with
  | some xs, some ys => if xs.length + ys.length ≤ sizeLine then .ok (.lst (xs ++ ys)) S else .stuck
  | _, _ => .stuck
def oAdd : D → D → M D
  | .int i, .int j => fun S => .ok (.int (i + j)) S
  | .str a, .str b => oAddStr (.str a) (.str b)
  | .tup xs, .tup ys => oAddTup (.tup xs) (.tup ys)
  | d, e => oCat d e
def rAddA (K : PySem.W.Frag) : R2 := fun x y H Q => rI0 (fun i j => .int (i + j)) x y H Q ∨ ((∃ i j, x = .str i ∧ y = .str j ∧ i.length + j.length ≤ sizeLine ∧ Q (.str (i ++ j)) H) ∨ (rCat x y H Q ∨ rCatT K x y H Q))
theorem opr_add {X : Cx} : OpR X (binaryOp .Add) (rAddA X.K) := op_add.or (op_add_str.or (op_cat.or op_catT))
theorem act_cat {K : PySem.W.Frag} : Act2 K rCat oCat := by
  intro hd as S H v u d e w r1 r2
  unfold oCat
  cases e1 : listOw S d with
  | none => trivial
  | some xs =>
    cases e2 : listOw S e with
    | none => trivial
    | some ys =>
      dsimp only
      split
      · rename_i hz
        obtain ⟨a, vs, rfl, ha, ra⟩ := seqO w r1 e1
        obtain ⟨b, us, rfl, hb, rb⟩ := seqO w r2 e2
        exact .fresh w (fun p ep g => .lst ep ((ra.append rb).grow g)) fun Q q => ⟨a, b, vs, us, rfl, rfl, ha, hb, by rw [ra.length, rb.length]; exact hz, q⟩
      · trivial
theorem Ret.map {K : PySem.W.Frag} {hd : Hid} {as : List Addr} {S : Sto} {H : Hp} {r : R D} {run run' : VK → Prop} (h : Ret K hd as S H r run) (f : ∀ Q, run Q → run' Q) : Ret K hd as S H r run' := by
  cases r with
  | ok d S' => exact fun Q q => f Q (h Q q)
  | exc x S' => exact h
  | stuck => trivial
theorem act_add {K : PySem.W.Frag} : Act2 K (rAddA K) oAdd := by
  intro hd as S H v u d e w r1 r2
  have cat : Ret K hd as S H (oCat d e S) (rAddA K v u H) := (act_cat hd as S H v u d e w r1 r2).map fun Q q => .inr (.inr (.inl q))
  cases r1 with
  | int i =>
    cases r2 with
    | int j => exact .now w (.int _) fun Q q => .inl ⟨i, j, rfl, rfl, q⟩
    | _ => exact cat
  | str i =>
    cases r2 with
    | str j =>
      simp only [oAdd, oAddStr]
      split
      · rename_i hz
        exact .now w (.str _) fun Q q => .inr (.inl ⟨i, j, rfl, rfl, hz, q⟩)
      · trivial
    | _ => exact cat
  | tup q r =>
    cases r2 with
    | tup q' r' =>
      simp only [oAdd, oAddTup]
      split
      · rename_i hz
        obtain ⟨h1, h2, h3⟩ := hz
        refine .fresh w (fun p ep g => .tup (.inl (.inl ep)) ((r.append r').grow g)) fun Q q2 => .inr (.inr (.inr ⟨_, _, _, _, rfl, rfl, same_t fz_same q, same_t fz_same q', ?_, by rw [r.length, r'.length]; exact h3, fun z => ?_, fun _ => q2⟩))
        · intro z; subst z
          have := r.length
          cases r
          simp at h1
        · subst z
          cases r'
          simp at h2
      · trivial
    | _ => exact cat
  | _ => cases r2 <;> exact cat
open Classical in
def oMul : D → D → M D
  | .int i, .int j => fun S => if IntMulOk i j then .ok (.int (i * j)) S else .stuck
  | d, .int k => fun S => match listOw S d with
    | some xs => if -(2 ^ 63) ≤ k ∧ k < 2 ^ 63 ∧ xs.length * k.toNat ≤ sizeLine then .ok (.lst (List.replicate k.toNat xs).flatten) S else .stuck
    | none => .stuck
  | _, _ => fun _ => .stuck
def rMulA : R2 := fun x y H Q => rI IntMulOk (fun i j => .int (i * j)) x y H Q ∨ rRep x y H Q
theorem opr_mul {X : Cx} : OpR X (binaryOp .Mult) rMulA := OpR.or (L2.opI fun _ _ _ _ _ _ _ hc q => mul_int q hc) op_rep
theorem RepL.rep {K : PySem.W.Frag} {as : List Addr} {F : Hp} {vs : List V} {ds : List D} (h : RepL K as F vs ds) : ∀ n : Nat, RepL K as F (List.replicate n vs).flatten (List.replicate n ds).flatten
  | 0 => .nil
  | n + 1 => by simpa [List.replicate_succ] using h.append (RepL.rep h n)
theorem act_mul {K : PySem.W.Frag} : Act2 K rMulA oMul := by
  intro hd as S H v u d e w r1 r2
  have rep : ∀ k : Int, u = .int k → (∀ i, d ≠ .int i) → Ret K hd as S H (match listOw S d with
    | some xs => if -(2 ^ 63) ≤ k ∧ k < 2 ^ 63 ∧ xs.length * k.toNat ≤ sizeLine then .ok (.lst (List.replicate k.toNat xs).flatten) S else .stuck
    | none => .stuck) (rMulA v u H) := fun k eu _ => by
    subst eu
    cases e1 : listOw S d with
    | none => trivial
    | some xs =>
      dsimp only
      split
      · rename_i hz
        obtain ⟨h1, h2, h3⟩ := hz
        obtain ⟨a, vs, rfl, ha, ra⟩ := seqO w r1 e1
        exact .fresh w (fun p ep g => .lst ep ((ra.rep _).grow g)) fun Q q => .inr ⟨a, k, vs, rfl, rfl, ha, h1, h2, by rw [ra.length]; exact h3, q⟩
      · trivial
  cases r2 with
  | int j =>
    cases r1 with
    | int i =>
      simp only [oMul]
      split
      · rename_i hc
        exact .now w (.int _) fun Q q => .inl ⟨i, j, rfl, rfl, hc, q⟩
      · trivial
    | non => exact rep j rfl fun _ z => nomatch z
    | bl b => exact rep j rfl fun _ z => nomatch z
    | str x => exact rep j rfl fun _ z => nomatch z
    | ty x => exact rep j rfl fun _ z => nomatch z
    | dE q => exact rep j rfl fun _ z => nomatch z
    | tup q r => exact rep j rfl fun _ z => nomatch z
    | lst q r => exact rep j rfl fun _ z => nomatch z
    | ro q r => exact rep j rfl fun _ z => nomatch z
    | cell q => exact rep j rfl fun _ z => nomatch z
  | _ => cases r1 <;> trivial

/-! ### == and != -/
def eqD : D → D → D → D → Option Bool
  | .str a, .str b, _, _ => some (decide (a = b))
  | _, _, d, e => if d.pl 60 && e.pl 60 then some (PyData.eqv d.py e.py) else none
def oEq (d e : D) : M D := fun S => match eqD d e (topD S d) (topD S e) with
  | some b => .ok (.bl b) S
  | none => .stuck
def oNe (d e : D) : M D := fun S => match eqD d e (topD S d) (topD S e) with
  | some b => .ok (.bl (!b)) S
  | none => .stuck
def rEqA (K : PySem.W.Frag) : R2 := fun x y H Q => rEq x y H Q ∨ rEqD K x y H Q
def rNeA (K : PySem.W.Frag) : R2 := fun x y H Q => rNe x y H Q ∨ rNeD K x y H Q
theorem opr_eq {X : Cx} (hu : X.A.units + 64 < cLine) : OpR X (compareOp .Eq) (rEqA X.K) := op_eq.or (op_eqD hu)
theorem opr_ne {X : Cx} (hu : X.A.units + 64 < cLine) : OpR X (compareOp .NotEq) (rNeA X.K) := op_ne.or (op_neD hu)
theorem eqD_cases {d e d' e' : D} {b : Bool} (h : eqD d e d' e' = some b) : (∃ x y, d = .str x ∧ e = .str y ∧ b = decide (x = y)) ∨ (d'.pl 60 = true ∧ e'.pl 60 = true ∧ b = PyData.eqv d'.py e'.py) := by
  unfold eqD at h
  split at h
  · exact .inl ⟨_, _, rfl, rfl, (Option.some.inj h).symm⟩
  · split at h
    · rename_i hp
      simp only [Bool.and_eq_true] at hp
      exact .inr ⟨hp.1, hp.2, (Option.some.inj h).symm⟩
    · cases h
theorem act_eq {K : PySem.W.Frag} : Act2 K (rEqA K) oEq := by
  intro hd as S H v u d e w r1 r2
  unfold oEq
  cases eb : eqD d e (topD S d) (topD S e) with
  | none => trivial
  | some b =>
    dsimp only
    rcases eqD_cases eb with ⟨x, y, rfl, rfl, rfl⟩ | ⟨h1, h2, rfl⟩
    · cases r1; cases r2
      refine .now w (.bl _) fun Q q => .inl ⟨rfl, ?_⟩
      have : decide (V.str x = V.str y) = decide (x = y) := by simp
      rw [this]; exact q
    · exact .now w (.bl _) fun Q q => .inr ⟨_, _, r1.dpNow w h1, r2.dpNow w h2, D.pl_shaped h1, D.pl_shaped h2, q⟩
theorem act_ne {K : PySem.W.Frag} : Act2 K (rNeA K) oNe := by
  intro hd as S H v u d e w r1 r2
  unfold oNe
  cases eb : eqD d e (topD S d) (topD S e) with
  | none => trivial
  | some b =>
    dsimp only
    rcases eqD_cases eb with ⟨x, y, rfl, rfl, rfl⟩ | ⟨h1, h2, rfl⟩
    · cases r1; cases r2
      refine .now w (.bl _) fun Q q => .inl ⟨rfl, ?_⟩
      have : decide (V.str x = V.str y) = decide (x = y) := by simp
      rw [this]; exact q
    · exact .now w (.bl _) fun Q q => .inr ⟨_, _, r1.dpNow w h1, r2.dpNow w h2, D.pl_shaped h1, D.pl_shaped h2, q⟩
end
end DL

set_option Elab.async false
set_option linter.all false
set_option maxRecDepth 100000
/-! DL7: built-in functions, subscripts, slices, list methods. -/
namespace DL
open PySem PySem.Spec PyProof.Rows L2
noncomputable section

/-! ### in -/
def flatD : D → Bool
  | .non | .bl _ | .int _ | .str _ => true
  | _ => false
def eqF : D → D → Bool
  | .non, .non => true
  | .bl a, .bl b => a == b
  | .bl a, .int b => (if a then 1 else 0) == b
  | .int a, .bl b => a == (if b then 1 else 0)
  | .int a, .int b => a == b
  | .str a, .str b => a == b
  | _, _ => false
def seqOf (S : Sto) : D → Option (List D)
  | .tup xs => some xs
  | d => listOf S d
def inD (S : Sto) (d e : D) : Option Bool := match seqOf S e with
  | some xs => if flatD d && xs.all flatD then some (xs.any fun y => eqF y d) else none
  | none => match d, e with
    | .str a, .str b => some (!(Builtin.Str.occurrences b a 0 b.length 1).isEmpty)
    | _, _ => none
def oIn (d e : D) : M D := fun S => match inD S d e with
  | some b => .ok (.bl b) S
  | none => .stuck
def oNotIn (d e : D) : M D := fun S => match inD S d e with
  | some b => .ok (.bl (!b)) S
  | none => .stuck
section
variable {K : PySem.W.Frag} {hd : Hid} {as : List Addr} {S : Sto} {H : Hp}
theorem Rep.flat {F : Hp} {v : V} {d : D} (r : Rep K as F v d) (h : flatD d = true) : flatV v = true := by
  cases r <;> first | rfl | (simp [flatD] at h)
theorem RepL.flat {F : Hp} : ∀ {ds : List D} {vs : List V}, RepL K as F vs ds → ds.all flatD = true → vs.all flatV = true
  | [], _, r, _ => by cases r; rfl
  | d :: ds, _, r, h => by
    simp only [List.all_cons, Bool.and_eq_true] at h
    cases r with | cons a b => simp only [List.all_cons, a.flat h.1, RepL.flat b h.2, Bool.and_self]
theorem eqF_eq {F : Hp} {v u : V} {d e : D} (r : Rep K as F v d) (q : Rep K as F u e) (h : flatD d = true) (g : flatD e = true) : eqF d e = eqV v u := by
  cases r <;> first | (simp [flatD] at h; done) | (cases q <;> first | rfl | (simp [flatD] at g; done))
theorem any_eqF {F : Hp} {u : V} {e : D} (q : Rep K as F u e) (g : flatD e = true) : ∀ {ds : List D} {vs : List V}, RepL K as F vs ds → ds.all flatD = true → (ds.any fun y => eqF y e) = inV u vs
  | [], _, r, _ => by cases r; rfl
  | d :: ds, _, r, h => by
    simp only [List.all_cons, Bool.and_eq_true] at h
    cases r with
    | cons a b =>
      unfold inV
      simp only [List.any_cons]
      rw [eqF_eq a q h.1 g, any_eqF q g b h.2]
      rfl
theorem seqS {v : V} {d : D} {xs : List D} (w : Wld K hd as S H) (r : Rep K as (fz hd as S H) v d) (h : seqOf S d = some xs) : ∃ a vs, v = .ref a ∧ (SqL K H a vs ∨ SqT K H a vs) ∧ RepL K as (fz hd as S H) vs xs := by
  have r0 := r
  cases r with
  | tup q r =>
    cases h
    exact ⟨_, _, rfl, .inr (same_t fz_same q), r⟩
  | lst q r => obtain ⟨a, vs, e, q, r⟩ := seqL w r0 h; exact ⟨a, vs, e, .inl q, r⟩
  | ro q r => obtain ⟨a, vs, e, q, r⟩ := seqL w r0 h; exact ⟨a, vs, e, .inl q, r⟩
  | cell q => obtain ⟨a, vs, e, q, r⟩ := seqL w r0 h; exact ⟨a, vs, e, .inl q, r⟩
  | _ => cases h
end
def rInA (K : PySem.W.Frag) (neg : Bool) : R2 := fun x y H Q => rIn K neg x y H Q ∨ (∃ i j, x = .str i ∧ y = .str j ∧ Q (.bl (if neg then !(!(Builtin.Str.occurrences j i 0 j.length 1).isEmpty) else !(Builtin.Str.occurrences j i 0 j.length 1).isEmpty)) H)
theorem opr_in {X : Cx} : OpR X (compareOp .In) (rInA X.K false) := op_in_seq.or op_in_str
theorem opr_notIn {X : Cx} : OpR X (compareOp .NotIn) (rInA X.K true) := op_notIn_seq.or op_notIn_str
theorem in_run {K : PySem.W.Frag} {hd : Hid} {as : List Addr} {S : Sto} {H : Hp} {v u : V} {d e : D} {b neg : Bool} (w : Wld K hd as S H) (r1 : Rep K as (fz hd as S H) v d) (r2 : Rep K as (fz hd as S H) u e) (h : inD S d e = some b) {Q : VK} (q : Q (.bl (if neg then !b else b)) H) : rInA K neg v u H Q := by
  unfold inD at h
  split at h
  · rename_i xs es
    split at h
    · rename_i hf
      simp only [Bool.and_eq_true] at hf
      cases h
      obtain ⟨a, vs, rfl, sq, r⟩ := seqS w r2 es
      refine .inl ⟨a, vs, rfl, sq, r1.flat hf.1, r.flat hf.2, ?_⟩
      rw [any_eqF r1 hf.1 r hf.2] at q
      exact q
    · cases h
  · split at h
    · cases h
      cases r1; cases r2
      exact .inr ⟨_, _, rfl, rfl, q⟩
    · cases h
theorem act_in {K : PySem.W.Frag} : Act2 K (rInA K false) oIn := by
  intro hd as S H v u d e w r1 r2
  unfold oIn
  cases eb : inD S d e with
  | none => trivial
  | some b => exact .now w (.bl _) fun Q q => in_run w r1 r2 eb q
theorem act_notIn {K : PySem.W.Frag} : Act2 K (rInA K true) oNotIn := by
  intro hd as S H v u d e w r1 r2
  unfold oNotIn
  cases eb : inD S d e with
  | none => trivial
  | some b => exact .now w (.bl _) fun Q q => in_run w r1 r2 eb q
/-! ### is -/
def oIsN : D → D → M D
  | d, .non => fun S => match d with
    | .non => .ok (.bl true) S
    | _ => .ok (.bl false) S
  | _, _ => fun _ => .stuck
def oNotN : D → D → M D
  | d, .non => fun S => match d with
    | .non => .ok (.bl false) S
    | _ => .ok (.bl true) S
  | _, _ => fun _ => .stuck
theorem act_isN {K : PySem.W.Frag} : Act2 K (fun x y H Q => y = .non ∧ Q (.bl (decide (x = .non))) H) oIsN := by
  intro hd as S H v u d e w r1 r2
  cases r2 with
  | non => cases r1 <;> exact .now w (.bl _) fun Q q => ⟨rfl, q⟩
  | _ => cases r1 <;> trivial
theorem act_notN {K : PySem.W.Frag} : Act2 K (fun x y H Q => y = .non ∧ Q (.bl (!decide (x = .non))) H) oNotN := by
  intro hd as S H v u d e w r1 r2
  cases r2 with
  | non => cases r1 <;> exact .now w (.bl _) fun Q q => ⟨rfl, q⟩
  | _ => cases r1 <;> trivial
def oIsB : D → D → M D
  | .bl a, .bl b => fun S => .ok (.bl (decide (a = b))) S
  | _, _ => fun _ => .stuck
def oNotB : D → D → M D
  | .bl a, .bl b => fun S => .ok (.bl (!decide (a = b))) S
  | _, _ => fun _ => .stuck
theorem act_isB {K : PySem.W.Frag} : Act2 K rIsB oIsB := by
  intro hd as S H v u d e w r1 r2
  cases r1 with
  | bl a =>
    cases r2 with
    | bl b => exact .now w (.bl _) fun Q q => ⟨a, b, rfl, rfl, q⟩
    | _ => trivial
  | _ => trivial
theorem act_notB {K : PySem.W.Frag} : Act2 K rNotB oNotB := by
  intro hd as S H v u d e w r1 r2
  cases r1 with
  | bl a =>
    cases r2 with
    | bl b => exact .now w (.bl _) fun Q q => ⟨a, b, rfl, rfl, q⟩
    | _ => trivial
  | _ => trivial

/-! ### built-in functions -/
def fLen : List D → M D
  | [.str z] => fun S => if z.length ≤ sizeLine then .ok (.int z.length) S else .stuck
  | [d] => fun S => match seqOf S d with
    | some xs => .ok (.int xs.length) S
    | none => .stuck
  | _ => fun _ => .stuck
theorem act_len {K : PySem.W.Frag} : ActL K (fun xs H Q => ∃ x n, xs = [x] ∧ LenV K x H n ∧ Q (.int n) H) fLen := by
  intro hd as S H vs ds w r
  match ds, r with
  | [], _ => trivial
  | [d], .cons r .nil =>
    rename_i v
    have seq : ∀ xs, seqOf S d = some xs → ∀ Q : VK, Q (.int xs.length) H → ∃ x n, [v] = [x] ∧ LenV K x H n ∧ Q (.int n) H := fun xs e Q q => by
      obtain ⟨a, vs, ev, sq, rr⟩ := seqS w r e
      subst ev
      rw [← rr.length] at q
      exact ⟨.ref a, vs.length, rfl, sq.elim (fun z => .inl ⟨vs, z, rfl⟩) (fun z => .inr ⟨vs, z, rfl⟩), q⟩
    cases d with
    | str z =>
      simp only [fLen]
      split
      · rename_i hz
        cases r
        exact .now w (.int _) fun Q q => ⟨_, z.length, rfl, ⟨hz, rfl⟩, q⟩
      · trivial
    | non => trivial
    | bl b => trivial
    | int i => trivial
    | ty n => trivial
    | dE => trivial
    | tup xs => exact .now w (.int _) (seq _ rfl)
    | lst xs => exact .now w (.int _) (seq _ rfl)
    | ro xs => exact .now w (.int _) (seq _ rfl)
    | cell n =>
      simp only [fLen]
      cases e : seqOf S (.cell n) with
      | none => trivial
      | some xs => exact .now w (.int _) (seq _ e)
  | a :: b :: c, _ => cases a <;> trivial
def fAbs : List D → M D
  | [.int i] => fun S => .ok (.int (if i < 0 then -i else i)) S
  | _ => fun _ => .stuck
def fMax2 : List D → M D
  | [.int i, .int j] => fun S => .ok (.int (if j > i then j else i)) S
  | _ => fun _ => .stuck
def fMin2 : List D → M D
  | [.int i, .int j] => fun S => .ok (.int (if j < i then j else i)) S
  | _ => fun _ => .stuck
def fInt : List D → M D
  | [.int i] => fun S => .ok (.int i) S
  | [.bl k] => fun S => .ok (.int (if k then 1 else 0)) S
  | _ => fun _ => .stuck
def fStr : List D → M D
  | [.int i] => fun S => if i.natAbs.log2 < 1920 then .ok (.str (toString i)) S else .stuck
  | _ => fun _ => .stuck
theorem rep1 {K : PySem.W.Frag} {as : List Addr} {F : Hp} {vs : List V} {d : D} (r : RepL K as F vs [d]) : ∃ v, vs = [v] ∧ Rep K as F v d := by
  cases r with | cons a b => cases b; exact ⟨_, rfl, a⟩
theorem rep2 {K : PySem.W.Frag} {as : List Addr} {F : Hp} {vs : List V} {d e : D} (r : RepL K as F vs [d, e]) : ∃ v u, vs = [v, u] ∧ Rep K as F v d ∧ Rep K as F u e := by
  cases r with | cons a b => cases b with | cons b c => cases c; exact ⟨_, _, rfl, a, b⟩
theorem act_abs {K : PySem.W.Frag} : ActL K (fun xs H Q => ∃ i, xs = [.int i] ∧ Q (.int (if i < 0 then -i else i)) H) fAbs := by
  intro hd as S H vs ds w r
  unfold fAbs
  split
  · obtain ⟨v, rfl, a⟩ := rep1 r
    cases a
    exact .now w (.int _) fun Q q => ⟨_, rfl, q⟩
  · trivial
theorem act_max2 {K : PySem.W.Frag} : ActL K (fun xs H Q => ∃ i j, xs = [.int i, .int j] ∧ Q (.int (if j > i then j else i)) H) fMax2 := by
  intro hd as S H vs ds w r
  unfold fMax2
  split
  · obtain ⟨v, u, rfl, a, b⟩ := rep2 r
    cases a; cases b
    exact .now w (.int _) fun Q q => ⟨_, _, rfl, q⟩
  · trivial
theorem act_min2 {K : PySem.W.Frag} : ActL K (fun xs H Q => ∃ i j, xs = [.int i, .int j] ∧ Q (.int (if j < i then j else i)) H) fMin2 := by
  intro hd as S H vs ds w r
  unfold fMin2
  split
  · obtain ⟨v, u, rfl, a, b⟩ := rep2 r
    cases a; cases b
    exact .now w (.int _) fun Q q => ⟨_, _, rfl, q⟩
  · trivial
theorem act_int {K : PySem.W.Frag} : ActL K (fun xs H Q => (∃ i, xs = [.int i] ∧ Q (.int i) H) ∨ ∃ k, xs = [.bl k] ∧ Q (.int (if k then 1 else 0)) H) fInt := by
  intro hd as S H vs ds w r
  unfold fInt
  split
  · obtain ⟨v, rfl, a⟩ := rep1 r
    cases a
    exact .now w (.int _) fun Q q => .inl ⟨_, rfl, q⟩
  · obtain ⟨v, rfl, a⟩ := rep1 r
    cases a
    exact .now w (.int _) fun Q q => .inr ⟨_, rfl, q⟩
  · trivial
theorem act_str {K : PySem.W.Frag} : ActL K (fun xs H Q => ∃ i, xs = [.int i] ∧ i.natAbs.log2 < 1920 ∧ Q (.str (toString i)) H) fStr := by
  intro hd as S H vs ds w r
  unfold fStr
  split
  · split
    · rename_i hz
      obtain ⟨v, rfl, a⟩ := rep1 r
      cases a
      exact .now w (.str _) fun Q q => ⟨_, rfl, hz, q⟩
    · trivial
  · trivial
/-! repr -/
/-- no repr runs around; the modules' table is a table -/
structure Qt (A : Around) (base : Heap) : Prop where
  g : A.guards = some []
  s : ∃ mm, base.Ns sysModules mm
mutual
/-- as data, an empty table among them -/
inductive Dr (K : PySem.W.Frag) (H : Hp) : V → PyData → Prop
  | non : Dr K H .non .none
  | bl (b : Bool) : Dr K H (.bl b) (.bool b)
  | int (i : Int) : Dr K H (.int i) (.int i)
  | str (x : Str) : Dr K H (.str x) (.str x)
  | lst {a : Addr} {xs : List V} {ds : List PyData} : SqL K H a xs → DrL K H xs ds → Dr K H (.ref a) (.list ds)
  | tup {a : Addr} {xs : List V} {ds : List PyData} : SqT K H a xs → DrL K H xs ds → Dr K H (.ref a) (.tuple ds)
  | dE {a : Addr} : Rd H a (.dK []) → Dr K H (.ref a) (.dict [])
inductive DrL (K : PySem.W.Frag) (H : Hp) : List V → List PyData → Prop
  | nil : DrL K H [] []
  | cons {v : V} {vs : List V} {d : PyData} {ds : List PyData} : Dr K H v d → DrL K H vs ds → DrL K H (v :: vs) (d :: ds)
end
section
variable {X : Cx} {pins : List (Addr × Obj)} {σ : L2.St} {H : Hp} {s : Shared}
mutual
theorem Dr.reads (I : Inv X pins σ H s) (hs : ∃ mm, X.base.Ns sysModules mm) : ∀ (d : PyData) (v : V) (u : Value), Dr X.K H v d → RelV v u → ∃ as, Reads s.heap u d as ∧ sysModules ∉ as
  | .none, _, _, h, r => by
    cases h; cases r
    exact ⟨_, Reads.none, by simp⟩
  | .bool b, _, _, h, r => by
    cases h; cases r
    exact ⟨_, Reads.bool b, by simp⟩
  | .int i, _, _, h, r => by
    cases h
    obtain ⟨t, rfl⟩ := r
    exact ⟨_, Reads.int i t, by simp⟩
  | .str x, _, _, h, r => by
    cases h
    obtain ⟨t, rfl⟩ := r
    exact ⟨_, Reads.str x t, by simp⟩
  | .list ds, _, _, h, r => by
    cases h with
    | lst hq ha =>
      cases r
      obtain ⟨its, rv, ⟨o, n, ho, hc, _, hd⟩, _⟩ := I.list hq
      obtain ⟨as, hr, hn⟩ := DrL.reads I hs ds _ its ha rv
      refine ⟨_, Reads.list ho hc hd hr, ?_⟩
      intro hm
      rcases List.mem_cons.mp hm with e | e
      · obtain ⟨mm, o', es, ep, e1, e2, _⟩ := hs
        have e3 := I.bk _ _ e1
        rw [e] at e3
        rw [ho] at e3
        cases e3
        rw [hd] at e2; cases e2
      · exact hn e
  | .tuple ds, _, _, h, r => by
    cases h with
    | tup hq ha =>
      cases r
      obtain ⟨its, rv, ⟨o, ho, hc, n, hd⟩, _⟩ := I.tuple hq
      obtain ⟨as, hr, hn⟩ := DrL.reads I hs ds _ its ha rv
      exact ⟨_, Reads.tuple ho hc hd hr, hn⟩
  | .dict _, _, _, h, r => by
    cases h with
    | dE hq =>
      cases r
      obtain ⟨_, hne, vs, kv, o, es, ep, e1, e2, e3, _, e4, _⟩ := dk_rd I.hok hq
      cases kv
      have hz : es.toList = [] := by
        generalize es.toList = l at e4
        cases e4; rfl
      refine ⟨_, Reads.dict (kvs := []) e1 e2.1 e3 (by rw [hz]; exact ReadsAll.nil) (by rw [hz]; exact ReadsAll.nil), ?_⟩
      intro hm
      simp at hm
      rw [hm] at hne
      simp at hne
theorem DrL.reads (I : Inv X pins σ H s) (hs : ∃ mm, X.base.Ns sysModules mm) : ∀ (ds : List PyData) (vs : List V) (us : List Value), DrL X.K H vs ds → Vals vs us → ∃ as, ReadsAll s.heap us ds as ∧ sysModules ∉ as
  | [], _, _, h, r => by
    cases h; cases r
    exact ⟨_, ReadsAll.nil, by simp⟩
  | d :: ds, _, _, h, r => by
    cases h with
    | cons h1 h2 =>
      cases r with
      | cons r1 r2 =>
        obtain ⟨as, q1, n1⟩ := Dr.reads I hs d _ _ h1 r1
        obtain ⟨bs, q2, n2⟩ := DrL.reads I hs ds _ _ h2 r2
        exact ⟨_, ReadsAll.cons q1 q2, fun z => (List.mem_append.mp z).elim n1 n2⟩
end
end
mutual
/-- data without cells, at most k deep, an empty table among them -/
def D.pr : Nat → D → Bool
  | _, .non => true
  | _, .bl _ => true
  | _, .int _ => true
  | _, .str s => PyData.strOk s
  | k, .tup xs => decide (0 < k) && D.prL (k - 1) xs
  | k, .lst xs => decide (0 < k) && D.prL (k - 1) xs
  | k, .ro xs => decide (0 < k) && D.prL (k - 1) xs
  | _, .cell _ => false
  | _, .ty _ => false
  | k, .dE => decide (0 < k)
def D.prL : Nat → List D → Bool
  | _, [] => true
  | k, x :: xs => D.pr k x && D.prL k xs
end
mutual
theorem D.pr_of : ∀ {d : D} {k : Nat}, d.pl k = true → d.pr k = true
  | .non, _, _ => rfl
  | .bl b, _, _ => rfl
  | .int i, _, _ => rfl
  | .str s, _, h => by simpa [D.pr, D.pl] using h
  | .tup xs, k, h => by
    simp only [D.pl, Bool.and_eq_true] at h
    simp only [D.pr, Bool.and_eq_true]
    exact ⟨h.1, D.prL_of h.2⟩
  | .lst xs, k, h => by
    simp only [D.pl, Bool.and_eq_true] at h
    simp only [D.pr, Bool.and_eq_true]
    exact ⟨h.1, D.prL_of h.2⟩
  | .ro xs, k, h => by
    simp only [D.pl, Bool.and_eq_true] at h
    simp only [D.pr, Bool.and_eq_true]
    exact ⟨h.1, D.prL_of h.2⟩
  | .cell n, _, h => by simp [D.pl] at h
  | .ty n, _, h => by simp [D.pl] at h
  | .dE, _, h => by simp [D.pl] at h
theorem D.prL_of : ∀ {ds : List D} {k : Nat}, D.plL k ds = true → D.prL k ds = true
  | [], _, _ => rfl
  | d :: ds, k, h => by
    simp only [D.plL, Bool.and_eq_true] at h
    simp only [D.prL, D.pr_of h.1, D.prL_of h.2, Bool.and_self]
end
mutual
theorem D.pr_depth : ∀ {d : D} {k : Nat}, d.pr k = true → d.py.depth ≤ k
  | .non, _, _ => by simp [D.py, PyData.depth]
  | .bl b, _, _ => by simp [D.py, PyData.depth]
  | .int i, _, _ => by simp [D.py, PyData.depth]
  | .str s, _, h => by simp [D.py, PyData.depth]
  | .tup xs, k, h => by
    simp only [D.pr, Bool.and_eq_true, decide_eq_true_eq] at h
    have := D.prL_depth h.2
    simp only [D.py, PyData.depth]
    omega
  | .lst xs, k, h => by
    simp only [D.pr, Bool.and_eq_true, decide_eq_true_eq] at h
    have := D.prL_depth h.2
    simp only [D.py, PyData.depth]
    omega
  | .ro xs, k, h => by
    simp only [D.pr, Bool.and_eq_true, decide_eq_true_eq] at h
    have := D.prL_depth h.2
    simp only [D.py, PyData.depth]
    omega
  | .cell n, _, h => by simp [D.pr] at h
  | .ty n, _, h => by simp [D.pr] at h
  | .dE, k, h => by
    simp only [D.pr, decide_eq_true_eq] at h
    simp only [D.py, PyData.depth, PyData.depthKv]
    omega
theorem D.prL_depth : ∀ {ds : List D} {k : Nat}, D.prL k ds = true → PyData.depthAll (D.pyL ds) ≤ k
  | [], _, _ => by simp [D.pyL, PyData.depthAll]
  | d :: ds, k, h => by
    simp only [D.prL, Bool.and_eq_true] at h
    have h1 := D.pr_depth h.1
    have h2 := D.prL_depth h.2
    simp only [D.pyL, PyData.depthAll]
    omega
end
section
variable {K : PySem.W.Frag} {as : List Addr} {F H : Hp}
mutual
theorem Rep.dr (e : Same F H) : ∀ {d : D} {v : V} {k : Nat}, d.pr k = true → Rep K as F v d → Dr K H v d.py
  | .non, _, _, _, h => by cases h; simp only [D.py]; exact .non
  | .bl b, _, _, _, h => by cases h; simp only [D.py]; exact .bl b
  | .int i, _, _, _, h => by cases h; simp only [D.py]; exact .int i
  | .str s, _, _, _, h => by cases h; simp only [D.py]; exact .str s
  | .tup xs, _, k, p, h => by
    cases h with
    | tup q r => simp only [D.py]; exact .tup (same_t e q) (RepL.dr e (k := k - 1) (by simp only [D.pr, Bool.and_eq_true] at p; exact p.2) r)
  | .lst xs, _, k, p, h => by
    cases h with
    | lst q r => simp only [D.py]; exact .lst (.inl (.inl (e _ _ q))) (RepL.dr e (k := k - 1) (by simp only [D.pr, Bool.and_eq_true] at p; exact p.2) r)
  | .ro xs, _, k, p, h => by
    cases h with
    | ro q r => simp only [D.py]; exact .lst (same_l e q) (RepL.dr e (k := k - 1) (by simp only [D.pr, Bool.and_eq_true] at p; exact p.2) r)
  | .cell n, _, _, p, _ => by simp [D.pr] at p
  | .ty n, _, _, p, _ => by simp [D.pr] at p
  | .dE, _, _, p, h => by
    cases h with
    | dE q => simp only [D.py]; exact .dE (same_rd e q)
theorem RepL.dr (e : Same F H) : ∀ {ds : List D} {vs : List V} {k : Nat}, D.prL k ds = true → RepL K as F vs ds → DrL K H vs (D.pyL ds)
  | [], _, _, _, h => by cases h; simp only [D.pyL]; exact .nil
  | d :: ds, _, k, p, h => by
    simp only [D.prL, Bool.and_eq_true] at p
    cases h with | cons q r => simp only [D.pyL]; exact .cons (Rep.dr e p.1 q) (RepL.dr e p.2 r)
end
end
theorem Rep.drNow {K : PySem.W.Frag} {hd : Hid} {as : List Addr} {S : Sto} {H : Hp} {v : V} {d : D} (w : Wld K hd as S H) (r : Rep K as (fz hd as S H) v d) (p : (topD S d).pr 60 = true) : Dr K H v (topD S d).py := by
  have r0 := r
  cases r with
  | cell q =>
    rename_i n a
    cases e : S[n]? with
    | none => simp [topD, e, D.pr] at p
    | some z =>
      cases z with
      | none => simp [topD, e, D.pr] at p
      | some c =>
        cases c with
        | lst xs =>
          simp only [topD, e, D.pr, Bool.and_eq_true] at p ⊢
          obtain ⟨b, vs, e1, e2, r⟩ := w.at_ n xs e
          rw [q] at e1; cases e1
          simp only [D.py]
          exact .lst (.inl (.inl e2)) (RepL.dr fz_same p.2 r)
  | _ => exact Rep.dr fz_same p r0
def rRepr (K : PySem.W.Frag) : List V → Hp → VK → Prop := fun xs H Q => ∃ v d, xs = [v] ∧ Dr K H v d ∧ d.showable = true ∧ d.depth ≤ 64 ∧ d.shown.length ≤ sizeLine ∧ Q (.str d.shown) H
theorem call_reprA {X : Cx} (hg : Qt X.A X.base) (hu : X.A.units + 66 < cLine) : CallR X (.builtin "repr") (rRepr X.K) := by
  intro pins s σ H xs us Q I r h
  obtain ⟨v, d, rfl, hd, h1, h3, h4, q⟩ := h
  obtain ⟨u, rfl, ru⟩ := vals1 r
  obtain ⟨as, rd, ns⟩ := Dr.reads I hg.s d v u hd ru
  cases hd with
  | non => cases ru; exact PySem.P.repr_of_none ⟨.str _, H, I.tok _, ⟨_, rfl⟩, q⟩
  | bl b =>
    cases ru
    refine PySem.P.repr_of_bool ⟨.str _, H, I.tok _, ⟨_, rfl⟩, ?_⟩
    cases b <;> exact q
  | int i =>
    obtain ⟨t, rfl⟩ := ru
    exact PySem.P.repr_of_int (by simpa [PyData.showable] using h1) ⟨.str _, H, I.tok _, ⟨_, rfl⟩, q⟩
  | str x =>
    obtain ⟨t, rfl⟩ := ru
    exact PySem.P.repr_of_str ⟨.str _, H, I.tok _, ⟨_, rfl⟩, q⟩ h4
  | lst a b =>
    cases ru
    exact repr_of_reads' rd h1 (fun _ => ns) hg.g (by omega) (fun _ _ e => e) (fun h' t tk hk => ⟨.str _, H, I.kept hk, ⟨_, rfl⟩, q⟩) h4
  | tup a b =>
    cases ru
    exact repr_of_reads' rd h1 (fun _ => ns) hg.g (by omega) (fun _ _ e => e) (fun h' t tk hk => ⟨.str _, H, I.kept hk, ⟨_, rfl⟩, q⟩) h4
  | dE a =>
    cases ru
    exact repr_of_reads' rd h1 (fun _ => ns) hg.g (by omega) (fun _ _ e => e) (fun h' t tk hk => ⟨.str _, H, I.kept hk, ⟨_, rfl⟩, q⟩) h4
/-- what repr tells of data -/
def D.shown (d : D) : Str := d.py.shown
def D.shows (d : D) : Bool := d.py.showable && decide (d.py.shown.length ≤ sizeLine)
def fRepr : List D → M D
  | [d] => fun S => if (topD S d).pr 60 && (topD S d).shows then .ok (.str (topD S d).shown) S else .stuck
  | _ => fun _ => .stuck
theorem act_repr {K : PySem.W.Frag} : ActL K (rRepr K) fRepr := by
  intro hd as S H vs ds w r
  match ds, r with
  | [], _ => trivial
  | [d], r =>
    simp only [fRepr]
    split
    · rename_i h
      obtain ⟨v, rfl, a⟩ := rep1 r
      simp only [Bool.and_eq_true, D.shows, decide_eq_true_eq] at h
      have h2 := D.pr_depth h.1
      exact .now w (.str _) fun Q q => ⟨v, _, rfl, a.drNow w h.1, h.2.1, by omega, h.2.2, q⟩
    · trivial
  | _ :: _ :: _, _ => trivial
/-! isinstance with a built-in class -/
def kindD (S : Sto) : D → Option String
  | .non => some "NoneType"
  | .bl _ => some "bool"
  | .int _ => some "int"
  | .str _ => some "str"
  | .tup _ => some "tuple"
  | .lst _ => some "list"
  | .ro _ => some "list"
  | .cell n => match S[n]? with
    | some (some (.lst _)) => some "list"
    | _ => none
  | .ty _ => none
  | .dE => some "dict"
theorem Rep.kind {K : PySem.W.Frag} {hd : Hid} {as : List Addr} {S : Sto} {H : Hp} {v : V} {d : D} {k : String} (w : Wld K hd as S H) (r : Rep K as (fz hd as S H) v d) (h : kindD S d = some k) : TyX K H v (.type k) := by
  have ofL : ∀ {a : Addr} {vs : List V}, SqL K H a vs → TyX K H (.ref a) (.type "list") := fun {a vs} q => by
    rcases q with (q | ⟨o, q⟩) | ⟨o, its, n, q1, q2, _⟩
    · exact .base (.lst q)
    · exact .base (.frz q)
    · exact .kList q1 q2
  have ofT : ∀ {a : Addr} {vs : List V}, SqT K H a vs → TyX K H (.ref a) (.type "tuple") := fun {a vs} q => by
    rcases q with (q | ⟨o, q⟩) | ⟨o, its, n, q1, q2, _⟩
    · exact .base (.tup q)
    · exact .fTuple q
    · exact .kTuple q1 q2
  have r0 := r
  cases r with
  | non => cases h; exact .base .non
  | bl b => cases h; exact .base (.bl b)
  | int i => cases h; exact .base (.int i)
  | str x => cases h; exact .base (.str x)
  | ty x => cases h
  | dE q =>
    cases h
    rcases same_rd fz_same q with q | ⟨o, q⟩
    · exact .base (.dK q)
    · exact .fDict q
  | tup q r => cases h; exact ofT (same_t fz_same q)
  | lst q r => cases h; exact ofL (.inl (.inl (fz_same _ _ q)))
  | ro q r => cases h; exact ofL (same_l fz_same q)
  | cell q =>
    simp only [kindD] at h
    split at h
    · rename_i xs e
      cases h
      obtain ⟨a, vs, e1, hq, r⟩ := seqL w r0 (show listOf S _ = some xs by simp [listOf, e])
      cases e1
      exact ofL hq
    · cases h
def fIsi : List D → M D
  | [d, .ty c] => fun S => match kindD S d with
    | some k => match kitB k c with
      | some b => .ok (.bl b) S
      | none => .stuck
    | none => .stuck
  | _ => fun _ => .stuck
theorem act_isi {K : PySem.W.Frag} : ActL K (rIsi K) fIsi := by
  intro hd as S H vs ds w r
  unfold fIsi
  split
  · rename_i d c
    cases ek : kindD S d with
    | none => trivial
    | some k =>
      dsimp only
      cases eb : kitB k c with
      | none => trivial
      | some b =>
        obtain ⟨v, u, rfl, a, b'⟩ := rep2 r
        cases b'
        exact .now w (.bl _) fun Q q => ⟨_, _, _, _, b, rfl, .ty c, a.kind w ek, kit_ty eb, q⟩
  · trivial
/-! sum, all, any -/
def intsOf : List D → Option (List Int)
  | [] => some []
  | .int i :: r => (intsOf r).map (i :: ·)
  | _ :: _ => none
def blsOf : List D → Option (List Bool)
  | [] => some []
  | .bl i :: r => (blsOf r).map (i :: ·)
  | _ :: _ => none
theorem RepL.ints {K : PySem.W.Frag} {as : List Addr} {F : Hp} : ∀ {ds : List D} {vs : List V} {ns : List Int}, RepL K as F vs ds → intsOf ds = some ns → vs = ns.map V.int
  | [], _, _, r, h => by cases r; cases h; rfl
  | .int i :: ds, _, ns, r, h => by
    cases r with
    | cons a b =>
      cases a
      simp only [intsOf, Option.map_eq_some_iff] at h
      obtain ⟨ms, e, rfl⟩ := h
      rw [RepL.ints b e] <;> rfl
  | .non :: _, _, _, _, h | .bl _ :: _, _, _, _, h | .str _ :: _, _, _, _, h | .tup _ :: _, _, _, _, h | .lst _ :: _, _, _, _, h | .ro _ :: _, _, _, _, h | .cell _ :: _, _, _, _, h | .ty _ :: _, _, _, _, h => by simp [intsOf] at h
theorem RepL.bls {K : PySem.W.Frag} {as : List Addr} {F : Hp} : ∀ {ds : List D} {vs : List V} {ns : List Bool}, RepL K as F vs ds → blsOf ds = some ns → vs = ns.map V.bl
  | [], _, _, r, h => by cases r; cases h; rfl
  | .bl i :: ds, _, ns, r, h => by
    cases r with
    | cons a b =>
      cases a
      simp only [blsOf, Option.map_eq_some_iff] at h
      obtain ⟨ms, e, rfl⟩ := h
      rw [RepL.bls b e] <;> rfl
  | .non :: _, _, _, _, h | .int _ :: _, _, _, _, h | .str _ :: _, _, _, _, h | .tup _ :: _, _, _, _, h | .lst _ :: _, _, _, _, h | .ro _ :: _, _, _, _, h | .cell _ :: _, _, _, _, h | .ty _ :: _, _, _, _, h => by simp [blsOf] at h
def fSum : List D → M D
  | [d] => fun S => match (listOf S d).bind intsOf with
    | some ns => .ok (.int ns.sum) S
    | none => .stuck
  | _ => fun _ => .stuck
def fAll : List D → M D
  | [d] => fun S => match (listOf S d).bind blsOf with
    | some ns => .ok (.bl (ns.all id)) S
    | none => .stuck
  | _ => fun _ => .stuck
def fAny : List D → M D
  | [d] => fun S => match (listOf S d).bind blsOf with
    | some ns => .ok (.bl (ns.any id)) S
    | none => .stuck
  | _ => fun _ => .stuck
theorem act_sum {K : PySem.W.Frag} : ActL K (rSum K) fSum := by
  intro hd as S H vs ds w r
  match ds, r with
  | [], _ => trivial
  | [d], r =>
    obtain ⟨v, rfl, a⟩ := rep1 r
    simp only [fSum]
    cases e : (listOf S d).bind intsOf with
    | none => trivial
    | some ns =>
      obtain ⟨xs, e1, e2⟩ := Option.bind_eq_some_iff.mp e
      obtain ⟨p, vs, rfl, hq, r⟩ := seqL w a e1
      rw [r.ints e2] at hq
      exact .now w (.int _) fun Q q => ⟨p, ns, rfl, hq, q⟩
  | _ :: _ :: _, _ => trivial
theorem act_all {K : PySem.W.Frag} : ActL K (rAll K) fAll := by
  intro hd as S H vs ds w r
  match ds, r with
  | [], _ => trivial
  | [d], r =>
    obtain ⟨v, rfl, a⟩ := rep1 r
    simp only [fAll]
    cases e : (listOf S d).bind blsOf with
    | none => trivial
    | some ns =>
      obtain ⟨xs, e1, e2⟩ := Option.bind_eq_some_iff.mp e
      obtain ⟨p, vs, rfl, hq, r⟩ := seqL w a e1
      rw [r.bls e2] at hq
      exact .now w (.bl _) fun Q q => ⟨p, ns, rfl, hq, q⟩
  | _ :: _ :: _, _ => trivial
theorem act_any {K : PySem.W.Frag} : ActL K (rAny K) fAny := by
  intro hd as S H vs ds w r
  match ds, r with
  | [], _ => trivial
  | [d], r =>
    obtain ⟨v, rfl, a⟩ := rep1 r
    simp only [fAny]
    cases e : (listOf S d).bind blsOf with
    | none => trivial
    | some ns =>
      obtain ⟨xs, e1, e2⟩ := Option.bind_eq_some_iff.mp e
      obtain ⟨p, vs, rfl, hq, r⟩ := seqL w a e1
      rw [r.bls e2] at hq
      exact .now w (.bl _) fun Q q => ⟨p, ns, rfl, hq, q⟩
  | _ :: _ :: _, _ => trivial
/-! list(..), tuple(..) -/
def fList : List D → M D
  | [d] => fun S => match seqOf S d with
    | some xs => .ok (.lst xs) S
    | none => .stuck
  | _ => fun _ => .stuck
def fListC : List D → M D
  | [d] => fun S => match seqOf S d with
    | some xs => .ok (.cell S.length) (S ++ [some (.lst xs)])
    | none => .stuck
  | _ => fun _ => .stuck
def fTuple : List D → M D
  | [.tup xs] => fun S => .ok (.tup xs) S
  | [d] => fun S => match listOf S d with
    | some xs => .ok (.tup xs) S
    | none => .stuck
  | _ => fun _ => .stuck
theorem act_list {K : PySem.W.Frag} : ActL K (fun xs H Q => ∃ p ys, xs = [.ref p] ∧ (SqL K H p ys ∨ SqT K H p ys) ∧ ∀ l, H l = none → Q (.ref l) (upd H l (.lst ys))) fList := by
  intro hd as S H vs ds w r
  match ds, r with
  | [], _ => trivial
  | [d], r =>
    obtain ⟨v, rfl, a⟩ := rep1 r
    simp only [fList]
    cases e : seqOf S d with
    | none => trivial
    | some xs =>
      obtain ⟨p, vs, rfl, hq, r⟩ := seqS w a e
      exact .fresh w (fun l el g => .lst el (r.grow g)) fun Q q => ⟨p, vs, rfl, hq, q⟩
  | _ :: _ :: _, _ => trivial
theorem act_listC {K : PySem.W.Frag} : ActL K (fun xs H Q => ∃ p ys, xs = [.ref p] ∧ (SqL K H p ys ∨ SqT K H p ys) ∧ ∀ l, H l = none → Q (.ref l) (upd H l (.lst ys))) fListC := by
  intro hd as S H vs ds w r
  match ds, r with
  | [], _ => trivial
  | [d], r =>
    obtain ⟨v, rfl, a⟩ := rep1 r
    simp only [fListC]
    cases e : seqOf S d with
    | none => trivial
    | some xs =>
      obtain ⟨p, vs, rfl, hq, r⟩ := seqS w a e
      exact fun Q q => ⟨p, vs, rfl, hq, fun l hl => by
        obtain ⟨w', g, e⟩ := w.newCell hl r
        exact q _ _ _ g w' (.cell e)⟩
  | _ :: _ :: _, _ => trivial
theorem act_tuple {K : PySem.W.Frag} : ActL K (fun xs H Q => ∃ p ys, xs = [.ref p] ∧ ((SqL K H p ys ∧ ∀ l, H l = none → Q (.ref l) (upd H l (.tup ys))) ∨ (SqT K H p ys ∧ Q (.ref p) H))) fTuple := by
  intro hd as S H vs ds w r
  unfold fTuple
  split
  · obtain ⟨v, rfl, a⟩ := rep1 r
    have a0 := a
    obtain ⟨p, vs, rfl, hq, r⟩ := seqT a
    exact .now w a0 fun Q q => ⟨p, vs, rfl, .inr ⟨hq, q⟩⟩
  · rename_i d _
    obtain ⟨v, rfl, a⟩ := rep1 r
    dsimp only
    cases e : listOf S d with
    | none => trivial
    | some xs =>
      obtain ⟨p, vs, rfl, hq, r⟩ := seqL w a e
      exact .fresh w (fun l el g => .tup (.inl (.inl el)) (r.grow g)) fun Q q => ⟨p, vs, rfl, .inl ⟨hq, q⟩⟩
  · trivial

/-! ### subscripts, slices -/
def oIx : D → D → M D
  | .str z, .int i => fun S => if z.length ≤ sizeLine then match atI z.cps.toList i with
      | some c => .ok (.str ⟨#[c]⟩) S
      | none => .stuck
    else .stuck
  | d, .int i => fun S => match (seqOf S d).bind fun xs => atI xs i with
    | some x => .ok x S
    | none => .stuck
  | _, _ => fun _ => .stuck
theorem atI_rep {K : PySem.W.Frag} {as : List Addr} {F : Hp} {ds : List D} {vs : List V} {i : Int} {d : D} (r : RepL K as F vs ds) (h : atI ds i = some d) : ∃ v, atI vs i = some v ∧ Rep K as F v d := by
  unfold atI at h ⊢
  rw [r.length]
  obtain ⟨j, e1, e2⟩ := Option.bind_eq_some_iff.mp h
  obtain ⟨v, ev, rv⟩ := r.get e2
  exact ⟨v, by rw [e1]; exact ev, rv⟩
theorem act_ix {K : PySem.W.Frag} : Act2 K (rIx K) oIx := by
  intro hd as S H v u d e w r1 r2
  have seq : ∀ i, u = .int i → Ret K hd as S H (match (seqOf S d).bind fun xs => atI xs i with
    | some x => .ok x S
    | none => .stuck) (rIx K v u H) := fun i eu => by
    subst eu
    cases e : (seqOf S d).bind fun xs => atI xs i with
    | none => trivial
    | some x =>
      obtain ⟨xs, e1, e2⟩ := Option.bind_eq_some_iff.mp e
      obtain ⟨a, vs, rfl, hq, r⟩ := seqS w r1 e1
      obtain ⟨y, ey, ry⟩ := atI_rep r e2
      exact .now w ry fun Q q => hq.elim (fun z => .inl ⟨a, vs, i, y, rfl, rfl, z, ey, q⟩) fun z => .inr (.inl ⟨a, vs, i, y, rfl, rfl, z, ey, q⟩)
  cases r2 with
  | int i =>
    cases r1 with
    | str z =>
      simp only [oIx]
      split
      · rename_i hz
        cases ec : atI z.cps.toList i with
        | none => trivial
        | some c => exact .now w (.str _) fun Q q => .inr (.inr ⟨z, i, c, rfl, rfl, hz, ec, q⟩)
      · trivial
    | non => trivial
    | bl b => trivial
    | int i => trivial
    | ty n => trivial
    | dE q => trivial
    | tup q r => exact seq i rfl
    | lst q r => exact seq i rfl
    | ro q r => exact seq i rfl
    | cell q => exact seq i rfl
  | _ => cases r1 <;> trivial
def cutD (xs : List D) (lo hi : Option Int) : List D := (xs.drop (HT.sIx xs.length 0 lo)).take (HT.sIx xs.length xs.length hi - HT.sIx xs.length 0 lo)
def oSlL (d : D) (lo hi : Option Int) : M D := fun S => match listOf S d with
  | some xs => .ok (.lst (cutD xs lo hi)) S
  | none => .stuck
def oSlT (d : D) (lo hi : Option Int) : M D := fun S => match d with
  | .tup xs => if ¬ (HT.sIx xs.length 0 lo = 0 ∧ HT.sIx xs.length xs.length hi = xs.length) then .ok (.tup (cutD xs lo hi)) S else .stuck
  | _ => .stuck
def oSlS (d : D) (lo hi : Option Int) : M D := fun S => match d with
  | .str z => if z.length ≤ sizeLine then .ok (.str (cutS z lo hi)) S else .stuck
  | _ => .stuck
theorem RepL.cut_ {K : PySem.W.Frag} {as : List Addr} {F : Hp} {ds : List D} {vs : List V} (r : RepL K as F vs ds) (lo hi : Option Int) : RepL K as F (cutV vs lo hi) (cutD ds lo hi) := by
  unfold cutV cutD
  rw [r.length]
  exact (r.drop _).take _
theorem act_slL {K : PySem.W.Frag} : ActS K (rSlL K) oSlL := by
  intro hd as S H v d lo hi w r
  unfold oSlL
  cases e : listOf S d with
  | none => trivial
  | some xs =>
    obtain ⟨a, vs, rfl, hq, r⟩ := seqL w r e
    exact .fresh w (fun p ep g => .lst ep ((r.cut_ lo hi).grow g)) fun Q q => ⟨a, vs, rfl, hq, q⟩
theorem act_slT {K : PySem.W.Frag} : ActS K (rSlT K) oSlT := by
  intro hd as S H v d lo hi w r
  unfold oSlT
  split
  · split
    · rename_i hn
      obtain ⟨a, vs, rfl, hq, r⟩ := seqT r
      exact .fresh w (fun p ep g => .tup (.inl (.inl ep)) ((r.cut_ lo hi).grow g)) fun Q q => ⟨a, vs, rfl, hq, by rw [r.length]; exact hn, q⟩
    · trivial
  · trivial
theorem act_slS {K : PySem.W.Frag} : ActS K rSlS oSlS := by
  intro hd as S H v d lo hi w r
  unfold oSlS
  split
  · split
    · rename_i hz
      cases r
      exact .now w (.str _) fun Q q => ⟨_, rfl, hz, q⟩
    · trivial
  · trivial
/-! ### list methods -/
def chkL (d : D) (S : Sto) : Bool := (listOf S d).isSome
theorem ty_list {K : PySem.W.Frag} : TyOk K "list" chkL := by
  intro hd as S H v d w r h
  obtain ⟨xs, e⟩ := Option.isSome_iff_exists.mp h
  obtain ⟨a, vs, rfl, hq, _⟩ := seqL w r e
  exact .inl ⟨rfl, vs, hq⟩
def mAppend : D → List D → M D
  | .cell n, [x] => fun S => match S[n]? with
    | some (some (.lst xs)) => if xs.length < sizeLine then .ok .non (S.set n (some (.lst (xs ++ [x])))) else .stuck
    | _ => .stuck
  | _, _ => fun _ => .stuck
theorem act_append {K : PySem.W.Frag} : ActM K rAppend mAppend := by
  intro hd as S H v vs d ds w r rs
  unfold mAppend
  split
  · rename_i n x
    split
    · rename_i xs e
      split
      · rename_i hz
        obtain ⟨u, rfl, ru⟩ := rep1 rs
        cases r with
        | cell q =>
          obtain ⟨a, ws, e1, e2, r⟩ := w.at_ n xs e
          rw [q] at e1; cases e1
          obtain ⟨w', g⟩ := w.write e q (r.append (.cons ru .nil))
          exact fun Q k => ⟨_, ws, u, rfl, rfl, e2, by rw [r.length]; exact hz, k _ _ _ g w' .non⟩
      · trivial
    · trivial
  · trivial
def mExtend : D → List D → M D
  | .cell n, [d] => fun S => match S[n]?, listOw S d with
    | some (some (.lst xs)), some ys => if xs.length + ys.length ≤ sizeLine then .ok .non (S.set n (some (.lst (xs ++ ys)))) else .stuck
    | _, _ => .stuck
  | _, _ => fun _ => .stuck
theorem act_extend {K : PySem.W.Frag} : ActM K rExtend mExtend := by
  intro hd as S H v vs d ds w r rs
  unfold mExtend
  split
  · rename_i n x
    split
    · rename_i xs ys e ey
      split
      · rename_i hz
        obtain ⟨u, rfl, ru⟩ := rep1 rs
        cases r with
        | cell q =>
          obtain ⟨a, ws, e1, e2, r⟩ := w.at_ n xs e
          rw [q] at e1; cases e1
          obtain ⟨b, us, rfl, hb, rb⟩ := seqO w ru ey
          obtain ⟨w', g⟩ := w.write e q (r.append rb)
          exact fun Q k => ⟨_, b, ws, us, rfl, rfl, e2, hb, by rw [r.length, rb.length]; exact hz, k _ _ _ g w' .non⟩
      · trivial
    · trivial
  · trivial

/-! ### more that is walked -/
section
variable {X : Cx} {W : WX} {tg e e2 : Expr} {me : EM} {mr : AM} {pos tpos p : Pos} {elts : List Expr} {kk : Nat}
theorem di_rng1 (hg : Gl X "range") (hm : X.mg "range" = none) (h : DA X W [e] mr) (hq : starEach [e] X.env = [(false, eval e X.env)] := by rfl) : DI X W tg (.Call (.Name "range" p) [e] [] pos) (imOfA mItR1 mr) := PI.le (pi_range1 hg hm h hq) fun σ H Rk ⟨hd, as, ρ, S, rel, po⟩ => tA_seq rel po fun as1 S1 H1 vs ds g1 rel1 r po1 => by
  unfold mItR1 at po1
  split at po1
  · rename_i j
    split at po1
    · rename_i hz
      obtain ⟨v, rfl, a⟩ := rep1 r
      cases a
      refine ⟨_, rfl, hz.1, hz.2, po1 as1 H1 .refl rel1 _ ?_⟩
      have := jok_rng (K := X.K) (hd := hd) (as := as1) (S := S1) (H := H1) (lo := 0) (n := j.toNat)
      simpa using this
    · exact po1.elim
  · exact po1.elim
theorem di_rng2 (hg : Gl X "range") (hm : X.mg "range" = none) (h : DA X W [e, e2] mr) (hq : starEach [e, e2] X.env = [(false, eval e X.env), (false, eval e2 X.env)] := by rfl) (hq2 : starEach [e2] X.env = [(false, eval e2 X.env)] := by rfl) : DI X W tg (.Call (.Name "range" p) [e, e2] [] pos) (imOfA mItR2 mr) :=
  PI.le (pi_range2 hg hm h hq hq2) fun σ H Rk ⟨hd, as, ρ, S, rel, po⟩ => tA_seq rel po fun as1 S1 H1 vs ds g1 rel1 r po1 => by
  unfold mItR2 at po1
  split at po1
  · rename_i i j
    split at po1
    · rename_i hz
      obtain ⟨v, u, rfl, a, b⟩ := rep2 r
      cases a; cases b
      exact ⟨_, _, rfl, hz, po1 as1 H1 .refl rel1 _ jok_rng⟩
    · exact po1.elim
  · exact po1.elim
theorem frozen_list {S : Sto} {d : D} {xs : List D} (h : frozenL d = some xs) : listOf S d = some xs := by
  cases d <;> first | exact h | cases h
theorem di_zip (hg : Gl X "zip") (hm : X.mg "zip" = none) (h : DA X W [e, e2] mr) (hq : starEach [e, e2] X.env = (false, eval e X.env) :: starEach [e2] X.env := by rfl) (hpl : (backTo pos (starEach [e2] X.env)).any (·.1) = false := by rfl) : DI X W (.Tuple elts kk tpos) (.Call (.Name "zip" p) [e, e2] [] pos) (imOfA mItZ mr) :=
  PI.le (pi_zip hg hm h hq hpl) fun σ H Rk ⟨hd, as, ρ, S, rel, po⟩ => tA_seq rel po fun as1 S1 H1 vs ds g1 rel1 r po1 => by
  unfold mItZ at po1
  split at po1
  · rename_i d e
    obtain ⟨v, u, rfl, ra, rb⟩ := rep2 r
    split at po1
    · rename_i xs ys e1 e2
      obtain ⟨a, vs, rfl, ha, _⟩ := seqL rel1.w ra (frozen_list e1)
      obtain ⟨b, us, rfl, hb, _⟩ := seqL rel1.w rb (frozen_list e2)
      exact ⟨a, b, vs, us, rfl, ha, hb, po1 as1 H1 .refl rel1 _ (jok_zip ra rb _ fun i S' _ _ _ _ _ o h => ⟨xs, ys, frozen_list e1, frozen_list e2, (Option.some.inj h).symm⟩)⟩
    · split at po1
      · rename_i xs ys e1 e2
        obtain ⟨a, vs, rfl, ha, _⟩ := seqL rel1.w ra e1
        obtain ⟨b, us, rfl, hb, _⟩ := seqL rel1.w rb e2
        refine ⟨a, b, vs, us, rfl, ha, hb, po1 as1 H1 .refl rel1 _ (jok_zip ra rb _ fun i S' _ _ _ _ _ o h => ?_)⟩
        simp only [itZ] at h
        split at h
        · rename_i xs' ys' e1' e2'
          exact ⟨xs', ys', e1', e2', (Option.some.inj h).symm⟩
        · cases h
      · exact po1.elim
  · exact po1.elim
theorem di_enum (hg : Gl X "enumerate") (hm : X.mg "enumerate" = none) (h : DA X W [e] mr) (hq : starEach [e] X.env = [(false, eval e X.env)] := by rfl) : DI X W (.Tuple elts kk tpos) (.Call (.Name "enumerate" p) [e] [] pos) (imOfA mItE mr) :=
  PI.le (pi_enum hg hm h hq) fun σ H Rk ⟨hd, as, ρ, S, rel, po⟩ => tA_seq rel po fun as1 S1 H1 vs ds g1 rel1 r po1 => by
  unfold mItE at po1
  split at po1
  · rename_i d
    obtain ⟨v, rfl, ra⟩ := rep1 r
    split at po1
    · rename_i xs e1
      obtain ⟨a, vs, rfl, ha, _⟩ := seqL rel1.w ra (frozen_list e1)
      exact ⟨a, vs, rfl, ha, po1 as1 H1 .refl rel1 _ (jok_enum ra _ fun i S' _ _ _ _ _ o h => ⟨xs, frozen_list e1, (Option.some.inj h).symm⟩)⟩
    · split at po1
      · rename_i xs e1
        obtain ⟨a, vs, rfl, ha, _⟩ := seqL rel1.w ra e1
        refine ⟨a, vs, rfl, ha, po1 as1 H1 .refl rel1 _ (jok_enum ra _ fun i S' _ _ _ _ _ o h => ?_)⟩
        simp only [itE] at h
        split at h
        · rename_i xs' e1'
          exact ⟨xs', e1', (Option.some.inj h).symm⟩
        · cases h
      · exact po1.elim
  · exact po1.elim
end
end
end DL

set_option Elab.async false
set_option linter.all false
set_option maxRecDepth 100000
/-! DL8: defs by their bodies, calls of defs. -/
namespace DL
open PySem PySem.Spec PyProof.Rows L2
noncomputable section

/-! ### what is left of the cells behind a call -/
def Cut (S : Sto) (d : D) (S' : Sto) : Prop := d.bel S.length = true ∧ ∀ (i : Nat) c, i < S.length → S'[i]? = some (some c) → S[i]? = some (some c) ∨ c.bel S.length = true
open Classical in
def trim (S : Sto) (d : D) (S' : Sto) : Sto := if Cut S d S' then S'.take S.length else S'
theorem trim_same {S : Sto} {d : D} {S' : Sto} (h : S'.length = S.length) : trim S d S' = S' := by
  unfold trim
  split
  · rw [← h, List.take_length]
  · rfl
theorem trim_cut {S : Sto} {d : D} {S' : Sto} (h : Cut S d S') : trim S d S' = S'.take S.length := if_pos h
section
variable {K : PySem.W.Frag} {hd : Hid} {as as' : List Addr} {S S' : Sto} {H H' : Hp} {v : V} {d : D}
theorem live_take {n : Nat} {b : Addr} (h : b ∈ live (as'.take n) (S'.take n)) : b ∈ live as' S' := by
  obtain ⟨i, c, h1, h2⟩ := mem_live.mp h
  have hi : i < n := by
    have := (List.getElem?_eq_some_iff.mp h1).1
    simp at this; omega
  rw [List.getElem?_take_of_lt hi] at h1 h2
  exact mem_live.mpr ⟨i, c, h1, h2⟩
theorem fz_take {n : Nat} : Same (fz hd as' S' H') (fz hd (as'.take n) (S'.take n) H') := fun b u e => fz_of (fz_same _ _ e) (fun z => fz_not e (live_take z)) (fz_nh e)
theorem Wld.trim (w0 : Wld K hd as S H) (g : Grow hd as S H as' S' H') (w : Wld K hd as' S' H') (r : Rep K as' (fz hd as' S' H') v d) :
    ∃ as2, Wld K hd as2 (DL.trim S d S') H' ∧ Grow hd as S H as2 (DL.trim S d S') H' ∧ Rep K as2 (fz hd as2 (DL.trim S d S') H') v d := by
  unfold DL.trim
  split
  · rename_i hc
    have hn : S.length ≤ S'.length := by
      rw [← w0.len, ← w.len]
      by_cases h0 : as.length = 0
      · omega
      · obtain ⟨a, ha⟩ : ∃ a, as[as.length - 1]? = some a := ⟨_, List.getElem?_eq_getElem (by omega)⟩
        have := (List.getElem?_eq_some_iff.mp (g.pre _ _ ha)).1
        omega
    refine ⟨as'.take S.length, ⟨by simp [w.len], fun i j a c c' h1 h2 h3 h4 => ?_, fun q hq => ⟨(w.hid q hq).1, fun z => (w.hid q hq).2 (live_take z)⟩, fun n xs e => ?_⟩, ⟨fun n a h => ?_, g.same.trans fz_take⟩, ?_⟩
    · have lt : ∀ {i : Nat} {a : Addr}, (as'.take S.length)[i]? = some a → i < S.length := fun {i a} h => by
        have := (List.getElem?_eq_some_iff.mp h).1
        simp at this; omega
      have l1 := lt h1
      have l2 := lt h2
      rw [List.getElem?_take_of_lt l1] at h1 h3
      rw [List.getElem?_take_of_lt l2] at h2 h4
      exact w.inj i j a c c' h1 h2 h3 h4
    · have hl : n < S.length := by
        have := (List.getElem?_eq_some_iff.mp e).1
        simp at this; omega
      rw [List.getElem?_take_of_lt hl] at e
      obtain ⟨a, vs, e1, e2, r⟩ := w.at_ n xs e
      refine ⟨a, vs, by rw [List.getElem?_take_of_lt hl]; exact e1, e2, ?_⟩
      have hb : D.belL S.length xs = true := by
        rcases hc.2 n _ hl e with h | h
        · obtain ⟨b, us, _, _, r0⟩ := w0.at_ n xs h
          have := r0.bel_of
          rw [w0.len] at this; exact this
        · exact h
      exact (r.cut hb).mono (fun _ _ h => h) fz_take
    · have hl : n < S.length := by
        rw [← w0.len]; exact (List.getElem?_eq_some_iff.mp h).1
      rw [List.getElem?_take_of_lt hl]
      exact g.pre n a h
    · exact (r.cut hc.1).mono (fun _ _ h => h) fz_take
  · exact ⟨as', w, g, r⟩
end

/-! ### defs -/
abbrev FM := List D → M D
def endFn (S : Sto) : RS → R D
  | .ok .nx _ S' => .ok .non (trim S .non S')
  | .ok (.ret d) _ S' => .ok d (trim S d S')
  | .exc x _ S' => .exc x S'
  | _ => .stuck
/-- n slots, of these np parameters -/
def runFn (n np : Nat) (m : SD) : FM := fun ds S => if ds.length = np then endFn S (m (ds.map some ++ List.replicate (n - ds.length) none) S) else .stuck
def spM (K : PySem.W.Frag) (mg : Str → Option Value) (m : FM) : Sp := fun vs H Q E => ∃ hd as S ds, Wld K hd as S H ∧ RepL K as (fz hd as S H) vs ds ∧ (match m ds S with
  | .ok d S' => ∀ as' v H', Grow hd as S H as' S' H' → Wld K hd as' S' H' → Rep K as' (fz hd as' S' H') v d → Q v H'
  | .exc x S' => ∀ as' cls dd H', Grow hd as S H as' S' H' → Wld K hd as' S' H' → XRep K mg as' (fz hd as' S' H') x cls dd → E cls dd H'
  | .stuck => False)
/-- the def at f does to data what m does; no repr runs around it -/
structure FnG (P : Program) (w : World) (K : PySem.W.Frag) (mg : Str → Option Value) (base : Heap) (k : Nat) (f : Addr) (fd : FuncData) (ps : List Str) (m : FM) : Prop where
  ar : ∀ ds S, m ds S = .stuck ∨ ds.length = ps.length
  run : ∀ (A : Around) (outer : List PySem.Env) (s : Shared) (H : Hp) (args : Args) (us : List Value) (vs : List V) (Q : VK) (E : XK), Room k A → Qt A base → Env0 P w K mg base A outer s H → BindsTo s fd args (ps.zip us) → Vals vs us →
    spM K mg m vs H Q E → codeAny (model P w) A (.call (.ref f) args) (CR (L2.CX P w) outer P w H s Q E) s
theorem FnG.mono {P : Program} {w : World} {K : PySem.W.Frag} {mg : Str → Option Value} {base : Heap} {j k : Nat} {f : Addr} {fd : FuncData} {ps : List Str} {m : FM} (F : FnG P w K mg base j f fd ps m) (h : j ≤ k) : FnG P w K mg base k f fd ps m :=
  ⟨F.ar, fun A outer s H args us vs Q E hr => F.run A outer s H args us vs Q E (hr.mono h)⟩
abbrev WOf (E : XK) : WX := fun cls d _ H => E cls d H
theorem start_slots {K : PySem.W.Frag} {as : List Addr} {F : Hp} {N : List Str} {vs : List V} {ds : List D} (r : RepL K as F vs ds) : Slots K as F (L2.start N vs) (ds.map some ++ List.replicate (N.length - ds.length) none) := by
  unfold L2.start
  refine ⟨by simp [r.length], fun i d e => ?_⟩
  by_cases hi : i < ds.length
  · rw [List.getElem?_append_left (by simpa using hi), List.getElem?_map] at e
    obtain ⟨d', e1, e2⟩ := Option.map_eq_some_iff.mp e
    cases e2
    obtain ⟨v, ev, rv⟩ := r.get e1
    exact ⟨v, by rw [List.getElem?_append_left (by simp [r.length]; exact hi), List.getElem?_map, ev]; rfl, rv⟩
  · rw [List.getElem?_append_right (by simpa using Nat.le_of_not_lt hi), List.getElem?_replicate] at e
    split at e <;> cases e
section
variable {P : Program} {w : World} {K : PySem.W.Frag} {mg : Str → Option Value} {base : Heap}
/-- a def's body, walked -/
theorem Fun.okG {x qual : Str} {st : Stmt} {f : Addr} {fd : FuncData} {N ps : List Str} {k : Nat} {m : SD} (F : Fun K x qual st f fd) (Sc : FnScope N ps (defScope st))
    (hbody : ∀ (cdv : Value) (A : Around) (outer : List PySem.Env) (s : Shared) (H : Hp) (E : XK), Room k (A.deeper (envOfC qual (defScope st) s.heap.objs.size f cdv)) → Qt (A.deeper (envOfC qual (defScope st) s.heap.objs.size f cdv)) base →
      DSs (cxOf (L2.CX P w) P w K mg base N qual (defScope st) f cdv A outer s H E) (WOf E) (defBody st) m) : FnG P w K mg base (k + 1) f fd ps (runFn N.length ps.length m) := by
  obtain ⟨oc, od, kV, doc, pm, an, cdv, ct, osl, rfl, lk, hcd⟩ := F.ex
  refine ⟨fun ds S => ?_, fun A outer s H args us vs Q E hr hg e0 hb r hsp => ?_⟩
  · unfold runFn
    split
    · exact .inr (by assumption)
    · exact .inl rfl
  have hin : K.In s.heap := e0.mod.kin.keeps fun b o e => (e0.bs b o e).1
  have hnl : s.heap.NoLimit := e0.mod.nolimit.keeps fun b o e => (e0.bs b o e).1
  have kinds : ∀ y ∈ ps.zip us, (defScope st).names.lookup y.1 = some .local ∨ ((defScope st).names.lookup y.1 = some .cell ∧ ((cellsFrom (s.heap.objs.size + 1) (defScope st).names []).lookup y.1).isSome = true) := fun y hy =>
    (Sc.par y.1 (List.of_mem_zip hy).1).imp id fun q => ⟨q, PySem.W.cellsFrom_some _ _ _ (.inl q)⟩
  refine codeAny_call_function hr.depth (hin _ _ lk) rfl Sc.co Sc.gen rfl (PySem.W.codeRec_of hin hcd) (hb _ _ _ _ (wpAny_newFunctionEnv_cells Sc.kind kinds fun env he s1 ic => ?_))
  subst he
  refine ⟨hnl.keeps ic.toInCall.keep, codeAny_func ?_⟩
  have dl := hbody cdv A outer s H E (hr.deeper _) ⟨by simpa [Around.deeper] using hg.g, hg.s⟩
  obtain ⟨hd, as, S, ds, wl, rd, ms⟩ := hsp
  have hn : ds.length = ps.length := by
    by_cases hn : ds.length = ps.length
    · exact hn
    · unfold runFn at ms
      rw [if_neg hn] at ms; exact ms.elim
  have hl : vs.length = ps.length := by rw [rd.length]; exact hn
  have I : Inv (cxOf (L2.CX P w) P w K mg base N qual (defScope st) f cdv A outer s H E) [] (L2.start N vs) H s1 := inv_start Sc hr.hd e0 hl r ic
  have rel : REL K hd as (ds.map some ++ List.replicate (N.length - ds.length) none) S (L2.start N vs) H := ⟨wl, start_slots rd⟩
  have fin : ∀ {d : D} {S' : Sto}, (∀ as' v H', Grow hd as S H as' (trim S d S') H' → Wld K hd as' (trim S d S') H' → Rep K as' (fz hd as' (trim S d S') H') v d → Q v H') →
      ∀ as' v H', Grow hd as S H as' S' H' → Wld K hd as' S' H' → Rep K as' (fz hd as' S' H') v d → Q v H' := fun {d S'} h as' v H' g w' r' => by
    obtain ⟨as2, w2, g2, r2⟩ := wl.trim g w' r'
    exact h as2 v H' g2 w2 r2
  have run := dl.run [] s1 (L2.start N vs) H { nx := fun _ H' => Q .non H', rt := Q } I ⟨hd, as, _, S, rel, ?_⟩
  · refine wpAny_mono run (fun fl s' hs => ?_) fun e s' hs => hs
    cases fl with
    | ret u =>
      obtain ⟨v, σ', H', J, rv, q⟩ := hs
      exact ⟨v, H', J.os, J.bare, J.base, J.hok, rv, q⟩
    | next =>
      obtain ⟨σ', H', J, q⟩ := hs
      exact ⟨V.non, H', J.os, J.bare, J.base, J.hok, rfl, q⟩
    | brk => obtain ⟨_, _, _, q⟩ := hs; exact q.elim
    | cont => obtain ⟨_, _, _, q⟩ := hs; exact q.elim
  · unfold runFn at ms
    rw [if_pos hn] at ms
    cases em : m (ds.map some ++ List.replicate (N.length - ds.length) none) S with
    | ok fl ρ' S' =>
      rw [em] at ms
      cases fl with
      | nx => exact fun as' σ' H' g rel' => fin ms as' .non H' g rel'.w .non
      | ret d => exact fun as' v H' g w' r' => fin ms as' v H' g w' r'
      | brk => exact ms.elim
      | cnt => exact ms.elim
    | exc x ρ' S' =>
      rw [em] at ms
      exact fun as' cls dd σ' H' g rel' xr => ms as' cls dd H' g rel'.w xr
    | stuck => rw [em] at ms; exact ms.elim
end

/-! ### calls -/
section
variable {X : Cx} {W : WX} {k : Nat} {f : Addr} {fd : FuncData} {ps ks : List Str} {m : FM} {x : Str} {p pos : Pos} {e : Expr} {es : List Expr} {kws : List Keyword} {mr mk : AM}
/-- what a callee lets out is taken here -/
theorem takes_xe {pins : List (Addr × Obj)} {σ : L2.St} {H : Hp} {s s' : Shared} {E : XK} {u : Value} (tk : Takes X W) (I : Inv X pins σ H s) (hW : ∀ cls d H', E cls d H' → W cls d σ H') (c : L2.CX X.prog X.w X.stack H s E u s') : X.xe u s' := tk u s' (XE.of_call I hW c)
theorem run_fnG {pins : List (Addr × Obj)} {σ : L2.St} {H : Hp} {s : Shared} {Q : VK} {args : Args} {us : List Value} {vs : List V} {E : XK} (F : FnG X.prog X.w X.K X.mg X.base k f fd ps m) (hr : Room k X.A) (hg : Qt X.A X.base) (tk : Takes X W) (hb : BindsTo s fd args (ps.zip us))
    (I : Inv X pins σ H s) (r : Vals vs us) (hW : ∀ cls d H', E cls d H' → W cls d σ H') (h : spM X.K X.mg m vs H Q E) : wpAny (model X.prog X.w) X.A (call (.ref f) args.pos args.kw) (EP X pins σ Q) X.xe s := by
  refine wpAny_call (codeAny_mono (F.run X.A X.stack s H args us vs Q E hr hg I.env0 hb r h) fun rr s' hq => ?_)
  match rr, hq with
  | .error e, hq => exact takes_xe tk I hW hq
  | .ok (.ret u), hq => exact I.after hq
/-- from the reading of the arguments -/
theorem sp_of {hd : Hid} {as : List Addr} {S : Sto} {H : Hp} {ρ : Env} {σ : L2.St} {Q : VK} {vs : List V} {ds : List D} (rel : REL X.K hd as ρ S σ H) (r : RepL X.K as (fz hd as S H) vs ds) (po : Post X.K X.mg W σ ρ hd as S H (m ds S) fun d as' S' H' => ∀ v, Rep X.K as' (fz hd as' S' H') v d → Q v H') :
    spM X.K X.mg m vs H Q fun cls d H' => W cls d σ H' := by
  refine ⟨hd, as, S, ds, rel.w, r, ?_⟩
  cases em : m ds S with
  | ok d S' => rw [em] at po; exact fun as' v H' g w' r' => po as' H' g (rel.grow g w') v r'
  | exc z S' => rw [em] at po; exact fun as' cls dd H' g w' xr => po as' cls dd H' g (rel.grow g w') xr
  | stuck => rw [em] at po; exact po.elim
theorem sp_len (F : FnG X.prog X.w X.K X.mg X.base k f fd ps m) {vs : List V} {H : Hp} {Q : VK} {E : XK} (h : spM X.K X.mg m vs H Q E) : vs.length = ps.length := by
  obtain ⟨hd, as, S, ds, wl, rd, ms⟩ := h
  rcases F.ar ds S with e | e
  · rw [e] at ms; exact ms.elim
  · rw [rd.length]; exact e
/-- f(e, ..) -/
theorem de_call (F : FnG X.prog X.w X.K X.mg X.base k f fd ps m) (hr : Room k X.A) (hgd : Qt X.A X.base) (tk : Takes X W) (hg : Gl X x) (hm : X.mg x = some (.ref f)) (hk : PySem.W.keepIn X.K (.ref f) = true) (hb : Binds X.K fd ps []) (ha : DA X W (e :: es) mr)
    (hdb : (x == ("__debug__" : Str)) = false := by decide) (he : starEach (e :: es) X.env = (false, eval e X.env) :: starEach es X.env := by rfl) (hpl : (backTo pos (starEach es X.env)).any (·.1) = false := by rfl) : DE X W (.Call (.Name x p) (e :: es) [] pos) (eL m mr) :=
  ⟨fun pins s σ H Q I ⟨hd, as, ρ, S, rel, po⟩ => wpAny_Call_Name_kw (ld_glob I hg hm (PySem.W.callWith_K (h₀ := X.base) I.ok.mod.kin hk (thn (ha.run pos pins s σ H (fun vs H1 => spM X.K X.mg m vs H1 Q fun cls d H' => W cls d σ H') I
    (tA_seq rel po fun as1 S1 H1 vs ds g1 rel1 r1 po1 => sp_of rel1 r1 po1)) fun us s1 ⟨vs, H1, I1, r, q⟩ => ⟨I1.kIn, by
      have hl : (us ++ []).length = ps.length := by rw [List.append_nil, ← r.length]; exact sp_len F q
      exact run_fnG F hr hgd tk (args := ⟨us, []⟩) (us := us) (by simpa using hb s1 us I1.kIn hl) I1 r (fun _ _ _ z => z) q⟩) he hpl) hdb)⟩
/-- f() -/
theorem de_call0 (F : FnG X.prog X.w X.K X.mg X.base k f fd ps m) (hr : Room k X.A) (hgd : Qt X.A X.base) (tk : Takes X W) (hg : Gl X x) (hm : X.mg x = some (.ref f)) (hk : PySem.W.keepIn X.K (.ref f) = true) (hb : Binds X.K fd ps [])
    (hdb : (x == ("__debug__" : Str)) = false := by decide) : DE X W (.Call (.Name x p) [] [] pos) (eL m aNil) :=
  ⟨fun pins s σ H Q I ⟨hd, as, ρ, S, rel, po⟩ => wpAny_Call_Name_kw (ld_glob I hg hm (PySem.W.callWith_K0 I.kIn hk (by
      have q : spM X.K X.mg m [] H Q fun cls d H' => W cls d σ H' := sp_of rel .nil po
      have hl : ([] ++ [] : List Value).length = ps.length := by have := sp_len F q; simpa using this
      exact run_fnG F hr hgd tk (args := ⟨[], []⟩) (us := []) (by simpa using hb s [] I.kIn hl) I .nil (fun _ _ _ z => z) q)) hdb)⟩
/-! keywords -/
abbrev DK (X : Cx) (W : WX) (kws : List Keyword) (m : AM) : Prop := PK X kws (tA X.K X.mg W m)
theorem PK.le {t t' : TA} (h : PK X kws t) (k : ∀ σ H Q, t' σ H Q → t σ H Q) : PK X kws t' := ⟨fun p pins s σ H Q I q => h.run p pins s σ H Q I (k σ H Q q)⟩
theorem dk_nil : DK X W [] aNil := PK.le pk_nil fun σ H Q ⟨hd, as, ρ, S, rel, po⟩ => po as H .refl rel [] .nil
theorem dk_cons {nm : Option Str} {kpos : Pos} {me : EM} (ha : DE X W e me) (hr : DK X W kws mr) : DK X W (⟨nm, e, kpos⟩ :: kws) (aCons me mr) :=
  PK.le (pk_cons ha hr) fun σ H Q ⟨hd, as, ρ, S, rel, po⟩ => tE_seq rel po fun as1 S1 H1 v1 d1 g1 rel1 r1 po1 => tA_seq rel1 po1 fun as2 S2 H2 vs ds g2 rel2 r2 po2 => po2 as2 H2 .refl rel2 (v1 :: vs) (.cons (r1.grow g2) r2)
/-- positional values and keywords' values in the parameters' order -/
def eK (m : FM) (g : List D → List D → List D) (a b : AM) : EM := fun ρ => M.bind (a ρ) fun ds => M.bind (b ρ) fun es => m (g ds es)
/-- the order, for values of any kind: as the places tell -/
def byIx {α : Type} (ix : List Nat) (us ws : List α) : List α := ix.filterMap fun i => (us ++ ws)[i]?
theorem byIx_rep {K : PySem.W.Frag} {as : List Addr} {F : Hp} {vs zs : List V} {ds es : List D} (r : RepL K as F vs ds) (q : RepL K as F zs es) : ∀ ix : List Nat, RepL K as F (byIx ix vs zs) (byIx ix ds es)
  | [] => .nil
  | i :: ix => by
    have ih := byIx_rep r q ix
    have ra := r.append q
    unfold byIx at ih ⊢
    cases e : (ds ++ es)[i]? with
    | none =>
      have e' : (vs ++ zs)[i]? = none := by rw [List.getElem?_eq_none_iff] at e ⊢; rw [ra.length]; exact e
      rw [List.filterMap_cons_none e, List.filterMap_cons_none e']
      exact ih
    | some d =>
      obtain ⟨v, ev, rv⟩ := ra.get e
      rw [List.filterMap_cons_some e, List.filterMap_cons_some ev]
      exact .cons rv ih
theorem byIx_vals {vs zs : List V} {us ws : List Value} (r : Vals vs us) (q : Vals zs ws) : ∀ ix : List Nat, Vals (byIx ix vs zs) (byIx ix us ws)
  | [] => .nil
  | i :: ix => by
    have ih := byIx_vals r q ix
    have ra := r.append q
    unfold byIx at ih ⊢
    cases e : (vs ++ zs)[i]? with
    | none => rw [List.filterMap_cons_none e, List.filterMap_cons_none (ra.none_of e)]; exact ih
    | some v =>
      obtain ⟨u, eu, ru⟩ := ra.get e
      rw [List.filterMap_cons_some e, List.filterMap_cons_some eu]
      exact .cons ru ih
/-- how a call with keywords binds -/
def KB (K : PySem.W.Frag) (fd : FuncData) (ps : List Str) (n : Nat) (ks : List Str) (ix : List Nat) : Prop := ∀ (s : Shared) (us ws : List Value), K.In s.heap → us.length = n → ws.length = ks.length → BindsTo s fd ⟨us, ks.zip ws⟩ (ps.zip (byIx ix us ws))
theorem de_callK {n : Nat} {ix : List Nat} (F : FnG X.prog X.w X.K X.mg X.base k f fd ps m) (hr : Room k X.A) (hgd : Qt X.A X.base) (tk : Takes X W) (hg : Gl X x) (hm : X.mg x = some (.ref f)) (hk : PySem.W.keepIn X.K (.ref f) = true) (hb : KB X.K fd ps n ks ix) (ha : DA X W (e :: es) mr) (hkw : DK X W kws mk)
    (hn : ∀ ρ S ds S', mr ρ S = .ok ds S' → ds.length = n) (hn' : ∀ ρ S ds S', mk ρ S = .ok ds S' → ds.length = ks.length)
    (hall : (backToKw pos (keywordEach kws X.env)).all (·.1.isSome) = true := by rfl) (hks : (backToKw pos (keywordEach kws X.env)).filterMap (·.1) = ks := by rfl)
    (hdb : (x == ("__debug__" : Str)) = false := by decide) (he : starEach (e :: es) X.env = (false, eval e X.env) :: starEach es X.env := by rfl)
    (hpl : ((backTo pos (starEach (e :: es) X.env)).any (·.1) || (backToKw pos (keywordEach kws X.env)).any (·.1.isNone)) = false := by rfl) : DE X W (.Call (.Name x p) (e :: es) kws pos) (eK m (byIx ix) mr mk) := by
  refine ⟨fun pins s σ H Q I ⟨hd, as, ρ, S, rel, po⟩ => wpAny_Call_Name_kw (ld_glob I hg hm (PySem.W.callWith_KW (h₀ := X.base) I.ok.mod.kin hk hall (thn (ha.run pos pins s σ H (fun vs H1 => vs.length = n ∧ tA X.K X.mg W mk σ H1 fun zs H2 => zs.length = ks.length ∧ spM X.K X.mg m (byIx ix vs zs) H2 Q fun cls d H' => W cls d σ H') I ?_)
    fun us s1 ⟨vs, H1, I1, r, l1, q⟩ => thn (hkw.run pos pins s1 σ H1 _ I1 q) fun ws s2 ⟨zs, H2, I2, rz, l2, q2⟩ => ⟨I2.kIn, ?_⟩) hpl he) hdb)⟩
  · refine ⟨hd, as, ρ, S, rel, ?_⟩
    cases em : mr ρ S with
    | exc z S1 => simp only [eK, bind_ap, em, R.bind_exc] at po; exact po
    | stuck => simp only [eK, bind_ap, em, R.bind_stuck] at po; exact po.elim
    | ok ds S1 =>
      simp only [eK, bind_ap, em, R.bind_ok] at po
      intro as1 H1 g1 rel1 vs r1
      refine ⟨by rw [r1.length]; exact hn _ _ _ _ em, hd, as1, ρ, S1, rel1, ?_⟩
      cases ek : mk ρ S1 with
      | exc z S2 =>
        rw [ek] at po
        exact fun as' cls dd H' g rel' xr => po as' cls dd H' (g1.trans g) rel' xr
      | stuck => rw [ek] at po; exact po.elim
      | ok es' S2 =>
        rw [ek] at po
        intro as2 H2 g2 rel2 zs r2
        exact ⟨by rw [r2.length]; exact hn' _ _ _ _ ek, sp_of rel2 (byIx_rep (r1.grow g2) r2 ix) (Post.later (r := m (byIx ix ds es') S2) po (g1.trans g2))⟩
  · rw [hks]
    exact run_fnG F hr hgd tk (args := ⟨us, ks.zip ws⟩) (us := byIx ix us ws) (hb s2 us ws I2.kIn (by rw [← r.length]; exact l1) (by rw [← rz.length]; exact l2)) I2 (byIx_vals r rz ix) (fun _ _ _ z => z) q2
theorem de_callK0 {ix : List Nat} (F : FnG X.prog X.w X.K X.mg X.base k f fd ps m) (hr : Room k X.A) (hgd : Qt X.A X.base) (tk : Takes X W) (hg : Gl X x) (hm : X.mg x = some (.ref f)) (hk : PySem.W.keepIn X.K (.ref f) = true) (hb : KB X.K fd ps 0 ks ix) (hkw : DK X W kws mk)
    (hn' : ∀ ρ S ds S', mk ρ S = .ok ds S' → ds.length = ks.length)
    (hall : (backToKw pos (keywordEach kws X.env)).all (·.1.isSome) = true := by rfl) (hks : (backToKw pos (keywordEach kws X.env)).filterMap (·.1) = ks := by rfl)
    (hdb : (x == ("__debug__" : Str)) = false := by decide) (hpl : ((backTo pos (starEach [] X.env)).any (·.1) || (backToKw pos (keywordEach kws X.env)).any (·.1.isNone)) = false := by rfl) : DE X W (.Call (.Name x p) [] kws pos) (eK m (byIx ix) aNil mk) := by
  refine ⟨fun pins s σ H Q I ⟨hd, as, ρ, S, rel, po⟩ => wpAny_Call_Name_kw (ld_glob I hg hm (PySem.W.callWith_KW0 (h₀ := X.base) I.ok.mod.kin hk hall (thn (hkw.run pos pins s σ H (fun zs H2 => zs.length = ks.length ∧ spM X.K X.mg m (byIx ix [] zs) H2 Q fun cls d H' => W cls d σ H') I ?_)
    fun ws s2 ⟨zs, H2, I2, rz, l2, q2⟩ => ⟨I2.kIn, ?_⟩) hpl) hdb)⟩
  · refine ⟨hd, as, ρ, S, rel, ?_⟩
    have po : Post X.K X.mg W σ ρ hd as S H ((mk ρ S).bind fun es => m (byIx ix [] es)) _ := po
    cases ek : mk ρ S with
    | exc z S2 => rw [ek] at po; exact po
    | stuck => rw [ek] at po; exact po.elim
    | ok es' S2 =>
      rw [ek] at po
      intro as2 H2 g2 rel2 zs r2
      exact ⟨by rw [r2.length]; exact hn' _ _ _ _ ek, sp_of rel2 (byIx_rep .nil r2 ix) (Post.later (r := m (byIx ix [] es') S2) po g2)⟩
  · rw [hks]
    exact run_fnG F hr hgd tk (args := ⟨[], ks.zip ws⟩) (us := byIx ix [] ws) (hb s2 [] ws I2.kIn rfl (by rw [← rz.length]; exact l2)) I2 (byIx_vals .nil rz ix) (fun _ _ _ z => z) q2
theorem len_nil : ∀ (ρ : Env) (S : Sto) ds S', aNil ρ S = .ok ds S' → ds.length = 0 := by
  intro ρ S ds S' h
  cases h; rfl
theorem len_cons {a : EM} {r : AM} {n : Nat} (h : ∀ (ρ : Env) (S : Sto) ds S', r ρ S = .ok ds S' → ds.length = n) : ∀ (ρ : Env) (S : Sto) ds S', aCons a r ρ S = .ok ds S' → ds.length = n + 1 := by
  intro ρ S ds S' e
  unfold aCons at e
  rw [bind_ap] at e
  cases ea : a ρ S with
  | exc z S1 => rw [ea] at e; cases e
  | stuck => rw [ea] at e; cases e
  | ok d S1 =>
    rw [ea] at e
    simp only [R.bind_ok, bind_ap] at e
    cases er : r ρ S1 with
    | exc z S2 => rw [er] at e; cases e
    | stuck => rw [er] at e; cases e
    | ok xs S2 =>
      rw [er] at e
      cases e
      simp [h ρ S1 xs _ er]
end
end
end DL

set_option Elab.async false
set_option linter.all false
set_option maxRecDepth 100000
/-! DL9: the law's own call: from what m tells of the script to the row's claim. -/
namespace DL
open PySem PySem.Spec PyProof.Rows L2
noncomputable section

theorem rep_ints {K : PySem.W.Frag} {as : List Addr} {F : Hp} : ∀ ns : List Int, RepL K as F (ns.map V.int) (ns.map D.int)
  | [] => .nil
  | n :: ns => .cons (.int n) (rep_ints ns)
section
variable {P : Program} {w : World} {K : PySem.W.Frag} {mg mb : Str → Option Value} {k : Nat} {fa a : Addr} {fd : FuncData} {x : Str} {m : FM} {s₁ : Shared} {vs : List Value} {ns : List Int}
/-- the heap behind the top, less what is tracked -/
theorem law_core (KX : K.In s₁.heap) (hns : s₁.heap.Ns mainGlobals mg) (hb : s₁.heap.Ns builtinsNs mb) (hbb : ∀ x : Str, x ≠ "__name__" → mb x = bootBuiltins x) (hlim : s₁.heap.NoLimit) (hsm : ∃ mm, s₁.heap.Ns sysModules mm) (hg : s₁.gens = #[])
    (ha : s₁.heap.get? a = some { cls := .type "list", data := .seq vs.toArray }) (hr : Room k callerA) (F : ∀ base : Heap, K.In base → base.Ns mainGlobals mg → FnG P w K mg base k fa fd [x] m) (hbind : ∀ (s : Shared) (u : Value), BindsTo s fd ⟨[u], []⟩ [(x, u)])
    {S' : Sto} (hm : m [.ro (ns.map D.int)] [] = .ok (.bl true) S') {H : Hp} (hS : SqL K H a (ns.map V.int)) (hok : HOk P w H s₁.heap) (hO : ∀ b u, H b = some u → b = a ∧ K.lookup a = none ∧ ∃ o xs, u = .frz o (.lst xs)) :
    codeAny (model P w) callerA (.call (.ref fa) ⟨[.ref a], []⟩) (fun r s' => r = .ok (.ret (.bool true)) ∧ OldK s₁.heap s'.heap ∧ s'.os = s₁.os ∧ AllBare s'.gens) s₁ := by
  have out : ∀ {b : Addr}, b ≠ a ∨ K.lookup a ≠ none → H b = none := fun {b} h => by
    cases q : H b with
    | none => rfl
    | some u => exact absurd (hO b u q) fun z => h.elim (fun n => n z.1) fun n => n z.2.1
  have seen : ∀ {b : Addr} {o : Obj}, s₁.heap.get? b = some o → b ≠ a ∨ K.lookup a ≠ none → (hidT s₁.heap H).get? b = some o := fun e h => hidT_get e (out h)
  have dict_ne : ∀ {b : Addr} {o : Obj} {es : Array DictEntry} {ep : Nat}, s₁.heap.get? b = some o → o.data = .dict es ep → b ≠ a := fun {b o es ep} e d z => by
    subst z
    rw [ha] at e
    cases e
    exact nomatch (show Data.seq vs.toArray _ = Data.dict es ep from d)
  have ns_seen : ∀ {b : Addr} {g : Str → Option Value}, s₁.heap.Ns b g → (hidT s₁.heap H).Ns b g := fun {b g} ⟨o, es, ep, e, d, r⟩ => ⟨o, es, ep, seen e (.inl (dict_ne e d)), d, r⟩
  have k_seen : K.In (hidT s₁.heap H) := fun b o e => seen (KX b o e) (by
    by_cases hb : b = a
    · subst hb; exact .inr (by rw [e]; simp)
    · exact .inl hb)
  have md : Mod K mg (hidT s₁.heap H) := ⟨k_seen, ns_seen hns, ⟨mb, ns_seen hb, hbb⟩, hlim.elim fun mc h => ⟨mc, ns_seen h.1, h.2⟩⟩
  have no : ∀ b : Addr, b ∉ frs ([] : List PySem.Env) := fun b hb => by simp [frs] at hb
  have e0 : Env0 P w K mg (hidT s₁.heap H) callerA [] s₁ H := ⟨rfl, md, fun b o e => of_hidT e, by rw [hidT_size]; exact Nat.le_refl _, trivial, fun b hb => (no b hb).elim, hok, .of_eq hg⟩
  have fz0 : fz [] [] [] H = H := by
    funext b
    unfold fz
    rw [if_neg (by simp [live])]
  have sp : spM K mg m [.ref a] H (fun v _ => v = .bl true) fun _ _ _ => False := by
    refine ⟨[], [], [], [.ro (ns.map D.int)], ⟨rfl, fun i j a c c' h => by simp at h, fun p hp => by simp at hp, fun n xs h => by simp at h⟩, .cons (.ro (by rw [fz0]; exact hS) (rep_ints ns)) .nil, ?_⟩
    rw [hm]
    intro as' v H' g w' r
    cases r; rfl
  refine codeAny_mono ((F _ k_seen (ns_seen hns)).run callerA [] s₁ H ⟨[.ref a], []⟩ [.ref a] [.ref a] _ _ hr ⟨rfl, hsm.elim fun mm h => ⟨mm, ns_seen h⟩⟩ e0 (hbind s₁ (.ref a)) (.cons rfl .nil) sp) fun r s' h => ?_
  match r, h with
  | .error e, h => obtain ⟨_, _, _, _, _, _, _, _, _, _, _, _, h⟩ := h; exact h.elim
  | .ok (.ret u), h =>
    obtain ⟨v, H', os, bare, un, hok', r', q⟩ := h
    cases (show v = .bl true from q)
    cases (show u = Value.bool true from r')
    refine ⟨rfl, OldK.of_keep fun b o e => ?_, os, bare⟩
    cases q : H b with
    | none => exact un.keep b o e q (no b) (by simp)
    | some u =>
      obtain ⟨_, _, o', xs, rfl⟩ := hO b u q
      obtain ⟨e1, _⟩ := hok b _ q
      obtain ⟨e2, _⟩ := hok' b _ (un.frzs b o' _ q)
      rw [e] at e1
      cases e1
      exact e2
theorem law_callG (KX : K.In s₁.heap) (hns : s₁.heap.Ns mainGlobals mg) (hb : s₁.heap.Ns builtinsNs mb) (hbb : ∀ x : Str, x ≠ "__name__" → mb x = bootBuiltins x) (hlim : s₁.heap.NoLimit) (hsm : ∃ mm, s₁.heap.Ns sysModules mm) (hg : s₁.gens = #[])
    (ha : s₁.heap.get? a = some { cls := .type "list", data := .seq vs.toArray }) (hi : IntsAre vs ns) (hl : ns.length ≤ sizeLine) (hr : Room k callerA) (F : ∀ base : Heap, K.In base → base.Ns mainGlobals mg → FnG P w K mg base k fa fd [x] m)
    (hbind : ∀ (s : Shared) (u : Value), BindsTo s fd ⟨[u], []⟩ [(x, u)]) {S' : Sto} (hm : m [.ro (ns.map D.int)] [] = .ok (.bl true) S') :
    codeAny (model P w) callerA (.call (.ref fa) ⟨[.ref a], []⟩) (fun r s' => r = .ok (.ret (.bool true)) ∧ OldK s₁.heap s'.heap ∧ s'.os = s₁.os ∧ AllBare s'.gens) s₁ := by
  have rv := vals_ints hi
  have lv := hi.length
  cases hk : K.lookup a with
  | some o =>
    have e := KX a o hk
    rw [ha] at e
    cases e
    exact law_core KX hns hb hbb hlim hsm hg ha hr F hbind hm (H := fun _ => none) (.inr ⟨_, vs.toArray, _, hk, rfl, rfl, rfl, by rw [List.size_toArray, lv]; exact hl, by simpa using rv⟩) (fun b u z => nomatch (show (none : Option HO) = some u from z)) fun b u z => nomatch (show (none : Option HO) = some u from z)
  | none =>
    refine law_core KX hns hb hbb hlim hsm hg ha hr F hbind hm (H := fun b => if b = a then some (.frz { cls := .type "list", data := .seq vs.toArray } (.lst (ns.map V.int))) else none) (.inl (.inr ⟨{ cls := .type "list", data := .seq vs.toArray }, if_pos rfl⟩)) (fun b u z => ?_) fun b u z => ?_
    all_goals
      by_cases hb : b = a
      · subst hb
        cases (if_pos rfl).symm.trans z
        first
          | exact ⟨ha, by rw [List.length_map]; exact hl, vs, _, rv, ha⟩
          | exact ⟨rfl, hk, _, _, rfl⟩
      · exact nomatch (if_neg hb).symm.trans z
end
/-- the goal that k_head leaves, from what m tells of every script -/
theorem walk_ofG {l : PySem.W.OpenLaw} {n k : Nat} {q : Program} {loose : List Str} {XP : (Str → Option Value) → Heap → Prop} {YP : World → Heap → Prop} {d : DefRec} {K : Params → PySem.W.Frag} {m : FM} {x : Str}
    (hi : importsNone q = true) (hn : l.most = some n) (hn2 : n ≤ sizeLine) (hdf : d.params.defaults = []) (hr : Room k callerA) (hY : ∀ (w : World) (h : Heap), YP w h → (K w.params).In h)
    (F : ∀ (w : World) (mg : Str → Option Value) (fa : Addr) (h : Heap), (K w.params).In h → h.Ns mainGlobals mg → mg d.name = some (.ref fa) →
      ∃ fd : FuncData, (∀ (s : Shared) (u : Value), BindsTo s fd ⟨[u], []⟩ [(x, u)]) ∧ ∀ base : Heap, (K w.params).In base → base.Ns mainGlobals mg → FnG l.prog w (K w.params) mg base k fa fd [x] m)
    (hm : ∀ ns : List Int, ns.length ≤ n → ∃ S', m [.ro (ns.map D.int)] [] = .ok (.bl true) S') : PySem.W.WalkO q loose XP YP l.row.toRowW d [] (fun f vs => PySem.call f vs) :=
  Att.attach_call hn hdf fun w s₀ s₁ mg mb fa o pm cd doc a vs ns G Y ho hd hcd hmg hobj hints hlen hg => by
    obtain ⟨fd, hb, hF⟩ := F w mg fa _ (hY w _ Y) G.T.g hmg
    obtain ⟨S', e⟩ := hm ns hlen
    exact law_callG (hY w _ Y) G.T.g G.T.b G.T.builtins G.T.nolimit ((G.T.seer hi).mods.elim fun mm h => ⟨mm, h.1⟩) hg hobj hints (Nat.le_trans hlen hn2) hr hF hb e
end
end DL

set_option Elab.async false
set_option linter.all false
set_option maxRecDepth 100000
/-! DLH: a def of the text with what m it does; calls of such; more slices. -/
namespace DL
open PySem PySem.Spec PyProof.Rows L2
noncomputable section
/-- the def stands at the top of the module -/
structure DefAt (K : PySem.W.Frag) (mg : Str → Option Value) (x : Str) (st : Stmt) (ps : List Str) : Prop where
  ex : ∃ f fd, Fun K x x st f fd ∧ mg x = some (.ref f) ∧ Binds K fd ps []
structure Has (P : Program) (w : World) (K : PySem.W.Frag) (mg : Str → Option Value) (base : Heap) (k : Nat) (x : Str) (st : Stmt) (ps : List Str) (m : FM) : Prop where
  ex : ∃ f fd, FnG P w K mg base k f fd ps m ∧ mg x = some (.ref f) ∧ Fun K x x st f fd ∧ Binds K fd ps []
theorem has_of {P : Program} {w : World} {K : PySem.W.Frag} {mg : Str → Option Value} {base : Heap} {k : Nat} {x : Str} {st : Stmt} {N ps : List Str} {m : SD} (h : DefAt K mg x st ps) (Sc : FnScope N ps (defScope st))
    (hbody : ∀ (f : Addr) (cdv : Value) (A : Around) (outer : List PySem.Env) (s : Shared) (H : Hp) (E : XK), Room k (A.deeper (envOfC x (defScope st) s.heap.objs.size f cdv)) → Qt (A.deeper (envOfC x (defScope st) s.heap.objs.size f cdv)) base →
      DSs (cxOf (L2.CX P w) P w K mg base N x (defScope st) f cdv A outer s H E) (WOf E) (defBody st) m) : Has P w K mg base (k + 1) x st ps (runFn N.length ps.length m) := by
  obtain ⟨f, fd, F, hm, hb⟩ := h.ex
  exact ⟨f, fd, Fun.okG F Sc (hbody f), hm, F, hb⟩
section
variable {X : Cx} {W : WX} {j k n : Nat} {ps ks : List Str} {m : FM} {x : Str} {st : Stmt} {p pos : Pos} {e : Expr} {es : List Expr} {kws : List Keyword} {mr mk : AM} {ix : List Nat}
theorem de_fn (h : Has X.prog X.w X.K X.mg X.base k x st ps m) (hr : Room j X.A) (hj : k ≤ j) (hgd : Qt X.A X.base) (tk : Takes X W) (hg : Gl X x) (ha : DA X W (e :: es) mr)
    (hdb : (x == ("__debug__" : Str)) = false := by decide) (he : starEach (e :: es) X.env = (false, eval e X.env) :: starEach es X.env := by rfl) (hpl : (backTo pos (starEach es X.env)).any (·.1) = false := by rfl) : DE X W (.Call (.Name x p) (e :: es) [] pos) (eL m mr) := by
  obtain ⟨f, fd, F, hm, Fu, hb⟩ := h.ex
  exact de_call F (hr.mono hj) hgd tk hg hm Fu.kp hb ha hdb he hpl
/-- what the text's own binding of such a call is -/
abbrev KwOk (x : Str) (st : Stmt) (ps : List Str) (n : Nat) (ks : List Str) (ix : List Nat) : Prop := ∀ (kV doc pm : Value) (an : Option Addr) (cdv ct : Value) (us ws : List Value), us.length = n → ws.length = ks.length →
  bindArgs (PySem.W.fnOf x x (defArgs st) (defBody st) (defScope st) .none kV doc pm an cdv ct) ⟨us, ks.zip ws⟩ = pure (ps.zip (byIx ix us ws))
theorem kb_of {K : PySem.W.Frag} {f : Addr} {fd : FuncData} (F : Fun K x x st f fd) (h : KwOk x st ps n ks ix) : KB K fd ps n ks ix := by
  obtain ⟨oc, od, kV, doc, pm, an, cdv, ct, osl, rfl, lk, hcd⟩ := F.ex
  exact fun s us ws _ l1 l2 => .of_eq (h kV doc pm an cdv ct us ws l1 l2)
theorem de_fnK (h : Has X.prog X.w X.K X.mg X.base k x st ps m) (ix : List Nat) (hkw0 : KwOk x st ps n ks ix) (hr : Room j X.A) (hj : k ≤ j) (hgd : Qt X.A X.base) (tk : Takes X W) (hg : Gl X x) (ha : DA X W (e :: es) mr) (hkw : DK X W kws mk)
    (hn : ∀ ρ S ds S', mr ρ S = .ok ds S' → ds.length = n) (hn' : ∀ ρ S ds S', mk ρ S = .ok ds S' → ds.length = ks.length)
    (hall : (backToKw pos (keywordEach kws X.env)).all (·.1.isSome) = true := by rfl) (hks : (backToKw pos (keywordEach kws X.env)).filterMap (·.1) = ks := by rfl)
    (hdb : (x == ("__debug__" : Str)) = false := by decide) (he : starEach (e :: es) X.env = (false, eval e X.env) :: starEach es X.env := by rfl)
    (hpl : ((backTo pos (starEach (e :: es) X.env)).any (·.1) || (backToKw pos (keywordEach kws X.env)).any (·.1.isNone)) = false := by rfl) : DE X W (.Call (.Name x p) (e :: es) kws pos) (eK m (byIx ix) mr mk) := by
  obtain ⟨f, fd, F, hm, Fu, hb⟩ := h.ex
  exact de_callK F (hr.mono hj) hgd tk hg hm Fu.kp (kb_of Fu hkw0) ha hkw hn hn' hall hks hdb he hpl
theorem de_fnK0 (h : Has X.prog X.w X.K X.mg X.base k x st ps m) (ix : List Nat) (hkw0 : KwOk x st ps 0 ks ix) (hr : Room j X.A) (hj : k ≤ j) (hgd : Qt X.A X.base) (tk : Takes X W) (hg : Gl X x) (hkw : DK X W kws mk)
    (hn' : ∀ ρ S ds S', mk ρ S = .ok ds S' → ds.length = ks.length)
    (hall : (backToKw pos (keywordEach kws X.env)).all (·.1.isSome) = true := by rfl) (hks : (backToKw pos (keywordEach kws X.env)).filterMap (·.1) = ks := by rfl)
    (hdb : (x == ("__debug__" : Str)) = false := by decide) (hpl : ((backTo pos (starEach [] X.env)).any (·.1) || (backToKw pos (keywordEach kws X.env)).any (·.1.isNone)) = false := by rfl) : DE X W (.Call (.Name x p) [] kws pos) (eK m (byIx ix) aNil mk) := by
  obtain ⟨f, fd, F, hm, Fu, hb⟩ := h.ex
  exact de_callK0 F (hr.mono hj) hgd tk hg hm Fu.kp (kb_of Fu hkw0) hkw hn' hall hks hdb hpl
/-- a built-in class as a value -/
theorem de_ty {T : String} (hg : Gl X x) (hm : X.mg x = none) (hv : bootBuiltins x = some (.type T)) (hn : x ≠ "__name__" := by decide) (hd : (x == ("__debug__" : Str)) = false := by decide) : DE X W (.Name x pos) (eC (.ty T)) := PE.const (pe_bltn hg hm hv (show RelV (.ty T) _ from rfl) hn hd) fun _ _ => .ty T
end
theorem takes_no {X : Cx} : Takes X WNo := takes_none5
/-! slices of any kind -/
def oSl (d : D) (lo hi : Option Int) : M D := match d with
  | .tup xs => oSlT (.tup xs) lo hi
  | .str z => oSlS (.str z) lo hi
  | d => oSlL d lo hi
def rSlA (K : PySem.W.Frag) : V → Option Int → Option Int → Hp → VK → Prop := fun x lo hi H Q => rSlL K x lo hi H Q ∨ (rSlT K x lo hi H Q ∨ rSlS x lo hi H Q)
theorem slr_all {X : Cx} : SlR X (rSlA X.K) := sl_list.or (sl_tup.or sl_str)
theorem act_sl {K : PySem.W.Frag} : ActS K (rSlA K) oSl := by
  intro hd as S H v d lo hi w r
  have l : Ret K hd as S H (oSlL d lo hi S) (rSlA K v lo hi H) := (act_slL hd as S H v d lo hi w r).map fun Q q => .inl q
  cases d with
  | tup xs => exact (act_slT hd as S H v _ lo hi w r).map fun Q q => .inr (.inl q)
  | str z => exact (act_slS hd as S H v _ lo hi w r).map fun Q q => .inr (.inr q)
  | _ => exact l
/-- a test by truth -/
def truD (S : Sto) : D → Option Bool
  | .non => some false
  | .bl b => some b
  | .int i => some (i != 0)
  | .str z => if z.length ≤ sizeLine then some ((z.length : Int) != 0) else none
  | d => (seqOf S d).map fun xs => !xs.isEmpty
def bTru (a : EM) : BM := fun ρ => M.bind (a ρ) fun d S => match truD S d with
  | some b => .ok b S
  | none => .stuck
theorem repl_empty {K : PySem.W.Frag} {as : List Addr} {F : Hp} {vs : List V} {ds : List D} (r : RepL K as F vs ds) : ds.isEmpty = vs.isEmpty := by cases r <;> rfl
theorem dt_tru {X : Cx} {W : WX} {e : Expr} {me : EM} (h : DE X W e me) (he : ∀ whole, isTrue e X.env whole = (do let v ← whole; standAt e.pos; holding [v] (truthy v)) := by intro _; rfl) : DT X W e (bTru me) :=
  PT.le (pt_truth h he) fun σ H Q ⟨hd, as, ρ, S, rel, po⟩ => tE_seq rel po fun as1 S1 H1 v1 d1 g1 rel1 r1 po1 => by
    cases et : truD S1 d1 with
    | none => simp only [et] at po1; exact po1.elim
    | some b =>
      simp only [et] at po1
      have q : Q b H1 := po1 as1 H1 .refl rel1
      refine ⟨b, ?_, q⟩
      have seq : ∀ xs, seqOf S1 d1 = some xs → b = !xs.isEmpty → TruV X.K v1 H1 b := fun xs e eb => by
        obtain ⟨a, vs, rfl, sq, r⟩ := seqS rel1.w r1 e
        rw [repl_empty r] at eb
        exact sq.elim (fun z => .inl ⟨vs, z, eb⟩) fun z => .inr (.inl ⟨vs, z, eb⟩)
      have r0 := r1
      cases r1 with
      | non => cases et; rfl
      | bl b => cases et; rfl
      | int i => cases et; rfl
      | str z =>
        simp only [truD] at et
        split at et
        · rename_i hz
          cases et
          exact ⟨hz, rfl⟩
        · cases et
      | ty n => cases et
      | dE q => cases et
      | tup q r => cases et; exact seq _ rfl rfl
      | lst q r => cases et; exact seq _ rfl rfl
      | ro q r => cases et; exact seq _ rfl rfl
      | cell q =>
        obtain ⟨xs, e1, e2⟩ := Option.map_eq_some_iff.mp (show (seqOf S1 _).map _ = some b from et)
        exact seq xs e1 e2.symm
/-! comparisons as tests -/
section
variable {X : Cx} {W : WX} {a b c : Expr} {ma mb mc : EM} {pos : Pos}
theorem test_of {K : PySem.W.Frag} {mg : Str → Option Value} {W : WX} {me : EM} {hd : Hid} {as : List Addr} {ρ : DL.Env} {S : Sto} {σ : L2.St} {H : Hp} {Q : Bool → Hp → Prop} (rel : REL K hd as ρ S σ H) (po : Post K mg W σ ρ hd as S H (bVal me ρ S) fun b _ _ H' => Q b H') :
    Post K mg W σ ρ hd as S H (me ρ S) fun d as' S' H' => ∀ v, Rep K as' (fz hd as' S' H') v d → ∃ k, v = .bl k ∧ Q k H' := by
  unfold bVal at po
  refine (Post.bind po).imp fun d as1 S1 H1 g rel1 po1 v r => ?_
  rcases mBool_bl r (S := S1) with z | ⟨b, rfl, rfl⟩
  · rw [z] at po1; exact po1.elim
  · exact ⟨b, rfl, po1 as1 H1 .refl rel1⟩
theorem dt_cmp {op : CmpOp} {r : R2} {f : D → D → M D} (ho : OpR X (compareOp op) r) (act : Act2 X.K r f) (ha : DE X W a ma) (hb : DE X W b mb) (hm : behindInMarks op b = false) : DT X W (.Compare a [op] [b] pos) (bVal (e2 f ma mb)) :=
  PT.le (pt_cmpR ho ha hb hm) fun σ H Q ⟨hd, as, ρ, S, rel, po⟩ => tE_seq rel (test_of rel po) fun as1 S1 H1 v1 d1 g1 rel1 r1 po1 => tE_seq rel1 po1 fun as2 S2 H2 v2 d2 g2 rel2 r2 po2 =>
    (act hd as2 S2 H2 v1 v2 d1 d2 rel2.w (r1.grow g2) r2).out (Q := fun z H' => ∃ k, z = V.bl k ∧ Q k H') rel2 po2
theorem dt_chain {op op' : CmpOp} {r r' : R2} {f g : D → D → M D} (ho : OpR X (compareOp op) r) (ho' : OpR X (compareOp op') r') (act : Act2 X.K r f) (act' : Act2 X.K r' g) (ha : DE X W a ma) (hb : DE X W b mb) (hc : DE X W c mc) (hl : lastMarks [op, op'] [b, c] = false := by with_unfolding_all rfl) :
    DT X W (.Compare a [op, op'] [b, c] pos) (bVal (eChain f g ma mb mc)) :=
  PT.le (pt_chain ho ho' ha hb hc hl) fun σ H Q ⟨hd, as, ρ, S, rel, po⟩ => tE_seq rel (test_of rel po) fun as1 S1 H1 v1 d1 g1 rel1 r1 po1 => tE_seq rel1 po1 fun as2 S2 H2 v2 d2 g2 rel2 r2 po2 =>
    tR_seq (act hd as2 S2 H2 v1 v2 d1 d2 rel2.w (r1.grow g2) r2) rel2 po2 fun as3 S3 H3 v3 d3 g3 rel3 r3 po3 => by
      rcases mBool_bl r3 (S := S3) with z | ⟨b, rfl, rfl⟩
      · rw [bind_ap, z] at po3; exact po3.elim
      · refine ⟨b, rfl, ?_⟩
        cases b with
        | true => exact iteT (tE_seq rel3 po3 fun as4 S4 H4 v4 d4 g4 rel4 r4 po4 => (act' hd as4 S4 H4 v2 v4 d2 d4 rel4.w ((r2.grow g3).grow g4) r4).out (Q := fun z H' => ∃ k, z = V.bl k ∧ Q k H') rel4 po4)
        | false => exact iteF (po3 as3 H3 .refl rel3 _ (.bl false))
end
theorem act_ipadd {K : PySem.W.Frag} : Act2 K (ipI fun i j => i + j) oAddInt := by
  intro hd as S H v u d e w r1 r2
  cases r1 with
  | int i =>
    cases r2 with
    | int j => exact .now w (.int _) fun Q q => ⟨i, j, rfl, rfl, q⟩
    | _ => trivial
  | _ => trivial
theorem act_ipsub {K : PySem.W.Frag} : Act2 K (ipI fun i j => i - j) oSub := by
  intro hd as S H v u d e w r1 r2
  cases r1 with
  | int i =>
    cases r2 with
    | int j => exact .now w (.int _) fun Q q => ⟨i, j, rfl, rfl, q⟩
    | _ => trivial
  | _ => trivial
/-! ### sums and products of lists that are changed later -/
def oAddC : D → D → M D := fun d e S => match listOw S d, listOw S e with
  | some xs, some ys => if xs.length + ys.length ≤ sizeLine then .ok (.cell S.length) (S ++ [some (.lst (xs ++ ys))]) else .stuck
  | _, _ => .stuck
theorem act_addC {K : PySem.W.Frag} : Act2 K (rAddA K) oAddC := by
  intro hd as S H v u d e w r1 r2
  unfold oAddC
  cases e1 : listOw S d with
  | none => trivial
  | some xs =>
    cases e2 : listOw S e with
    | none => trivial
    | some ys =>
      dsimp only
      split
      · rename_i hz
        obtain ⟨a, vs, rfl, ha, ra⟩ := seqO w r1 e1
        obtain ⟨b, us, rfl, hb, rb⟩ := seqO w r2 e2
        exact fun Q q => .inr (.inr (.inl ⟨a, b, vs, us, rfl, rfl, ha, hb, by rw [ra.length, rb.length]; exact hz, fun p hp => by
          obtain ⟨w', g, ee⟩ := w.newCell hp (ra.append rb)
          exact q _ _ _ g w' (.cell ee)⟩))
      · trivial
def oMulC : D → D → M D := fun d e S => match listOw S d, e with
  | some xs, .int k => if -(2 ^ 63) ≤ k ∧ k < 2 ^ 63 ∧ xs.length * k.toNat ≤ sizeLine then .ok (.cell S.length) (S ++ [some (.lst (List.replicate k.toNat xs).flatten)]) else .stuck
  | _, _ => .stuck
theorem act_mulC {K : PySem.W.Frag} : Act2 K rMulA oMulC := by
  intro hd as S H v u d e w r1 r2
  unfold oMulC
  cases e1 : listOw S d with
  | none => trivial
  | some xs =>
    cases r2 with
    | int k =>
      dsimp only
      split
      · rename_i hz
        obtain ⟨h1, h2, h3⟩ := hz
        obtain ⟨a, vs, rfl, ha, ra⟩ := seqO w r1 e1
        exact fun Q q => .inr ⟨a, k, vs, rfl, rfl, ha, h1, h2, by rw [ra.length]; exact h3, fun p hp => by
          obtain ⟨w', g, ee⟩ := w.newCell hp (ra.rep k.toNat)
          exact q _ _ _ g w' (.cell ee)⟩
      · trivial
    | _ => trivial
/-! ### a comprehension in a comprehension -/
theorem relab {env : PySem.Env} : ∀ {names : List (Str × NameKind)} {x : Str}, (names.lookup x = some .cell ∨ names.lookup x = some .free) →
    ((names.map fun (n, k) => if (k == NameKind.free && env.scope.kind == .function && env.kindOf n == some .cell) then (n, NameKind.cell) else (n, k)).lookup x = some .cell ∨
    (names.map fun (n, k) => if (k == NameKind.free && env.scope.kind == .function && env.kindOf n == some .cell) then (n, NameKind.cell) else (n, k)).lookup x = some .free)
  | [], _, h => by simp at h
  | (n, k) :: r, x, h => by
    have ih := @relab env r x
    show List.lookup x ((if (k == NameKind.free && env.scope.kind == .function && env.kindOf n == some .cell) = true then (n, NameKind.cell) else (n, k)) :: _) = _ ∨ List.lookup x ((if (k == NameKind.free && env.scope.kind == .function && env.kindOf n == some .cell) = true then (n, NameKind.cell) else (n, k)) :: _) = _
    cases hx : x == n with
    | true =>
      simp only [List.lookup_cons, hx] at h
      by_cases hc : (k == NameKind.free && env.scope.kind == .function && env.kindOf n == some .cell) = true
      · rw [if_pos hc]; simp [List.lookup_cons, hx]
      · rw [if_neg hc]; simpa [List.lookup_cons, hx] using h
    | false =>
      simp only [List.lookup_cons, hx] at h
      by_cases hc : (k == NameKind.free && env.scope.kind == .function && env.kindOf n == some .cell) = true
      · rw [if_pos hc]; simp only [List.lookup_cons, hx]; exact ih h
      · rw [if_neg hc]; simp only [List.lookup_cons, hx]; exact ih h
theorem blkOk_in {N : List Str} {sc scope : Scope} {own : List (Str × Nat)} {cl : List (Str × Addr)} {C : Addr} {env : PySem.Env} (h : blkC N sc scope own = true) : BlkOk N (compEnvC sc cl C env).scope scope own := by
  obtain ⟨h1, h2, h3, h4, h5⟩ := blkOk_by h
  exact ⟨h1, h2, h3, fun y hy e => relab (h4 y hy e), h5⟩
end
end DL

set_option Elab.async false
set_option linter.all false
set_option maxRecDepth 100000
/-! DLS: first, *others = a list. -/
namespace DL
open PySem PySem.Spec PyProof.Rows L2
noncomputable section
section
variable {prog : Program} {w : World} {A : Around} {E : Value → Shared → Prop} {s : Shared}
/-- the items of a list for a target with a star behind one name -/
theorem star_items {at0 : Addr} {its : Array Value} {R : List Value → Shared → Prop} (isl : s.heap.IsList at0 its) (calm : A.handled = none) (one : 1 ≤ its.size) (few : its.size ≤ 16384)
    (k : ∀ (g : Heap) (t : Nat), (∀ b o, s.heap.get? b = some o → g.get? b = some o) → R (its.toList.take 1 ++ [.ref g.objs.size] ++ []) { s with heap := g.push { cls := .type "list", data := .seq (its.toList.drop 1).toArray }, toks := t }) :
    wpAny (model prog w) A (unpackItems (.ref at0) 2 (some 1)) R E s := by
  obtain ⟨ob, hob, rest⟩ := id isl
  have apart : at0 ≠ s.heap.objs.size := Nat.ne_of_lt (Heap.lt_size hob)
  unfold unpackItems notIterableAtAll
  refine wpAny_bind (wpAny_bind (wpAny_specialOf (PySem.Heap.IsList.typeIs isl) slot_list_iter.lookup (wpAny_pure ?_)))
  rw [if_neg (by simp)]
  refine wpAny_bind (wpAny_holding (wpAny_pyIter_list isl ?_))
  refine wpAny_bind (wpAny_holding (PySem.W.kun_draw apart 1 0 _ _ ⟨_, Heap.get?_push_size _ rfl, rfl, rfl⟩ (isl.push _) (by omega) fun g1 it1 but1 => ?_))
  have isl1 : g1.IsList at0 its := (isl.push _).extBut but1.extBut apart
  obtain ⟨oa, hoa, _⟩ := id it1
  obtain ⟨oc, hoc, _⟩ := id isl1
  have len1 : ((its.toList.drop 0).take 1).length = 1 := by rw [List.drop_zero, List.length_take, Array.length_toList]; omega
  dsimp only
  rw [if_neg (by rw [len1]; omega)]
  refine wpAny_bind (wpAny_holding (PySem.W.kun_collect (s := { s with heap := g1 }) (T := "list_iterator") (.inr (.inr (.inl rfl))) (Walks.list (A := A.in1) calm s.heap.objs.size at0 apart its) (fun j u st => st.1.typeIs) (k := 1) one ⟨it1, isl1⟩ (Heap.lt_size hoa) (Heap.lt_size hoc) (fun g2 t2 keep2 => ?_) (by rw [sizeLine_eq]; omega)))
  have lenr : (its.toList.drop 1).length = its.size - 1 := by rw [List.length_drop, Array.length_toList]
  rw [if_neg (by omega)]
  have tk : (its.toList.drop 1).take ((its.toList.drop 1).length - (2 - 1 - 1)) = its.toList.drop 1 := List.take_of_length_le (by omega)
  have dr : (its.toList.drop 1).drop ((its.toList.drop 1).length - (2 - 1 - 1)) = [] := List.drop_eq_nil_of_le (by omega)
  rw [tk, dr]
  refine wpAny_bind (wpAny_newList (wpAny_pure ?_) (by rw [lenr, sizeLine_eq]; omega))
  rw [List.drop_zero]
  exact k g2 t2 fun b o e => keep2 b o (Nat.ne_of_lt (Heap.lt_size e)) (but1.extBut b o (Nat.ne_of_lt (Heap.lt_size e)) (Heap.get?_push_of_some _ e))
end
/-- x, *y = a list -/
def gStar (K : PySem.W.Frag) (i j : Nat) : TG := fun v σ H Q => ∃ a x xs, v = .ref a ∧ SqL K H a (x :: xs) ∧ xs.length < 16000 ∧ ∀ p, H p = none → Q ((σ.set i (some x)).set j (some (.ref p))) (upd H p (.lst xs))
section
variable {X : Cx} {pos : Pos}
theorem pg_star {t1 t2 : Expr} {sp : Pos} {i j k : Nat} (hc : X.calm = true) (h1 : PG X t1 (gName i)) (h2 : PG X t2 (gName j)) (he : assignEach [t1, .Starred t2 sp] X.env = [(false, assign t1 X.env), (true, assign t2 X.env)])
    (hs : (assignEach [t1, t2] X.env).map (·.2) = [assign t1 X.env, assign t2 X.env]) (hs1 : (assignEach [t1, t2] X.env).map (·.2) = assign t1 X.env :: (assignEach [t2] X.env).map (·.2)) (hs2 : (assignEach [t2] X.env).map (·.2) = assign t2 X.env :: (assignEach [] X.env).map (·.2)) :
    PG X (.Tuple [t1, .Starred t2 sp] k pos) (gStar X.K i j) := by
  refine ⟨fun pins s σ H v u Q I r hw => ?_⟩
  obtain ⟨a, x, xs, e1, hq, hl, hw⟩ := hw
  subst e1
  cases r
  obtain ⟨its, rv, ⟨o, n, ho, ho2, ho3, ho4⟩, hz⟩ := I.list hq
  have hlen := rv.length
  rw [List.length_cons] at hlen
  rw [assign_Tuple]
  refine wpAny_bind (wpAny_standAt ?_)
  unfold unpack
  rw [he]
  refine wpAny_bind (wpAny_holding (star_items (its := its.toArray) ⟨o, ho, ho2, n, ho4⟩ (I.ok.hd hc) (by simp; omega) (by simp; omega) fun g t keep => ?_))
  cases rv with
  | cons r0 rr =>
    rename_i u0 us
    have new : g.get? g.objs.size = none := by
      cases q : g.get? g.objs.size with
      | none => rfl
      | some z => exact absurd (Heap.lt_size q) (Nat.lt_irrefl _)
    have n1 : s.heap.get? g.objs.size = none := by
      cases q : s.heap.get? g.objs.size with
      | none => rfl
      | some z => rw [keep _ _ q] at new; cases new
    have n2 : H g.objs.size = none := by
      cases q : H g.objs.size with
      | none => rfl
      | some z =>
        obtain ⟨y, hy⟩ := objOk_get (I.hok _ _ q)
        rw [hy] at n1; cases n1
    have ok1 : ObjOk X.prog X.w (upd H g.objs.size (.lst xs)) (g.push { cls := .type "list", data := .seq us.toArray }) g.objs.size (.lst xs) := ⟨by rw [sizeLine_eq]; omega, us, 0, rr, Heap.get?_push_size _ rfl⟩
    have I1 : Inv X pins σ (upd H g.objs.size (.lst xs)) { s with heap := g.push { cls := .type "list", data := .seq us.toArray }, toks := t } := I.laidN (fun b o e => Heap.get?_push_of_some _ (keep b o e)) n1 n2 ok1
    have run := (pgs_cons h1 (pgs_cons h2 pgs_nil hs2) hs1).run pins _ σ _ [x, .ref g.objs.size] [u0, .ref g.objs.size] Q I1 (.cons r0 (.cons rfl .nil)) ⟨_, _, rfl, _, _, rfl, rfl, hw _ n2⟩
    rw [hs] at run
    exact run
end
/-- the data -/
def sStar (i j : Nat) (m : EM) : SD := fun ρ S => (m ρ S).to ρ fun d S' => match listOf S' d with
  | some (x :: xs) => if xs.length < 16000 then .ok .nx ((ρ.set i (some x)).set j (some (.lst xs))) S' else .stuck
  | _ => .stuck
section
variable {X : Cx} {W : WX} {e : Expr} {me : EM} {pos tpos p1 p2 sp : Pos} {x y : Str} {i j k : Nat}
theorem ds_star (h : DE X W e me) (h1 : DG X (.Name x p1) (.nm i)) (h2 : DG X (.Name y p2) (.nm j)) (hc : X.calm = true)
    (he : assignEach [.Name x p1, .Starred (.Name y p2) sp] X.env = [(false, assign (.Name x p1) X.env), (true, assign (.Name y p2) X.env)] := by rfl)
    (hs0 : (assignEach [.Name x p1, .Name y p2] X.env).map (·.2) = [assign (.Name x p1) X.env, assign (.Name y p2) X.env] := by rfl)
    (hs1 : (assignEach [.Name x p1, .Name y p2] X.env).map (·.2) = assign (.Name x p1) X.env :: (assignEach [.Name y p2] X.env).map (·.2) := by rfl) (hs2 : (assignEach [.Name y p2] X.env).map (·.2) = assign (.Name y p2) X.env :: (assignEach [] X.env).map (·.2) := by rfl)
    (hs : swapsWithSole [.Tuple [.Name x p1, .Starred (.Name y p2) sp] k tpos] e pos.line X.env = pure false := by rfl) (hw : swappedStores [.Tuple [.Name x p1, .Starred (.Name y p2) sp] k tpos] e X.env = pure none := by rfl)
    (h3 : (assignEach [.Tuple [.Name x p1, .Starred (.Name y p2) sp] k tpos] X.env).map (·.2) = [assign (.Tuple [.Name x p1, .Starred (.Name y p2) sp] k tpos) X.env] := by rfl) :
    DS X W (.Assign [.Tuple [.Name x p1, .Starred (.Name y p2) sp] k tpos] e pos) (sStar i j me) :=
  PS.le (ps_asg h (pg_star hc h1 h2 he hs0 hs1 hs2) hs hw h3) fun Dn σ H ⟨hd, as, ρ, S, rel, po⟩ => tE_to rel po fun as1 S1 H1 v d g rel1 r q => by
    cases e1 : listOf S1 d with
    | none => rw [e1] at q; exact q.elim
    | some zs =>
      rw [e1] at q
      cases zs with
      | nil => exact q.elim
      | cons z zs =>
        by_cases hz : zs.length < 16000
        · simp only [hz, if_true] at q
          obtain ⟨a, vs, rfl, hq, rr⟩ := seqL rel1.w r e1
          cases rr with
          | cons r0 r1 =>
            refine ⟨a, _, _, rfl, hq, by rw [r1.length]; exact hz, fun p hp => ?_⟩
            obtain ⟨w', g', ep⟩ := rel1.w.fresh (o := .lst _) hp
            refine q as1 _ (upd H1 p (.lst _)) g' ⟨w', ?_⟩
            exact ((rel1.grow g' w').s.set (r0.grow g') i).set (.lst ep (r1.grow g')) j
        · simp only [hz, if_false] at q; exact q.elim
end
/-! ### a slot's list is changed no more -/
def frzSlot (i : Nat) : RS → RS
  | .ok .nx ρ S => match ρ[i]? with
    | some (some (.cell n)) => match S[n]? with
      | some (some (.lst xs)) => .ok .nx (ρ.set i (some (.lst xs))) (S.set n none)
      | _ => .stuck
    | _ => .stuck
  | r => r
def sThenFrz (i : Nat) (m : SD) : SD := fun ρ S => frzSlot i (m ρ S)
theorem ds_thenFrz {X : Cx} {W : WX} {st : Stmt} {m : SD} (i : Nat) (h : DS X W st m) : DS X W st (sThenFrz i m) := PS.le h fun Dn σ H ⟨hd, as, ρ, S, rel, po⟩ => ⟨hd, as, ρ, S, rel, by
  unfold sThenFrz at po
  generalize m ρ S = r at po
  match r, po with
  | .ok .nx ρ' S', po =>
    intro as' σ' H' g rel'
    simp only [frzSlot] at po
    cases e1 : ρ'[i]? with
    | none => rw [e1] at po; exact po.elim
    | some o =>
      cases o with
      | none => rw [e1] at po; exact po.elim
      | some d =>
        cases d with
        | cell n =>
          simp only [e1] at po
          cases e2 : S'[n]? with
          | none => simp only [e2] at po; exact po.elim
          | some z =>
            cases z with
            | none => simp only [e2] at po; exact po.elim
            | some c =>
              cases c with
              | lst xs =>
                simp only [e2] at po
                obtain ⟨v, ev, rv⟩ := rel'.s.at_ i _ e1
                cases rv with
                | cell q =>
                  obtain ⟨w', g', r'⟩ := rel'.w.freeze e2 q
                  have sl := rel'.s.mono g'.pre g'.same
                  refine po as' σ' H' (g.trans g') ⟨w', by rw [List.length_set]; exact sl.len, fun j d ej => ?_⟩
                  by_cases hj : i = j
                  · subst hj
                    rw [List.getElem?_set_self (List.getElem?_eq_some_iff.mp e1).1] at ej
                    cases ej
                    exact ⟨_, ev, r'⟩
                  · rw [List.getElem?_set_ne hj] at ej
                    exact sl.at_ j d ej
        | _ => rw [e1] at po; exact po.elim
  | .ok (.ret d) ρ' S', po => exact po
  | .ok .brk ρ' S', po => exact po
  | .ok .cnt ρ' S', po => exact po
  | .exc x ρ' S', po => exact po
  | .stuck, po => exact po⟩
end
end DL

set_option Elab.async false
set_option linter.all false
set_option maxRecDepth 100000
/-! DP: what a mirror comes to, step by step (a wish behind each step). -/
namespace DL
open PySem PySem.Spec PyProof.Rows
noncomputable section
structure Ok {α : Type} (r : R α) (P : α → Sto → Prop) : Prop where
  out : match r with
    | .ok a S => P a S
    | _ => False
structure OkS (r : RS) (P : Flw → Env → Sto → Prop) : Prop where
  out : match r with
    | .ok f ρ S => P f ρ S
    | _ => False
theorem ok1 {α : Type} {a : α} {S : Sto} {P : α → Sto → Prop} (q : P a S) : Ok (.ok a S) P := ⟨q⟩
theorem okS1 {f : Flw} {ρ : Env} {S : Sto} {P : Flw → Env → Sto → Prop} (q : P f ρ S) : OkS (.ok f ρ S) P := ⟨q⟩
theorem ok2 {α : Type} {a : α} {S : Sto} {P : α → Sto → Prop} (q : Ok (.ok a S) P) : P a S := q.out
theorem okS2 {f : Flw} {ρ : Env} {S : Sto} {P : Flw → Env → Sto → Prop} (q : OkS (.ok f ρ S) P) : P f ρ S := q.out
theorem Ok.bind {α β : Type} {r : R α} {f : α → M β} {P : β → Sto → Prop} (h : Ok r fun a S => Ok (f a S) P) : Ok (r.bind f) P := by
  cases r with
  | ok a S => exact h.out
  | exc x S => exact h.out.elim
  | stuck => exact h.out.elim
theorem Ok.to {α : Type} {r : R α} {ρ : Env} {k : α → Sto → RS} {P : Flw → Env → Sto → Prop} (h : Ok r fun a S => OkS (k a S) P) : OkS (r.to ρ k) P := by
  cases r with
  | ok a S => exact h.out
  | exc x S => exact h.out.elim
  | stuck => exact h.out.elim
theorem Ok.imp {α : Type} {r : R α} {P Q : α → Sto → Prop} (h : Ok r P) (k : ∀ a S, P a S → Q a S) : Ok r Q := by
  cases r with
  | ok a S => exact ⟨k a S h.out⟩
  | exc x S => exact h.out.elim
  | stuck => exact h.out.elim
theorem Ok.get {α : Type} {r : R α} {P : α → Sto → Prop} (h : Ok r P) : ∃ a S, r = .ok a S ∧ P a S := by
  cases r with
  | ok a S => exact ⟨a, S, rfl, h.out⟩
  | exc x S => exact h.out.elim
  | stuck => exact h.out.elim
theorem Ok.of {α : Type} {r : R α} {P : α → Sto → Prop} {a : α} {S : Sto} (e : r = .ok a S) (h : P a S) : Ok r P := by rw [e]; exact ⟨h⟩
theorem OkS.imp {r : RS} {P Q : Flw → Env → Sto → Prop} (h : OkS r P) (k : ∀ f ρ S, P f ρ S → Q f ρ S) : OkS r Q := by
  cases r with
  | ok f ρ S => exact ⟨k f ρ S h.out⟩
  | exc x ρ S => exact h.out.elim
  | stuck => exact h.out.elim
section
variable {ρ : Env} {S : Sto} {P : D → Sto → Prop} {PB : Bool → Sto → Prop} {PL : List D → Sto → Prop} {PS : Flw → Env → Sto → Prop}
theorem k_var {i : Nat} {d : D} (h : ρ[i]? = some (some d)) (q : P d S) : Ok (eVar i ρ S) P := by unfold eVar; rw [h]; exact ⟨q⟩
theorem k_c {d : D} (q : P d S) : Ok (eC d ρ S) P := ⟨q⟩
theorem k_e1 {f : D → M D} {a : EM} (h : Ok (a ρ S) fun x S1 => Ok (f x S1) P) : Ok (e1 f a ρ S) P := Ok.bind h
theorem k_e2 {f : D → D → M D} {a b : EM} (h : Ok (a ρ S) fun x S1 => Ok (b ρ S1) fun y S2 => Ok (f x y S2) P) : Ok (e2 f a b ρ S) P := Ok.bind (h.imp fun _ _ q => Ok.bind q)
theorem k_nil (q : PL [] S) : Ok (aNil ρ S) PL := ⟨q⟩
theorem k_cons {a : EM} {r : AM} (h : Ok (a ρ S) fun x S1 => Ok (r ρ S1) fun xs S2 => PL (x :: xs) S2) : Ok (aCons a r ρ S) PL := Ok.bind (h.imp fun _ _ q => Ok.bind (q.imp fun _ _ z => ok1 z))
theorem k_L {f : List D → M D} {a : AM} (h : Ok (a ρ S) fun xs S1 => Ok (f xs S1) P) : Ok (eL f a ρ S) P := Ok.bind h
theorem k_K {m : FM} {g : List D → List D → List D} {a b : AM} (h : Ok (a ρ S) fun xs S1 => Ok (b ρ S1) fun ys S2 => Ok (m (g xs ys) S2) P) : Ok (eK m g a b ρ S) P := Ok.bind (h.imp fun _ _ q => Ok.bind q)
theorem k_Mt {chk : D → Sto → Bool} {f : D → List D → M D} {o : EM} {a : AM} (h : Ok (o ρ S) fun x S1 => chk x S1 = true ∧ Ok (a ρ S1) fun xs S2 => Ok (f x xs S2) P) : Ok (eMt chk f o a ρ S) P := Ok.bind (h.imp fun _ _ q => by rw [if_pos q.1]; exact Ok.bind q.2)
theorem k_tup {xs : List D} (hz : xs.length ≤ sizeLine) (q : P (.tup xs) S) : Ok (mTup xs S) P := by unfold mTup; rw [if_pos hz]; exact ⟨q⟩
theorem k_lst {xs : List D} (hz : xs.length ≤ sizeLine) (q : P (.lst xs) S) : Ok (mLst xs S) P := by unfold mLst; rw [if_pos hz]; exact ⟨q⟩
theorem k_cell {xs : List D} (hz : xs.length ≤ sizeLine) (q : P (.cell S.length) (S ++ [some (.lst xs)])) : Ok (mCell xs S) P := by unfold mCell; rw [if_pos hz]; exact ⟨q⟩
theorem k_bVal {a : EM} (h : Ok (a ρ S) fun x S1 => Ok (mBool x S1) PB) : Ok (bVal a ρ S) PB := Ok.bind h
theorem k_mBool {b : Bool} (q : PB b S) : Ok (mBool (.bl b) S) PB := ⟨q⟩
theorem k_bNot {a : BM} (h : Ok (a ρ S) fun b S1 => PB (!b) S1) : Ok (bNot a ρ S) PB := Ok.bind (h.imp fun _ _ q => ok1 q)
theorem k_bAnd {a b : BM} (h : Ok (a ρ S) fun x S1 => if x = true then Ok (b ρ S1) PB else PB false S1) : Ok (bAnd a b ρ S) PB := Ok.bind (h.imp fun x S1 q => by cases x <;> first | exact ok1 q | exact q)
theorem k_bOr {a b : BM} (h : Ok (a ρ S) fun x S1 => if x = true then PB true S1 else Ok (b ρ S1) PB) : Ok (bOr a b ρ S) PB := Ok.bind (h.imp fun x S1 q => by cases x <;> first | exact ok1 q | exact q)
theorem k_bTru {a : EM} (h : Ok (a ρ S) fun d S1 => ∃ b, truD S1 d = some b ∧ PB b S1) : Ok (bTru a ρ S) PB := Ok.bind (h.imp fun d S1 ⟨b, e, q⟩ => by rw [e]; exact ok1 q)
theorem k_eAnd {a b : EM} (h : Ok (a ρ S) fun d S1 => Ok (mBool d S1) fun x S2 => if x = true then Ok (b ρ S2) P else P (.bl false) S2) : Ok (eAnd a b ρ S) P := Ok.bind (h.imp fun d S1 q => Ok.bind (q.imp fun x S2 q => by cases x <;> first | exact ok1 q | exact q))
theorem k_eOr {a b : EM} (h : Ok (a ρ S) fun d S1 => Ok (mBool d S1) fun x S2 => if x = true then P (.bl true) S2 else Ok (b ρ S2) P) : Ok (eOr a b ρ S) P := Ok.bind (h.imp fun d S1 q => Ok.bind (q.imp fun x S2 q => by cases x <;> first | exact ok1 q | exact q))
theorem k_eNot {a : EM} (h : Ok (a ρ S) fun d S1 => Ok (mBool d S1) fun x S2 => P (.bl (!x)) S2) : Ok (eNot a ρ S) P := Ok.bind (h.imp fun d S1 q => Ok.bind (q.imp fun x S2 q => ok1 q))
theorem k_eIf {c : BM} {a b : EM} (h : Ok (c ρ S) fun x S1 => if x = true then Ok (a ρ S1) P else Ok (b ρ S1) P) : Ok (eIf c a b ρ S) P := Ok.bind (h.imp fun x S1 q => by cases x <;> exact q)
theorem k_chain {f g : D → D → M D} {a b c : EM} (h : Ok (a ρ S) fun x S1 => Ok (b ρ S1) fun y S2 => Ok (f x y S2) fun z S3 => Ok (mBool z S3) fun k S4 => if k = true then Ok (c ρ S4) fun w S5 => Ok (g y w S5) P else P (.bl false) S4) : Ok (eChain f g a b c ρ S) P :=
  Ok.bind (h.imp fun x S1 q => Ok.bind (q.imp fun y S2 q => Ok.bind (q.imp fun z S3 q => Ok.bind (q.imp fun k S4 q => by
    cases k with
    | true => exact Ok.bind q
    | false => exact ok1 q))))
theorem k_oNone {PO : Option Int → Sto → Prop} (q : PO none S) : Ok (oNone ρ S) PO := ⟨q⟩
theorem k_oSome {PO : Option Int → Sto → Prop} {a : EM} (h : Ok (a ρ S) fun d S1 => ∃ i, d = .int i ∧ PO (some i) S1) : Ok (oSome a ρ S) PO := Ok.bind (h.imp fun d S1 ⟨i, e, q⟩ => by subst e; exact ⟨q⟩)
theorem k_Sl {f : D → Option Int → Option Int → M D} {a : EM} {l u : OM} (h : Ok (a ρ S) fun x S1 => Ok (l ρ S1) fun i S2 => Ok (u ρ S2) fun j S3 => Ok (f x i j S3) P) : Ok (eSl f a l u ρ S) P := Ok.bind (h.imp fun x S1 q => Ok.bind (q.imp fun i S2 q => Ok.bind q))
theorem k_frz {d : D} (q : P d S) (h : ∀ n, d ≠ .cell n) : Ok (mFrz d S) P := by
  cases d <;> first | exact ⟨q⟩ | exact absurd rfl (h _)
theorem k_frzC {n : Nat} {xs : List D} (h : S[n]? = some (some (.lst xs))) (q : P (.lst xs) (S.set n none)) : Ok (mFrz (.cell n) S) P := by unfold mFrz; dsimp only; rw [h]; exact ⟨q⟩
/-! statements -/
theorem k_seq {a b : SD} (h : OkS (a ρ S) fun f ρ1 S1 => match f with
  | .nx => OkS (b ρ1 S1) PS
  | f => PS f ρ1 S1) : OkS (sSeq a b ρ S) PS := by
  unfold sSeq
  cases e : a ρ S with
  | exc x ρ1 S1 => rw [e] at h; exact h.out.elim
  | stuck => rw [e] at h; exact h.out.elim
  | ok f ρ1 S1 => rw [e] at h; cases f <;> first | exact h.out | exact ⟨h.out⟩
theorem k_nx (q : PS .nx ρ S) : OkS (sNx ρ S) PS := ⟨q⟩
theorem k_brk (q : PS .brk ρ S) : OkS (sBrk ρ S) PS := ⟨q⟩
theorem k_cnt (q : PS .cnt ρ S) : OkS (sCnt ρ S) PS := ⟨q⟩
theorem k_ret {m : EM} (h : Ok (m ρ S) fun d S1 => PS (.ret d) ρ S1) : OkS (sRet m ρ S) PS := Ok.to (h.imp fun _ _ => okS1)
theorem k_retN (q : PS (.ret .non) ρ S) : OkS (sRetN ρ S) PS := ⟨q⟩
theorem k_set {i : Nat} {m : EM} (h : Ok (m ρ S) fun d S1 => PS .nx (ρ.set i (some d)) S1) : OkS (sSet i m ρ S) PS := Ok.to (h.imp fun _ _ => okS1)
theorem k_expr {m : EM} (h : Ok (m ρ S) fun d S1 => PS .nx ρ S1) : OkS (sExpr m ρ S) PS := Ok.to (h.imp fun _ _ => okS1)
theorem k_if {c : BM} {a b : SD} (h : Ok (c ρ S) fun k S1 => if k = true then OkS (a ρ S1) PS else OkS (b ρ S1) PS) : OkS (sIf c a b ρ S) PS := Ok.to (h.imp fun k S1 q => by cases k <;> exact q)
theorem k_par {i j : Nat} {m : AM} (h : Ok (m ρ S) fun ds S1 => ∃ x y, ds = [x, y] ∧ PS .nx ((ρ.set i (some x)).set j (some y)) S1) : OkS (sPar i j m ρ S) PS := Ok.to (h.imp fun ds S1 ⟨x, y, e, q⟩ => by subst e; exact ⟨q⟩)
theorem k_asg {T : Tg} {m : EM} (h : Ok (m ρ S) fun d S1 => ∃ ρ1, asg T d ρ = some ρ1 ∧ PS .nx ρ1 S1) : OkS (sAsg T m ρ S) PS := Ok.to (h.imp fun d S1 ⟨ρ1, e, q⟩ => by rw [e]; exact ⟨q⟩)
theorem k_star {i j : Nat} {m : EM} (h : Ok (m ρ S) fun d S1 => ∃ x xs, DL.listOf S1 d = some (x :: xs) ∧ xs.length < 16000 ∧ PS .nx ((ρ.set i (some x)).set j (some (.lst xs))) S1) : OkS (sStar i j m ρ S) PS := Ok.to (h.imp fun d S1 ⟨x, xs, e, hz, q⟩ => by rw [e]; dsimp only; rw [if_pos hz]; exact ⟨q⟩)
theorem k_thenFrz {i : Nat} {m : SD} (h : OkS (m ρ S) fun f ρ1 S1 => f = .nx ∧ ∃ n xs, ρ1[i]? = some (some (.cell n)) ∧ S1[n]? = some (some (.lst xs)) ∧ PS .nx (ρ1.set i (some (.lst xs))) (S1.set n none)) : OkS (sThenFrz i m ρ S) PS := by
  unfold sThenFrz
  cases e : m ρ S with
  | exc x ρ1 S1 => rw [e] at h; exact h.out.elim
  | stuck => rw [e] at h; exact h.out.elim
  | ok f ρ1 S1 =>
    rw [e] at h
    obtain ⟨rfl, n, xs, e1, e2, q⟩ := h.out
    simp only [frzSlot, e1, e2]
    exact ⟨q⟩
theorem k_sub {f : D → D → D → Sto → Option Sto} {o i m : EM} (h : Ok (m ρ S) fun v S1 => Ok (o ρ S1) fun x S2 => Ok (i ρ S2) fun k S3 => ∃ S4, f x k v S3 = some S4 ∧ PS .nx ρ S4) : OkS (sSub f o i m ρ S) PS :=
  Ok.to (h.imp fun v S1 q => Ok.to (q.imp fun x S2 q => Ok.to (q.imp fun k S3 ⟨S4, e, q⟩ => by rw [e]; exact ⟨q⟩)))
theorem k_aug {i : Nat} {f : D → D → M D} {m : EM} {x : D} (hx : ρ[i]? = some (some x)) (h : Ok (m ρ S) fun y S1 => Ok (f x y S1) fun z S2 => PS .nx (ρ.set i (some z)) S2) : OkS (sAug i f m ρ S) PS := by
  unfold sAug eVar
  rw [hx]
  exact Ok.to (r := .ok x S) (ok1 (Ok.to (h.imp fun y S1 q => Ok.to (q.imp fun _ _ => okS1))))
/-- a def's call, from its body -/
theorem k_fn {n np : Nat} {m : SD} {ds : List D} (hn : ds.length = np) (h : OkS (m (ds.map some ++ List.replicate (n - np) none) S) fun f ρ' S' => match f with
  | .nx => P .non (trim S .non S')
  | .ret d => P d (trim S d S')
  | _ => False) : Ok (runFn n np m ds S) P := by
  unfold runFn
  rw [if_pos hn, hn]
  cases e : m (ds.map some ++ List.replicate (n - np) none) S with
  | exc x ρ1 S1 => rw [e] at h; exact h.out.elim
  | stuck => rw [e] at h; exact h.out.elim
  | ok f ρ1 S1 => rw [e] at h; cases f <;> first | exact ⟨h.out⟩ | exact h.out.elim
/-! loops over a fixed list -/
theorem k_forL {T : Tg} {b : SD} {xs : List D} (I : Nat → Env → Sto → Prop) (h0 : I 0 ρ S)
    (hs : ∀ i ρ S d, xs[i]? = some d → I i ρ S → ∃ ρ', asg T d ρ = some ρ' ∧ OkS (b ρ' S) fun f ρ2 S2 => match f with
      | .nx => I (i + 1) ρ2 S2
      | .cnt => I (i + 1) ρ2 S2
      | .brk => PS .nx ρ2 S2
      | .ret d => PS (.ret d) ρ2 S2)
    (hd : ∀ ρ S, I xs.length ρ S → PS .nx ρ S) : OkS (forLoop (itL xs).nx T b (itL xs).fu 0 ρ S) PS := by
  have go : ∀ (k i : Nat) (ρ : Env) (S : Sto), k + i = xs.length + 1 → i ≤ xs.length → I i ρ S → OkS (forLoop (itL xs).nx T b k i ρ S) PS := by
    intro k
    induction k with
    | zero => intro i ρ S e l _; omega
    | succ k ih =>
      intro i ρ S e l hI
      unfold forLoop
      show OkS (match some xs[i]? with
        | none => _
        | some none => _
        | some (some d) => _) PS
      by_cases hi : i < xs.length
      · obtain ⟨ρ', ea, hb⟩ := hs i ρ S xs[i] (List.getElem?_eq_getElem hi) hI
        rw [List.getElem?_eq_getElem hi]
        dsimp only
        rw [ea]
        dsimp only
        cases eb : b ρ' S with
        | exc x ρ1 S1 => rw [eb] at hb; exact hb.out.elim
        | stuck => rw [eb] at hb; exact hb.out.elim
        | ok f ρ1 S1 =>
          rw [eb] at hb
          cases f with
          | nx => exact ih (i + 1) ρ1 S1 (by omega) hi hb.out
          | cnt => exact ih (i + 1) ρ1 S1 (by omega) hi hb.out
          | brk => exact ⟨hb.out⟩
          | ret d => exact ⟨hb.out⟩
      · have : i = xs.length := by omega
        subst this
        rw [List.getElem?_eq_none (Nat.le_refl _)]
        exact ⟨hd ρ S hI⟩
  exact go (xs.length + 1) 0 ρ S (by omega) (Nat.zero_le _) h0
theorem k_for {im : IM} {T : Tg} {b : SD} (h : Ok (im ρ S) fun it S1 => OkS (forLoop it.nx T b it.fu 0 ρ S1) PS) : OkS (sFor im T b ρ S) PS := Ok.to h
theorem k_while {c : BM} {b : SD} (I : Env → Sto → Prop) (μ : Env → Sto → Nat) (h0 : I ρ S) (hμ : μ ρ S < FU)
    (hs : ∀ ρ S, I ρ S → Ok (c ρ S) fun k S1 => if k = true then OkS (b ρ S1) fun f ρ2 S2 => match f with
      | .nx => I ρ2 S2 ∧ μ ρ2 S2 < μ ρ S
      | .cnt => I ρ2 S2 ∧ μ ρ2 S2 < μ ρ S
      | .brk => PS .nx ρ2 S2
      | .ret d => PS (.ret d) ρ2 S2 else PS .nx ρ S1) : OkS (sWhile c b ρ S) PS := by
  have go : ∀ (k : Nat) (ρ : Env) (S : Sto), μ ρ S < k → I ρ S → OkS (whLoop c b k ρ S) PS := by
    intro k
    induction k with
    | zero => intro ρ S l _; omega
    | succ k ih =>
      intro ρ S l hI
      unfold whLoop
      refine Ok.to ((hs ρ S hI).imp fun x S1 q => ?_)
      cases x with
      | false => exact ⟨q⟩
      | true =>
        rw [if_pos rfl] at q ⊢
        cases eb : b ρ S1 with
        | exc x ρ1 S1 => rw [eb] at q; exact q.out.elim
        | stuck => rw [eb] at q; exact q.out.elim
        | ok f ρ1 S1 =>
          rw [eb] at q
          cases f with
          | nx => exact ih ρ1 S1 (by have := q.out.2; omega) q.out.1
          | cnt => exact ih ρ1 S1 (by have := q.out.2; omega) q.out.1
          | brk => exact ⟨q.out⟩
          | ret d => exact ⟨q.out⟩
  exact go FU ρ S hμ h0
/-! comprehensions over a fixed list -/
theorem k_lcL {T : Tg} {c : BM} {e : EM} {xs : List D} {ρw : Env} (I : Nat → List D → Sto → Prop) (h0 : I 0 [] S)
    (hs : ∀ i acc S d, xs[i]? = some d → I i acc S → ∃ ρ', asg T d ρw = some ρ' ∧ Ok (c ρ' S) fun k S1 => if k = true then Ok (e ρ' S1) fun y S2 => acc.length < sizeLine ∧ I (i + 1) (acc ++ [y]) S2 else I (i + 1) acc S1)
    (hd : ∀ acc S, I xs.length acc S → PL acc S) : Ok (lcLoop (itL xs).nx T c e ρw (itL xs).fu 0 [] S) PL := by
  have go : ∀ (k i : Nat) (acc : List D) (S : Sto), k + i = xs.length + 1 → i ≤ xs.length → I i acc S → Ok (lcLoop (itL xs).nx T c e ρw k i acc S) PL := by
    intro k
    induction k with
    | zero => intro i acc S e l _; omega
    | succ k ih =>
      intro i acc S el l hI
      unfold lcLoop
      show Ok (match some xs[i]? with
        | none => _
        | some none => _
        | some (some d) => _) PL
      by_cases hi : i < xs.length
      · obtain ⟨ρ', ea, hb⟩ := hs i acc S xs[i] (List.getElem?_eq_getElem hi) hI
        rw [List.getElem?_eq_getElem hi]
        dsimp only
        rw [ea]
        dsimp only
        refine Ok.bind (hb.imp fun k S1 q => ?_)
        cases k with
        | false => exact ih (i + 1) acc S1 (by omega) hi q
        | true => exact Ok.bind (q.imp fun y S2 q2 => by rw [if_pos q2.1]; exact ih (i + 1) _ S2 (by omega) hi q2.2)
      · have : i = xs.length := by omega
        subst this
        rw [List.getElem?_eq_none (Nat.le_refl _)]
        exact ⟨hd acc S hI⟩
  exact go (xs.length + 1) 0 [] S (by omega) (Nat.zero_le _) h0
theorem noX_ok {α : Type} {r : R α} {Q : α → Sto → Prop} (h : Ok r Q) : Ok (noX r) Q := by
  cases r with
  | ok a S => exact h
  | exc x S => exact h.out.elim
  | stuck => exact h.out.elim
theorem k_lc {im : IM} {T : Tg} {c : BM} {e : EM} {vs : List Nat} (h : Ok (im ρ S) fun it S1 => Ok (lcLoop it.nx T c e (wipeD ρ vs) it.fu 0 [] S1) fun xs S2 => P (.lst xs) S2) : Ok (eLc im T c e vs ρ S) P := Ok.bind (h.imp fun it S1 q => Ok.bind ((noX_ok q).imp fun _ _ => ok1))
theorem k_lcC {im : IM} {T : Tg} {c : BM} {e : EM} {vs : List Nat} (h : Ok (im ρ S) fun it S1 => Ok (lcLoop it.nx T c e (wipeD ρ vs) it.fu 0 [] S1) fun xs S2 => P (.cell S2.length) (S2 ++ [some (.lst xs)])) : Ok (eLcC im T c e vs ρ S) P := Ok.bind (h.imp fun it S1 q => Ok.bind ((noX_ok q).imp fun _ _ => ok1))
theorem k_imOf {PI : ItD → Sto → Prop} {f : D → M ItD} {m : EM} (h : Ok (m ρ S) fun d S1 => Ok (f d S1) PI) : Ok (imOf f m ρ S) PI := Ok.bind h
theorem k_imOfA {PI : ItD → Sto → Prop} {f : List D → M ItD} {m : AM} (h : Ok (m ρ S) fun d S1 => Ok (f d S1) PI) : Ok (imOfA f m ρ S) PI := Ok.bind h
theorem k_yes (q : PB true S) : Ok (bYes ρ S) PB := ⟨q⟩
end
/-! operations -/
section
variable {S : Sto} {P : D → Sto → Prop} {i j : Int} {a b : Bool} {x y : Str} {xs ys : List D}
theorem o_add (q : P (.int (i + j)) S) : Ok (oAdd (.int i) (.int j) S) P := ⟨q⟩
theorem o_sub (q : P (.int (i - j)) S) : Ok (oSub (.int i) (.int j) S) P := ⟨q⟩
theorem o_mul (h : IntMulOk i j) (q : P (.int (i * j)) S) : Ok (oMul (.int i) (.int j) S) P := by
  unfold oMul
  dsimp only
  rw [if_pos h]; exact ⟨q⟩
theorem o_fdiv (h : j ≠ 0) (h2 : j.natAbs.log2 < 9000) (q : P (.int (i.fdiv j)) S) : Ok (oFdiv (.int i) (.int j) S) P := by
  show Ok (opI _ _ _ _ S) P
  unfold opI
  dsimp only
  rw [if_pos (show CDivA i j from ⟨h, h2⟩)]; exact ⟨q⟩
theorem o_mod (h : j ≠ 0) (q : P (.int (i.fmod j)) S) : Ok (oMod (.int i) (.int j) S) P := by
  show Ok (opI _ _ _ _ S) P
  unfold opI
  dsimp only
  rw [if_pos h]; exact ⟨q⟩
theorem o_pow (h : L2.CPow i j) (q : P (.int (i ^ j.toNat)) S) : Ok (oPow (.int i) (.int j) S) P := by
  show Ok (opI _ _ _ _ S) P
  unfold opI
  dsimp only
  rw [if_pos h]; exact ⟨q⟩
theorem o_lt (q : P (.bl (decide (i < j))) S) : Ok (oLt (.int i) (.int j) S) P := ⟨q⟩
theorem o_le (q : P (.bl (decide (i ≤ j))) S) : Ok (oLe (.int i) (.int j) S) P := ⟨q⟩
theorem o_gt (q : P (.bl (decide (j < i))) S) : Ok (oGt (.int i) (.int j) S) P := ⟨q⟩
theorem o_ge (q : P (.bl (decide (j ≤ i))) S) : Ok (oGe (.int i) (.int j) S) P := ⟨q⟩
theorem o_neg (q : P (.int (-i)) S) : Ok (oNeg (.int i) S) P := ⟨q⟩
theorem o_addL (hz : xs.length + ys.length ≤ sizeLine) (q : P (.lst (xs ++ ys)) S) : Ok (oAdd (.lst xs) (.lst ys) S) P := by
  show Ok (oCat (.lst xs) (.lst ys) S) P
  unfold oCat
  show Ok (if xs.length + ys.length ≤ sizeLine then _ else _) P
  rw [if_pos hz]; exact ⟨q⟩
theorem o_eqI (q : P (.bl (decide (i = j))) S) : Ok (oEq (.int i) (.int j) S) P := by
  have e : PyData.eqv (D.int i).py (D.int j).py = decide (i = j) := by simp [D.py, PyData.eqv]; rfl
  first | unfold oEq | unfold oNe
  simp only [topD, eqD, D.pl, Bool.and_self, if_true, e]
  exact ⟨q⟩
theorem o_neI (q : P (.bl (!decide (i = j))) S) : Ok (oNe (.int i) (.int j) S) P := by
  have e : PyData.eqv (D.int i).py (D.int j).py = decide (i = j) := by simp [D.py, PyData.eqv]; rfl
  first | unfold oEq | unfold oNe
  simp only [topD, eqD, D.pl, Bool.and_self, if_true, e]
  exact ⟨q⟩
theorem o_eqS (q : P (.bl (decide (x = y))) S) : Ok (oEq (.str x) (.str y) S) P := ⟨q⟩
theorem o_neS (q : P (.bl (!decide (x = y))) S) : Ok (oNe (.str x) (.str y) S) P := ⟨q⟩
theorem o_eqB (q : P (.bl (decide (a = b))) S) : Ok (oEq (.bl a) (.bl b) S) P := by
  have e : PyData.eqv (D.bl a).py (D.bl b).py = decide (a = b) := by cases a <;> cases b <;> simp [D.py, PyData.eqv]
  first | unfold oEq | unfold oNe
  simp only [topD, eqD, D.pl, Bool.and_self, if_true, e]
  exact ⟨q⟩
/-- any data -/
theorem o_eqD {d e : D} (hd : ∀ s, d ≠ .str s) (h1 : (topD S d).pl 60 = true) (h2 : (topD S e).pl 60 = true) (q : P (.bl (PyData.eqv (topD S d).py (topD S e).py)) S) : Ok (oEq d e S) P := by
  unfold oEq
  have : eqD d e (topD S d) (topD S e) = some (PyData.eqv (topD S d).py (topD S e).py) := by
    unfold eqD
    split
    · exact absurd rfl (hd _)
    · rw [h1, h2]; rfl
  rw [this]; exact ⟨q⟩
theorem o_neD {d e : D} (hd : ∀ s, d ≠ .str s) (h1 : (topD S d).pl 60 = true) (h2 : (topD S e).pl 60 = true) (q : P (.bl (!PyData.eqv (topD S d).py (topD S e).py)) S) : Ok (oNe d e S) P := by
  unfold oNe
  have : eqD d e (topD S d) (topD S e) = some (PyData.eqv (topD S d).py (topD S e).py) := by
    unfold eqD
    split
    · exact absurd rfl (hd _)
    · rw [h1, h2]; rfl
  rw [this]; exact ⟨q⟩
theorem o_ix {d v : D} (h : (seqOf S d).bind (fun xs => L2.atI xs i) = some v) (q : P v S) : Ok (oIx d (.int i) S) P := by
  cases d <;> first
    | (simp [seqOf, listOf] at h; done)
    | (show Ok (match (seqOf S _).bind (fun xs => L2.atI xs i) with
        | some x => _
        | none => _) P
       rw [h]; exact ⟨q⟩)
theorem o_lenL {d : D} (h : seqOf S d = some xs) (q : P (.int xs.length) S) : Ok (fLen [d] S) P := by
  cases d <;> first
    | (simp [seqOf, listOf] at h; done)
    | (simp only [fLen, h]; exact ⟨q⟩)
theorem o_abs (q : P (.int i.natAbs) S) : Ok (fAbs [.int i] S) P := by
  refine ⟨?_⟩
  show P (.int (if i < 0 then -i else i)) S
  have : (if i < 0 then -i else i) = (i.natAbs : Int) := by split <;> omega
  rw [this]; exact q
theorem o_max2 (q : P (.int (max i j)) S) : Ok (fMax2 [.int i, .int j] S) P := by
  refine ⟨?_⟩
  show P (.int (if j > i then j else i)) S
  have : (if j > i then j else i) = max i j := by split <;> omega
  rw [this]; exact q
theorem o_min2 (q : P (.int (min i j)) S) : Ok (fMin2 [.int i, .int j] S) P := by
  refine ⟨?_⟩
  show P (.int (if j < i then j else i)) S
  have : (if j < i then j else i) = min i j := by split <;> omega
  rw [this]; exact q
theorem o_intB (q : P (.int (if a then 1 else 0)) S) : Ok (fInt [.bl a] S) P := ⟨q⟩
theorem o_intI (q : P (.int i) S) : Ok (fInt [.int i] S) P := ⟨q⟩
theorem o_tupL (q : P (.tup xs) S) : Ok (fTuple [.lst xs] S) P := ⟨q⟩
theorem o_sl {d : D} {lo hi : Option Int} (h : listOf S d = some xs) (q : P (.lst (cutD xs lo hi)) S) : Ok (oSl d lo hi S) P := by
  cases d <;> first
    | (simp [seqOf, listOf] at h; done)
    | (simp only [oSl, oSlL, h]; exact ⟨q⟩)
theorem o_repr {d : D} (h : (topD S d).pr 60 = true) (h2 : (topD S d).shows = true) (q : P (.str (topD S d).shown) S) : Ok (fRepr [d] S) P := by
  unfold fRepr
  dsimp only
  rw [h, h2]; exact ⟨q⟩
theorem o_app {n : Nat} {d : D} (h : S[n]? = some (some (.lst xs))) (hz : xs.length < sizeLine) (q : P .non (S.set n (some (.lst (xs ++ [d]))))) : Ok (mAppend (.cell n) [d] S) P := by
  unfold mAppend
  dsimp only
  rw [h]
  dsimp only
  rw [if_pos hz]; exact ⟨q⟩
theorem o_repL (h : IntMulOk 0 0 ∨ True) (h1 : -(2 ^ 63) ≤ i) (h2 : i < 2 ^ 63) (hz : xs.length * i.toNat ≤ sizeLine) (q : P (.lst (List.replicate i.toNat xs).flatten) S) : Ok (oMul (.lst xs) (.int i) S) P := by
  unfold oMul
  show Ok (if -(2 ^ 63) ≤ i ∧ i < 2 ^ 63 ∧ xs.length * i.toNat ≤ sizeLine then _ else _) P
  rw [if_pos ⟨h1, h2, hz⟩]; exact ⟨q⟩
theorem o_isi {d : D} {c k : String} {r : Bool} (h : kindD S d = some k) (e : L2.kitB k c = some r) (q : P (.bl r) S) : Ok (fIsi [d, .ty c] S) P := by
  unfold fIsi
  dsimp only
  rw [h]
  dsimp only
  rw [e]; exact ⟨q⟩
theorem o_all {d : D} {bs : List Bool} (h : (listOf S d).bind blsOf = some bs) (q : P (.bl (bs.all id)) S) : Ok (fAll [d] S) P := by
  unfold fAll
  dsimp only
  rw [h]; exact ⟨q⟩
theorem o_any {d : D} {bs : List Bool} (h : (listOf S d).bind blsOf = some bs) (q : P (.bl (bs.any id)) S) : Ok (fAny [d] S) P := by
  unfold fAny
  dsimp only
  rw [h]; exact ⟨q⟩
theorem o_sum {d : D} {ns : List Int} (h : (listOf S d).bind intsOf = some ns) (q : P (.int ns.sum) S) : Ok (fSum [d] S) P := by
  unfold fSum
  dsimp only
  rw [h]; exact ⟨q⟩
end
/-! what is walked -/
section
variable {S : Sto} {PI : ItD → Sto → Prop} {i j : Int} {xs ys : List D}
theorem i_list (q : PI (itL xs) S) : Ok (mItL (.lst xs) S) PI := ⟨q⟩
theorem i_ro (q : PI (itL xs) S) : Ok (mItL (.ro xs) S) PI := ⟨q⟩
theorem i_tup (q : PI (itL xs) S) : Ok (mItT (.tup xs) S) PI := ⟨q⟩
theorem i_rng1 (h1 : -(2 ^ 62) ≤ j) (h2 : j < 2 ^ 62) (q : PI (itL ((List.range j.toNat).map fun i : Nat => D.int i)) S) : Ok (mItR1 [.int j] S) PI := by
  unfold mItR1
  dsimp only
  rw [if_pos ⟨h1, h2⟩]; exact ⟨q⟩
theorem i_zip (q : PI (itL (zipD xs ys)) S) : Ok (mItZ [.lst xs, .lst ys] S) PI := ⟨q⟩
theorem i_enum (q : PI (itL (enumD xs)) S) : Ok (mItE [.lst xs] S) PI := ⟨q⟩
end
end
end DL

set_option Elab.async false
set_option linter.all false
set_option maxRecDepth 100000
/-! DM: plain mathematics: sizes, fractions in lowest terms. -/
namespace DL
open PySem PySem.Spec PyProof.Rows
noncomputable section
/-! ### sizes -/
/-- below 2 ^ k in size -/
def Sz (k : Nat) (i : Int) : Prop := i.natAbs < 2 ^ k
theorem Sz.mono {k l : Nat} {i : Int} (h : Sz k i) (hl : k ≤ l) : Sz l i := Nat.lt_of_lt_of_le h (Nat.pow_le_pow_right (by decide) hl)
theorem Sz.mul {k l : Nat} {i j : Int} (h : Sz k i) (g : Sz l j) : Sz (k + l) (i * j) := by
  unfold Sz at *
  rw [Int.natAbs_mul, Nat.pow_add]
  exact Nat.mul_lt_mul'' h g
theorem Sz.add {k l : Nat} {i j : Int} (h : Sz k i) (g : Sz l j) : Sz (max k l + 1) (i + j) := by
  have h' := h.mono (Nat.le_max_left k l)
  have g' := g.mono (Nat.le_max_right k l)
  unfold Sz at *
  rw [Nat.pow_succ]
  omega
theorem Sz.neg {k : Nat} {i : Int} (h : Sz k i) : Sz k (-i) := by unfold Sz at *; omega
theorem Sz.of_le {k : Nat} {i j : Int} (h : Sz k j) (hi : i.natAbs ≤ j.natAbs) : Sz k i := Nat.lt_of_le_of_lt hi h
theorem Sz.log {k : Nat} {i : Int} (h : Sz k i) (hk : 0 < k) : i.natAbs.log2 < k := by
  by_cases h0 : i.natAbs = 0
  · rw [h0]; simpa using hk
  · exact (Nat.log2_lt h0).mpr h
theorem Sz.bits {k : Nat} {i : Int} (h : Sz k i) (hk : 0 < k) : Builtin.Int.intBits i ≤ k := by
  unfold Builtin.Int.intBits
  have := h.log hk
  first
    | omega
    | (split <;> omega)
theorem Sz.mulOk {k l : Nat} {i j : Int} (h : Sz k i) (g : Sz l j) (hk : k ≤ 2 ^ 20 := by decide) (hl : l ≤ 2 ^ 20 := by decide) : IntMulOk i j := by
  by_cases h0 : 0 < k
  · by_cases h1 : 0 < l
    · exact .of_bits (Nat.le_trans (h.bits h0) hk) (Nat.le_trans (g.bits h1) hl)
    · exact .of_bits (Nat.le_trans (h.bits h0) hk) (Nat.le_trans ((g.mono (Nat.le_of_lt (by omega : l < 1))).bits (by decide)) (by decide))
  · exact .of_bits (Nat.le_trans ((h.mono (Nat.le_of_lt (by omega : k < 1))).bits (by decide)) (by decide)) (Nat.le_trans ((g.mono (Nat.le_max_left l 1)).bits (by omega)) (by omega))
/-! ### lowest terms -/
abbrev Fr := Int × Int
def Nrm (f : Fr) : Prop := 0 < f.2 ∧ Int.gcd f.1 f.2 = 1
def lowF (t b : Int) : Fr := if b < 0 then (t.fdiv (-(Int.gcd t b : Int)), b.fdiv (-(Int.gcd t b : Int))) else (t.fdiv (Int.gcd t b), b.fdiv (Int.gcd t b))
theorem gcd_pos {t b : Int} (h : b ≠ 0) : 0 < Int.gcd t b := Int.gcd_pos_of_ne_zero_right t h
theorem low_all {t b : Int} (h : b ≠ 0) : Nrm (lowF t b) ∧ (lowF t b).1 * b = t * (lowF t b).2 ∧ (lowF t b).1.natAbs ≤ t.natAbs ∧ (lowF t b).2.natAbs ≤ b.natAbs := by
  have g0 := gcd_pos (t := t) h
  obtain ⟨p, hp⟩ := Int.gcd_dvd_left (a := t) (b := b)
  obtain ⟨q, hq⟩ := Int.gcd_dvd_right (a := t) (b := b)
  generalize hg : Int.gcd t b = g at *
  have gz : (g : Int) ≠ 0 := by omega
  have cop : Int.gcd p q = 1 := by
    have e : Int.gcd t b = g * Int.gcd p q := by
      rw [hp, hq, Int.gcd_mul_left]
      simp
    rw [hg] at e
    have : g * Int.gcd p q = g * 1 := by omega
    exact Nat.eq_of_mul_eq_mul_left g0 this
  have e1 : t.fdiv g = p := by rw [hp]; exact Int.mul_fdiv_cancel_left p gz
  have e2 : b.fdiv g = q := by rw [hq]; exact Int.mul_fdiv_cancel_left q gz
  have e3 : t.fdiv (-(g : Int)) = -p := by
    rw [hp, show (g : Int) * p = -(g : Int) * -p by rw [Int.neg_mul_neg]]
    exact Int.mul_fdiv_cancel_left _ (by omega)
  have e4 : b.fdiv (-(g : Int)) = -q := by
    rw [hq, show (g : Int) * q = -(g : Int) * -q by rw [Int.neg_mul_neg]]
    exact Int.mul_fdiv_cancel_left _ (by omega)
  have qz : q ≠ 0 := fun z => h (by rw [hq, z, Int.mul_zero])
  have np : p.natAbs ≤ t.natAbs := by
    rw [hp, Int.natAbs_mul]
    exact Nat.le_mul_of_pos_left _ (by omega)
  have nq : q.natAbs ≤ b.natAbs := by
    rw [hq, Int.natAbs_mul]
    exact Nat.le_mul_of_pos_left _ (by omega)
  unfold lowF
  rw [hg]
  split
  · rename_i hb
    rw [e3, e4]
    refine ⟨⟨?_, by simpa [Int.gcd_neg, Int.neg_gcd] using cop⟩, ?_, by simpa using np, by simpa using nq⟩
    · have hq0 : q < 0 := by
        rcases Int.lt_or_gt_of_ne qz with z | z
        · exact z
        · exact absurd (show (0 : Int) < b by rw [hq]; exact Int.mul_pos (by omega) z) (by omega)
      show 0 < -q
      omega
    · show -p * b = t * -q
      rw [hp, hq]
      grind
  · rename_i hb
    rw [e1, e2]
    refine ⟨⟨?_, cop⟩, ?_, np, nq⟩
    · rcases Int.lt_or_gt_of_ne qz with z | z
      · exact absurd (show b < 0 by rw [hq]; exact Int.mul_neg_of_pos_of_neg (by omega) z) hb
      · exact z
    · show p * b = t * q
      rw [hp, hq]
      grind
theorem low_spec {t b : Int} (h : b ≠ 0) : Nrm (lowF t b) ∧ (lowF t b).1 * b = t * (lowF t b).2 := ⟨(low_all h).1, (low_all h).2.1⟩
theorem dvd_cop {b a d : Int} (h : b ∣ a * d) (c : Int.gcd b a = 1) : b ∣ d := by
  have h' := Int.natAbs_dvd_natAbs.mpr h
  rw [Int.natAbs_mul] at h'
  exact Int.natAbs_dvd_natAbs.mp (Nat.Coprime.dvd_of_dvd_mul_left (by exact c) h')
/-- lowest terms are one -/
theorem nrm_uniq {f g : Fr} (hf : Nrm f) (hg : Nrm g) (h : f.1 * g.2 = g.1 * f.2) : f = g := by
  obtain ⟨a, b⟩ := f
  obtain ⟨c, d⟩ := g
  obtain ⟨hb, cf⟩ := hf
  obtain ⟨hd, cg⟩ := hg
  dsimp only at *
  have d1 : b ∣ d := by
    have : b ∣ a * d := ⟨c, by rw [h, Int.mul_comm]⟩
    exact dvd_cop this (by rw [Int.gcd_comm]; exact cf)
  have d2 : d ∣ b := by
    have : d ∣ c * b := ⟨a, by rw [← h, Int.mul_comm]⟩
    exact dvd_cop this (by rw [Int.gcd_comm]; exact cg)
  have e : b = d := Int.dvd_antisymm (by omega) (by omega) d1 d2
  subst e
  rw [Int.eq_of_mul_eq_mul_right (by omega) h]
theorem low_eq {t b : Int} {f : Fr} (h : b ≠ 0) (hf : Nrm f) (e : f.1 * b = t * f.2) : lowF t b = f := by
  obtain ⟨n, c⟩ := low_spec (t := t) h
  refine nrm_uniq n hf ?_
  have : ((lowF t b).1 * f.2) * b = (f.1 * (lowF t b).2) * b := by grind
  exact Int.eq_of_mul_eq_mul_right h this
theorem low_self {f : Fr} (hf : Nrm f) : lowF f.1 f.2 = f := low_eq (by have := hf.1; omega) hf rfl
theorem low_natAbs {t b : Int} (h : b ≠ 0) : (lowF t b).1.natAbs ≤ t.natAbs ∧ (lowF t b).2.natAbs ≤ b.natAbs := (low_all h).2.2
def plusF (f g : Fr) : Fr := lowF (f.1 * g.2 + g.1 * f.2) (f.2 * g.2)
def timesF (f g : Fr) : Fr := lowF (f.1 * g.1) (f.2 * g.2)
/-- a fraction, tops below 2 ^ k, bottoms below 2 ^ l -/
structure FrS (k l : Nat) (f : Fr) : Prop where
  n : Nrm f
  t : Sz k f.1
  b : Sz l f.2
theorem FrS.mono {k l k' l' : Nat} {f : Fr} (h : FrS k l f) (hk : k ≤ k') (hl : l ≤ l') : FrS k' l' f := ⟨h.n, h.t.mono hk, h.b.mono hl⟩
theorem FrS.nz {k l : Nat} {f : Fr} (h : FrS k l f) : f.2 ≠ 0 := by have := h.n.1; omega
theorem low_S {k l : Nat} {t b : Int} (h : b ≠ 0) (ht : Sz k t) (hb : Sz l b) : FrS k l (lowF t b) := ⟨(low_spec h).1, ht.of_le (low_natAbs h).1, hb.of_le (low_natAbs h).2⟩
theorem mul_nz {a b : Int} (h : a ≠ 0) (g : b ≠ 0) : a * b ≠ 0 := Int.mul_ne_zero h g
theorem plus_S {k l k' l' : Nat} {f g : Fr} (hf : FrS k l f) (hg : FrS k' l' g) : FrS (max (k + l') (k' + l) + 1) (l + l') (plusF f g) := low_S (mul_nz hf.nz hg.nz) ((hf.t.mul hg.b).add (hg.t.mul hf.b)) (hf.b.mul hg.b)
theorem times_S {k l k' l' : Nat} {f g : Fr} (hf : FrS k l f) (hg : FrS k' l' g) : FrS (k + k') (l + l') (timesF f g) := low_S (mul_nz hf.nz hg.nz) (hf.t.mul hg.t) (hf.b.mul hg.b)
theorem nrm_int (i : Int) : Nrm (i, 1) := ⟨show (0 : Int) < 1 by decide, by simp⟩
theorem plus_one {a b : Int} : plusF (a, 1) (b, 1) = (a + b, 1) := by
  unfold plusF
  simp only [Int.mul_one]
  exact low_self (nrm_int _)
theorem times_nought {f : Fr} (h : f.2 ≠ 0) : timesF (0, 1) f = (0, 1) := by
  unfold timesF
  exact low_eq (by simpa using h) (nrm_int 0) (by simp)
theorem plus_nought {f : Fr} (h : Nrm f) : plusF f (0, 1) = f := by
  unfold plusF
  simp only [Int.mul_one, Int.zero_mul, Int.add_zero]
  exact low_self h
theorem nrm_zero {f : Fr} (h : Nrm f) : f.1 = 0 ↔ f = (0, 1) := by
  constructor
  · intro z
    exact nrm_uniq h (nrm_int 0) (by rw [z]; simp)
  · intro z; rw [z]
end
end DL

set_option Elab.async false
set_option linter.all false
set_option maxRecDepth 100000
/-! DN: data that can be shown; comprehensions. -/
namespace DL
open PySem PySem.Spec PyProof.Rows
noncomputable section
/-- what `repr` needs -/
structure Dat (k b : Nat) (d : D) : Prop where
  pl : d.pl k = true
  sh : d.py.showable = true
  lf : d.py.leavesShort 1921 = true
  bk : d.py.bulk ≤ b
structure DatL (k b : Nat) (xs : List D) : Prop where
  pl : D.plL k xs = true
  sh : PyData.showableAll (D.pyL xs) = true
  lf : PyData.leavesShortAll 1921 (D.pyL xs) = true
  bk : PyData.bulkAll (D.pyL xs) ≤ b
theorem Dat.mono {k b c : Nat} {d : D} (h : Dat k b d) (l : b ≤ c) : Dat k c d := ⟨h.pl, h.sh, h.lf, Nat.le_trans h.bk l⟩
theorem DatL.nil {k : Nat} : DatL k 0 [] := ⟨rfl, rfl, rfl, Nat.le_refl _⟩
theorem DatL.cons {k b c : Nat} {x : D} {xs : List D} (h : Dat k b x) (g : DatL k c xs) : DatL k (b + 1 + c) (x :: xs) := by
  refine ⟨?_, ?_, ?_, ?_⟩
  · simp only [D.plL, h.pl, g.pl, Bool.and_self]
  · simp only [D.pyL, PyData.showableAll, h.sh, g.sh, Bool.and_self]
  · simp only [D.pyL, PyData.leavesShortAll, h.lf, g.lf, Bool.and_self]
  · have := h.bk; have := g.bk
    simp only [D.pyL, PyData.bulkAll]; omega
theorem DatL.all {k b : Nat} : ∀ {xs : List D} {n : Nat}, (∀ x ∈ xs, Dat k b x) → xs.length ≤ n → DatL k (n * (b + 1)) xs
  | [], _, _, _ => ⟨rfl, rfl, rfl, Nat.zero_le _⟩
  | x :: xs, 0, _, l => absurd l (by simp)
  | x :: xs, n + 1, h, l => by
    have g := DatL.cons (h x (by simp)) (DatL.all (xs := xs) (n := n) (fun y hy => h y (by simp [hy])) (by simpa using l))
    rw [Nat.add_mul, Nat.one_mul, Nat.add_comm]
    exact g
theorem DatL.mono {k b c : Nat} {d : List D} (h : DatL k b d) (l : b ≤ c) : DatL k c d := ⟨h.pl, h.sh, h.lf, Nat.le_trans h.bk l⟩
theorem Dat.int {k m : Nat} {i : Int} (h : Sz m i) (hm : 0 < m) (hl : m ≤ 1920) : Dat k 0 (.int i) := by
  have l : i.natAbs.log2 < 1920 := Nat.lt_of_lt_of_le (h.log hm) hl
  refine ⟨rfl, by simp [D.py, PyData.showable, l], ?_, Nat.le_refl _⟩
  simp only [D.py, PyData.leavesShort, decide_eq_true_eq]
  exact PyProof.Rows.int_text_len_1921 l
theorem Dat.bl {k : Nat} {b : Bool} : Dat k 0 (.bl b) := ⟨rfl, rfl, rfl, Nat.le_refl _⟩
theorem Dat.non {k : Nat} : Dat k 0 .non := ⟨rfl, rfl, rfl, Nat.le_refl _⟩
theorem Dat.str {k : Nat} {s : Str} (h : PyData.strOk s = true) : Dat k s.length (.str s) := by
  refine ⟨h, rfl, ?_, Nat.le_refl _⟩
  simp only [D.py, PyData.leavesShort, List.all_eq_true, decide_eq_true_eq]
  intro c hc
  have h' : s.cps.all (· < 0x110000) = true := h
  rw [Array.all_eq_true'] at h'
  have := h' c (by simpa using hc)
  simp only [decide_eq_true_eq] at this
  omega
theorem Dat.lst {k b : Nat} {xs : List D} (h : DatL k b xs) : Dat (k + 1) b (.lst xs) := ⟨by simp only [D.pl, Nat.add_sub_cancel, h.pl]; simp, by simp only [D.py, PyData.showable]; exact h.sh, by simp only [D.py, PyData.leavesShort]; exact h.lf, by simp only [D.py, PyData.bulk]; exact h.bk⟩
theorem Dat.tup {k b : Nat} {xs : List D} (h : DatL k b xs) : Dat (k + 1) b (.tup xs) := ⟨by simp only [D.pl, Nat.add_sub_cancel, h.pl]; simp, by simp only [D.py, PyData.showable]; exact h.sh, by simp only [D.py, PyData.leavesShort]; exact h.lf, by simp only [D.py, PyData.bulk]; exact h.bk⟩
/-- what `repr` needs, an empty table among it -/
structure DatE (k b : Nat) (d : D) : Prop where
  pl : d.pr k = true
  sh : d.py.showable = true
  lf : d.py.leavesShort 1921 = true
  bk : d.py.bulk ≤ b
structure DatEL (k b : Nat) (xs : List D) : Prop where
  pl : D.prL k xs = true
  sh : PyData.showableAll (D.pyL xs) = true
  lf : PyData.leavesShortAll 1921 (D.pyL xs) = true
  bk : PyData.bulkAll (D.pyL xs) ≤ b
theorem DatE.mono {k b c : Nat} {d : D} (h : DatE k b d) (l : b ≤ c) : DatE k c d := ⟨h.pl, h.sh, h.lf, Nat.le_trans h.bk l⟩
theorem DatEL.nil {k : Nat} : DatEL k 0 [] := ⟨rfl, rfl, rfl, Nat.le_refl _⟩
theorem DatEL.cons {k b c : Nat} {x : D} {xs : List D} (h : DatE k b x) (g : DatEL k c xs) : DatEL k (b + 1 + c) (x :: xs) := by
  refine ⟨?_, ?_, ?_, ?_⟩
  · simp only [D.prL, h.pl, g.pl, Bool.and_self]
  · simp only [D.pyL, PyData.showableAll, h.sh, g.sh, Bool.and_self]
  · simp only [D.pyL, PyData.leavesShortAll, h.lf, g.lf, Bool.and_self]
  · have := h.bk; have := g.bk
    simp only [D.pyL, PyData.bulkAll]; omega
theorem DatEL.all {k b : Nat} : ∀ {xs : List D} {n : Nat}, (∀ x ∈ xs, DatE k b x) → xs.length ≤ n → DatEL k (n * (b + 1)) xs
  | [], _, _, _ => ⟨rfl, rfl, rfl, Nat.zero_le _⟩
  | x :: xs, 0, _, l => absurd l (by simp)
  | x :: xs, n + 1, h, l => by
    have g := DatEL.cons (h x (by simp)) (DatEL.all (xs := xs) (n := n) (fun y hy => h y (by simp [hy])) (by simpa using l))
    rw [Nat.add_mul, Nat.one_mul, Nat.add_comm]
    exact g
theorem DatEL.mono {k b c : Nat} {d : List D} (h : DatEL k b d) (l : b ≤ c) : DatEL k c d := ⟨h.pl, h.sh, h.lf, Nat.le_trans h.bk l⟩
theorem DatE.int {k m : Nat} {i : Int} (h : Sz m i) (hm : 0 < m) (hl : m ≤ 1920) : DatE k 0 (.int i) := by
  have l : i.natAbs.log2 < 1920 := Nat.lt_of_lt_of_le (h.log hm) hl
  refine ⟨rfl, by simp [D.py, PyData.showable, l], ?_, Nat.le_refl _⟩
  simp only [D.py, PyData.leavesShort, decide_eq_true_eq]
  exact PyProof.Rows.int_text_len_1921 l
theorem DatE.bl {k : Nat} {b : Bool} : DatE k 0 (.bl b) := ⟨rfl, rfl, rfl, Nat.le_refl _⟩
theorem DatE.non {k : Nat} : DatE k 0 .non := ⟨rfl, rfl, rfl, Nat.le_refl _⟩
theorem DatE.str {k : Nat} {s : Str} (h : PyData.strOk s = true) : DatE k s.length (.str s) := by
  refine ⟨h, rfl, ?_, Nat.le_refl _⟩
  simp only [D.py, PyData.leavesShort, List.all_eq_true, decide_eq_true_eq]
  intro c hc
  have h' : s.cps.all (· < 0x110000) = true := h
  rw [Array.all_eq_true'] at h'
  have := h' c (by simpa using hc)
  simp only [decide_eq_true_eq] at this
  omega
theorem DatE.lst {k b : Nat} {xs : List D} (h : DatEL k b xs) : DatE (k + 1) b (.lst xs) := ⟨by simp only [D.pr, Nat.add_sub_cancel, h.pl]; simp, by simp only [D.py, PyData.showable]; exact h.sh, by simp only [D.py, PyData.leavesShort]; exact h.lf, by simp only [D.py, PyData.bulk]; exact h.bk⟩
theorem DatE.tup {k b : Nat} {xs : List D} (h : DatEL k b xs) : DatE (k + 1) b (.tup xs) := ⟨by simp only [D.pr, Nat.add_sub_cancel, h.pl]; simp, by simp only [D.py, PyData.showable]; exact h.sh, by simp only [D.py, PyData.leavesShort]; exact h.lf, by simp only [D.py, PyData.bulk]; exact h.bk⟩
theorem DatE.dE {k : Nat} : DatE (k + 1) 0 .dE := ⟨by simp [D.pr], rfl, rfl, Nat.le_refl _⟩
theorem Dat.e {k b : Nat} {d : D} (h : Dat k b d) : DatE k b d := ⟨D.pr_of h.pl, h.sh, h.lf, h.bk⟩
theorem DatL.e {k b : Nat} {d : List D} (h : DatL k b d) : DatEL k b d := ⟨D.prL_of h.pl, h.sh, h.lf, h.bk⟩
theorem DatE.shows {b : Nat} {k : Nat} {d : D} (h : DatE k b d) (hb : b ≤ 8000) : d.shows = true := by
  have := PyData.shown_le_bulk 1921 (by decide) d.py h.lf
  have e : (1921 + 2) * d.py.bulk ≤ 1923 * 8000 := Nat.mul_le_mul (Nat.le_refl _) (Nat.le_trans h.bk hb)
  unfold D.shows
  rw [h.sh, sizeLine_eq]
  simp
  omega
theorem Dat.shows {b : Nat} {k : Nat} {d : D} (h : Dat k b d) (hb : b ≤ 8000) : d.shows = true := h.e.shows hb
theorem o_reprE {S : Sto} {P : D → Sto → Prop} {d : D} {b : Nat} (h : DatE 60 b d) (hb : b ≤ 8000) (q : P (.str d.shown) S) : Ok (fRepr [d] S) P := by
  have e : topD S d = d := by
    cases d with
    | cell n => exact absurd h.pl (by simp [D.pr])
    | _ => rfl
  refine o_repr (by rw [e]; exact h.pl) (by rw [e]; exact h.shows hb) ?_
  rw [e]; exact q
theorem o_reprD {S : Sto} {P : D → Sto → Prop} {d : D} {b : Nat} (h : Dat 60 b d) (hb : b ≤ 8000) (q : P (.str d.shown) S) : Ok (fRepr [d] S) P := o_reprE h.e hb q
mutual
theorem pl_up : ∀ {d : D} {k m : Nat}, k ≤ m → d.pl k = true → d.pl m = true
  | .non, _, _, _, _ => rfl
  | .bl b, _, _, _, _ => rfl
  | .int i, _, _, _, _ => rfl
  | .str s, _, _, _, h => by simpa [D.pl] using h
  | .tup xs, k, m, l, h => by
    simp only [D.pl, Bool.and_eq_true, decide_eq_true_eq] at h ⊢
    exact ⟨by omega, plL_up (by omega) h.2⟩
  | .lst xs, k, m, l, h => by
    simp only [D.pl, Bool.and_eq_true, decide_eq_true_eq] at h ⊢
    exact ⟨by omega, plL_up (by omega) h.2⟩
  | .ro xs, k, m, l, h => by
    simp only [D.pl, Bool.and_eq_true, decide_eq_true_eq] at h ⊢
    exact ⟨by omega, plL_up (by omega) h.2⟩
  | .cell n, _, _, _, h => by simp [D.pl] at h
  | .ty n, _, _, _, h => by simp [D.pl] at h
  | .dE, _, _, _, h => by simp [D.pl] at h
theorem plL_up : ∀ {ds : List D} {k m : Nat}, k ≤ m → D.plL k ds = true → D.plL m ds = true
  | [], _, _, _, _ => rfl
  | d :: ds, k, m, l, h => by
    simp only [D.plL, Bool.and_eq_true] at h ⊢
    exact ⟨pl_up l h.1, plL_up l h.2⟩
end
mutual
theorem pr_up : ∀ {d : D} {k m : Nat}, k ≤ m → d.pr k = true → d.pr m = true
  | .non, _, _, _, _ => rfl
  | .bl b, _, _, _, _ => rfl
  | .int i, _, _, _, _ => rfl
  | .str s, _, _, _, h => by simpa [D.pr] using h
  | .tup xs, k, m, l, h => by
    simp only [D.pr, Bool.and_eq_true, decide_eq_true_eq] at h ⊢
    exact ⟨by omega, prL_up (by omega) h.2⟩
  | .lst xs, k, m, l, h => by
    simp only [D.pr, Bool.and_eq_true, decide_eq_true_eq] at h ⊢
    exact ⟨by omega, prL_up (by omega) h.2⟩
  | .ro xs, k, m, l, h => by
    simp only [D.pr, Bool.and_eq_true, decide_eq_true_eq] at h ⊢
    exact ⟨by omega, prL_up (by omega) h.2⟩
  | .cell n, _, _, _, h => by simp [D.pr] at h
  | .ty n, _, _, _, h => by simp [D.pr] at h
  | .dE, k, m, l, h => by
    simp only [D.pr, decide_eq_true_eq] at h ⊢
    omega
theorem prL_up : ∀ {ds : List D} {k m : Nat}, k ≤ m → D.prL k ds = true → D.prL m ds = true
  | [], _, _, _, _ => rfl
  | d :: ds, k, m, l, h => by
    simp only [D.prL, Bool.and_eq_true] at h ⊢
    exact ⟨pr_up l h.1, prL_up l h.2⟩
end
theorem Dat.up {k m b : Nat} {d : D} (h : Dat k b d) (l : k ≤ m) : Dat m b d := ⟨pl_up l h.pl, h.sh, h.lf, h.bk⟩
theorem DatL.up {k m b : Nat} {d : List D} (h : DatL k b d) (l : k ≤ m) : DatL m b d := ⟨plL_up l h.pl, h.sh, h.lf, h.bk⟩
theorem DatE.up {k m b : Nat} {d : D} (h : DatE k b d) (l : k ≤ m) : DatE m b d := ⟨pr_up l h.pl, h.sh, h.lf, h.bk⟩
/-! ### lists of one make -/
theorem made {α : Type} {Q : α → Prop} {g : α → D} : ∀ {xs : List D}, (∀ d ∈ xs, ∃ f, Q f ∧ d = g f) → ∃ l : List α, (∀ f ∈ l, Q f) ∧ xs = l.map g
  | [], _ => ⟨[], by simp, rfl⟩
  | x :: xs, h => by
    obtain ⟨f, q, e⟩ := h x (by simp)
    obtain ⟨l, ql, el⟩ := made (xs := xs) fun d hd => h d (by simp [hd])
    refine ⟨f :: l, ?_, by rw [e, el]; rfl⟩
    intro g hg
    rcases List.mem_cons.mp hg with rfl | hg
    · exact q
    · exact ql g hg
theorem blsOf_map : ∀ bs : List Bool, blsOf (bs.map D.bl) = some bs
  | [] => rfl
  | b :: bs => by simp only [List.map_cons, blsOf, blsOf_map bs]; rfl
theorem intsOf_map : ∀ bs : List Int, intsOf (bs.map D.int) = some bs
  | [] => rfl
  | b :: bs => by simp only [List.map_cons, intsOf, intsOf_map bs]; rfl
theorem cut_from (xs : List D) (k : Nat) : cutD xs (some (k : Int)) none = xs.drop k := by
  unfold cutD
  rw [HT.sIx_nat, HT.sIx_none]
  by_cases h : k ≤ xs.length
  · rw [Nat.min_eq_left h, List.take_of_length_le (by simp)]
  · rw [Nat.min_eq_right (by omega), List.drop_of_length_le (Nat.le_refl _), List.drop_of_length_le (by omega)]; simp
theorem cut_to (xs : List D) (k : Nat) : cutD xs none (some (k : Int)) = xs.take k := by
  unfold cutD
  rw [HT.sIx_nat, HT.sIx_none]
  by_cases h : k ≤ xs.length
  · rw [Nat.min_eq_left h]; simp
  · rw [Nat.min_eq_right (by omega), List.take_of_length_le (by simp), List.take_of_length_le (by omega)]; simp
theorem cut_toZ {xs : List D} {z : Int} (h : 0 ≤ z) : cutD xs none (some z) = xs.take z.toNat := by
  have e : z = (z.toNat : Int) := by omega
  rw [e, cut_to]; rfl
theorem cut_fromZ {xs : List D} {z : Int} (h : 0 ≤ z) : cutD xs (some z) none = xs.drop z.toNat := by
  have e : z = (z.toNat : Int) := by omega
  rw [e, cut_from]; rfl
theorem rng_get {n i : Nat} {d : D} (h : ((List.range n).map fun i : Nat => D.int i)[i]? = some d) : ∃ z : Int, 0 ≤ z ∧ z < n ∧ d = .int z := by
  rw [List.getElem?_map] at h
  cases e : (List.range n)[i]? with
  | none => rw [e] at h; exact absurd h (by simp)
  | some a =>
    rw [e] at h
    have := List.mem_range.mp (List.mem_of_getElem? e)
    exact ⟨a, by omega, by omega, by simpa using h.symm⟩
theorem zipD_map {α β : Type} (f : α → D) (g : β → D) : ∀ (xs : List α) (ys : List β), zipD (xs.map f) (ys.map g) = (xs.zip ys).map fun p => .tup [f p.1, g p.2]
  | [], _ => rfl
  | _ :: _, [] => rfl
  | x :: xs, y :: ys => by simp only [List.map_cons, zipD, List.zip_cons_cons, zipD_map f g xs ys]
theorem getElem?_map_some {α : Type} {f : α → D} {l : List α} {i : Nat} {d : D} (h : (l.map f)[i]? = some d) : ∃ a, l[i]? = some a ∧ d = f a := by
  rw [List.getElem?_map] at h
  cases e : l[i]? with
  | none => rw [e] at h; exact absurd h (by simp)
  | some a => rw [e] at h; exact ⟨a, rfl, by simpa using h.symm⟩
/-! ### comprehensions -/
section
variable {T : Tg} {c : BM} {e : EM} {ρw : Env} {S : Sto} {PL : List D → Sto → Prop}
theorem lc_map {α : Type} {l : List α} {f g : α → D} (hz : l.length ≤ sizeLine)
    (hs : ∀ a ∈ l, ∃ ρ', asg T (f a) ρw = some ρ' ∧ Ok (e ρ' S) fun y S2 => y = g a ∧ S2 = S) (k : PL (l.map g) S) : Ok (lcLoop (itL (l.map f)).nx T bYes e ρw (itL (l.map f)).fu 0 [] S) PL := by
  refine k_lcL (fun i acc S' => acc = (l.take i).map g ∧ S' = S) ⟨by simp, rfl⟩ ?_ ?_
  · intro i acc S' d hd ⟨e1, e2⟩
    obtain ⟨a, ha, rfl⟩ := getElem?_map_some hd
    have hm := List.mem_of_getElem? ha
    have hi := (List.getElem?_eq_some_iff.mp ha).1
    obtain ⟨ρ', h1, h2⟩ := hs a hm
    refine ⟨ρ', h1, ?_⟩
    refine k_yes ?_
    rw [if_pos rfl, e2]
    refine h2.imp fun y S2 ⟨hy, hS⟩ => ⟨?_, ?_, hS⟩
    · rw [e1]; simp; omega
    · rw [e1, hy, List.take_add_one, ha]; simp
  · intro acc S' ⟨e1, e2⟩
    rw [e1, e2]
    simpa using k
theorem lc_keep {α : Type} {l : List α} {f g : α → D} {b : α → Bool} (hz : l.length ≤ sizeLine)
    (hs : ∀ a ∈ l, ∃ ρ', asg T (f a) ρw = some ρ' ∧ Ok (c ρ' S) fun k S1 => k = b a ∧ S1 = S ∧ (b a = true → Ok (e ρ' S) fun y S2 => y = g a ∧ S2 = S)) (k : PL ((l.filter b).map g) S) : Ok (lcLoop (itL (l.map f)).nx T c e ρw (itL (l.map f)).fu 0 [] S) PL := by
  refine k_lcL (fun i acc S' => acc = ((l.take i).filter b).map g ∧ S' = S) ⟨by simp, rfl⟩ ?_ ?_
  · intro i acc S' d hd ⟨e1, e2⟩
    obtain ⟨a, ha, rfl⟩ := getElem?_map_some hd
    have hm := List.mem_of_getElem? ha
    have hi := (List.getElem?_eq_some_iff.mp ha).1
    obtain ⟨ρ', h1, h2⟩ := hs a hm
    refine ⟨ρ', h1, ?_⟩
    rw [e2]
    refine h2.imp fun z S1 ⟨hk, hS, h3⟩ => ?_
    subst hk hS
    have ht : (l.take (i + 1)).filter b = (l.take i).filter b ++ (if b a = true then [a] else []) := by
      rw [List.take_add_one, ha, List.filter_append]
      simp only [Option.toList_some, List.filter_cons, List.filter_nil]
    have hl : ((l.take i).filter b).length ≤ i := Nat.le_trans (List.length_filter_le _ _) (by simp; omega)
    by_cases hb : b a = true
    · rw [if_pos hb]
      refine (h3 hb).imp fun y S2 ⟨hy, hS⟩ => ⟨?_, ?_, hS⟩
      · rw [e1, List.length_map]; omega
      · rw [e1, hy, ht, if_pos hb, List.map_append]; rfl
    · rw [if_neg hb]
      refine ⟨?_, rfl⟩
      rw [e1, ht, if_neg hb, List.append_nil]
  · intro acc S' ⟨e1, e2⟩
    rw [e1, e2]
    simpa using k
/-- a walk over what stays, kept in a cell or not -/
theorem k_forN {T : Tg} {b : SD} {xs : List D} {nx : Nat → Sto → Option (Option D)} {fu : Nat} {ρ : DL.Env} {PS : Flw → DL.Env → Sto → Prop} (I : Nat → DL.Env → Sto → Prop) (hf : fu = xs.length + 1) (h0 : I 0 ρ S)
    (hx : ∀ i ρ S, I i ρ S → nx i S = some xs[i]?)
    (hs : ∀ i ρ S d, xs[i]? = some d → I i ρ S → ∃ ρ', asg T d ρ = some ρ' ∧ OkS (b ρ' S) fun f ρ2 S2 => match f with
      | .nx => I (i + 1) ρ2 S2
      | .cnt => I (i + 1) ρ2 S2
      | .brk => PS .nx ρ2 S2
      | .ret d => PS (.ret d) ρ2 S2)
    (hd : ∀ ρ S, I xs.length ρ S → PS .nx ρ S) : OkS (forLoop nx T b fu 0 ρ S) PS := by
  have go : ∀ (k i : Nat) (ρ : DL.Env) (S : Sto), k + i = xs.length + 1 → i ≤ xs.length → I i ρ S → OkS (forLoop nx T b k i ρ S) PS := by
    intro k
    induction k with
    | zero => intro i ρ S e l _; omega
    | succ k ih =>
      intro i ρ S e l hI
      unfold forLoop
      rw [hx i ρ S hI]
      by_cases hi : i < xs.length
      · obtain ⟨ρ', ea, hb⟩ := hs i ρ S xs[i] (List.getElem?_eq_getElem hi) hI
        rw [List.getElem?_eq_getElem hi]
        dsimp only
        rw [ea]
        dsimp only
        cases eb : b ρ' S with
        | exc x ρ1 S1 => rw [eb] at hb; exact hb.out.elim
        | stuck => rw [eb] at hb; exact hb.out.elim
        | ok f ρ1 S1 =>
          rw [eb] at hb
          cases f with
          | nx => exact ih (i + 1) ρ1 S1 (by omega) hi hb.out
          | cnt => exact ih (i + 1) ρ1 S1 (by omega) hi hb.out
          | brk => exact ⟨hb.out⟩
          | ret d => exact ⟨hb.out⟩
      · have : i = xs.length := by omega
        subst this
        rw [List.getElem?_eq_none (Nat.le_refl _)]
        exact ⟨hd ρ S hI⟩
  rw [hf]
  exact go (xs.length + 1) 0 ρ S (by omega) (Nat.zero_le _) h0
theorem k_lcN {xs : List D} {nx : Nat → Sto → Option (Option D)} {fu : Nat} (I : Nat → List D → Sto → Prop) (hf : fu = xs.length + 1) (h0 : I 0 [] S) (hx : ∀ i acc S, I i acc S → nx i S = some xs[i]?)
    (hs : ∀ i acc S d, xs[i]? = some d → I i acc S → ∃ ρ', asg T d ρw = some ρ' ∧ Ok (c ρ' S) fun k S1 => if k = true then Ok (e ρ' S1) fun y S2 => acc.length < sizeLine ∧ I (i + 1) (acc ++ [y]) S2 else I (i + 1) acc S1)
    (hd : ∀ acc S, I xs.length acc S → PL acc S) : Ok (lcLoop nx T c e ρw fu 0 [] S) PL := by
  have go : ∀ (k i : Nat) (acc : List D) (S : Sto), k + i = xs.length + 1 → i ≤ xs.length → I i acc S → Ok (lcLoop nx T c e ρw k i acc S) PL := by
    intro k
    induction k with
    | zero => intro i acc S e l _; omega
    | succ k ih =>
      intro i acc S el l hI
      unfold lcLoop
      rw [hx i acc S hI]
      by_cases hi : i < xs.length
      · obtain ⟨ρ', ea, hb⟩ := hs i acc S xs[i] (List.getElem?_eq_getElem hi) hI
        rw [List.getElem?_eq_getElem hi]
        dsimp only
        rw [ea]
        dsimp only
        refine Ok.bind (hb.imp fun k S1 q => ?_)
        cases k with
        | false => exact ih (i + 1) acc S1 (by omega) hi q
        | true => exact Ok.bind (q.imp fun y S2 q2 => by rw [if_pos q2.1]; exact ih (i + 1) _ S2 (by omega) hi q2.2)
      · have : i = xs.length := by omega
        subst this
        rw [List.getElem?_eq_none (Nat.le_refl _)]
        exact ⟨hd acc S hI⟩
  rw [hf]
  exact go (xs.length + 1) 0 [] S (by omega) (Nat.zero_le _) h0
theorem lc_mapN {α : Type} {l : List α} {f g : α → D} {nx : Nat → Sto → Option (Option D)} {fu : Nat} (hf : fu = l.length + 1) (hx : ∀ i, nx i S = some (l.map f)[i]?) (hz : l.length ≤ sizeLine)
    (hs : ∀ a ∈ l, ∃ ρ', asg T (f a) ρw = some ρ' ∧ Ok (e ρ' S) fun y S2 => y = g a ∧ S2 = S) (k : PL (l.map g) S) : Ok (lcLoop nx T bYes e ρw fu 0 [] S) PL := by
  refine k_lcN (xs := l.map f) (fun i acc S' => acc = (l.take i).map g ∧ S' = S) (by simpa using hf) ⟨by simp, rfl⟩ (fun i acc S' h => by rw [h.2]; exact hx i) ?_ ?_
  · intro i acc S' d hd ⟨e1, e2⟩
    obtain ⟨a, ha, rfl⟩ := getElem?_map_some hd
    have hm := List.mem_of_getElem? ha
    have hi := (List.getElem?_eq_some_iff.mp ha).1
    obtain ⟨ρ', h1, h2⟩ := hs a hm
    refine ⟨ρ', h1, ?_⟩
    refine k_yes ?_
    rw [if_pos rfl, e2]
    refine h2.imp fun y S2 ⟨hy, hS⟩ => ⟨?_, ?_, hS⟩
    · rw [e1]; simp; omega
    · rw [e1, hy, List.take_add_one, ha]; simp
  · intro acc S' ⟨e1, e2⟩
    rw [e1, e2]
    simpa using k
theorem lc_keepN {α : Type} {l : List α} {f g : α → D} {b : α → Bool} {nx : Nat → Sto → Option (Option D)} {fu : Nat} (hf : fu = l.length + 1) (hx : ∀ i, nx i S = some (l.map f)[i]?) (hz : l.length ≤ sizeLine)
    (hs : ∀ a ∈ l, ∃ ρ', asg T (f a) ρw = some ρ' ∧ Ok (c ρ' S) fun k S1 => k = b a ∧ S1 = S ∧ (b a = true → Ok (e ρ' S) fun y S2 => y = g a ∧ S2 = S)) (k : PL ((l.filter b).map g) S) : Ok (lcLoop nx T c e ρw fu 0 [] S) PL := by
  refine k_lcN (xs := l.map f) (fun i acc S' => acc = ((l.take i).filter b).map g ∧ S' = S) (by simpa using hf) ⟨by simp, rfl⟩ (fun i acc S' h => by rw [h.2]; exact hx i) ?_ ?_
  · intro i acc S' d hd ⟨e1, e2⟩
    obtain ⟨a, ha, rfl⟩ := getElem?_map_some hd
    have hm := List.mem_of_getElem? ha
    have hi := (List.getElem?_eq_some_iff.mp ha).1
    obtain ⟨ρ', h1, h2⟩ := hs a hm
    refine ⟨ρ', h1, ?_⟩
    rw [e2]
    refine h2.imp fun z S1 ⟨hk, hS, h3⟩ => ?_
    subst hk hS
    have ht : (l.take (i + 1)).filter b = (l.take i).filter b ++ (if b a = true then [a] else []) := by
      rw [List.take_add_one, ha, List.filter_append]
      simp only [Option.toList_some, List.filter_cons, List.filter_nil]
    have hl : ((l.take i).filter b).length ≤ i := Nat.le_trans (List.length_filter_le _ _) (by simp; omega)
    by_cases hb : b a = true
    · rw [if_pos hb]
      refine (h3 hb).imp fun y S2 ⟨hy, hS⟩ => ⟨?_, ?_, hS⟩
      · rw [e1, List.length_map]; omega
      · rw [e1, hy, ht, if_pos hb, List.map_append]; rfl
    · rw [if_neg hb]
      refine ⟨?_, rfl⟩
      rw [e1, ht, if_neg hb, List.append_nil]
  · intro acc S' ⟨e1, e2⟩
    rw [e1, e2]
    simpa using k
theorem lc_anyN {xs : List D} {Q : D → Prop} {R : Sto → Prop} {nx : Nat → Sto → Option (Option D)} {fu : Nat} (hf : fu = xs.length + 1) (hx : ∀ i S', R S' → nx i S' = some xs[i]?) (hz : xs.length ≤ sizeLine) (h0 : R S)
    (hs : ∀ d ∈ xs, ∀ S1, R S1 → ∃ ρ', asg T d ρw = some ρ' ∧ Ok (e ρ' S1) fun y S2 => Q y ∧ R S2) (k : ∀ ys S', ys.length = xs.length → (∀ y ∈ ys, Q y) → R S' → PL ys S') : Ok (lcLoop nx T bYes e ρw fu 0 [] S) PL := by
  refine k_lcN (xs := xs) (fun i acc S' => acc.length = i ∧ (∀ y ∈ acc, Q y) ∧ R S') hf ⟨rfl, by simp, h0⟩ (fun i acc S' h => hx i S' h.2.2) ?_ ?_
  · intro i acc S' d hd ⟨e1, e2, e3⟩
    have hm := List.mem_of_getElem? hd
    have hi := (List.getElem?_eq_some_iff.mp hd).1
    obtain ⟨ρ', h1, h2⟩ := hs d hm S' e3
    refine ⟨ρ', h1, ?_⟩
    refine k_yes ?_
    rw [if_pos rfl]
    refine h2.imp fun y S2 ⟨hy, hS⟩ => ⟨by omega, by simp [e1], ?_, hS⟩
    intro z hz
    rcases List.mem_append.mp hz with hz | hz
    · exact e2 z hz
    · rw [List.mem_singleton.mp hz]; exact hy
  · intro acc S' ⟨e1, e2, e3⟩
    exact k acc S' e1 e2 e3
theorem o_mulC {xs : List D} {i : Int} {P : D → Sto → Prop} (h1 : -(2 ^ 63) ≤ i) (h2 : i < 2 ^ 63) (hz : xs.length * i.toNat ≤ sizeLine) (q : P (.cell S.length) (S ++ [some (.lst (List.replicate i.toNat xs).flatten)])) : Ok (oMulC (.lst xs) (.int i) S) P := by
  unfold oMulC
  show Ok (if -(2 ^ 63) ≤ i ∧ i < 2 ^ 63 ∧ xs.length * i.toNat ≤ sizeLine then _ else _) P
  rw [if_pos ⟨h1, h2, hz⟩]; exact ⟨q⟩
theorem i_cell {n : Nat} {xs : List D} {PI : ItD → Sto → Prop} (h : S[n]? = some (some (.lst xs))) (q : PI (itC n xs.length) S) : Ok (mItL (.cell n) S) PI := by
  unfold mItL
  dsimp only
  rw [h]; exact ⟨q⟩
theorem itC_nx {n i k : Nat} {xs : List D} (h : S[n]? = some (some (.lst xs))) : (itC n k).nx i S = some xs[i]? := by
  unfold itC
  dsimp only
  rw [h]
theorem i_zipC {n : Nat} {xs ys : List D} {PI : ItD → Sto → Prop} (h : S[n]? = some (some (.lst xs))) (q : PI (itZ (.cell n) (.lst ys) (zipD xs ys).length) S) : Ok (mItZ [.cell n, .lst ys] S) PI := by
  unfold mItZ
  simp only [frozenL, DL.listOf, h]
  exact ⟨q⟩
theorem itZ_nx {n i k : Nat} {xs ys : List D} (h : S[n]? = some (some (.lst xs))) : (itZ (.cell n) (.lst ys) k).nx i S = some (zipD xs ys)[i]? := by
  unfold itZ
  simp only [DL.listOf, h]
/-- each step draws, whatever is drawn keeps `R` -/
theorem lc_any {xs : List D} {Q : D → Prop} {R : Sto → Prop} (hz : xs.length ≤ sizeLine) (h0 : R S)
    (hs : ∀ d ∈ xs, ∀ S1, R S1 → ∃ ρ', asg T d ρw = some ρ' ∧ Ok (e ρ' S1) fun y S2 => Q y ∧ R S2) (k : ∀ ys S', ys.length = xs.length → (∀ y ∈ ys, Q y) → R S' → PL ys S') : Ok (lcLoop (itL xs).nx T bYes e ρw (itL xs).fu 0 [] S) PL := by
  refine k_lcL (fun i acc S' => acc.length = i ∧ (∀ y ∈ acc, Q y) ∧ R S') ⟨rfl, by simp, h0⟩ ?_ ?_
  · intro i acc S' d hd ⟨e1, e2, e3⟩
    have hm := List.mem_of_getElem? hd
    have hi := (List.getElem?_eq_some_iff.mp hd).1
    obtain ⟨ρ', h1, h2⟩ := hs d hm S' e3
    refine ⟨ρ', h1, ?_⟩
    refine k_yes ?_
    rw [if_pos rfl]
    refine h2.imp fun y S2 ⟨hy, hS⟩ => ⟨by omega, by simp [e1], ?_, hS⟩
    intro z hz
    rcases List.mem_append.mp hz with hz | hz
    · exact e2 z hz
    · rw [List.mem_singleton.mp hz]; exact hy
  · intro acc S' ⟨e1, e2, e3⟩
    exact k acc S' e1 e2 e3
end
theorem k_ifT {c a b : Prop} [Decidable c] (h : c) (q : a) : if c then a else b := by rw [if_pos h]; exact q
theorem k_ifF {c a b : Prop} [Decidable c] (h : ¬c) (q : b) : if c then a else b := by rw [if_neg h]; exact q
theorem k_seqQ {a b : SD} {ρ : DL.Env} {S : Sto} {PS : Flw → DL.Env → Sto → Prop} (Q : Flw → DL.Env → Sto → Prop) (h : OkS (a ρ S) Q) (k : ∀ f ρ1 S1, Q f ρ1 S1 → match f with
  | .nx => OkS (b ρ1 S1) PS
  | f => PS f ρ1 S1) : OkS (sSeq a b ρ S) PS := k_seq (h.imp k)
/-- two branches meet -/
theorem k_ite {c : Prop} [Decidable c] {r1 r2 : RS} {PS : Flw → DL.Env → Sto → Prop} (Q : Flw → DL.Env → Sto → Prop) (h1 : c → OkS r1 Q) (h2 : ¬c → OkS r2 Q) (h : ∀ f ρ S, Q f ρ S → PS f ρ S) : if c then OkS r1 PS else OkS r2 PS := by
  by_cases hc : c
  · rw [if_pos hc]; exact (h1 hc).imp h
  · rw [if_neg hc]; exact (h2 hc).imp h
theorem eqv_nil (xs : List D) : PyData.eqv (D.lst xs).py (D.lst []).py = xs.isEmpty := by
  cases xs with
  | nil => simp [D.py, D.pyL, PyData.eqv, PyData.eqvAll]
  | cons x xs => simp [D.py, D.pyL, PyData.eqv, PyData.eqvAll]
/-! ### great numbers of turns -/
theorem FU_gt {k : Nat} {i : Int} (h : Sz k i) (hk : k ≤ 100000) : i.toNat < FU := by
  have : i.natAbs < 2 ^ k := h
  have h2 : 2 ^ k ≤ 2 ^ 100000 := Nat.pow_le_pow_right (by decide) hk
  have e : FU = 2 ^ 100000 := by unfold FU; rfl
  rw [e]
  generalize (2 : Nat) ^ 100000 = z at *
  omega
end
end DL

set_option Elab.async false
set_option linter.all false
set_option maxRecDepth 100000
/-! DQ: rules for the walk that goes by itself. -/
namespace DL
open PySem PySem.Spec PyProof.Rows
noncomputable section
theorem k_cond {c : Prop} [Decidable c] {a b : Prop} (ht : c → a) (hf : ¬c → b) : if c then a else b := by
  by_cases h : c
  · rw [if_pos h]; exact ht h
  · rw [if_neg h]; exact hf h
theorem k_condB {c : Bool} {a b : Prop} (ht : c = true → a) (hf : c = false → b) : if c = true then a else b := by
  cases c with
  | true => rw [if_pos rfl]; exact ht rfl
  | false => rw [if_neg (by decide)]; exact hf rfl
theorem k_condD {p : Prop} [Decidable p] {a b : Prop} (ht : p → a) (hf : ¬p → b) : if decide p = true then a else b := by
  by_cases h : p
  · rw [if_pos (by simpa using h)]; exact ht h
  · rw [if_neg (by simpa using h)]; exact hf h
theorem k_condN {c : Bool} {a b : Prop} (ht : c = false → a) (hf : c = true → b) : if (!c) = true then a else b := by
  cases c with
  | true => rw [if_neg (by simp)]; exact hf rfl
  | false => rw [if_pos (by simp)]; exact ht rfl
theorem k_condND {p : Prop} [Decidable p] {a b : Prop} (ht : ¬p → a) (hf : p → b) : if (!decide p) = true then a else b := by
  by_cases h : p
  · rw [if_neg (by simpa using h)]; exact hf h
  · rw [if_pos (by simpa using h)]; exact ht h
theorem all_nil {Q : D → Prop} : ∀ d ∈ ([] : List D), Q d := fun _ h => absurd h (by simp)
theorem all_cons {Q : D → Prop} {x : D} {xs : List D} (h : Q x) (g : ∀ d ∈ xs, Q d) : ∀ d ∈ x :: xs, Q d := List.forall_mem_cons.mpr ⟨h, g⟩
/-- an int of a size -/
def In (k : Nat) (d : D) : Prop := ∃ i, Sz k i ∧ d = .int i
theorem in_i {k : Nat} {i : Int} (h : Sz k i) : In k (.int i) := ⟨i, h, rfl⟩
theorem k_frz' {S : Sto} {P : D → Sto → Prop} {d : D} (h : d.bel 0 = true) (q : P d S) : Ok (mFrz d S) P := by
  cases d <;> first | exact ⟨q⟩ | exact absurd h (by simp [D.bel])
theorem o_mul01 {c : Prop} [Decidable c] {k : Nat} {i : Int} {S : Sto} {P : D → Sto → Prop} (hi : Sz k i) (q : ∀ j, Sz k j → (j = i ∨ j = 0) → P (.int j) S) : Ok (oMul (.int i) (.int (if c then 1 else 0)) S) P := by
  by_cases h : c
  · rw [if_pos h]
    refine o_mul (.of_right (by decide)) ?_
    rw [Int.mul_one]
    exact q i hi (.inl rfl)
  · rw [if_neg h]
    refine o_mul (.of_right (by decide)) ?_
    rw [Int.mul_zero]
    exact q 0 (by show (0 : Int).natAbs < 2 ^ k; exact Nat.two_pow_pos k) (.inr rfl)
theorem all_repeat {Q : D → Prop} {x : D} {n : Nat} (h : Q x) : ∀ d ∈ List.replicate n x, Q d := fun d hd => by rw [List.eq_of_mem_replicate hd]; exact h
theorem all_app {Q : D → Prop} {xs ys : List D} (h : ∀ d ∈ xs, Q d) (g : ∀ d ∈ ys, Q d) : ∀ d ∈ xs ++ ys, Q d := fun d hd => (List.mem_append.mp hd).elim (h d) (g d)
mutual
/-- what can be shown holds no cell -/
theorem bel_pr {m : Nat} : ∀ {d : D} {k : Nat}, d.pr k = true → d.bel m = true
  | .non, _, _ => rfl
  | .bl b, _, _ => rfl
  | .int i, _, _ => rfl
  | .str s, _, _ => rfl
  | .tup xs, k, h => by
    simp only [D.pr, Bool.and_eq_true] at h
    simp only [D.bel]; exact belL_pr h.2
  | .lst xs, k, h => by
    simp only [D.pr, Bool.and_eq_true] at h
    simp only [D.bel]; exact belL_pr h.2
  | .ro xs, k, h => by
    simp only [D.pr, Bool.and_eq_true] at h
    simp only [D.bel]; exact belL_pr h.2
  | .cell n, _, h => by simp [D.pr] at h
  | .ty n, _, h => by simp [D.pr] at h
  | .dE, k, h => rfl
theorem belL_pr {m : Nat} : ∀ {ds : List D} {k : Nat}, D.prL k ds = true → D.belL m ds = true
  | [], _, _ => rfl
  | d :: ds, k, h => by
    simp only [D.prL, Bool.and_eq_true] at h
    simp only [D.belL, Bool.and_eq_true]
    exact ⟨bel_pr h.1, belL_pr h.2⟩
end
theorem belL_all {m : Nat} : ∀ {ds : List D}, (∀ d ∈ ds, d.bel m = true) → D.belL m ds = true
  | [], _ => rfl
  | d :: ds, h => by
    simp only [D.belL, Bool.and_eq_true]
    exact ⟨h d (by simp), belL_all fun e he => h e (by simp [he])⟩
theorem trim_go {S S' : Sto} {d : D} {P : D → Sto → Prop} (h : S'.length = S.length) (q : P d S') : P d (trim S d S') := by
  rw [trim_same h]; exact q
end
end DL

set_option Elab.async false
set_option linter.all false
set_option maxRecDepth 100000
/-! printed by gen.py: what each def of law_k18_papers_of_wishes_looked_at does to data -/
namespace Lw
open PySem DL
noncomputable section
def c_NOUGHT : D := (.tup [(.int 0), (.int 1)])
def c_MOST_NUMBERS : D := (.int 8)
def c_LEAST : D := (.str "least")
def c_JUST : D := (.str "just")
/-- is_whole(thing): 0 thing -/
def d_is_whole : SD := (sRet (eAnd (eL fIsi (aCons (eVar 0) (aCons (eC (.ty "int")) aNil))) (eNot (eL fIsi (aCons (eVar 0) (aCons (eC (.ty "bool")) aNil))))))
def f_is_whole : FM := runFn 1 1 d_is_whole
/-- look_at_many(many): 0 many -/
def d_look_at_many : SD := (sIf (bOr (bNot (bVal (eL f_is_whole (aCons (eVar 0) aNil)))) (bNot (bVal (eChain oLe oLe (eC (.int 0)) (eVar 0) (eC c_MOST_NUMBERS))))) sNever sNx)
def f_look_at_many : FM := runFn 1 1 d_look_at_many
/-- shared_by(one, other): 0 one, 1 other -/
def d_shared_by : SD := (sSeq (sSet 0 (eL fAbs (aCons (eVar 0) aNil))) (sSeq (sSet 1 (eL fAbs (aCons (eVar 1) aNil))) (sSeq (sWhile (bVal (e2 oGt (eVar 1) (eC (.int 0)))) (sPar 0 1 (aCons (eVar 1) (aCons (e2 oMod (eVar 0) (eVar 1)) aNil)))) (sRet (eVar 0)))))
def f_shared_by : FM := runFn 2 2 d_shared_by
/-- lowest(top, bottom): 0 top, 1 bottom, 2 by -/
def d_lowest : SD := (sSeq (sSet 2 (eL f_shared_by (aCons (eVar 0) (aCons (eVar 1) aNil)))) (sSeq (sIf (bVal (e2 oLt (eVar 1) (eC (.int 0)))) (sSet 2 (e1 oNeg (eVar 2))) sNx) (sRet (eL mTup (aCons (e2 oFdiv (eVar 0) (eVar 2)) (aCons (e2 oFdiv (eVar 1) (eVar 2)) aNil))))))
def f_lowest : FM := runFn 3 2 d_lowest
/-- plus(one, other): 0 one, 1 other -/
def d_plus : SD := (sSeq (sIf (bVal (eChain oEq oEq (e2 oIx (eVar 0) (eC (.int 1))) (e2 oIx (eVar 1) (eC (.int 1))) (eC (.int 1)))) (sRet (eL mTup (aCons (e2 oAdd (e2 oIx (eVar 0) (eC (.int 0))) (e2 oIx (eVar 1) (eC (.int 0)))) (aCons (eC (.int 1)) aNil)))) sNx) (sRet (eL f_lowest (aCons (e2 oAdd (e2 oMul (e2 oIx (eVar 0) (eC (.int 0))) (e2 oIx (eVar 1) (eC (.int 1)))) (e2 oMul (e2 oIx (eVar 1) (eC (.int 0))) (e2 oIx (eVar 0) (eC (.int 1))))) (aCons (e2 oMul (e2 oIx (eVar 0) (eC (.int 1))) (e2 oIx (eVar 1) (eC (.int 1)))) aNil)))))
def f_plus : FM := runFn 2 2 d_plus
/-- times(one, other): 0 one, 1 other -/
def d_times : SD := (sRet (eL f_lowest (aCons (e2 oMul (e2 oIx (eVar 0) (eC (.int 0))) (e2 oIx (eVar 1) (eC (.int 0)))) (aCons (e2 oMul (e2 oIx (eVar 0) (eC (.int 1))) (e2 oIx (eVar 1) (eC (.int 1)))) aNil))))
def f_times : FM := runFn 2 2 d_times
/-- worth(line, numbers): 0 line, 1 numbers, 2 found, 3 factor, 4 number -/
def d_worth : SD := (sSeq (sSet 2 (eL mTup (aCons (e2 oIx (eVar 0) (eC (.int 0))) (aCons (eC (.int 1)) aNil)))) (sSeq (sFor (imOfA mItZ (aCons (eSl oSl (eVar 0) (oSome (eC (.int 1))) oNone) (aCons (eVar 1) aNil))) (.tup [.nm 3, .nm 4]) (sIf (bVal (e2 oNe (eVar 3) (eC (.int 0)))) (sSet 2 (eL f_plus (aCons (eVar 2) (aCons (eL f_times (aCons (eL mTup (aCons (eVar 3) (aCons (eC (.int 1)) aNil))) (aCons (eVar 4) aNil))) aNil)))) sNx)) (sRet (eVar 2))))
def f_worth : FM := runFn 5 2 d_worth
/-- is_granted(wish, numbers): 0 wish, 1 numbers, 2 found, 3 word, 4 line -/
def d_is_granted : SD := (sSeq (sAsg (.tup [.nm 3, .nm 4]) (eVar 0)) (sSeq (sSet 2 (eL f_worth (aCons (eVar 4) (aCons (eVar 1) aNil)))) (sSeq (sIf (bVal (e2 oEq (eVar 3) (eC c_JUST))) (sRet (e2 oEq (eVar 2) (eC c_NOUGHT))) sNx) (sRet (e2 oGe (e2 oIx (eVar 2) (eC (.int 0))) (eC (.int 0)))))))
def f_is_granted : FM := runFn 5 2 d_is_granted
/-- grants(wishes, numbers): 0 wishes, 1 numbers, 2 wish -/
def d_grants : SD := (sRet (eL fAll (aCons (eLc (imOf mItL (eVar 0)) (.nm 2) bYes (eL f_is_granted (aCons (eVar 2) (aCons (eVar 1) aNil))) [2]) aNil)))
def f_grants : FM := runFn 3 2 d_grants
/-- is_below(one, other): 0 one, 1 other -/
def d_is_below : SD := (sRet (e2 oLt (e2 oMul (e2 oIx (eVar 0) (eC (.int 0))) (e2 oIx (eVar 1) (eC (.int 1)))) (e2 oMul (e2 oIx (eVar 1) (eC (.int 0))) (e2 oIx (eVar 0) (eC (.int 1))))))
def f_is_below : FM := runFn 2 2 d_is_below
/-- sums(wishes, shares, size): 0 wishes, 1 shares, 2 size, 3 found, 4 share, 5 word, 6 line, 7 one, 8 number -/
def d_sums : SD := (sSeq (sSet 3 (e2 oMul (eL mLst (aCons (eC c_NOUGHT) aNil)) (eVar 2))) (sSeq (sFor (imOfA mItZ (aCons (eVar 0) (aCons (eVar 1) aNil))) (.tup [(.tup [.nm 5, .nm 6]), .nm 4]) (sIf (bVal (e2 oNe (eVar 4) (eC c_NOUGHT))) (sSet 3 (eLc (imOfA mItZ (aCons (eVar 3) (aCons (eVar 6) aNil))) (.tup [.nm 7, .nm 8]) bYes (eL f_plus (aCons (eVar 7) (aCons (eL f_times (aCons (eVar 4) (aCons (eL mTup (aCons (eVar 8) (aCons (eC (.int 1)) aNil))) aNil))) aNil))) [7, 8])) sNx)) (sRet (eVar 3))))
def f_sums : FM := runFn 9 3 d_sums
/-- is_fraction(thing): 0 thing -/
def d_is_fraction : SD := (sSeq (sIf (bOr (bNot (bVal (eL fIsi (aCons (eVar 0) (aCons (eC (.ty "tuple")) aNil))))) (bOr (bVal (e2 oNe (eL fLen (aCons (eVar 0) aNil)) (eC (.int 2)))) (bOr (bNot (bVal (eL f_is_whole (aCons (e2 oIx (eVar 0) (eC (.int 0))) aNil)))) (bNot (bVal (eL f_is_whole (aCons (e2 oIx (eVar 0) (eC (.int 1))) aNil))))))) (sRet (eC (.bl false))) sNx) (sRet (eAnd (e2 oGe (e2 oIx (eVar 0) (eC (.int 1))) (eC (.int 1))) (e2 oEq (eL f_shared_by (aCons (e2 oIx (eVar 0) (eC (.int 0))) (aCons (e2 oIx (eVar 0) (eC (.int 1))) aNil))) (eC (.int 1))))))
def f_is_fraction : FM := runFn 1 1 d_is_fraction
/-- are_shares(wishes, thing): 0 wishes, 1 thing, 2 one, 3 share, 4 word, 5 line -/
def d_are_shares : SD := (sSeq (sIf (bOr (bNot (bVal (eL fIsi (aCons (eVar 1) (aCons (eC (.ty "list")) aNil))))) (bOr (bVal (e2 oNe (eL fLen (aCons (eVar 1) aNil)) (eL fLen (aCons (eVar 0) aNil)))) (bNot (bVal (eL fAll (aCons (eLc (imOf mItL (eVar 1)) (.nm 2) bYes (eL f_is_fraction (aCons (eVar 2) aNil)) [2]) aNil)))))) (sRet (eC (.bl false))) sNx) (sRet (eNot (eL fAny (aCons (eLc (imOfA mItZ (aCons (eVar 0) (aCons (eVar 1) aNil))) (.tup [(.tup [.nm 4, .nm 5]), .nm 3]) bYes (eAnd (e2 oEq (eVar 4) (eC c_LEAST)) (e2 oLt (e2 oIx (eVar 3) (eC (.int 0))) (eC (.int 0)))) [4, 5, 3]) aNil)))))
def f_are_shares : FM := runFn 6 2 d_are_shares
/-- carries(wishes, line, thing): 0 wishes, 1 line, 2 thing, 3 plain, 4 factors, 5 factor -/
def d_carries : SD := (sSeq (sIf (bNot (bVal (eL f_are_shares (aCons (eVar 0) (aCons (eVar 2) aNil))))) (sRet (eC (.bl false))) sNx) (sSeq (sStar 3 4 (eL f_sums (aCons (eVar 0) (aCons (eVar 2) (aCons (eL fLen (aCons (eVar 1) aNil)) aNil))))) (sRet (eAnd (e2 oEq (eVar 4) (eLc (imOf mItL (eSl oSl (eVar 1) (oSome (eC (.int 1))) oNone)) (.nm 5) bYes (eL mTup (aCons (eVar 5) (aCons (eC (.int 1)) aNil))) [5])) (eNot (eL f_is_below (aCons (eL mTup (aCons (e2 oIx (eVar 1) (eC (.int 0))) (aCons (eC (.int 1)) aNil))) (aCons (eVar 3) aNil))))))))
def f_carries : FM := runFn 6 3 d_carries
/-- never_line(many): 0 many -/
def d_never_line : SD := (sRet (e2 oAdd (eL mLst (aCons (e1 oNeg (eC (.int 1))) aNil)) (e2 oMul (eL mLst (aCons (eC (.int 0)) aNil)) (eVar 0))))
def f_never_line : FM := runFn 1 1 d_never_line
/-- are_numbers(many, thing): 0 many, 1 thing, 2 one -/
def d_are_numbers : SD := (sRet (eAnd (eL fIsi (aCons (eVar 1) (aCons (eC (.ty "list")) aNil))) (eAnd (e2 oEq (eL fLen (aCons (eVar 1) aNil)) (eVar 0)) (eL fAll (aCons (eLc (imOf mItL (eVar 1)) (.nm 2) bYes (eL f_is_fraction (aCons (eVar 2) aNil)) [2]) aNil)))))
def f_are_numbers : FM := runFn 3 2 d_are_numbers
/-- is_told(thing): 0 thing -/
def d_is_told : SD := (sRet (eAnd (eL fIsi (aCons (eVar 0) (aCons (eC (.ty "tuple")) aNil))) (eAnd (e2 oEq (eL fLen (aCons (eVar 0) aNil)) (eC (.int 2))) (eL fIsi (aCons (e2 oIx (eVar 0) (eC (.int 0))) (aCons (eC (.ty "str")) aNil))))))
def f_is_told : FM := runFn 1 1 d_is_told
/-- lets_granted(many, wishes, thing): 0 many, 1 wishes, 2 thing -/
def d_lets_granted : SD := (sSeq (sExpr (eL f_look_at_many (aCons (eVar 0) aNil))) (sSeq (sIf (bNot (bVal (eL f_is_told (aCons (eVar 2) aNil)))) (sRet (eC (.bl false))) sNx) (sSeq (sIf (bVal (e2 oEq (e2 oIx (eVar 2) (eC (.int 0))) (eC (.str "numbers")))) (sRet (eAnd (eL f_are_numbers (aCons (eVar 0) (aCons (e2 oIx (eVar 2) (eC (.int 1))) aNil))) (eL f_grants (aCons (eVar 1) (aCons (e2 oIx (eVar 2) (eC (.int 1))) aNil))))) sNx) (sRet (eAnd (e2 oEq (e2 oIx (eVar 2) (eC (.int 0))) (eC (.str "shares"))) (eL f_carries (aCons (eVar 1) (aCons (eL f_never_line (aCons (eVar 0) aNil)) (aCons (e2 oIx (eVar 2) (eC (.int 1))) aNil)))))))))
def f_lets_granted : FM := runFn 3 3 d_lets_granted
/-- lets_follows(many, wishes, line, thing): 0 many, 1 wishes, 2 line, 3 thing -/
def d_lets_follows : SD := (sSeq (sExpr (eL f_look_at_many (aCons (eVar 0) aNil))) (sSeq (sIf (bNot (bVal (eL f_is_told (aCons (eVar 3) aNil)))) (sRet (eC (.bl false))) sNx) (sSeq (sIf (bVal (e2 oEq (e2 oIx (eVar 3) (eC (.int 0))) (eC (.str "shares")))) (sRet (eL f_carries (aCons (eVar 1) (aCons (eVar 2) (aCons (e2 oIx (eVar 3) (eC (.int 1))) aNil))))) sNx) (sSeq (sIf (bVal (e2 oEq (e2 oIx (eVar 3) (eC (.int 0))) (eC (.str "fails")))) (sRet (eAnd (eL f_are_numbers (aCons (eVar 0) (aCons (e2 oIx (eVar 3) (eC (.int 1))) aNil))) (eAnd (eL f_grants (aCons (eVar 1) (aCons (e2 oIx (eVar 3) (eC (.int 1))) aNil))) (e2 oLt (e2 oIx (eL f_worth (aCons (eVar 2) (aCons (e2 oIx (eVar 3) (eC (.int 1))) aNil))) (eC (.int 0))) (eC (.int 0)))))) sNx) (sRet (eAnd (e2 oEq (e2 oIx (eVar 3) (eC (.int 0))) (eC (.str "none"))) (eL f_carries (aCons (eVar 1) (aCons (eL f_never_line (aCons (eVar 0) aNil)) (aCons (e2 oIx (eVar 3) (eC (.int 1))) aNil))))))))))
def f_lets_follows : FM := runFn 4 4 d_lets_follows
/-- _law_pool(_law_script, _law_k): 0 _law_script, 1 _law_k, 2 _law_cell, 3 _law_number_here, 4 _law_mixed -/
def d__law_pool : SD := (sSeq (sSet 2 (eC (.int 0))) (sSeq (sIf (bVal (e2 oLt (eVar 1) (eL fLen (aCons (eVar 0) aNil)))) (sSet 2 (e2 oIx (eVar 0) (eVar 1))) sNx) (sSeq (sSet 3 (eL fMax2 (aCons (eVar 2) (aCons (e2 oSub (e1 oNeg (eC (.int 1))) (eVar 2)) aNil)))) (sSeq (sSet 4 (e2 oMod (e2 oMul (e2 oAdd (e2 oAdd (e2 oAdd (e2 oMod (eVar 3) (eC (.int 2147483629))) (e2 oMul (e2 oMul (eC (.int 7919)) (eVar 1)) (eVar 1))) (e2 oMul (eC (.int 31)) (eVar 1))) (eC (.int 17))) (eC (.int 48271))) (eC (.int 2147483647)))) (sRet (eL mCell (aCons (e2 oMul (eVar 3) (eL fInt (aCons (e2 oGe (eVar 3) (e2 oPow (eC (.int 10)) (eC (.int 18)))) aNil))) (aCons (eVar 4) aNil))))))))
def f__law_pool : FM := runFn 5 2 d__law_pool
/-- _law_take(_law_pool_here, _law_wide): 0 _law_pool_here, 1 _law_wide, 2 _law_found -/
def d__law_take : SD := (sSeq (sIf (bVal (e2 oGt (e2 oIx (eVar 0) (eC (.int 0))) (eC (.int 0)))) (sSeq (sSet 2 (e2 oMod (e2 oIx (eVar 0) (eC (.int 0))) (eVar 1))) (sSeq (sSub setD (eVar 0) (eC (.int 0)) (e2 oFdiv (e2 oIx (eVar 0) (eC (.int 0))) (eVar 1))) (sRet (eVar 2)))) sNx) (sSeq (sSub setD (eVar 0) (eC (.int 1)) (e2 oMod (e2 oAdd (e2 oMul (e2 oIx (eVar 0) (eC (.int 1))) (eC (.int 69621))) (eC (.int 7))) (eC (.int 2147483647)))) (sRet (e2 oMod (e2 oFdiv (e2 oMod (e2 oMul (e2 oIx (eVar 0) (eC (.int 1))) (e2 oIx (eVar 0) (eC (.int 1)))) (eC (.int 2147483629))) (eC (.int 32))) (eVar 1)))))
def f__law_take : FM := runFn 3 2 d__law_take
/-- _law_low(_law_upper, _law_lower): 0 _law_upper, 1 _law_lower, 2 _law_here, 3 _law_there -/
def d__law_low : SD := (sSeq (sSet 2 (eL fAbs (aCons (eVar 0) aNil))) (sSeq (sSet 3 (eL fAbs (aCons (eVar 1) aNil))) (sSeq (sWhile (bVal (e2 oGt (eVar 3) (eC (.int 0)))) (sPar 2 3 (aCons (eVar 3) (aCons (e2 oMod (eVar 2) (eVar 3)) aNil)))) (sSeq (sIf (bVal (e2 oLt (eVar 1) (eC (.int 0)))) (sSet 2 (e2 oSub (eC (.int 0)) (eVar 2))) sNx) (sRet (eL mTup (aCons (e2 oFdiv (eVar 0) (eVar 2)) (aCons (e2 oFdiv (eVar 1) (eVar 2)) aNil))))))))
def f__law_low : FM := runFn 4 2 d__law_low
/-- _law_plus(_law_here, _law_there): 0 _law_here, 1 _law_there -/
def d__law_plus : SD := (sRet (eL f__law_low (aCons (e2 oAdd (e2 oMul (e2 oIx (eVar 0) (eC (.int 0))) (e2 oIx (eVar 1) (eC (.int 1)))) (e2 oMul (e2 oIx (eVar 1) (eC (.int 0))) (e2 oIx (eVar 0) (eC (.int 1))))) (aCons (e2 oMul (e2 oIx (eVar 0) (eC (.int 1))) (e2 oIx (eVar 1) (eC (.int 1)))) aNil))))
def f__law_plus : FM := runFn 2 2 d__law_plus
/-- _law_times(_law_here, _law_there): 0 _law_here, 1 _law_there -/
def d__law_times : SD := (sRet (eL f__law_low (aCons (e2 oMul (e2 oIx (eVar 0) (eC (.int 0))) (e2 oIx (eVar 1) (eC (.int 0)))) (aCons (e2 oMul (e2 oIx (eVar 0) (eC (.int 1))) (e2 oIx (eVar 1) (eC (.int 1)))) aNil))))
def f__law_times : FM := runFn 2 2 d__law_times
/-- _law_total(_law_row, _law_some_here): 0 _law_row, 1 _law_some_here, 2 _law_found, 3 _law_factor, 4 _law_number_here -/
def d__law_total : SD := (sSeq (sSet 2 (eL mTup (aCons (e2 oIx (eVar 0) (eC (.int 0))) (aCons (eC (.int 1)) aNil)))) (sSeq (sFor (imOfA mItZ (aCons (eSl oSl (eVar 0) (oSome (eC (.int 1))) oNone) (aCons (eVar 1) aNil))) (.tup [.nm 3, .nm 4]) (sSet 2 (eL f__law_plus (aCons (eVar 2) (aCons (eL f__law_times (aCons (eL mTup (aCons (eVar 3) (aCons (eC (.int 1)) aNil))) (aCons (eVar 4) aNil))) aNil))))) (sRet (eVar 2))))
def f__law_total : FM := runFn 5 2 d__law_total
/-- _law_grants(_law_asked, _law_some_here): 0 _law_asked, 1 _law_some_here, 2 _law_word, 3 _law_row, 4 _law_upper -/
def d__law_grants : SD := (sSeq (sFor (imOf mItL (eVar 0)) (.tup [.nm 2, .nm 3]) (sSeq (sSet 4 (e2 oIx (eL f__law_total (aCons (eVar 3) (aCons (eVar 1) aNil))) (eC (.int 0)))) (sIf (bOr (bVal (e2 oLt (eVar 4) (eC (.int 0)))) (bAnd (bVal (e2 oGt (eVar 4) (eC (.int 0)))) (bVal (e2 oEq (eVar 2) (eC (.str "just")))))) (sRet (eC (.bl false))) sNx))) (sRet (eC (.bl true))))
def f__law_grants : FM := runFn 5 2 d__law_grants
/-- _law_is_whole(_law_item): 0 _law_item -/
def d__law_is_whole : SD := (sRet (eAnd (eL fIsi (aCons (eVar 0) (aCons (eC (.ty "int")) aNil))) (eNot (eL fIsi (aCons (eVar 0) (aCons (eC (.ty "bool")) aNil))))))
def f__law_is_whole : FM := runFn 1 1 d__law_is_whole
/-- _law_is_fraction(_law_item): 0 _law_item -/
def d__law_is_fraction : SD := (sSeq (sIf (bOr (bNot (bVal (eL fIsi (aCons (eVar 0) (aCons (eC (.ty "tuple")) aNil))))) (bOr (bVal (e2 oNe (eL fLen (aCons (eVar 0) aNil)) (eC (.int 2)))) (bOr (bNot (bVal (eL f__law_is_whole (aCons (e2 oIx (eVar 0) (eC (.int 0))) aNil)))) (bNot (bVal (eL f__law_is_whole (aCons (e2 oIx (eVar 0) (eC (.int 1))) aNil))))))) (sRet (eC (.bl false))) sNx) (sRet (eAnd (e2 oGt (e2 oIx (eVar 0) (eC (.int 1))) (eC (.int 0))) (e2 oEq (eL f__law_low (aCons (e2 oIx (eVar 0) (eC (.int 0))) (aCons (e2 oIx (eVar 0) (eC (.int 1))) aNil))) (eVar 0)))))
def f__law_is_fraction : FM := runFn 1 1 d__law_is_fraction
/-- _law_carries(_law_asked, _law_row, _law_item): 0 _law_asked, 1 _law_row, 2 _law_item, 3 _law_totals, 4 _law_place, 5 _law_total_here, 6 _law_share, 7 _law_one, 8 _law_k, 9 _law_word, 10 _law_own, 11 _law_factor -/
def d__law_carries : SD := (sSeq (sIf (bOr (bNot (bVal (eL fIsi (aCons (eVar 2) (aCons (eC (.ty "list")) aNil))))) (bVal (e2 oNe (eL fLen (aCons (eVar 2) aNil)) (eL fLen (aCons (eVar 0) aNil))))) (sRet (eC (.bl false))) sNx) (sSeq (sIf (bVal (e2 oNe (eLc (imOf mItL (eVar 2)) (.nm 7) (bNot (bVal (eL f__law_is_fraction (aCons (eVar 7) aNil)))) (eVar 7) [7]) (eL mLst aNil))) (sRet (eC (.bl false))) sNx) (sSeq (sIf (bVal (e2 oNe (eLc (imOfA mItR1 (aCons (eL fLen (aCons (eVar 0) aNil)) aNil)) (.nm 8) (bAnd (bVal (e2 oEq (e2 oIx (e2 oIx (eVar 0) (eVar 8)) (eC (.int 0))) (eC (.str "least")))) (bVal (e2 oLt (e2 oIx (e2 oIx (eVar 2) (eVar 8)) (eC (.int 0))) (eC (.int 0))))) (eVar 8) [8]) (eL mLst aNil))) (sRet (eC (.bl false))) sNx) (sSeq (sSet 3 (eL mCell aNil)) (sSeq (sFor (imOfA mItR1 (aCons (eL fLen (aCons (eVar 1) aNil)) aNil)) (.nm 4) (sSeq (sSet 5 (eL mTup (aCons (eC (.int 0)) (aCons (eC (.int 1)) aNil)))) (sSeq (sFor (imOfA mItZ (aCons (eVar 0) (aCons (eVar 2) aNil))) (.tup [(.tup [.nm 9, .nm 10]), .nm 6]) (sSet 5 (eL f__law_plus (aCons (eVar 5) (aCons (eL f__law_times (aCons (eL mTup (aCons (e2 oIx (eVar 10) (eVar 4)) (aCons (eC (.int 1)) aNil))) (aCons (eVar 6) aNil))) aNil))))) (sExpr (eMt chkL mAppend (eVar 3) (aCons (eVar 5) aNil)))))) (sRet (eAnd (e2 oEq (eSl oSl (eVar 3) (oSome (eC (.int 1))) oNone) (eLc (imOf mItL (eSl oSl (eVar 1) (oSome (eC (.int 1))) oNone)) (.nm 11) bYes (eL mTup (aCons (eVar 11) (aCons (eC (.int 1)) aNil))) [11])) (e2 oLe (e2 oIx (e2 oIx (eVar 3) (eC (.int 0))) (eC (.int 0))) (e2 oMul (e2 oIx (eVar 1) (eC (.int 0))) (e2 oIx (e2 oIx (eVar 3) (eC (.int 0))) (eC (.int 1))))))))))))
def f__law_carries : FM := runFn 12 3 d__law_carries
/-- _law_are_numbers(_law_size, _law_item): 0 _law_size, 1 _law_item, 2 _law_one -/
def d__law_are_numbers : SD := (sRet (eAnd (eL fIsi (aCons (eVar 1) (aCons (eC (.ty "list")) aNil))) (eAnd (e2 oEq (eL fLen (aCons (eVar 1) aNil)) (eVar 0)) (e2 oEq (eLc (imOf mItL (eVar 1)) (.nm 2) (bNot (bVal (eL f__law_is_fraction (aCons (eVar 2) aNil)))) (eVar 2) [2]) (eL mLst aNil)))))
def f__law_are_numbers : FM := runFn 3 2 d__law_are_numbers
/-- _law_is_granted(_law_size, _law_asked, _law_item): 0 _law_size, 1 _law_asked, 2 _law_item -/
def d__law_is_granted : SD := (sSeq (sIf (bOr (bNot (bVal (eL fIsi (aCons (eVar 2) (aCons (eC (.ty "tuple")) aNil))))) (bOr (bVal (e2 oNe (eL fLen (aCons (eVar 2) aNil)) (eC (.int 2)))) (bNot (bVal (eL fIsi (aCons (e2 oIx (eVar 2) (eC (.int 0))) (aCons (eC (.ty "str")) aNil))))))) (sRet (eC (.bl false))) sNx) (sSeq (sIf (bVal (e2 oEq (e2 oIx (eVar 2) (eC (.int 0))) (eC (.str "numbers")))) (sRet (eAnd (eL f__law_are_numbers (aCons (eVar 0) (aCons (e2 oIx (eVar 2) (eC (.int 1))) aNil))) (eL f__law_grants (aCons (eVar 1) (aCons (e2 oIx (eVar 2) (eC (.int 1))) aNil))))) sNx) (sRet (eAnd (e2 oEq (e2 oIx (eVar 2) (eC (.int 0))) (eC (.str "shares"))) (eL f__law_carries (aCons (eVar 1) (aCons (e2 oAdd (eL mLst (aCons (e1 oNeg (eC (.int 1))) aNil)) (e2 oMul (eL mLst (aCons (eC (.int 0)) aNil)) (eVar 0))) (aCons (e2 oIx (eVar 2) (eC (.int 1))) aNil))))))))
def f__law_is_granted : FM := runFn 3 3 d__law_is_granted
/-- _law_is_follows(_law_size, _law_asked, _law_row, _law_item): 0 _law_size, 1 _law_asked, 2 _law_row, 3 _law_item -/
def d__law_is_follows : SD := (sSeq (sIf (bOr (bNot (bVal (eL fIsi (aCons (eVar 3) (aCons (eC (.ty "tuple")) aNil))))) (bOr (bVal (e2 oNe (eL fLen (aCons (eVar 3) aNil)) (eC (.int 2)))) (bNot (bVal (eL fIsi (aCons (e2 oIx (eVar 3) (eC (.int 0))) (aCons (eC (.ty "str")) aNil))))))) (sRet (eC (.bl false))) sNx) (sSeq (sIf (bVal (e2 oEq (e2 oIx (eVar 3) (eC (.int 0))) (eC (.str "fails")))) (sSeq (sIf (bOr (bNot (bVal (eL f__law_are_numbers (aCons (eVar 0) (aCons (e2 oIx (eVar 3) (eC (.int 1))) aNil))))) (bNot (bVal (eL f__law_grants (aCons (eVar 1) (aCons (e2 oIx (eVar 3) (eC (.int 1))) aNil)))))) (sRet (eC (.bl false))) sNx) (sRet (e2 oLt (e2 oIx (eL f__law_total (aCons (eVar 2) (aCons (e2 oIx (eVar 3) (eC (.int 1))) aNil))) (eC (.int 0))) (eC (.int 0))))) sNx) (sSeq (sIf (bVal (e2 oEq (e2 oIx (eVar 3) (eC (.int 0))) (eC (.str "shares")))) (sRet (eL f__law_carries (aCons (eVar 1) (aCons (eVar 2) (aCons (e2 oIx (eVar 3) (eC (.int 1))) aNil))))) sNx) (sRet (eAnd (e2 oEq (e2 oIx (eVar 3) (eC (.int 0))) (eC (.str "none"))) (eL f__law_carries (aCons (eVar 1) (aCons (e2 oAdd (eL mLst (aCons (e1 oNeg (eC (.int 1))) aNil)) (e2 oMul (eL mLst (aCons (eC (.int 0)) aNil)) (eVar 0))) (aCons (e2 oIx (eVar 3) (eC (.int 1))) aNil)))))))))
def f__law_is_follows : FM := runFn 4 4 d__law_is_follows
/-- _law_number(_law_pool_here): 0 _law_pool_here, 1 _law_number_here -/
def d__law_number : SD := (sSeq (sSet 1 (e2 oIx (eL mLst (aCons (eL f__law_take (aCons (eVar 0) (aCons (eC (.int 3)) aNil))) (aCons (eL f__law_take (aCons (eVar 0) (aCons (eC (.int 4)) aNil))) (aCons (eL f__law_take (aCons (eVar 0) (aCons (eC (.int 10)) aNil))) (aCons (eL f__law_take (aCons (eVar 0) (aCons (eC (.int 100)) aNil))) aNil))))) (eL f__law_take (aCons (eVar 0) (aCons (eC (.int 4)) aNil))))) (sRet (e2 oIx (eL mLst (aCons (eVar 1) (aCons (e2 oSub (eC (.int 0)) (eVar 1)) aNil))) (eL f__law_take (aCons (eVar 0) (aCons (eC (.int 2)) aNil))))))
def f__law_number : FM := runFn 2 1 d__law_number
/-- _law_wish(_law_pool_here, _law_size): 0 _law_pool_here, 1 _law_size, 2 _law_row, 3 _law_k -/
def d__law_wish : SD := (sSeq (sSet 2 (eLc (imOfA mItR1 (aCons (e2 oAdd (eVar 1) (eC (.int 1))) aNil)) (.nm 3) bYes (e2 oMul (eL f__law_number (aCons (eVar 0) aNil)) (eL fInt (aCons (e2 oGt (eL f__law_take (aCons (eVar 0) (aCons (eC (.int 3)) aNil))) (eC (.int 0))) aNil))) [3])) (sRet (eL mTup (aCons (e2 oIx (eL mLst (aCons (eC (.str "least")) (aCons (eC (.str "least")) (aCons (eC (.str "just")) aNil)))) (eL f__law_take (aCons (eVar 0) (aCons (eC (.int 3)) aNil)))) (aCons (eVar 2) aNil)))))
def f__law_wish : FM := runFn 4 2 d__law_wish
/-- _law_some(_law_pool_here, _law_size): 0 _law_pool_here, 1 _law_size, 2 _law_found, 3 _law_k -/
def d__law_some : SD := (sSeq (sSet 2 (eL mCell aNil)) (sSeq (sFor (imOfA mItR1 (aCons (eVar 1) aNil)) (.nm 3) (sExpr (eMt chkL mAppend (eVar 2) (aCons (eL f__law_low (aCons (e2 oSub (eL f__law_take (aCons (eVar 0) (aCons (eC (.int 9)) aNil))) (eC (.int 4))) (aCons (e2 oAdd (eC (.int 1)) (e2 oIx (eL mLst (aCons (eC (.int 0)) (aCons (eC (.int 0)) (aCons (eC (.int 1)) (aCons (eC (.int 2)) aNil))))) (eL f__law_take (aCons (eVar 0) (aCons (eC (.int 4)) aNil))))) aNil))) aNil)))) (sRet (e1 mFrz (eVar 2)))))
def f__law_some : FM := runFn 4 2 d__law_some
/-- _law_moved(_law_pool_here, _law_wish_here, _law_some_here): 0 _law_pool_here, 1 _law_wish_here, 2 _law_some_here, 3 _law_total_here, 4 _law_spare, 5 _law_word, 6 _law_row, 7 _law_factor -/
def d__law_moved : SD := (sSeq (sAsg (.tup [.nm 5, .nm 6]) (eVar 1)) (sSeq (sSet 3 (eL f__law_total (aCons (e2 oAdd (eL mLst (aCons (eC (.int 0)) aNil)) (eSl oSl (eVar 6) (oSome (eC (.int 1))) oNone)) (aCons (eVar 2) aNil)))) (sSeq (sSet 4 (e2 oMul (e2 oIx (eL mLst (aCons (eC (.int 0)) (aCons (eC (.int 0)) (aCons (eC (.int 1)) (aCons (eL f__law_take (aCons (eVar 0) (aCons (eC (.int 9)) aNil))) aNil))))) (eL f__law_take (aCons (eVar 0) (aCons (eC (.int 4)) aNil)))) (eL fInt (aCons (e2 oEq (eVar 5) (eC (.str "least"))) aNil)))) (sRet (eL mTup (aCons (eVar 5) (aCons (e2 oAdd (eL mLst (aCons (e2 oSub (eVar 4) (e2 oIx (eVar 3) (eC (.int 0)))) aNil)) (eLc (imOf mItL (eSl oSl (eVar 6) (oSome (eC (.int 1))) oNone)) (.nm 7) bYes (e2 oMul (eVar 7) (e2 oIx (eVar 3) (eC (.int 1)))) [7])) aNil)))))))
def f__law_moved : FM := runFn 8 3 d__law_moved
/-- _law_made_case(_law_pool_here): 0 _law_pool_here, 1 _law_size, 2 _law_some_here, 3 _law_asked, 4 _law_row, 5 _law_total_here, 6 _law_items, 7 _law_parts, 8 _law_against, 9 _law_turn, 10 _law_k, 11 _law_wish_here, 12 _law_place, 13 _law_part, 14 _law_word, 15 _law_own -/
def d__law_made_case : SD := (sSeq (sSet 1 (eL f__law_take (aCons (eVar 0) (aCons (eC (.int 4)) aNil)))) (sSeq (sSet 2 (eL f__law_some (aCons (eVar 0) (aCons (eVar 1) aNil)))) (sSeq (sSet 3 (eLc (imOfA mItR1 (aCons (eL f__law_take (aCons (eVar 0) (aCons (eC (.int 5)) aNil))) aNil)) (.nm 9) bYes (eL f__law_moved (aCons (eVar 0) (aCons (eL f__law_wish (aCons (eVar 0) (aCons (eVar 1) aNil))) (aCons (eVar 2) aNil)))) [9])) (sSeq (sSet 4 (eLcC (imOfA mItR1 (aCons (e2 oAdd (eVar 1) (eC (.int 1))) aNil)) (.nm 10) bYes (eL f__law_number (aCons (eVar 0) aNil)) [10])) (sSeq (sSet 5 (eL f__law_total (aCons (eVar 4) (aCons (eVar 2) aNil)))) (sSeq (sSet 6 (eL mLst (aCons (eL mTup (aCons (eC (.str "numbers")) (aCons (eL fList (aCons (eVar 2) aNil)) aNil))) (aCons (eL mTup (aCons (eC (.str "fails")) (aCons (eL fList (aCons (eVar 2) aNil)) aNil))) aNil)))) (sSeq (sSub setD (eVar 4) (eC (.int 0)) (e2 oSub (e2 oSub (e2 oIx (eVar 4) (eC (.int 0))) (e2 oFdiv (e2 oIx (eVar 5) (eC (.int 0))) (e2 oIx (eVar 5) (eC (.int 1))))) (e2 oIx (eL mLst (aCons (eC (.int 0)) (aCons (eC (.int 1)) aNil))) (eL f__law_take (aCons (eVar 0) (aCons (eC (.int 2)) aNil)))))) (sSeq (sIf (bVal (e2 oEq (eL f__law_take (aCons (eVar 0) (aCons (eC (.int 2)) aNil))) (eC (.int 0)))) (sSeq (sSet 7 (eLc (imOf mItL (eVar 3)) (.nm 11) bYes (eL f__law_take (aCons (eVar 0) (aCons (eC (.int 4)) aNil))) [11])) (sSeq (sSet 4 (eLcC (imOfA mItR1 (aCons (e2 oAdd (eVar 1) (eC (.int 1))) aNil)) (.nm 12) bYes (eL fSum (aCons (eLc (imOfA mItZ (aCons (eVar 3) (aCons (eVar 7) aNil))) (.tup [(.tup [.nm 14, .nm 15]), .nm 13]) bYes (e2 oMul (e2 oIx (eVar 15) (eVar 12)) (eVar 13)) [14, 15, 13]) aNil)) [12])) (sSet 6 (e2 oAdd (eVar 6) (eL mLst (aCons (eL mTup (aCons (eC (.str "shares")) (aCons (eLc (imOf mItL (eVar 7)) (.nm 13) bYes (eL mTup (aCons (eVar 13) (aCons (eC (.int 1)) aNil))) [13]) aNil))) aNil)))))) sNx) (sSeq (sIf (bVal (e2 oEq (eL f__law_take (aCons (eVar 0) (aCons (eC (.int 3)) aNil))) (eC (.int 0)))) (sSeq (sSet 8 (eLc (imOfA mItR1 (aCons (e2 oAdd (eVar 1) (eC (.int 1))) aNil)) (.nm 12) bYes (e2 oSub (eC (.int 0)) (eL fSum (aCons (eLc (imOf mItL (eVar 3)) (.tup [.nm 14, .nm 15]) bYes (e2 oIx (eVar 15) (eVar 12)) [14, 15]) aNil))) [12])) (sSeq (sSet 3 (e2 oAdd (eVar 3) (eL mLst (aCons (eL mTup (aCons (eC (.str "least")) (aCons (e2 oAdd (eL mLst (aCons (e2 oSub (e2 oIx (eVar 8) (eC (.int 0))) (eC (.int 1))) aNil)) (eSl oSl (eVar 8) (oSome (eC (.int 1))) oNone)) aNil))) aNil)))) (sSet 6 (e2 oAdd (eVar 6) (eL mLst (aCons (eL mTup (aCons (eC (.str "shares")) (aCons (e2 oMul (eL mLst (aCons (eL mTup (aCons (eC (.int 1)) (aCons (eC (.int 1)) aNil))) aNil)) (eL fLen (aCons (eVar 3) aNil))) aNil))) (aCons (eL mTup (aCons (eC (.str "none")) (aCons (e2 oMul (eL mLst (aCons (eL mTup (aCons (eC (.int 1)) (aCons (eC (.int 1)) aNil))) aNil)) (eL fLen (aCons (eVar 3) aNil))) aNil))) aNil))))))) sNx) (sRet (eL mTup (aCons (eVar 1) (aCons (eVar 3) (aCons (e1 mFrz (eVar 4)) (aCons (eVar 6) aNil)))))))))))))))
def f__law_made_case : FM := runFn 16 1 d__law_made_case
/-- _law_bent(_law_pool_here, _law_item): 0 _law_pool_here, 1 _law_item, 2 _law_at, 3 _law_odd, 4 _law_ways, 5 _law_word, 6 _law_some_here -/
def d__law_bent : SD := (sSeq (sAsg (.tup [.nm 5, .nm 6]) (eVar 1)) (sSeq (sSet 2 (eL f__law_take (aCons (eVar 0) (aCons (e2 oAdd (eL fLen (aCons (eVar 6) aNil)) (eC (.int 1))) aNil)))) (sSeq (sSet 3 (e2 oIx (eL mLst (aCons (eC .non) (aCons (eC (.bl true)) (aCons (eL mTup (aCons (eC (.int 1)) (aCons (eC (.int 2)) aNil))) (aCons (eL mTup (aCons (eC (.int 0)) (aCons (eC (.int 1)) aNil))) (aCons (eC (.int 0)) (aCons (eC (.int 1)) (aCons (eL mTup (aCons (eC (.int 2)) (aCons (eC (.int 4)) aNil))) (aCons (eL mTup (aCons (e1 oNeg (eC (.int 1))) (aCons (eC (.int 1)) aNil))) (aCons (eC (.str "1")) (aCons (eL mTup (aCons (eC (.int 1)) (aCons (eC (.int 0)) aNil))) (aCons (eL mTup (aCons (eC (.int 5)) (aCons (eC (.int 1)) aNil))) aNil)))))))))))) (eL f__law_take (aCons (eVar 0) (aCons (eC (.int 11)) aNil))))) (sSeq (sSet 4 (eL mLst (aCons (eL mTup (aCons (eC (.str "numbers")) (aCons (eVar 6) aNil))) (aCons (eL mTup (aCons (eC (.str "shares")) (aCons (eVar 6) aNil))) (aCons (eL mTup (aCons (eC (.str "fails")) (aCons (eVar 6) aNil))) (aCons (eL mTup (aCons (eC (.str "none")) (aCons (eVar 6) aNil))) (aCons (eL mTup (aCons (eVar 5) (aCons (eSl oSl (eVar 6) oNone (oSome (eVar 2))) aNil))) (aCons (eL mLst (aCons (eVar 5) (aCons (eVar 6) aNil))) aNil)))))))) (sSeq (sSet 4 (e2 oAdd (eVar 4) (eL mLst (aCons (eL mTup (aCons (eVar 5) (aCons (e2 oAdd (eVar 6) (eL mLst (aCons (eVar 3) aNil))) aNil))) (aCons (eL mTup (aCons (eVar 5) aNil)) (aCons (eL mTup (aCons (eVar 5) (aCons (eL fTuple (aCons (eVar 6) aNil)) aNil))) (aCons (eL mTup (aCons (eVar 5) (aCons (eC .non) aNil))) (aCons (eL mTup (aCons (eVar 5) (aCons (eVar 6) (aCons (eC (.int 0)) aNil)))) (aCons (eC .non) (aCons (eC .dE) (aCons (eVar 5) aNil))))))))))) (sSeq (sSet 4 (e2 oAdd (eVar 4) (eL mLst (aCons (eL mTup (aCons (eC (.str "None")) (aCons (eVar 6) aNil))) (aCons (eL mTup (aCons (eC .non) (aCons (eVar 6) aNil))) (aCons (eL mTup (aCons (eL mLst (aCons (eVar 5) aNil)) (aCons (eVar 6) aNil))) (aCons (eL mTup (aCons (eC (.str "")) (aCons (eVar 6) aNil))) (aCons (eL mTup (aCons (eVar 6) (aCons (eVar 5) aNil))) (aCons (eL mTup (aCons (eVar 5) (aCons (e2 oAdd (eL mLst (aCons (eVar 3) aNil)) (eVar 6)) aNil))) aNil))))))))) (sRet (e2 oIx (e2 oAdd (eVar 4) (e2 oMul (eL mLst (aCons (eL mTup (aCons (eVar 5) (aCons (e2 oAdd (e2 oAdd (eSl oSl (eVar 6) oNone (oSome (eVar 2))) (eL mLst (aCons (eVar 3) aNil))) (eSl oSl (eVar 6) (oSome (e2 oAdd (eVar 2) (eC (.int 1)))) oNone)) aNil))) aNil)) (eC (.int 6)))) (eL f__law_take (aCons (eVar 0) (aCons (eC (.int 26)) aNil)))))))))))
def f__law_bent : FM := runFn 7 2 d__law_bent
/-- law(_law_script): 0 _law_script, 1 _law_k, 2 _law_pool_here, 3 _law_things, 4 _law_item, 5 _law_size, 6 _law_asked, 7 _law_row, 8 _law_items, 9 _law_kept, 10 _law_due, 11 _law_own, 12 _law_turn -/
def d_law : SD := (sSeq (sFor (imOfA mItR1 (aCons (eL fMax2 (aCons (eC (.int 1)) (aCons (eL fMin2 (aCons (eL fLen (aCons (eVar 0) aNil)) (aCons (eC (.int 16)) aNil))) aNil))) aNil)) (.nm 1) (sSeq (sSet 2 (eL f__law_pool (aCons (eVar 0) (aCons (eVar 1) aNil)))) (sSeq (sAsg (.tup [.nm 5, .nm 6, .nm 7, .nm 8]) (eL f__law_made_case (aCons (eVar 2) aNil))) (sSeq (sSet 3 (e2 oAdd (eVar 8) (eLc (imOfA mItR1 (aCons (eC (.int 8)) aNil)) (.nm 12) bYes (eL f__law_bent (aCons (eVar 2) (aCons (e2 oIx (eVar 8) (eL f__law_take (aCons (eVar 2) (aCons (eL fLen (aCons (eVar 8) aNil)) aNil)))) aNil))) [12]))) (sFor (imOf mItL (eVar 3)) (.nm 4) (sSeq (sSet 9 (eL fRepr (aCons (eL mLst (aCons (eVar 6) (aCons (eVar 7) (aCons (eVar 4) aNil)))) aNil))) (sSeq (sSet 10 (eL f__law_is_granted (aCons (eVar 5) (aCons (eVar 6) (aCons (eVar 4) aNil))))) (sSeq (sIf (bVal (e2 oNe (eL fRepr (aCons (eL f_lets_granted (aCons (eVar 5) (aCons (eVar 6) (aCons (eVar 4) aNil)))) aNil)) (eL fRepr (aCons (eVar 10) aNil)))) (sRet (eC (.bl false))) sNx) (sSeq (sIf (bVal (e2 oNe (eL fRepr (aCons (eK f_lets_granted (byIx [2, 1, 0]) aNil (aCons (eVar 4) (aCons (eVar 6) (aCons (eVar 5) aNil)))) aNil)) (eL fRepr (aCons (eVar 10) aNil)))) (sRet (eC (.bl false))) sNx) (sSeq (sFor (imOf mItL (eL mLst (aCons (eVar 7) (aCons (e2 oAdd (eL mLst (aCons (e2 oSub (e2 oIx (eVar 7) (eC (.int 0))) (eC (.int 1))) aNil)) (eSl oSl (eVar 7) (oSome (eC (.int 1))) oNone)) aNil)))) (.nm 11) (sSeq (sSet 10 (eL f__law_is_follows (aCons (eVar 5) (aCons (eVar 6) (aCons (eVar 11) (aCons (eVar 4) aNil)))))) (sSeq (sIf (bVal (e2 oNe (eL fRepr (aCons (eL f_lets_follows (aCons (eVar 5) (aCons (eVar 6) (aCons (eVar 11) (aCons (eVar 4) aNil))))) aNil)) (eL fRepr (aCons (eVar 10) aNil)))) (sRet (eC (.bl false))) sNx) (sIf (bVal (e2 oNe (eL fRepr (aCons (eK f_lets_follows (byIx [3, 2, 1, 0]) aNil (aCons (eVar 4) (aCons (eVar 11) (aCons (eVar 6) (aCons (eVar 5) aNil))))) aNil)) (eL fRepr (aCons (eVar 10) aNil)))) (sRet (eC (.bl false))) sNx)))) (sIf (bVal (e2 oNe (eL fRepr (aCons (eL mLst (aCons (eVar 6) (aCons (eVar 7) (aCons (eVar 4) aNil)))) aNil)) (eVar 9))) (sRet (eC (.bl false))) sNx))))))))))) (sRet (eC (.bl true))))
def f_law : FM := runFn 13 1 d_law
end
end Lw

namespace Lp
open PySem PySem.Spec PyProof.Rows DL
noncomputable section
local macro_rules | `(tactic| walk_at "sz") => `(tactic| first | (simp [sizeLine_eq]; done) | (simp only [List.length_cons, List.length_nil, sizeLine_eq]; omega) | (rw [sizeLine_eq]; omega))
local macro_rules | `(tactic| walk_at "dl1") => `(tactic| first
  | (with_reducible refine k_seq ?_) | (with_reducible refine k_set ?_) | (with_reducible refine k_L ?_) | (with_reducible refine k_cons ?_) | (with_reducible refine k_nil ?_) | (with_reducible refine k_c ?_)
  | ((with_reducible refine k_var (d := ?dd) ?hh ?_); (case hh => rfl))
  | (with_reducible refine k_e2 ?_) | (with_reducible refine k_e1 ?_) | (with_reducible refine k_ret ?_) | (with_reducible refine k_if ?_) | (with_reducible refine k_bVal ?_) | (with_reducible refine k_mBool ?_)
  | (with_reducible refine k_nx ?_) | (with_reducible refine k_for ?_) | (with_reducible refine k_imOf ?_) | (with_reducible refine k_imOfA ?_) | (with_reducible refine k_expr ?_) | (with_reducible refine k_chain ?_)
  | (with_reducible refine k_eAnd ?_) | (with_reducible refine k_eOr ?_) | (with_reducible refine k_eNot ?_) | (with_reducible refine k_bAnd ?_) | (with_reducible refine k_bOr ?_) | (with_reducible refine k_bNot ?_) | (with_reducible refine k_eIf ?_)
  | (with_reducible refine k_K ?_) | (with_reducible refine k_Sl ?_) | (with_reducible refine k_oNone ?_) | ((with_reducible refine k_oSome ?_); skip) | (with_reducible refine k_lc ?_) | (with_reducible refine k_lcC ?_) | (with_reducible refine k_sub ?_) | (with_reducible refine k_yes ?_)
  | (with_reducible refine k_Mt ?_) | (with_reducible refine k_brk ?_) | (with_reducible refine k_cnt ?_) | (with_reducible refine k_retN ?_) | (with_reducible refine k_asg ?_) | (with_reducible refine k_par ?_) | (with_reducible refine k_star ?_)
  | ((with_reducible refine k_tup ?hz ?_); (case hz => walk_at "sz")) | ((with_reducible refine k_lst ?hz ?_); (case hz => walk_at "sz")) | ((with_reducible refine k_cell ?hz ?_); (case hz => walk_at "sz"))
  | (with_reducible refine o_add ?_) | (with_reducible refine o_sub ?_) | (with_reducible refine o_lt ?_) | (with_reducible refine o_le ?_) | (with_reducible refine o_gt ?_) | (with_reducible refine o_ge ?_) | (with_reducible refine o_neg ?_)
  | (with_reducible refine o_eqI ?_) | (with_reducible refine o_neI ?_) | (with_reducible refine o_eqS ?_) | (with_reducible refine o_neS ?_) | (with_reducible refine o_eqB ?_) | (with_reducible refine o_abs ?_) | (with_reducible refine o_max2 ?_) | (with_reducible refine o_min2 ?_)
  | (with_reducible refine o_intB ?_) | (with_reducible refine o_intI ?_)
  | ((with_reducible refine o_ix (v := ?vv) ?hi ?_); (case hi => rfl)) | ((with_reducible refine o_lenL (xs := ?vv) ?hi ?_); (case hi => rfl)) | ((with_reducible refine o_sl (xs := ?vv) ?hi ?_); (case hi => rfl))
  | (with_reducible refine L2.iteT ?_) | (with_reducible refine L2.iteF ?_)
  | (with_reducible refine ⟨_, rfl, ?_⟩) | (with_reducible refine ⟨_, _, rfl, ?_⟩)
  | dsimp only)
local macro_rules | `(tactic| walk_at "dl") => `(tactic| repeat walk_at "dl1")

/-! ### the law's pool -/
/-- the pool at p -/
def IsPool (S : Sto) (p : Nat) : Prop := ∃ a b : Int, 0 ≤ a ∧ 0 ≤ b ∧ S[p]? = some (some (.lst [.int a, .int b]))
/-- only the pool at p is drawn from -/
structure SP (p : Nat) (S S' : Sto) : Prop where
  len : S'.length = S.length
  oth : ∀ i : Nat, i ≠ p → S'[i]? = S[i]?
  pool : IsPool S' p
theorem SP.refl {p : Nat} {S : Sto} (h : IsPool S p) : SP p S S := ⟨rfl, fun _ _ => rfl, h⟩
theorem SP.trans {p : Nat} {S S1 S2 : Sto} (a : SP p S S1) (b : SP p S1 S2) : SP p S S2 := ⟨b.len.trans a.len, fun i h => (b.oth i h).trans (a.oth i h), b.pool⟩
theorem SP.set {p : Nat} {S : Sto} {a b : Int} (h : IsPool S p) (h0 : 0 ≤ a) (h1 : 0 ≤ b) : SP p S (S.set p (some (.lst [.int a, .int b]))) := by
  obtain ⟨_, _, _, _, e⟩ := h
  have hp := (List.getElem?_eq_some_iff.mp e).1
  exact ⟨by simp, fun i hi => by rw [List.getElem?_set_ne (Ne.symm hi)], a, b, h0, h1, by rw [List.getElem?_set_self hp]⟩
theorem pool_ix {p : Nat} {S : Sto} {a b : Int} (h : S[p]? = some (some (.lst [.int a, .int b]))) : seqOf S (.cell p) = some [.int a, .int b] := by simp [seqOf, DL.listOf, h]
theorem take_ok {p : Nat} {S : Sto} {n : Int} {P : D → Sto → Prop} (h : IsPool S p) (h0 : 0 < n) (hn : n < 2 ^ 62) (k : ∀ (r : Int) S', 0 ≤ r → r < n → SP p S S' → P (.int r) S') : Ok (Lw.f__law_take [.cell p, .int n] S) P := by
  obtain ⟨a, b, ha, hb, e⟩ := id h
  have hp := (List.getElem?_eq_some_iff.mp e).1
  have hlog : n.natAbs.log2 < 9000 := (show Sz 62 n by unfold Sz; omega).log (by decide) |> fun z => by omega
  unfold Lw.f__law_take
  refine k_fn rfl ?_
  unfold Lw.d__law_take
  walk_at "dl"
  refine o_ix (v := .int a) (by rw [pool_ix e]; rfl) ?_
  walk_at "dl"
  by_cases hz : 0 < a
  · rw [if_pos (by simpa using hz)]
    walk_at "dl"
    refine o_ix (v := .int a) (by rw [pool_ix e]; rfl) ?_
    walk_at "dl"
    refine o_mod (by omega) ?_
    walk_at "dl"
    refine o_ix (v := .int a) (by rw [pool_ix e]; rfl) ?_
    walk_at "dl"
    refine o_fdiv (by omega) hlog ?_
    walk_at "dl"
    refine ⟨S.set p (some (.lst [.int (a.fdiv n), .int b])), by simp only [setD, e]; rfl, ?_⟩
    walk_at "dl"
    rw [trim_same (by simp)]
    refine k _ _ ?_ ?_ (SP.set h ?_ hb)
    · rw [Int.fmod_eq_emod_of_nonneg _ (by omega)]; exact Int.emod_nonneg _ (by omega)
    · rw [Int.fmod_eq_emod_of_nonneg _ (by omega)]; exact Int.emod_lt_of_pos _ h0
    · rw [Int.fdiv_eq_ediv_of_nonneg _ (by omega)]; exact Int.ediv_nonneg ha (by omega)
  · rw [if_neg (by simpa using hz)]
    walk_at "dl"
    refine o_ix (v := .int b) (by rw [pool_ix e]; rfl) ?_
    walk_at "dl"
    refine o_mul (.of_right (by decide)) ?_
    walk_at "dl"
    refine o_mod (by decide) ?_
    walk_at "dl"
    generalize hc : (b * 69621 + 7).fmod 2147483647 = c
    have hc0 : 0 ≤ c := by rw [← hc, Int.fmod_eq_emod_of_nonneg _ (by decide)]; exact Int.emod_nonneg _ (by decide)
    have hc1 : c < 2147483647 := by rw [← hc, Int.fmod_eq_emod_of_nonneg _ (by decide)]; exact Int.emod_lt_of_pos _ (by decide)
    have e2 : (S.set p (some (CO.lst [.int a, .int c])))[p]? = some (some (.lst [.int a, .int c])) := by rw [List.getElem?_set_self hp]
    refine ⟨S.set p (some (.lst [.int a, .int c])), by simp only [setD, e]; rfl, ?_⟩
    walk_at "dl"
    refine o_ix (v := .int c) (by rw [pool_ix e2]; rfl) ?_
    walk_at "dl"
    refine o_ix (v := .int c) (by rw [pool_ix e2]; rfl) ?_
    walk_at "dl"
    have sc : Sz 32 c := by unfold Sz; omega
    refine o_mul (sc.mulOk sc) ?_
    walk_at "dl"
    refine o_mod (by decide) ?_
    walk_at "dl"
    refine o_fdiv (by decide) (by decide) ?_
    walk_at "dl"
    refine o_mod (by omega) ?_
    walk_at "dl"
    rw [trim_same (by simp)]
    refine k _ _ ?_ ?_ (SP.set h ha hc0)
    · rw [Int.fmod_eq_emod_of_nonneg _ (by omega)]; exact Int.emod_nonneg _ (by omega)
    · rw [Int.fmod_eq_emod_of_nonneg _ (by omega)]; exact Int.emod_lt_of_pos _ h0

/-! ### fractions, lowest terms -/
def fD (f : Fr) : D := .tup [.int f.1, .int f.2]
theorem gcd_step {a b : Int} (ha : 0 ≤ a) (hb : 0 < b) : Int.gcd b (a.fmod b) = Int.gcd a b := by
  obtain ⟨m, rfl⟩ := Int.eq_ofNat_of_zero_le ha
  obtain ⟨n, rfl⟩ := Int.eq_ofNat_of_zero_le (Int.le_of_lt hb)
  rw [Int.fmod_eq_emod_of_nonneg _ (by omega)]
  show Nat.gcd (n : Int).natAbs ((m : Int) % (n : Int)).natAbs = Nat.gcd (m : Int).natAbs (n : Int).natAbs
  rw [show ((m : Int) % (n : Int)).natAbs = m % n by omega, Int.natAbs_natCast, Int.natAbs_natCast, Nat.gcd_comm m n, Nat.gcd_comm n (m % n)]
  exact (Nat.gcd_rec n m).symm
def muI (i : Nat) (ρ : DL.Env) : Nat := match ρ[i]? with
  | some (some (.int b)) => b.toNat
  | _ => 0
theorem low_ok {t b : Int} {k : Nat} {S : Sto} {P : D → Sto → Prop} (hb : b ≠ 0) (hk : k ≤ 8000) (h1 : Sz k b) (q : P (fD (lowF t b)) S) : Ok (Lw.f__law_low [.int t, .int b] S) P := by
  have g0 := gcd_pos (t := t) hb
  unfold Lw.f__law_low
  refine k_fn rfl ?_
  unfold Lw.d__law_low
  walk_at "dl"
  refine k_while (fun ρ S' => S' = S ∧ ∃ x y : Int, 0 ≤ x ∧ 0 ≤ y ∧ Int.gcd x y = Int.gcd t b ∧ ρ = [some (.int t), some (.int b), some (.int x), some (.int y)]) (fun ρ _ => muI 3 ρ) ⟨rfl, t.natAbs, b.natAbs, by omega, by omega, by simp [Int.gcd], rfl⟩ ?_ ?_
  · show Int.toNat (b.natAbs : Int) < FU
    exact FU_gt (k := k) (by unfold Sz at *; omega) (by omega)
  rintro ρ S' ⟨rfl, x, y, hx, hy, hg, rfl⟩
  walk_at "dl"
  by_cases hz : 0 < y
  · rw [if_pos (by simpa using hz)]
    walk_at "dl"
    refine o_mod (by omega) ?_
    walk_at "dl"
    refine ⟨⟨rfl, y, x.fmod y, hy, ?_, ?_, rfl⟩, ?_⟩
    · rw [Int.fmod_eq_emod_of_nonneg _ (by omega)]; exact Int.emod_nonneg _ (by omega)
    · rw [gcd_step hx hz, hg]
    · show Int.toNat (x.fmod y) < Int.toNat y
      rw [Int.fmod_eq_emod_of_nonneg _ (by omega)]
      have := Int.emod_lt_of_pos x hz
      have := Int.emod_nonneg x (show y ≠ 0 by omega)
      omega
  · have : y = 0 := by omega
    subst this
    have hx' : x = (Int.gcd t b : Int) := by
      rw [← hg]; simp [Int.gcd]; omega
    subst hx'
    have hgb : Int.gcd t b ≤ b.natAbs := Nat.le_of_dvd (by omega) (Int.gcd_dvd_natAbs_right t b)
    have hgl : (Int.gcd t b : Int).natAbs.log2 < 9000 := by
      have : Sz k (Int.gcd t b : Int) := Nat.lt_of_le_of_lt (by simpa using hgb) h1
      have := (this.mono (Nat.le_max_left k 1)).log (by omega)
      omega
    rw [if_neg (by simp)]
    walk_at "dl"
    by_cases hs : b < 0
    · rw [if_pos (by simpa using hs)]
      walk_at "dl"
      refine o_fdiv (by omega) (by rw [Int.zero_sub, Int.natAbs_neg]; exact hgl) ?_
      walk_at "dl"
      refine o_fdiv (by omega) (by rw [Int.zero_sub, Int.natAbs_neg]; exact hgl) ?_
      walk_at "dl"
      rw [trim_same rfl]
      unfold fD lowF at q
      rw [if_pos hs] at q
      rw [Int.zero_sub]
      exact q
    · rw [if_neg (by simpa using hs)]
      walk_at "dl"
      refine o_fdiv (by omega) hgl ?_
      walk_at "dl"
      refine o_fdiv (by omega) hgl ?_
      walk_at "dl"
      rw [trim_same rfl]
      unfold fD lowF at q
      rw [if_neg hs] at q
      exact q
theorem shared_ok {t b : Int} {k : Nat} {S : Sto} {P : D → Sto → Prop} (hk : k ≤ 8000) (h1 : Sz k b) (q : P (.int (Int.gcd t b)) S) : Ok (Lw.f_shared_by [.int t, .int b] S) P := by
  unfold Lw.f_shared_by
  refine k_fn rfl ?_
  unfold Lw.d_shared_by
  walk_at "dl"
  refine k_while (fun ρ S' => S' = S ∧ ∃ x y : Int, 0 ≤ x ∧ 0 ≤ y ∧ Int.gcd x y = Int.gcd t b ∧ ρ = [some (.int x), some (.int y)]) (fun ρ _ => muI 1 ρ) ⟨rfl, t.natAbs, b.natAbs, by omega, by omega, by simp [Int.gcd], rfl⟩ ?_ ?_
  · show Int.toNat (b.natAbs : Int) < FU
    exact FU_gt (k := k) (by unfold Sz at *; omega) (by omega)
  rintro ρ S' ⟨rfl, x, y, hx, hy, hg, rfl⟩
  walk_at "dl"
  by_cases hz : 0 < y
  · rw [if_pos (by simpa using hz)]
    walk_at "dl"
    refine o_mod (by omega) ?_
    walk_at "dl"
    refine ⟨⟨rfl, y, x.fmod y, hy, ?_, ?_, rfl⟩, ?_⟩
    · rw [Int.fmod_eq_emod_of_nonneg _ (by omega)]; exact Int.emod_nonneg _ (by omega)
    · rw [gcd_step hx hz, hg]
    · show Int.toNat (x.fmod y) < Int.toNat y
      rw [Int.fmod_eq_emod_of_nonneg _ (by omega)]
      have := Int.emod_lt_of_pos x hz
      have := Int.emod_nonneg x (show y ≠ 0 by omega)
      omega
  · have : y = 0 := by omega
    subst this
    have hx' : x = (Int.gcd t b : Int) := by
      rw [← hg]; simp [Int.gcd]; omega
    subst hx'
    rw [if_neg (by simp)]
    walk_at "dl"
    rw [trim_same rfl]
    exact q
theorem lowest_ok {t b : Int} {k : Nat} {S : Sto} {P : D → Sto → Prop} (hb : b ≠ 0) (hk : k ≤ 8000) (h1 : Sz k b) (q : P (fD (lowF t b)) S) : Ok (Lw.f_lowest [.int t, .int b] S) P := by
  have g0 := gcd_pos (t := t) hb
  have hgb : Int.gcd t b ≤ b.natAbs := Nat.le_of_dvd (by omega) (Int.gcd_dvd_natAbs_right t b)
  have hgl : (Int.gcd t b : Int).natAbs.log2 < 9000 := by
    have : Sz k (Int.gcd t b : Int) := Nat.lt_of_le_of_lt (by simpa using hgb) h1
    have := (this.mono (Nat.le_max_left k 1)).log (by omega)
    omega
  unfold Lw.f_lowest
  refine k_fn rfl ?_
  unfold Lw.d_lowest
  walk_at "dl"
  refine shared_ok hk h1 ?_
  walk_at "dl"
  by_cases hs : b < 0
  · rw [if_pos (by simpa using hs)]
    walk_at "dl"
    refine o_fdiv (by omega) (by rw [Int.natAbs_neg]; exact hgl) ?_
    walk_at "dl"
    refine o_fdiv (by omega) (by rw [Int.natAbs_neg]; exact hgl) ?_
    walk_at "dl"
    rw [trim_same rfl]
    unfold fD lowF at q
    rw [if_pos hs] at q
    exact q
  · rw [if_neg (by simpa using hs)]
    walk_at "dl"
    refine o_fdiv (by omega) hgl ?_
    walk_at "dl"
    refine o_fdiv (by omega) hgl ?_
    walk_at "dl"
    rw [trim_same rfl]
    unfold fD lowF at q
    rw [if_neg hs] at q
    exact q
theorem law_plus_ok {f g : Fr} {k l k' l' : Nat} {S : Sto} {P : D → Sto → Prop} (hf : FrS k l f) (hg : FrS k' l' g) (hk : k ≤ 4000) (hl : l ≤ 4000) (hk' : k' ≤ 4000) (hl' : l' ≤ 4000) (q : P (fD (plusF f g)) S) : Ok (Lw.f__law_plus [fD f, fD g] S) P := by
  unfold Lw.f__law_plus
  refine k_fn rfl ?_
  unfold Lw.d__law_plus fD
  walk_at "dl"
  refine o_mul (hf.t.mulOk hg.b (by omega) (by omega)) ?_
  walk_at "dl"
  refine o_mul (hg.t.mulOk hf.b (by omega) (by omega)) ?_
  walk_at "dl"
  refine o_mul (hf.b.mulOk hg.b (by omega) (by omega)) ?_
  walk_at "dl"
  refine low_ok (mul_nz hf.nz hg.nz) (by omega) (hf.b.mul hg.b) ?_
  rw [trim_same rfl]
  exact q
theorem law_times_ok {f g : Fr} {k l k' l' : Nat} {S : Sto} {P : D → Sto → Prop} (hf : FrS k l f) (hg : FrS k' l' g) (hk : k ≤ 4000) (hl : l ≤ 4000) (hk' : k' ≤ 4000) (hl' : l' ≤ 4000) (q : P (fD (timesF f g)) S) : Ok (Lw.f__law_times [fD f, fD g] S) P := by
  unfold Lw.f__law_times
  refine k_fn rfl ?_
  unfold Lw.d__law_times fD
  walk_at "dl"
  refine o_mul (hf.t.mulOk hg.t (by omega) (by omega)) ?_
  walk_at "dl"
  refine o_mul (hf.b.mulOk hg.b (by omega) (by omega)) ?_
  walk_at "dl"
  refine low_ok (mul_nz hf.nz hg.nz) (by omega) (hf.b.mul hg.b) ?_
  rw [trim_same rfl]
  exact q
theorem times_ok {f g : Fr} {k l k' l' : Nat} {S : Sto} {P : D → Sto → Prop} (hf : FrS k l f) (hg : FrS k' l' g) (hk : k ≤ 4000) (hl : l ≤ 4000) (hk' : k' ≤ 4000) (hl' : l' ≤ 4000) (q : P (fD (timesF f g)) S) : Ok (Lw.f_times [fD f, fD g] S) P := by
  unfold Lw.f_times
  refine k_fn rfl ?_
  unfold Lw.d_times fD
  walk_at "dl"
  refine o_mul (hf.t.mulOk hg.t (by omega) (by omega)) ?_
  walk_at "dl"
  refine o_mul (hf.b.mulOk hg.b (by omega) (by omega)) ?_
  walk_at "dl"
  refine lowest_ok (mul_nz hf.nz hg.nz) (by omega) (hf.b.mul hg.b) ?_
  rw [trim_same rfl]
  exact q
theorem plus_ok {f g : Fr} {k l k' l' : Nat} {S : Sto} {P : D → Sto → Prop} (hf : FrS k l f) (hg : FrS k' l' g) (hk : k ≤ 4000) (hl : l ≤ 4000) (hk' : k' ≤ 4000) (hl' : l' ≤ 4000) (q : P (fD (plusF f g)) S) : Ok (Lw.f_plus [fD f, fD g] S) P := by
  unfold Lw.f_plus
  refine k_fn rfl ?_
  unfold Lw.d_plus fD
  walk_at "dl"
  by_cases h1 : f.2 = g.2
  · rw [if_pos (by simpa using h1)]
    walk_at "dl"
    by_cases h2 : g.2 = 1
    · rw [if_pos (by simpa using h2)]
      walk_at "dl"
      rw [trim_same rfl]
      have e : plusF f g = (f.1 + g.1, 1) := by
        obtain ⟨a, b⟩ := f
        obtain ⟨c, d⟩ := g
        dsimp only at h1 h2
        subst h2 h1
        exact plus_one
      rw [e] at q
      exact q
    · rw [if_neg (by simpa using h2)]
      walk_at "dl"
      refine o_mul (hf.t.mulOk hg.b (by omega) (by omega)) ?_
      walk_at "dl"
      refine o_mul (hg.t.mulOk hf.b (by omega) (by omega)) ?_
      walk_at "dl"
      refine o_mul (hf.b.mulOk hg.b (by omega) (by omega)) ?_
      walk_at "dl"
      refine lowest_ok (mul_nz hf.nz hg.nz) (by omega) (hf.b.mul hg.b) ?_
      rw [trim_same rfl]
      exact q
  · rw [if_neg (by simpa using h1)]
    walk_at "dl"
    refine o_mul (hf.t.mulOk hg.b (by omega) (by omega)) ?_
    walk_at "dl"
    refine o_mul (hg.t.mulOk hf.b (by omega) (by omega)) ?_
    walk_at "dl"
    refine o_mul (hf.b.mulOk hg.b (by omega) (by omega)) ?_
    walk_at "dl"
    refine lowest_ok (mul_nz hf.nz hg.nz) (by omega) (hf.b.mul hg.b) ?_
    rw [trim_same rfl]
    exact q
theorem fD_eq (f g : Fr) : PyData.eqv (fD f).py (fD g).py = decide (f = g) := by
  obtain ⟨a, b⟩ := f
  obtain ⟨c, d⟩ := g
  simp only [fD, D.py, D.pyL, PyData.eqv, PyData.eqvAll]
  simp
  rfl

/-! ### what is drawn -/
theorem atI_mem {xs : List D} {i : Int} (h0 : 0 ≤ i) (h1 : i < xs.length) : ∃ v, v ∈ xs ∧ L2.atI xs i = some v := by
  have hi : i.toNat < xs.length := by omega
  refine ⟨xs[i.toNat], List.getElem_mem hi, ?_⟩
  unfold L2.atI L2.ixN
  rw [if_pos h0, if_pos h1]
  exact List.getElem?_eq_getElem hi
theorem o_pick {xs : List D} {i : Int} {S : Sto} {P : D → Sto → Prop} (Q : D → Prop) (h0 : 0 ≤ i) (h1 : i < xs.length) (hq : ∀ d ∈ xs, Q d) (q : ∀ v, Q v → P v S) : Ok (oIx (.lst xs) (.int i) S) P := by
  obtain ⟨v, hm, e⟩ := atI_mem h0 h1
  exact o_ix (v := v) (by show L2.atI xs i = _; exact e) (q v (hq v hm))
theorem o_ix0 {x : D} {xs : List D} {S : Sto} {P : D → Sto → Prop} (q : P x S) : Ok (oIx (.lst (x :: xs)) (.int 0) S) P := by
  refine o_ix (v := x) ?_ q
  show L2.atI (x :: xs) 0 = _
  unfold L2.atI L2.ixN
  rw [if_pos (by decide), if_pos (by simp)]
  rfl
theorem cut_1 (xs : List D) : cutD xs (some 1) none = xs.drop 1 := cut_from xs 1
/-- an int from nought up, below m -/
def Up (m : Int) (d : D) : Prop := ∃ r : Int, d = .int r ∧ 0 ≤ r ∧ r < m

theorem pool_ok {ns : List Int} {z : Int} {S : Sto} {P : D → Sto → Prop} (hz : 0 ≤ z) (hi : z < 1000) (k : ∀ a b : Int, 0 ≤ a → 0 ≤ b → P (.cell S.length) (S ++ [some (.lst [.int a, .int b])])) : Ok (Lw.f__law_pool [.ro (ns.map .int), .int z] S) P := by
  unfold Lw.f__law_pool
  refine k_fn rfl ?_
  unfold Lw.d__law_pool
  walk_at "dl"
  refine k_ite (fun f ρ S' => f = .nx ∧ S' = S ∧ ∃ c : Int, ρ = [some (.ro (ns.map .int)), some (.int z), some (.int c), none, none]) ?_ ?_ ?_
  · intro hl
    have hl' : z < ((ns.map D.int).length : Int) := by simpa using hl
    walk_at "dl"
    obtain ⟨v, hm, e⟩ := atI_mem (xs := ns.map D.int) (i := z) (by omega) hl'
    obtain ⟨c, hc, rfl⟩ := List.mem_map.mp hm
    refine o_ix (v := .int c) (by show L2.atI (ns.map D.int) z = _; exact e) ?_
    walk_at "dl"
    exact ⟨rfl, rfl, c, rfl⟩
  · intro _
    walk_at "dl"
    exact ⟨rfl, rfl, 0, rfl⟩
  rintro f ρ S' ⟨rfl, rfl, c, rfl⟩
  walk_at "dl"
  refine o_mod (by decide) ?_
  walk_at "dl"
  have sz : Sz 10 z := by unfold Sz; omega
  have s1 : Sz 13 7919 := by unfold Sz; decide
  refine o_mul (s1.mulOk sz) ?_
  walk_at "dl"
  refine o_mul ((s1.mul sz).mulOk sz) ?_
  walk_at "dl"
  refine o_mul (sz.mulOk (k := 10) (l := 10) (show Sz 10 31 by unfold Sz; decide) |> fun _ => (show Sz 10 31 by unfold Sz; decide).mulOk sz) ?_
  walk_at "dl"
  refine o_mul (.of_right (by decide)) ?_
  walk_at "dl"
  refine o_mod (by decide) ?_
  walk_at "dl"
  refine o_pow (by unfold L2.CPow; decide) ?_
  walk_at "dl"
  generalize hn : max c (-1 - c) = n
  have hn0 : 0 ≤ n := by omega
  generalize hm : Int.fmod _ 2147483647 = m
  have hm0 : 0 ≤ m := by rw [← hm, Int.fmod_eq_emod_of_nonneg _ (by decide)]; exact Int.emod_nonneg _ (by decide)
  refine o_mul (.of_right (by split <;> decide)) ?_
  walk_at "dl"
  have e : trim S' (.cell S'.length) (S' ++ [some (.lst [.int (n * if decide (10 ^ (18 : Int).toNat ≤ n) = true then 1 else 0), .int m])]) = S' ++ [some (.lst [.int (n * if decide (10 ^ (18 : Int).toNat ≤ n) = true then 1 else 0), .int m])] := by
    unfold trim
    rw [if_neg]
    rintro ⟨h, _⟩
    simp [D.bel] at h
  rw [e]
  refine k _ _ ?_ hm0
  split
  · omega
  · simp
theorem pool_made {S : Sto} {a b : Int} (h0 : 0 ≤ a) (h1 : 0 ≤ b) : IsPool (S ++ [some (.lst [.int a, .int b])]) S.length := ⟨a, b, h0, h1, by simp⟩

abbrev Wi := Str × List Int
def rD (row : List Int) : D := .lst (row.map .int)
def wD (w : Wi) : D := .tup [.str w.1, rD w.2]
structure WiOk (r n : Nat) (w : Wi) : Prop where
  word : w.1 = "least" ∨ w.1 = "just"
  len : w.2.length = n + 1
  sz : ∀ i ∈ w.2, Sz r i
theorem WiOk.mono {r s n : Nat} {w : Wi} (h : WiOk r n w) (l : r ≤ s) : WiOk s n w := ⟨h.word, h.len, fun i hi => (h.sz i hi).mono l⟩

/-! ### kinds of things -/
def kn : D → String
  | .non => "NoneType"
  | .bl _ => "bool"
  | .int _ => "int"
  | .str _ => "str"
  | .tup _ => "tuple"
  | .dE => "dict"
  | _ => "list"
def isT : D → Bool
  | .tup _ => true
  | _ => false
def isL : D → Bool
  | .lst _ => true
  | .ro _ => true
  | _ => false
def isI : D → Bool
  | .int _ => true
  | .bl _ => true
  | _ => false
def isB : D → Bool
  | .bl _ => true
  | _ => false
def isS : D → Bool
  | .str _ => true
  | _ => false
def isW : D → Bool
  | .int _ => true
  | _ => false
theorem kind_pr {S : Sto} {k : Nat} {d : D} (h : d.pr k = true) : kindD S d = some (kn d) := by
  cases d with
  | cell n => simp [D.pr] at h
  | ty n => simp [D.pr] at h
  | _ => rfl
section
variable {S : Sto} {P : D → Sto → Prop} {k : Nat} {d : D}
theorem o_isT (h : d.pr k = true) (q : P (.bl (isT d)) S) : Ok (fIsi [d, .ty "tuple"] S) P := by
  refine o_isi (kind_pr h) ?_ q
  cases d with
  | cell n => simp [D.pr] at h
  | ty n => simp [D.pr] at h
  | _ => simp only [kn, isT, isL, isI, isB, isS]; decide +kernel
theorem o_isL (h : d.pr k = true) (q : P (.bl (isL d)) S) : Ok (fIsi [d, .ty "list"] S) P := by
  refine o_isi (kind_pr h) ?_ q
  cases d with
  | cell n => simp [D.pr] at h
  | ty n => simp [D.pr] at h
  | _ => simp only [kn, isT, isL, isI, isB, isS]; decide +kernel
theorem o_isI (h : d.pr k = true) (q : P (.bl (isI d)) S) : Ok (fIsi [d, .ty "int"] S) P := by
  refine o_isi (kind_pr h) ?_ q
  cases d with
  | cell n => simp [D.pr] at h
  | ty n => simp [D.pr] at h
  | _ => simp only [kn, isT, isL, isI, isB, isS]; decide +kernel
theorem o_isB (h : d.pr k = true) (q : P (.bl (isB d)) S) : Ok (fIsi [d, .ty "bool"] S) P := by
  refine o_isi (kind_pr h) ?_ q
  cases d with
  | cell n => simp [D.pr] at h
  | ty n => simp [D.pr] at h
  | _ => simp only [kn, isT, isL, isI, isB, isS]; decide +kernel
theorem o_isS (h : d.pr k = true) (q : P (.bl (isS d)) S) : Ok (fIsi [d, .ty "str"] S) P := by
  refine o_isi (kind_pr h) ?_ q
  cases d with
  | cell n => simp [D.pr] at h
  | ty n => simp [D.pr] at h
  | _ => simp only [kn, isT, isL, isI, isB, isS]; decide +kernel
theorem isW_eq (d : D) : isW d = (isI d && !isB d) := by cases d <;> rfl
theorem is_whole_ok (h : d.pr k = true) (q : P (.bl (isW d)) S) : Ok (Lw.f_is_whole [d] S) P := by
  unfold Lw.f_is_whole
  refine k_fn rfl ?_
  unfold Lw.d_is_whole
  walk_at "dl"
  refine o_isI h ?_
  walk_at "dl"
  rw [isW_eq] at q
  cases hI : isI d with
  | false =>
    rw [if_neg (by simp)]
    rw [trim_same rfl]
    rw [hI] at q; exact q
  | true =>
    rw [if_pos rfl]
    walk_at "dl"
    refine o_isB h ?_
    walk_at "dl"
    rw [trim_same rfl]
    rw [hI] at q; exact q
theorem law_is_whole_ok (h : d.pr k = true) (q : P (.bl (isW d)) S) : Ok (Lw.f__law_is_whole [d] S) P := by
  unfold Lw.f__law_is_whole
  refine k_fn rfl ?_
  unfold Lw.d__law_is_whole
  walk_at "dl"
  refine o_isI h ?_
  walk_at "dl"
  rw [isW_eq] at q
  cases hI : isI d with
  | false =>
    rw [if_neg (by simp)]
    rw [trim_same rfl]
    rw [hI] at q; exact q
  | true =>
    rw [if_pos rfl]
    walk_at "dl"
    refine o_isB h ?_
    walk_at "dl"
    rw [trim_same rfl]
    rw [hI] at q; exact q
end
/-! ### fractions among things -/
mutual
/-- each int in it is below 2 ^ k -/
def sm (k : Nat) : D → Bool
  | .int i => decide (i.natAbs < 2 ^ k)
  | .tup xs => smL k xs
  | .lst xs => smL k xs
  | .ro xs => smL k xs
  | _ => true
def smL (k : Nat) : List D → Bool
  | [] => true
  | x :: xs => sm k x && smL k xs
end
/-- an element of shares or numbers -/
structure El (d : D) : Prop where
  dat : Dat 40 10 d
  sm : sm 40 d = true
theorem El.pl {d : D} (h : El d) : d.pl 40 = true := h.dat.pl
theorem El.pr {d : D} (h : El d) : d.pr 40 = true := D.pr_of h.pl
def frB : D → Bool
  | .tup [.int a, .int b] => decide (0 < b) && decide (Int.gcd a b = 1)
  | _ => false
def frOf : D → Fr
  | .tup [.int a, .int b] => (a, b)
  | _ => (0, 1)
theorem fr_of {d : D} (h : El d) (q : frB d = true) : d = fD (frOf d) ∧ FrS 40 40 (frOf d) := by
  unfold frB at q
  split at q
  · rename_i a b
    simp only [Bool.and_eq_true, decide_eq_true_eq] at q
    have := h.sm
    simp only [sm, smL, Bool.and_eq_true, decide_eq_true_eq] at this
    exact ⟨rfl, ⟨q.1, q.2⟩, this.1, this.2.1⟩
  · cases q
theorem low_iff {a b : Int} (h : 0 < b) : lowF a b = (a, b) ↔ Int.gcd a b = 1 := by
  constructor
  · intro e
    have := (low_spec (t := a) (b := b) (by omega)).1.2
    rw [e] at this; exact this
  · intro e
    exact low_self (f := (a, b)) ⟨h, e⟩
section
variable {S : Sto} {P : D → Sto → Prop} {d : D}
/-- the shapes that are told apart -/
theorem fr_shape (d : D) : isT d = false ∨ (∃ xs, d = .tup xs ∧ xs.length ≠ 2) ∨ ∃ x y, d = .tup [x, y] := by
  cases d with
  | tup xs =>
    right
    by_cases h : xs.length = 2
    · right
      match xs, h with
      | [x, y], _ => exact ⟨x, y, rfl⟩
    · exact .inl ⟨xs, rfl, h⟩
  | _ => exact .inl rfl
theorem frB_not {x y : D} (h : isW x = false ∨ isW y = false) : frB (.tup [x, y]) = false := by
  cases x <;> cases y <;> first | rfl | (rcases h with h | h <;> simp [isW] at h)
theorem el_two {x y : D} (h : El (.tup [x, y])) : x.pr 39 = true ∧ y.pr 39 = true := by
  have := h.pr
  simp only [D.pr, D.prL, Bool.and_eq_true] at this
  exact ⟨this.2.1, this.2.2.1⟩
theorem is_fraction_ok (h : El d) (q : P (.bl (frB d)) S) : Ok (Lw.f_is_fraction [d] S) P := by
  unfold Lw.f_is_fraction
  refine k_fn rfl ?_
  unfold Lw.d_is_fraction
  walk_at "dl"
  refine o_isT h.pr ?_
  walk_at "dl"
  rcases fr_shape d with hT | ⟨xs, rfl, hx⟩ | ⟨x, y, rfl⟩
  · rw [hT]
    refine k_ifT (by simp) ?_
    refine k_ifT (by simp) ?_
    walk_at "dl"
    rw [trim_same rfl]
    have e : frB d = false := by cases d <;> first | rfl | cases hT
    rw [e] at q; exact q
  · rw [if_neg (by simp [isT])]
    walk_at "dl"
    refine k_ifT (by simp; omega) ?_
    refine k_ifT (by simp) ?_
    walk_at "dl"
    rw [trim_same rfl]
    have e : frB (.tup xs) = false := by
      unfold frB
      split
      · rename_i e; cases e; simp at hx
      · rfl
    rw [e] at q; exact q
  · obtain ⟨px, py⟩ := el_two h
    rw [if_neg (by simp [isT])]
    walk_at "dl"
    rw [if_neg (by simp)]
    walk_at "dl"
    refine is_whole_ok px ?_
    walk_at "dl"
    cases hx : isW x with
    | false =>
      refine k_ifT (by simp) ?_
      refine k_ifT (by simp) ?_
      walk_at "dl"
      rw [trim_same rfl]
      rw [frB_not (.inl hx)] at q; exact q
    | true =>
      rw [if_neg (by simp)]
      walk_at "dl"
      refine is_whole_ok py ?_
      walk_at "dl"
      cases hy : isW y with
      | false =>
        refine k_ifT (by simp) ?_
        walk_at "dl"
        rw [trim_same rfl]
        rw [frB_not (.inr hy)] at q; exact q
      | true =>
        rw [if_neg (by simp)]
        walk_at "dl"
        cases x with
        | int a =>
          cases y with
          | int b =>
            have sb : Sz 40 b := by
              have := h.sm
              simp only [sm, smL, Bool.and_eq_true, decide_eq_true_eq] at this
              exact this.2.1
            walk_at "dl"
            by_cases hb : 1 ≤ b
            · rw [if_pos (by simpa using hb)]
              walk_at "dl"
              refine shared_ok (k := 40) (by decide) sb ?_
              walk_at "dl"
              rw [trim_same rfl]
              have e : decide ((Int.gcd a b : Int) = 1) = frB (.tup [.int a, .int b]) := by
                show _ = (decide (0 < b) && decide (Int.gcd a b = 1))
                rw [decide_eq_true (show 0 < b by omega), Bool.true_and]
                exact decide_eq_decide.mpr (by omega)
              rw [e]; exact q
            · rw [if_neg (by simpa using hb)]
              rw [trim_same rfl]
              have e : frB (.tup [.int a, .int b]) = false := by
                show (decide (0 < b) && decide (Int.gcd a b = 1)) = false
                rw [decide_eq_false (show ¬0 < b by omega), Bool.false_and]
              rw [e] at q; exact q
          | _ => cases hy
        | _ => cases hx
theorem law_is_fraction_ok (h : El d) (q : P (.bl (frB d)) S) : Ok (Lw.f__law_is_fraction [d] S) P := by
  unfold Lw.f__law_is_fraction
  refine k_fn rfl ?_
  unfold Lw.d__law_is_fraction
  walk_at "dl"
  refine o_isT h.pr ?_
  walk_at "dl"
  rcases fr_shape d with hT | ⟨xs, rfl, hx⟩ | ⟨x, y, rfl⟩
  · rw [hT]
    refine k_ifT (by simp) ?_
    refine k_ifT (by simp) ?_
    walk_at "dl"
    rw [trim_same rfl]
    have e : frB d = false := by cases d <;> first | rfl | cases hT
    rw [e] at q; exact q
  · rw [if_neg (by simp [isT])]
    walk_at "dl"
    refine k_ifT (by simp; omega) ?_
    refine k_ifT (by simp) ?_
    walk_at "dl"
    rw [trim_same rfl]
    have e : frB (.tup xs) = false := by
      unfold frB
      split
      · rename_i e; cases e; simp at hx
      · rfl
    rw [e] at q; exact q
  · obtain ⟨px, py⟩ := el_two h
    rw [if_neg (by simp [isT])]
    walk_at "dl"
    rw [if_neg (by simp)]
    walk_at "dl"
    refine law_is_whole_ok px ?_
    walk_at "dl"
    cases hx : isW x with
    | false =>
      refine k_ifT (by simp) ?_
      refine k_ifT (by simp) ?_
      walk_at "dl"
      rw [trim_same rfl]
      rw [frB_not (.inl hx)] at q; exact q
    | true =>
      rw [if_neg (by simp)]
      walk_at "dl"
      refine law_is_whole_ok py ?_
      walk_at "dl"
      cases hy : isW y with
      | false =>
        refine k_ifT (by simp) ?_
        walk_at "dl"
        rw [trim_same rfl]
        rw [frB_not (.inr hy)] at q; exact q
      | true =>
        rw [if_neg (by simp)]
        walk_at "dl"
        cases x with
        | int a =>
          cases y with
          | int b =>
            have sb : Sz 40 b := by
              have := h.sm
              simp only [sm, smL, Bool.and_eq_true, decide_eq_true_eq] at this
              exact this.2.1
            walk_at "dl"
            by_cases hb : 0 < b
            · rw [if_pos (by simpa using hb)]
              walk_at "dl"
              refine low_ok (k := 40) (by omega) (by decide) sb ?_
              walk_at "dl"
              refine o_eqD (by intro s hs; cases hs) (by rfl) (by rfl) ?_
              rw [trim_same rfl]
              rw [show topD S (fD (lowF a b)) = fD (lowF a b) from rfl, show topD S (.tup [.int a, .int b]) = fD (a, b) from rfl, fD_eq]
              have e : decide (lowF a b = (a, b)) = frB (.tup [.int a, .int b]) := by
                show _ = (decide (0 < b) && decide (Int.gcd a b = 1))
                rw [decide_eq_true hb, Bool.true_and]
                exact decide_eq_decide.mpr (low_iff hb)
              rw [e]; exact q
            · rw [if_neg (by simpa using hb)]
              rw [trim_same rfl]
              have e : frB (.tup [.int a, .int b]) = false := by
                show (decide (0 < b) && decide (Int.gcd a b = 1)) = false
                rw [decide_eq_false hb, Bool.false_and]
              rw [e] at q; exact q
          | _ => cases hy
        | _ => cases hx
end

/-! ### totals over rows -/
def iL (ns : List Int) : D := .lst (ns.map .int)
def cD (cols : List (List Int)) : D := .lst (cols.map iL)
def totC (cols : List (List Int)) (fs : List Fr) (j i : Nat) : Fr := ((cols.zip fs).take i).foldl (fun a p => plusF a (timesF (p.1.getD j 0, 1) p.2)) (0, 1)
theorem totC_succ {cols : List (List Int)} {fs : List Fr} {j i : Nat} {c : List Int} {f : Fr} (h : (cols.zip fs)[i]? = some (c, f)) : totC cols fs j (i + 1) = plusF (totC cols fs j i) (timesF (c.getD j 0, 1) f) := by
  unfold totC
  rw [List.take_add_one, h, List.foldl_append]
  rfl
theorem times_comm (f g : Fr) : timesF f g = timesF g f := by unfold timesF; rw [Int.mul_comm f.1, Int.mul_comm f.2]
theorem one_S {r : Nat} {x : Int} (h : Sz r x) : FrS r 1 (x, 1) := ⟨nrm_int x, h, show (1 : Int).natAbs < 2 ^ 1 by decide⟩
theorem getD_S {r j : Nat} {row : List Int} (hr : ∀ i ∈ row, Sz r i) : Sz r (row.getD j 0) := by
  rw [List.getD_eq_getElem?_getD]
  cases e : row[j]? with
  | none => show (0 : Int).natAbs < 2 ^ r; exact Nat.two_pow_pos r
  | some x => exact hr x (List.mem_of_getElem? e)
theorem totR_S {r : Nat} {cols : List (List Int)} {fs : List Fr} (hc : ∀ c ∈ cols, ∀ i ∈ c, Sz r i) (hf : ∀ f ∈ fs, FrS 40 40 f) (j : Nat) : ∀ i : Nat, i ≤ (cols.zip fs).length → FrS (r + 100 + 42 * i) (1 + 41 * i) (totC cols fs j i) := by
  intro i
  induction i with
  | zero =>
    intro _
    show FrS _ _ ((0 : Int), (1 : Int))
    exact (one_S (r := 1) (by unfold Sz; decide)).mono (by omega) (by omega)
  | succ i ih =>
    intro h
    have hi : i < (cols.zip fs).length := h
    have ⟨c, f, hx⟩ : ∃ c f, (cols.zip fs)[i]? = some (c, f) := ⟨_, _, List.getElem?_eq_getElem hi⟩
    have hm := List.of_mem_zip (List.mem_of_getElem? hx)
    rw [totC_succ hx]
    refine (plus_S (ih (by omega)) (times_S (one_S (getD_S (hc c hm.1))) (hf f hm.2))).mono ?_ ?_
    · omega
    · omega
theorem range_row {row : List Int} {n : Nat} (h : row.length = n) : row = (List.range n).map fun j => row.getD j 0 := by
  subst h
  apply List.ext_getElem?
  intro i
  rw [List.getElem?_map]
  by_cases hi : i < row.length
  · rw [List.getElem?_range hi, List.getElem?_eq_getElem hi]
    simp [hi]
  · rw [List.getElem?_eq_none (by omega), List.getElem?_eq_none (by simp; omega)]; rfl
theorem zipD_same {α : Type} (f g : α → D) : ∀ l : List α, zipD (l.map f) (l.map g) = l.map fun j => .tup [f j, g j]
  | [] => rfl
  | x :: xs => by simp only [List.map_cons, zipD, zipD_same f g xs]
theorem pl_fDs : ∀ l : List Fr, D.plL 59 (l.map fD) = true
  | [] => rfl
  | f :: l => by simp only [List.map_cons, D.plL, pl_fDs l, Bool.and_true]; rfl
theorem pl_fl (l : List Fr) : D.pl 60 (.lst (l.map fD)) = true := by
  show (decide (0 < 60) && D.plL 59 (l.map fD)) = true
  rw [pl_fDs]; rfl
theorem pl_ints (k : Nat) : ∀ l : List Int, D.plL k (l.map D.int) = true
  | [] => rfl
  | f :: l => by simp only [List.map_cons, D.plL, pl_ints k l, Bool.and_true]; rfl
theorem fDs_eqv : ∀ l l' : List Fr, PyData.eqvAll (D.pyL (l.map fD)) (D.pyL (l'.map fD)) = decide (l = l')
  | [], [] => by simp [D.pyL, PyData.eqvAll]
  | [], _ :: _ => by simp [D.pyL, PyData.eqvAll]
  | _ :: _, [] => by simp [D.pyL, PyData.eqvAll]
  | f :: l, g :: l' => by
    simp only [List.map_cons, D.pyL, PyData.eqvAll, fDs_eqv l l', fD_eq]
    by_cases h : f = g <;> by_cases h' : l = l' <;> simp [h, h']
theorem fDs_eq (l l' : List Fr) : PyData.eqv (D.lst (l.map fD)).py (D.lst (l'.map fD)).py = decide (l = l') := by
  simp only [D.py, PyData.eqv]
  exact fDs_eqv l l'
theorem all_range {n : Nat} {goal : List Int} {t : Nat → Fr} (h : goal.length = n) : decide ((List.range n).map t = goal.map fun g => (g, 1)) = (List.range n).all fun j => decide (t j = (goal.getD j 0, 1)) := by
  have e : (goal.map fun g => ((g, 1) : Fr)) = (List.range n).map fun j => (goal.getD j 0, 1) := by
    conv => lhs; rw [range_row h]
    rw [List.map_map]; rfl
  rw [e, Bool.eq_iff_iff]
  simp only [decide_eq_true_eq, List.all_eq_true, List.map_inj_left]

/-! ### what shares add up to -/
theorem trim_keep {S S' : Sto} {d : D} (h : d.bel S.length = false) : trim S d S' = S' := by
  unfold trim
  rw [if_neg]
  rintro ⟨z, _⟩
  rw [h] at z; cases z
/-- wishes over n - 1 numbers, lines of n -/
structure Wis (r n : Nat) (ws : List Wi) : Prop where
  m : ws.length ≤ 24
  len : ∀ w ∈ ws, w.2.length = n
  sz : ∀ w ∈ ws, ∀ i ∈ w.2, Sz r i
def rows (ws : List Wi) : List (List Int) := ws.map (·.2)
theorem Wis.rs {r n : Nat} {ws : List Wi} (h : Wis r n ws) : ∀ c ∈ rows ws, ∀ i ∈ c, Sz r i := by
  intro c hc
  obtain ⟨w, hw, rfl⟩ := List.mem_map.mp hc
  exact h.sz w hw
theorem rows_zip {ws : List Wi} {fs : List Fr} {i : Nat} {w : Wi} {f : Fr} (h : (ws.zip fs)[i]? = some (w, f)) : ((rows ws).zip fs)[i]? = some (w.2, f) := by
  unfold rows
  rw [List.zip_map_left, List.getElem?_map, h]; rfl
theorem rows_len (ws : List Wi) (fs : List Fr) : ((rows ws).zip fs).length = (ws.zip fs).length := by simp [rows, List.length_zip]
theorem nought_eq (f : Fr) (S : Sto) {P : D → Sto → Prop} (q : P (.bl (!decide (f = (0, 1)))) S) : Ok (oNe (fD f) (.tup [.int 0, .int 1]) S) P := by
  refine o_neD (by intro s hs; cases hs) (by rfl) (by rfl) ?_
  rw [show topD S (fD f) = fD f from rfl, show topD S (.tup [.int 0, .int 1]) = fD (0, 1) from rfl, fD_eq]
  exact q
theorem times_none {f : Fr} (h : f.2 ≠ 0) : timesF f (0, 1) = (0, 1) := by rw [times_comm]; exact times_nought h

structure Item (b : D) : Prop where
  pr : b.pr 58 = true
  nro : ∀ xs, b ≠ .ro xs
  el : ∀ xs, b = .lst xs → xs.length ≤ 100 ∧ ∀ x ∈ xs, El x
def leastB (p : Wi × Fr) : Bool := decide (p.1.1 = "least") && decide (p.2.1 < 0)
def arB (ws : List Wi) : D → Bool
  | .lst xs => decide (xs.length = ws.length) && xs.all frB && !((ws.zip (xs.map frOf)).any leastB)
  | _ => false
theorem arB_lst {ws : List Wi} {xs : List D} : arB ws (.lst xs) = (decide (xs.length = ws.length) && xs.all frB && !((ws.zip (xs.map frOf)).any leastB)) := rfl
theorem frs_of {xs : List D} (h : ∀ x ∈ xs, El x) (q : xs.all frB = true) : xs = (xs.map frOf).map fD ∧ ∀ f ∈ xs.map frOf, FrS 40 40 f := by
  have q' := List.all_eq_true.mp q
  refine ⟨?_, ?_⟩
  · rw [List.map_map]
    conv => lhs; rw [← List.map_id xs]
    exact List.map_congr_left fun x hm => (fr_of (h x hm) (q' x hm)).1
  · intro f hf
    obtain ⟨x, hm, rfl⟩ := List.mem_map.mp hf
    exact (fr_of (h x hm) (q' x hm)).2
/-- the plain number and the factors -/
def lineB (n : Nat) (t : Nat → Fr) (row : List Int) : Bool := decide (((List.range n).drop 1).map t = (row.drop 1).map fun g => (g, 1)) && !decide (row.headD 0 * (t 0).2 < (t 0).1)
def caB (n : Nat) (ws : List Wi) (row : List Int) : D → Bool
  | .lst xs => arB ws (.lst xs) && lineB n (fun j => totC (rows ws) (xs.map frOf) j (ws.zip (xs.map frOf)).length) row
  | _ => false
theorem caB_lst {n : Nat} {ws : List Wi} {row : List Int} {xs : List D} : caB n ws row (.lst xs) = (arB ws (.lst xs) && lineB n (fun j => totC (rows ws) (xs.map frOf) j (ws.zip (xs.map frOf)).length) row) := rfl
section
variable {r n : Nat} {ws : List Wi} {b : D} {row : List Int} {S : Sto} {P : D → Sto → Prop}
theorem not_lst (h : Item b) (hb : ∀ xs, b ≠ .lst xs) : isL b = false ∧ arB ws b = false ∧ caB n ws row b = false := by
  cases b with
  | lst xs => exact absurd rfl (hb xs)
  | ro xs => exact absurd rfl (h.nro xs)
  | _ => exact ⟨rfl, rfl, rfl⟩
theorem are_shares_ok (hm : ws.length ≤ 24) (h : Item b) (q : P (.bl (arB ws b)) S) : Ok (Lw.f_are_shares [.lst (ws.map wD), b] S) P := by
  unfold Lw.f_are_shares
  refine k_fn rfl ?_
  unfold Lw.d_are_shares Lw.c_LEAST
  walk_at "dl"
  refine o_isL h.pr ?_
  walk_at "dl"
  by_cases hb : ∀ xs, b ≠ .lst xs
  · obtain ⟨e1, e2, _⟩ := not_lst (n := 0) (ws := ws) (row := []) h hb
    rw [e1]
    with_reducible refine k_ifT ?hc ?_
    case hc => simp
    with_reducible refine k_ifT ?hc ?_
    case hc => simp
    walk_at "dl"
    rw [trim_same rfl]
    rw [e2] at q; exact q
  have ⟨xs, hxs⟩ : ∃ xs, b = .lst xs := Classical.byContradiction fun z => hb fun xs e => z ⟨xs, e⟩
  subst hxs
  obtain ⟨hz, hel⟩ := h.el xs rfl
  with_reducible refine k_ifF ?hc ?_
  case hc => simp [isL]
  walk_at "dl"
  by_cases hl : xs.length = ws.length
  case neg =>
    with_reducible refine k_ifT ?hc ?_
    case hc => simp; omega
    with_reducible refine k_ifT ?hc ?_
    case hc => rfl
    walk_at "dl"
    rw [trim_same rfl]
    have e : arB ws (.lst xs) = false := by rw [arB_lst, decide_eq_false hl]; rfl
    rw [e] at q; exact q
  with_reducible refine k_ifF ?hc ?_
  case hc => simp; omega
  walk_at "dl"
  refine i_list ?_
  refine lc_mapN (l := xs) (f := fun x => x) (g := fun x => .bl (frB x)) rfl (fun i => by simp [itL]) (by rw [sizeLine_eq]; omega) ?_ ?_
  · intro x hx
    refine ⟨_, rfl, ?_⟩
    walk_at "dl"
    exact is_fraction_ok (hel x hx) ⟨rfl, rfl⟩
  walk_at "dl"
  refine o_all (bs := xs.map frB) (by
    rw [show (xs.map fun x => D.bl (frB x)) = (xs.map frB).map D.bl by rw [List.map_map]; rfl]
    exact blsOf_map _) ?_
  walk_at "dl"
  rw [List.all_map, show (id ∘ frB) = frB from rfl]
  cases ha : xs.all frB with
  | false =>
    with_reducible refine k_ifT ?hc ?_
    case hc => rfl
    walk_at "dl"
    rw [trim_same rfl]
    have e : arB ws (.lst xs) = false := by rw [arB_lst, ha]; simp
    rw [e] at q; exact q
  | true =>
    with_reducible refine k_ifF ?hc ?_
    case hc => simp
    walk_at "dl"
    obtain ⟨ex, hfs⟩ := frs_of hel ha
    rw [arB_lst, ha, decide_eq_true hl, Bool.true_and, Bool.true_and] at q
    generalize xs.map frOf = fs at *
    subst ex
    refine i_zip ?_
    rw [zipD_map]
    refine lc_map (l := ws.zip fs) (g := fun p => .bl (leastB p)) (by rw [sizeLine_eq, List.length_zip]; omega) ?_ ?_
    · rintro ⟨w, f⟩ hp
      refine ⟨_, rfl, ?_⟩
      unfold fD leastB
      walk_at "dl"
      by_cases hw : w.1 = "least"
      · with_reducible refine k_ifT ?hc ?_
        case hc => simpa using hw
        walk_at "dl"
        exact ⟨by simp [hw], rfl⟩
      · with_reducible refine k_ifF ?hc ?_
        case hc => simpa using hw
        exact ⟨by simp [hw], rfl⟩
    walk_at "dl"
    refine o_any (bs := (ws.zip fs).map leastB) (by
      rw [show ((ws.zip fs).map fun p => D.bl (leastB p)) = ((ws.zip fs).map leastB).map D.bl by rw [List.map_map]; rfl]
      exact blsOf_map _) ?_
    walk_at "dl"
    rw [trim_same rfl]
    rw [List.any_map]
    exact q
theorem is_below_ok {f g : Fr} {k l k' l' : Nat} (hf1 : Sz k f.1) (hf2 : Sz l f.2) (hg1 : Sz k' g.1) (hg2 : Sz l' g.2) (hk : k ≤ 4000) (hl : l ≤ 4000) (hk' : k' ≤ 4000) (hl' : l' ≤ 4000) (q : P (.bl (decide (f.1 * g.2 < g.1 * f.2))) S) : Ok (Lw.f_is_below [fD f, fD g] S) P := by
  unfold Lw.f_is_below
  refine k_fn rfl ?_
  unfold Lw.d_is_below fD
  walk_at "dl"
  refine o_mul (hf1.mulOk hg2 (by omega) (by omega)) ?_
  walk_at "dl"
  refine o_mul (hg1.mulOk hf2 (by omega) (by omega)) ?_
  walk_at "dl"
  rw [trim_same rfl]
  exact q
theorem cut_back {S S' : Sto} {b : Bool} (h : ∀ i : Nat, i < S.length → S'[i]? = S[i]?) : Cut S (.bl b) S' := by
  refine ⟨rfl, fun i c hi e => .inl ?_⟩
  rw [← h i hi]; exact e
theorem take_back {S S' : Sto} (h : ∀ i : Nat, i < S.length → S'[i]? = S[i]?) (hl : S.length ≤ S'.length) : S'.take S.length = S := by
  apply List.ext_getElem?
  intro i
  by_cases hi : i < S.length
  · rw [List.getElem?_take_of_lt hi]; exact h i hi
  · rw [List.getElem?_eq_none (by rw [List.length_take]; omega), List.getElem?_eq_none (by omega)]
end

theorem ix_row {row : List Int} {z : Int} {S : Sto} {P : D → Sto → Prop} (h0 : 0 ≤ z) (h1 : z < row.length) (q : P (.int (row.getD z.toNat 0)) S) : Ok (oIx (rD row) (.int z) S) P := by
  refine o_ix (v := .int (row.getD z.toNat 0)) ?_ q
  show L2.atI (row.map D.int) z = _
  unfold L2.atI L2.ixN
  rw [if_pos h0, if_pos (by simpa using h1)]
  show (row.map D.int)[z.toNat]? = _
  rw [List.getElem?_map, List.getD_eq_getElem?_getD, List.getElem?_eq_getElem (show z.toNat < row.length by omega)]
  rfl
theorem bel_frl (m : Nat) : ∀ l : List Fr, D.belL m (l.map fD) = true
  | [] => rfl
  | x :: l => by simp only [List.map_cons, D.belL, bel_frl m l, Bool.and_true]; rfl
theorem trim_last {S : Sto} {d : D} {c : Option CO} (h : d.bel S.length = true) : trim S d (S ++ [c]) = S := by
  rw [trim_cut ⟨h, fun i x hi e => .inl (by rw [List.getElem?_append_left hi] at e; exact e)⟩]
  rw [List.take_left']
  rfl

/-! ### what is due -/
theorem atI_at {xs : List D} {z : Int} {x : D} (h0 : 0 ≤ z) (h : xs[z.toNat]? = some x) {S : Sto} {P : D → Sto → Prop} (q : P x S) : Ok (oIx (.lst xs) (.int z) S) P := by
  refine o_ix (v := x) ?_ q
  show L2.atI xs z = _
  have hl := (List.getElem?_eq_some_iff.mp h).1
  unfold L2.atI L2.ixN
  rw [if_pos h0, if_pos (by omega)]
  exact h
theorem isNil_ints (l : List Int) : (l.map D.int).isEmpty = l.isEmpty := by cases l <;> rfl
theorem pl_il (l : List Int) : D.pl 60 (.lst (l.map D.int)) = true := by
  show (decide (0 < 60) && D.plL 59 (l.map D.int)) = true
  have : ∀ l : List Int, D.plL 59 (l.map D.int) = true := fun l => by
    induction l with
    | nil => rfl
    | cons x l ih => simp only [List.map_cons, D.plL, ih, Bool.and_true]; rfl
  rw [this]; rfl
theorem none_of {α : Type} (l : List α) (b : α → Bool) : (l.filter b).isEmpty = l.all fun x => !b x := by
  induction l with
  | nil => rfl
  | cons x l ih =>
    rw [List.filter_cons, List.all_cons]
    cases hg : b x with
    | true => simp
    | false => simpa using ih
theorem pl_elz {l : List D} (h : ∀ x ∈ l, El x) : D.pl 60 (.lst l) = true := by
  have : ∀ l : List D, (∀ x ∈ l, El x) → D.plL 40 l = true := fun l => by
    induction l with
    | nil => intro _; rfl
    | cons x l ih => intro h; simp only [D.plL, (h x (by simp)).pl, ih fun y hy => h y (by simp [hy]), Bool.and_self]
  show (decide (0 < 60) && D.plL 59 l) = true
  rw [plL_up (by decide) (this l h)]; rfl
theorem o_fr0 {f : Fr} {S : Sto} {P : D → Sto → Prop} (q : P (.int f.1) S) : Ok (oIx (fD f) (.int 0) S) P := o_ix (v := .int f.1) rfl q
theorem o_fr1 {f : Fr} {S : Sto} {P : D → Sto → Prop} (q : P (.int f.2) S) : Ok (oIx (fD f) (.int 1) S) P := o_ix (v := .int f.2) rfl q
/-- by places -/
def leastAt (ws : List Wi) (fs : List Fr) (z : Int) : Bool := match ws[z.toNat]?, fs[z.toNat]? with
  | some w, some f => leastB (w, f)
  | _, _ => false
theorem any_at : ∀ (ws : List Wi) (fs : List Fr), ws.length = fs.length → ((ws.zip fs).any leastB) = (List.range ws.length).any fun (j : Nat) => leastAt ws fs (j : Int)
  | [], [], _ => rfl
  | [], _ :: _, h => by simp at h
  | _ :: _, [], h => by simp at h
  | w :: ws, f :: fs, h => by
    have ih := any_at ws fs (by simpa using h)
    rw [List.zip_cons_cons, List.any_cons, ih, List.length_cons, List.range_succ_eq_map, List.any_cons, List.any_map]
    rfl

/-! ### totals -/
def totG (row : List Int) (fs : List Fr) (i : Nat) : Fr := (((row.drop 1).zip fs).take i).foldl (fun a p => plusF a (timesF (p.1, 1) p.2)) (row.headD 0, 1)
def totF (row : List Int) (fs : List Fr) : Fr := totG row fs ((row.drop 1).zip fs).length
theorem tot_succ {row : List Int} {fs : List Fr} {i : Nat} {x : Int} {f : Fr} (h : ((row.drop 1).zip fs)[i]? = some (x, f)) : totG row fs (i + 1) = plusF (totG row fs i) (timesF (x, 1) f) := by
  unfold totG
  rw [List.take_add_one, h, List.foldl_append]
  rfl
theorem int_S {r : Nat} {x : Int} (h : Sz r x) : FrS r 1 (x, 1) := ⟨nrm_int x, h, show (1 : Int).natAbs < 2 ^ 1 by decide⟩
theorem head_S {r : Nat} {row : List Int} (hr : ∀ i ∈ row, Sz r i) : Sz r (row.headD 0) := by
  cases row with
  | nil => show (0 : Int).natAbs < 2 ^ r; exact Nat.two_pow_pos r
  | cons x xs => exact hr x (by simp)
theorem zip_S {r : Nat} {row : List Int} {fs : List Fr} (hr : ∀ i ∈ row, Sz r i) (hf : ∀ f ∈ fs, FrS 40 40 f) {x : Int} {f : Fr} (h : (x, f) ∈ (row.drop 1).zip fs) : Sz r x ∧ FrS 40 40 f := ⟨hr x (List.mem_of_mem_drop (List.of_mem_zip h).1), hf f (List.of_mem_zip h).2⟩
theorem tot_S {r : Nat} {row : List Int} {fs : List Fr} (hr : ∀ i ∈ row, Sz r i) (hf : ∀ f ∈ fs, FrS 40 40 f) : ∀ i : Nat, i ≤ ((row.drop 1).zip fs).length → FrS (r + 100 + 42 * i) (1 + 41 * i) (totG row fs i) := by
  intro i
  induction i with
  | zero =>
    intro _
    show FrS _ _ (row.headD 0, 1)
    exact (int_S (head_S hr)).mono (by omega) (by omega)
  | succ i ih =>
    intro h
    have hi : i < ((row.drop 1).zip fs).length := h
    have ⟨x, f, hx⟩ : ∃ x f, ((row.drop 1).zip fs)[i]? = some (x, f) := ⟨_, _, List.getElem?_eq_getElem hi⟩
    obtain ⟨sx, sf⟩ := zip_S hr hf (List.mem_of_getElem? hx)
    rw [tot_succ hx]
    refine (plus_S (ih (by omega)) (times_S (int_S sx) sf)).mono ?_ ?_
    · omega
    · omega
theorem zip_len {row : List Int} {fs : List Fr} {n : Nat} (hn : fs.length ≤ n) : ((row.drop 1).zip fs).length ≤ n := by
  rw [List.length_zip]; omega
theorem totF_S {r : Nat} {row : List Int} {fs : List Fr} (hr : ∀ i ∈ row, Sz r i) (hf : ∀ f ∈ fs, FrS 40 40 f) (hn : fs.length ≤ 8) : FrS (r + 436) 329 (totF row fs) := by
  have := zip_len (row := row) hn
  exact (tot_S hr hf _ (Nat.le_refl _)).mono (by omega) (by omega)
theorem total_ok {r : Nat} {row : List Int} {fs : List Fr} {S : Sto} {P : D → Sto → Prop} (hl : row ≠ []) (hr : ∀ i ∈ row, Sz r i) (hr2 : r ≤ 1000) (hf : ∀ f ∈ fs, FrS 40 40 f) (hn : fs.length ≤ 8) (q : P (fD (totF row fs)) S) : Ok (Lw.f__law_total [rD row, .lst (fs.map fD)] S) P := by
  have hzl := zip_len (row := row) hn
  unfold Lw.f__law_total
  refine k_fn rfl ?_
  unfold Lw.d__law_total
  have e0 : rD row = .lst (.int (row.headD 0) :: (row.drop 1).map .int) := by
    cases row with
    | nil => exact absurd rfl hl
    | cons x xs => rfl
  rw [e0]
  walk_at "dl"
  refine o_ix0 ?_
  walk_at "dl"
  rw [cut_1]
  show Ok (mItZ [.lst ((row.drop 1).map .int), .lst (fs.map fD)] S) _
  refine i_zip ?_
  rw [zipD_map]
  refine k_forL (fun i ρ S' => S' = S ∧ ∃ u v, ρ = [some (.lst (.int (row.headD 0) :: (row.drop 1).map .int)), some (.lst (fs.map fD)), some (fD (totG row fs i)), u, v]) ⟨rfl, none, none, rfl⟩ ?_ ?_
  · rintro i ρ S' d hd ⟨rfl, u, v, rfl⟩
    obtain ⟨⟨x, f⟩, hx, rfl⟩ := getElem?_map_some hd
    obtain ⟨sx, sf⟩ := zip_S hr hf (List.mem_of_getElem? hx)
    have hi := (List.getElem?_eq_some_iff.mp hx).1
    refine ⟨_, rfl, ?_⟩
    walk_at "dl"
    refine law_times_ok (f := (x, 1)) (int_S sx) sf (by omega) (by omega) (by omega) (by omega) ?_
    walk_at "dl"
    refine law_plus_ok (tot_S hr hf i (by omega)) (times_S (int_S sx) sf) (by omega) (by omega) (by omega) (by omega) ?_
    walk_at "dl"
    rw [tot_succ hx]
    exact ⟨rfl, _, _, rfl⟩
  · rintro ρ S' ⟨rfl, u, v, rfl⟩
    walk_at "dl"
    rw [trim_same rfl]
    rw [List.length_map]
    exact q
theorem worth_ok {r : Nat} {row : List Int} {fs : List Fr} {S : Sto} {P : D → Sto → Prop} (hl : row ≠ []) (hr : ∀ i ∈ row, Sz r i) (hr2 : r ≤ 1000) (hf : ∀ f ∈ fs, FrS 40 40 f) (hn : fs.length ≤ 8) (q : P (fD (totF row fs)) S) : Ok (Lw.f_worth [rD row, .lst (fs.map fD)] S) P := by
  have hzl := zip_len (row := row) hn
  unfold Lw.f_worth
  refine k_fn rfl ?_
  unfold Lw.d_worth
  have e0 : rD row = .lst (.int (row.headD 0) :: (row.drop 1).map .int) := by
    cases row with
    | nil => exact absurd rfl hl
    | cons x xs => rfl
  rw [e0]
  walk_at "dl"
  refine o_ix0 ?_
  walk_at "dl"
  rw [cut_1]
  show Ok (mItZ [.lst ((row.drop 1).map .int), .lst (fs.map fD)] S) _
  refine i_zip ?_
  rw [zipD_map]
  refine k_forL (fun i ρ S' => S' = S ∧ ∃ u v, ρ = [some (.lst (.int (row.headD 0) :: (row.drop 1).map .int)), some (.lst (fs.map fD)), some (fD (totG row fs i)), u, v]) ⟨rfl, none, none, rfl⟩ ?_ ?_
  · rintro i ρ S' d hd ⟨rfl, u, v, rfl⟩
    obtain ⟨⟨x, f⟩, hx, rfl⟩ := getElem?_map_some hd
    obtain ⟨sx, sf⟩ := zip_S hr hf (List.mem_of_getElem? hx)
    have hi := (List.getElem?_eq_some_iff.mp hx).1
    refine ⟨_, rfl, ?_⟩
    walk_at "dl"
    by_cases h0 : x = 0
    · rw [if_neg (by simpa using h0)]
      walk_at "dl"
      refine ⟨rfl, some (.int x), some (fD f), ?_⟩
      rw [tot_succ hx, h0, times_nought sf.nz, plus_nought (tot_S hr hf i (by omega)).n]
      rfl
    · rw [if_pos (by simpa using h0)]
      walk_at "dl"
      refine times_ok (f := (x, 1)) (int_S sx) sf (by omega) (by omega) (by omega) (by omega) ?_
      walk_at "dl"
      refine plus_ok (tot_S hr hf i (by omega)) (times_S (int_S sx) sf) (by omega) (by omega) (by omega) (by omega) ?_
      walk_at "dl"
      rw [tot_succ hx]
      exact ⟨rfl, _, _, rfl⟩
  · rintro ρ S' ⟨rfl, u, v, rfl⟩
    walk_at "dl"
    rw [trim_same rfl]
    rw [List.length_map]
    exact q
/-! ### what is granted -/
def grF (fs : List Fr) (w : Wi) : Bool := decide ((totF w.2 fs).1 = 0) || (decide (0 < (totF w.2 fs).1) && decide (w.1 = "least"))
theorem WiOk.ne {r n : Nat} {w : Wi} (h : WiOk r n w) : w.2 ≠ [] := by
  intro z
  have := h.len
  rw [z] at this
  simp at this
theorem is_granted_ok {r n : Nat} {w : Wi} {fs : List Fr} {S : Sto} {P : D → Sto → Prop} (h : WiOk r n w) (hr2 : r ≤ 1000) (hf : ∀ f ∈ fs, FrS 40 40 f) (hn : fs.length ≤ 8) (q : P (.bl (grF fs w)) S) : Ok (Lw.f_is_granted [wD w, .lst (fs.map fD)] S) P := by
  have hN := (totF_S h.sz hf hn).n
  unfold Lw.f_is_granted
  refine k_fn rfl ?_
  unfold Lw.d_is_granted wD Lw.c_JUST Lw.c_NOUGHT
  walk_at "dl"
  refine worth_ok h.ne h.sz hr2 hf hn ?_
  walk_at "dl"
  unfold grF at q
  rcases h.word with hw | hw
  · rw [hw] at q ⊢
    rw [if_neg (by decide)]
    unfold fD
    walk_at "dl"
    rw [trim_same rfl]
    have e : decide (0 ≤ (totF w.2 fs).1) = (decide ((totF w.2 fs).1 = 0) || (decide (0 < (totF w.2 fs).1) && decide (("least" : Str) = "least"))) := by
      by_cases h0 : (totF w.2 fs).1 = 0
      · simp [h0]
      · by_cases h1 : 0 < (totF w.2 fs).1
        · simp [h0, h1, Int.le_of_lt h1]
        · simp [h0, h1]; omega
    rw [e]; exact q
  · rw [hw] at q ⊢
    rw [if_pos (by decide)]
    walk_at "dl"
    refine o_eqD (by intro s hs; cases hs) (by rfl) (by rfl) ?_
    rw [trim_same rfl]
    have e : PyData.eqv (topD S (fD (totF w.2 fs))).py (topD S (.tup [.int 0, .int 1])).py = (decide ((totF w.2 fs).1 = 0) || (decide (0 < (totF w.2 fs).1) && decide (("just" : Str) = "least"))) := by
      rw [show (topD S (.tup [.int 0, .int 1])) = fD (0, 1) from rfl, show topD S (fD (totF w.2 fs)) = fD (totF w.2 fs) from rfl, fD_eq]
      rw [show decide (("just" : Str) = "least") = false by decide, Bool.and_false, Bool.or_false]
      exact decide_eq_decide.mpr (nrm_zero hN).symm
    rw [e]; exact q
theorem grants_ok {r n : Nat} {ws : List Wi} {fs : List Fr} {S : Sto} {P : D → Sto → Prop} (h : ∀ w ∈ ws, WiOk r n w) (hz : ws.length ≤ 100) (hr2 : r ≤ 1000) (hf : ∀ f ∈ fs, FrS 40 40 f) (hn : fs.length ≤ 8) (q : P (.bl (ws.all (grF fs))) S) : Ok (Lw.f_grants [.lst (ws.map wD), .lst (fs.map fD)] S) P := by
  unfold Lw.f_grants
  refine k_fn rfl ?_
  unfold Lw.d_grants
  walk_at "dl"
  refine i_list ?_
  refine lc_map (g := fun w => .bl (grF fs w)) (by rw [sizeLine_eq]; omega) ?_ ?_
  · intro w hw
    refine ⟨_, rfl, ?_⟩
    walk_at "dl"
    exact is_granted_ok (h w hw) hr2 hf hn ⟨rfl, rfl⟩
  · walk_at "dl"
    refine o_all (bs := ws.map (grF fs)) ?_ ?_
    · rw [show (ws.map fun w => D.bl (grF fs w)) = (ws.map (grF fs)).map D.bl by rw [List.map_map]; rfl]
      exact blsOf_map _
    · rw [trim_same rfl, List.all_map]
      exact q

/-! ### sums, kept in no cell -/
section
variable {r n : Nat} {ws : List Wi} {fs : List Fr} {z : Int} {b : D} {row : List Int} {S : Sto} {P : D → Sto → Prop}
theorem sums_ok (hw : Wis r n ws) (hr : r ≤ 1000) (hn : n ≤ 10) (hf : ∀ f ∈ fs, FrS 40 40 f) (hz : z = (n : Int))
    (k : P (.lst ((List.range n).map fun j => fD (totC (rows ws) fs j (ws.zip fs).length))) S) : Ok (Lw.f_sums [.lst (ws.map wD), .lst (fs.map fD), .int z] S) P := by
  have hzl : (ws.zip fs).length ≤ 24 := by rw [List.length_zip]; have := hw.m; omega
  unfold Lw.f_sums
  refine k_fn rfl ?_
  unfold Lw.d_sums Lw.c_NOUGHT
  walk_at "dl"
  with_reducible refine o_repL ?h0 ?h1 ?h2 ?h3 ?_
  case h0 => exact .inr trivial
  case h1 => omega
  case h2 => omega
  case h3 => rw [sizeLine_eq, List.length_singleton]; omega
  walk_at "dl"
  have e0 : (List.replicate z.toNat [D.tup [.int 0, .int 1]]).flatten = (List.range n).map fun j => fD (totC (rows ws) fs j 0) := by
    rw [show z.toNat = n by omega, List.flatten_replicate_singleton]
    rw [show (fun j => fD (totC (rows ws) fs j 0)) = fun _ => D.tup [.int 0, .int 1] from rfl, List.map_const', List.length_range]
  rw [e0]
  refine i_zip ?_
  rw [zipD_map]
  refine k_forL (fun i ρ S' => S' = S ∧ ∃ x4 x5 x6 x7 x8, ρ = [some (.lst (ws.map wD)), some (.lst (fs.map fD)), some (.int z), some (.lst ((List.range n).map fun j => fD (totC (rows ws) fs j i))), x4, x5, x6, x7, x8])
    ⟨rfl, none, none, none, none, none, rfl⟩ ?_ ?_
  · rintro i ρ S' d hd ⟨rfl, x4, x5, x6, x7, x8, rfl⟩
    obtain ⟨⟨w, f⟩, hx, rfl⟩ := getElem?_map_some hd
    have hmem := List.of_mem_zip (List.mem_of_getElem? hx)
    have hi := (List.getElem?_eq_some_iff.mp hx).1
    have hfS := hf f hmem.2
    have hx2 := rows_zip hx
    have hil : i ≤ ((rows ws).zip fs).length := by rw [rows_len]; omega
    refine ⟨_, rfl, ?_⟩
    walk_at "dl"
    refine nought_eq f _ ?_
    walk_at "dl"
    by_cases h0 : f = (0, 1)
    · with_reducible refine k_ifF ?hc ?_
      case hc => simp [h0]
      walk_at "dl"
      have e : ((List.range n).map fun j => fD (totC (rows ws) fs j (i + 1))) = (List.range n).map fun j => fD (totC (rows ws) fs j i) := by
        apply List.map_congr_left
        intro j _
        rw [totC_succ hx2, h0, times_none (one_S (getD_S (hw.sz w hmem.1))).nz, plus_nought (totR_S hw.rs hf j i hil).n]
      rw [e]
      exact ⟨rfl, _, _, _, _, _, rfl⟩
    · with_reducible refine k_ifT ?hc ?_
      case hc => simp [h0]
      walk_at "dl"
      have er : rD w.2 = .lst ((List.range n).map fun j => .int (w.2.getD j 0)) := by
        unfold rD
        conv => lhs; rw [range_row (hw.len w hmem.1)]
        rw [List.map_map]; rfl
      rw [er]
      refine i_zip ?_
      rw [zipD_same]
      refine lc_map (g := fun j => fD (totC (rows ws) fs j (i + 1))) (by rw [sizeLine_eq, List.length_range]; omega) ?_ ?_
      · intro j _
        refine ⟨_, rfl, ?_⟩
        walk_at "dl"
        refine times_ok (g := (w.2.getD j 0, 1)) hfS (one_S (getD_S (hw.sz w hmem.1))) (by omega) (by omega) (by omega) (by omega) ?_
        walk_at "dl"
        refine plus_ok (totR_S hw.rs hf j i hil) (times_S hfS (one_S (getD_S (hw.sz w hmem.1)))) (by omega) (by omega) (by omega) (by omega) ?_
        rw [totC_succ hx2, times_comm f]
        exact ⟨rfl, rfl⟩
      walk_at "dl"
      exact ⟨rfl, _, _, _, _, _, rfl⟩
  · rintro ρ S' ⟨rfl, x4, x5, x6, x7, x8, rfl⟩
    walk_at "dl"
    rw [trim_same rfl]
    rw [List.length_map]
    exact k
theorem caB_not {xs : List D} (hA : arB ws b = false) : caB n ws row b = false := by
  cases b with
  | lst xs => rw [caB_lst, hA]; rfl
  | _ => rfl
/-- the totals, the first ahead -/
theorem tot_cons (hn1 : 1 ≤ n) (t : Nat → Fr) : ((List.range n).map fun j => fD (t j)) = fD (t 0) :: ((List.range n).drop 1).map fun j => fD (t j) := by
  obtain ⟨k, rfl⟩ : ∃ k, n = k + 1 := ⟨n - 1, by omega⟩
  rw [List.range_succ_eq_map]; rfl
theorem row_cons (hn1 : 1 ≤ n) (hrow : row.length = n) : rD row = .lst (.int (row.headD 0) :: (row.drop 1).map .int) := by
  cases row with
  | nil => simp at hrow; omega
  | cons x xs => rfl
theorem row_head (hrs : ∀ i ∈ row, Sz r i) : Sz r (row.headD 0) := by
  cases row with
  | nil => show (0 : Int).natAbs < 2 ^ r; exact Nat.two_pow_pos r
  | cons x xs => exact hrs x (by simp)
theorem frs_eq {l l' : List Fr} (q : P (.bl (decide (l = l'))) S) : Ok (oEq (.lst (l.map fD)) (.lst (l'.map fD)) S) P := by
  refine o_eqD (by intro s hs; cases hs) (pl_fl _) (pl_fl _) ?_
  rw [show topD S (.lst (l.map fD)) = .lst (l.map fD) from rfl, show topD S (.lst (l'.map fD)) = .lst (l'.map fD) from rfl, fDs_eq]
  exact q
theorem carries_ok (hw : Wis r n ws) (hr : r ≤ 1000) (hn : n ≤ 10) (hn1 : 1 ≤ n) (hrow : row.length = n) (hrs : ∀ i ∈ row, Sz 2500 i) (h : Item b) (q : P (.bl (caB n ws row b)) S) : Ok (Lw.f_carries [.lst (ws.map wD), rD row, b] S) P := by
  unfold Lw.f_carries
  refine k_fn rfl ?_
  unfold Lw.d_carries
  walk_at "dl"
  refine are_shares_ok hw.m h ?_
  walk_at "dl"
  cases hA : arB ws b with
  | false =>
    with_reducible refine k_ifT ?hc ?_
    case hc => rfl
    walk_at "dl"
    rw [trim_same rfl]
    rw [caB_not (xs := []) hA] at q; exact q
  | true =>
    have ⟨xs, hxs⟩ : ∃ xs, b = .lst xs := by
      cases b with
      | lst xs => exact ⟨xs, rfl⟩
      | _ => cases hA
    subst hxs
    have hz := (h.el xs rfl).1
    have hel := (h.el xs rfl).2
    rw [caB_lst, hA, Bool.true_and] at q
    rw [arB_lst] at hA
    simp only [Bool.and_eq_true, decide_eq_true_eq] at hA
    have ex := (frs_of hel hA.1.2).1
    have hfs := (frs_of hel hA.1.2).2
    have hzl := rows_len ws (xs.map frOf)
    generalize xs.map frOf = fs at *
    subst ex
    with_reducible refine k_ifF ?hc ?_
    case hc => simp
    walk_at "dl"
    generalize hz2 : (((row.map D.int).length : Nat) : Int) = z2
    have hz3 : z2 = n := by rw [← hz2, List.length_map, hrow]
    refine sums_ok hw hr hn hfs hz3 ?_
    rw [tot_cons hn1 (fun j => totC (rows ws) fs j (ws.zip fs).length)]
    refine ⟨_, _, rfl, by simp; omega, ?_⟩
    have hzl2 : ((rows ws).zip fs).length ≤ 24 := by rw [hzl, List.length_zip]; have := hw.m; omega
    have hT := totR_S hw.rs hfs 0 _ (Nat.le_refl _)
    rw [hzl] at hT
    rw [hzl] at hzl2
    have h0 := row_head hrs
    rw [row_cons hn1 hrow]
    walk_at "dl"
    rw [cut_1]
    show Ok (mItL (.lst ((row.drop 1).map .int)) S) _
    refine i_list ?_
    refine lc_map (g := fun g : Int => fD (g, 1)) (by rw [sizeLine_eq, List.length_drop]; omega) ?_ ?_
    · intro g _
      refine ⟨_, rfl, ?_⟩
      walk_at "dl"
      exact ⟨rfl, rfl⟩
    rw [show (((List.range n).drop 1).map fun j => fD (totC (rows ws) fs j (ws.zip fs).length)) = (((List.range n).drop 1).map fun j => totC (rows ws) fs j (ws.zip fs).length).map fD by rw [List.map_map]; rfl, show ((row.drop 1).map fun g => fD (g, 1)) = ((row.drop 1).map fun g => ((g, 1) : Fr)).map fD by rw [List.map_map]; rfl]
    refine frs_eq ?_
    walk_at "dl"
    unfold lineB at q
    by_cases he : (((List.range n).drop 1).map fun j => totC (rows ws) fs j (ws.zip fs).length) = (row.drop 1).map fun g => ((g, 1) : Fr)
    · rw [decide_eq_true he, Bool.true_and] at q
      with_reducible refine k_ifT ?hc ?_
      case hc => simpa using he
      walk_at "dl"
      refine o_ix0 ?_
      walk_at "dl"
      refine is_below_ok (f := (row.headD 0, 1)) (l := 1) h0 (show (1 : Int).natAbs < 2 ^ 1 by decide) hT.t hT.b (by omega) (by omega) (by omega) (by omega) ?_
      walk_at "dl"
      rw [trim_same rfl]
      simpa using q
    · rw [decide_eq_false he, Bool.false_and] at q
      with_reducible refine k_ifF ?hc ?_
      case hc => simpa using he
      rw [trim_same rfl]
      exact q
end

/-! ### papers of wishes -/
structure Thing (t : D) : Prop where
  dat : DatE 50 1000 t
  it : ∀ a b, t = .tup [a, b] → Item b
def toldB : D → Bool
  | .tup [.str _, _] => true
  | _ => false
theorem told_no {t : D} (h : isT t = false) : toldB t = false := by cases t <;> first | rfl | cases h
theorem told_len {xs : List D} (h : xs.length ≠ 2) : toldB (.tup xs) = false := by
  unfold toldB
  split
  · rename_i e; cases e; simp at h
  · rfl
theorem told_two {x y : D} : toldB (.tup [x, y]) = isS x := by cases x <;> rfl
theorem told_get {t : D} (h : toldB t = true) : ∃ s b, t = .tup [.str s, b] := by
  unfold toldB at h
  split at h
  · exact ⟨_, _, rfl⟩
  · cases h
section
variable {t : D} {S : Sto} {P : D → Sto → Prop} {PB : Bool → Sto → Prop}
theorem pr_two {k : Nat} {x y : D} (h : (D.tup [x, y]).pr k = true) : x.pr (k - 1) = true ∧ y.pr (k - 1) = true := by
  simp only [D.pr, D.prL, Bool.and_eq_true] at h
  exact ⟨h.2.1, h.2.2.1⟩
theorem told_test {k i : Nat} {ρ : DL.Env} (hi : ρ[i]? = some (some t)) (ht : t.pr k = true) (q : PB (!toldB t) S) :
    Ok (bOr (bNot (bVal (eL fIsi (aCons (eVar i) (aCons (eC (.ty "tuple")) aNil))))) (bOr (bVal (e2 oNe (eL fLen (aCons (eVar i) aNil)) (eC (.int 2)))) (bNot (bVal (eL fIsi (aCons (e2 oIx (eVar i) (eC (.int 0))) (aCons (eC (.ty "str")) aNil)))))) ρ S) PB := by
  have v : ∀ {S : Sto} {P : D → Sto → Prop}, P t S → Ok (eVar i ρ S) P := fun q => k_var hi q
  refine k_bOr (k_bNot (k_bVal (k_L (k_cons (v (k_cons (k_c (k_nil (o_isT ht (k_mBool ?_))))))))))
  rcases fr_shape t with hT | ⟨xs, rfl, hx⟩ | ⟨x, y, rfl⟩
  · rw [hT]
    with_reducible refine k_ifT ?hc ?_
    case hc => rfl
    rw [told_no hT] at q; exact q
  · with_reducible refine k_ifF ?hc ?_
    case hc => simp [isT]
    refine k_bOr (k_bVal (k_e2 (k_L (k_cons (v (k_nil (o_lenL (xs := xs) rfl (k_c (o_neI (k_mBool ?_))))))))))
    with_reducible refine k_ifT ?hc ?_
    case hc => simp; omega
    rw [told_len hx] at q; exact q
  · with_reducible refine k_ifF ?hc ?_
    case hc => simp [isT]
    refine k_bOr (k_bVal (k_e2 (k_L (k_cons (v (k_nil (o_lenL (xs := [x, y]) rfl (k_c (o_neI (k_mBool ?_))))))))))
    with_reducible refine k_ifF ?hc ?_
    case hc => simp
    refine k_bNot (k_bVal (k_L (k_cons (k_e2 (v (k_c (o_ix (v := x) rfl (k_cons (k_c (k_nil (o_isS (pr_two ht).1 (k_mBool ?_)))))))))))) 
    rw [told_two] at q; exact q
theorem is_told_ok {k : Nat} (ht : t.pr k = true) (q : P (.bl (toldB t)) S) : Ok (Lw.f_is_told [t] S) P := by
  unfold Lw.f_is_told
  refine k_fn rfl ?_
  unfold Lw.d_is_told
  walk_at "dl"
  refine o_isT ht ?_
  walk_at "dl"
  rcases fr_shape t with hT | ⟨xs, rfl, hx⟩ | ⟨x, y, rfl⟩
  · rw [hT]
    with_reducible refine k_ifF ?hc ?_
    case hc => simp
    rw [trim_same rfl]
    rw [told_no hT] at q; exact q
  · with_reducible refine k_ifT ?hc ?_
    case hc => simp [isT]
    walk_at "dl"
    with_reducible refine k_ifF ?hc ?_
    case hc => simp; omega
    rw [trim_same rfl]
    rw [told_len hx] at q; exact q
  · with_reducible refine k_ifT ?hc ?_
    case hc => simp [isT]
    walk_at "dl"
    with_reducible refine k_ifT ?hc ?_
    case hc => simp
    walk_at "dl"
    refine o_isS (pr_two ht).1 ?_
    walk_at "dl"
    rw [trim_same rfl]
    rw [told_two] at q; exact q
end
/-- numbers -/
def frsOf : D → List Fr
  | .lst xs => xs.map frOf
  | _ => []
def nuB (n : Nat) : D → Bool
  | .lst xs => decide (xs.length = n) && xs.all frB
  | _ => false
theorem nuB_lst {n : Nat} {xs : List D} : nuB n (.lst xs) = (decide (xs.length = n) && xs.all frB) := rfl
theorem nu_get {n : Nat} {b : D} (h : Item b) (q : nuB n b = true) : b = .lst ((frsOf b).map fD) ∧ (∀ f ∈ frsOf b, FrS 40 40 f) ∧ (frsOf b).length = n := by
  cases b with
  | lst xs =>
    rw [nuB_lst] at q
    simp only [Bool.and_eq_true, decide_eq_true_eq] at q
    have := frs_of (h.el xs rfl).2 q.2
    exact ⟨by show D.lst xs = .lst ((xs.map frOf).map fD); rw [← this.1], this.2, by show (xs.map frOf).length = n; rw [List.length_map]; exact q.1⟩
  | _ => cases q
theorem item_lst_or {b : D} (h : Item b) : (isL b = false ∧ ∀ n, nuB n b = false) ∨ ∃ xs, b = .lst xs := by
  cases b with
  | lst xs => exact .inr ⟨xs, rfl⟩
  | ro xs => exact absurd rfl (h.nro xs)
  | _ => exact .inl ⟨rfl, fun _ => rfl⟩
section
variable {n : Nat} {b : D} {S : Sto} {P : D → Sto → Prop} {z : Int}
theorem are_numbers_ok (h : Item b) (hz : z = (n : Int)) (q : P (.bl (nuB n b)) S) : Ok (Lw.f_are_numbers [.int z, b] S) P := by
  unfold Lw.f_are_numbers
  refine k_fn rfl ?_
  unfold Lw.d_are_numbers
  walk_at "dl"
  refine o_isL h.pr ?_
  walk_at "dl"
  rcases item_lst_or h with ⟨e1, e2⟩ | ⟨xs, rfl⟩
  · rw [e1]
    with_reducible refine k_ifF ?hc ?_
    case hc => simp
    rw [trim_same rfl]
    rw [e2] at q; exact q
  obtain ⟨hl, hel⟩ := h.el xs rfl
  with_reducible refine k_ifT ?hc ?_
  case hc => rfl
  walk_at "dl"
  rw [nuB_lst] at q
  by_cases hn : xs.length = n
  case neg =>
    with_reducible refine k_ifF ?hc ?_
    case hc => simp; omega
    rw [trim_same rfl]
    rw [decide_eq_false hn] at q; exact q
  with_reducible refine k_ifT ?hc ?_
  case hc => simp; omega
  walk_at "dl"
  refine i_list ?_
  refine lc_mapN (l := xs) (f := fun x => x) (g := fun x => .bl (frB x)) rfl (fun i => by simp [itL]) (by rw [sizeLine_eq]; omega) ?_ ?_
  · intro x hx
    refine ⟨_, rfl, ?_⟩
    walk_at "dl"
    exact is_fraction_ok (hel x hx) ⟨rfl, rfl⟩
  walk_at "dl"
  refine o_all (bs := xs.map frB) (by
    rw [show (xs.map fun x => D.bl (frB x)) = (xs.map frB).map D.bl by rw [List.map_map]; rfl]
    exact blsOf_map _) ?_
  walk_at "dl"
  rw [List.all_map, show (id ∘ frB) = frB from rfl, trim_same rfl]
  rw [decide_eq_true hn, Bool.true_and] at q
  exact q
theorem law_are_numbers_ok (h : Item b) (hz : z = (n : Int)) (q : P (.bl (nuB n b)) S) : Ok (Lw.f__law_are_numbers [.int z, b] S) P := by
  unfold Lw.f__law_are_numbers
  refine k_fn rfl ?_
  unfold Lw.d__law_are_numbers
  walk_at "dl"
  refine o_isL h.pr ?_
  walk_at "dl"
  rcases item_lst_or h with ⟨e1, e2⟩ | ⟨xs, rfl⟩
  · rw [e1]
    with_reducible refine k_ifF ?hc ?_
    case hc => simp
    rw [trim_same rfl]
    rw [e2] at q; exact q
  obtain ⟨hl, hel⟩ := h.el xs rfl
  with_reducible refine k_ifT ?hc ?_
  case hc => rfl
  walk_at "dl"
  rw [nuB_lst] at q
  by_cases hn : xs.length = n
  case neg =>
    with_reducible refine k_ifF ?hc ?_
    case hc => simp; omega
    rw [trim_same rfl]
    rw [decide_eq_false hn] at q; exact q
  with_reducible refine k_ifT ?hc ?_
  case hc => simp; omega
  walk_at "dl"
  refine i_list ?_
  refine lc_keepN (l := xs) (f := fun x => x) (g := fun x => x) (b := fun x => !frB x) rfl (fun i => by simp [itL]) (by rw [sizeLine_eq]; omega) ?_ ?_
  · intro x hx
    refine ⟨_, rfl, ?_⟩
    walk_at "dl"
    refine law_is_fraction_ok (hel x hx) ?_
    walk_at "dl"
    refine ⟨rfl, rfl, fun _ => ?_⟩
    walk_at "dl"
    exact ⟨rfl, rfl⟩
  walk_at "dl"
  rw [List.map_id']
  refine o_eqD (by intro s hs; cases hs) (pl_elz fun x hx => hel x (List.mem_filter.mp hx).1) (by rfl) ?_
  rw [show topD S (.lst (xs.filter fun x => !frB x)) = .lst (xs.filter fun x => !frB x) from rfl, show topD S (.lst []) = .lst [] from rfl, eqv_nil, none_of]
  rw [show (xs.all fun x => !!frB x) = xs.all frB by simp, trim_same rfl]
  rw [decide_eq_true hn, Bool.true_and] at q
  exact q
/-- the line that is never worth nought or more -/
def nevL (n : Nat) : List Int := -1 :: List.replicate n 0
theorem nev_len (n : Nat) : (nevL n).length = n + 1 := by simp [nevL]
theorem nev_sz (n : Nat) : ∀ i ∈ nevL n, Sz 2500 i := fun i hi => by
  rcases List.mem_cons.mp hi with rfl | hi
  · exact (show Sz 1 (-1) by unfold Sz; decide).mono (by decide)
  · rw [List.eq_of_mem_replicate hi]
    exact (show Sz 1 0 by unfold Sz; decide).mono (by decide)
theorem nev_make {ρ : DL.Env} {a : EM} {PE : D → Sto → Prop} (hn : n ≤ 8) (hz : z = (n : Int)) (ha : ∀ {S : Sto} {P : D → Sto → Prop}, P (.int z) S → Ok (a ρ S) P) (q : PE (rD (nevL n)) S) :
    Ok (e2 oAdd (eL mLst (aCons (e1 oNeg (eC (.int 1))) aNil)) (e2 oMul (eL mLst (aCons (eC (.int 0)) aNil)) a) ρ S) PE := by
  walk_at "dl"
  refine ha ?_
  with_reducible refine o_repL ?h0 ?h1 ?h2 ?h3 ?_
  case h0 => exact .inr trivial
  case h1 => omega
  case h2 => omega
  case h3 => rw [sizeLine_eq, List.length_singleton]; omega
  rw [List.flatten_replicate_singleton, show z.toNat = n by omega]
  with_reducible refine o_addL ?hz0 ?_
  case hz0 => rw [sizeLine_eq]; simp; omega
  have e : [D.int (-1)] ++ List.replicate n (D.int 0) = (nevL n).map .int := by simp [nevL]
  rw [e]
  exact q
theorem never_line_ok (hn : n ≤ 8) (hz : z = (n : Int)) (q : P (rD (nevL n)) S) : Ok (Lw.f_never_line [.int z] S) P := by
  unfold Lw.f_never_line
  refine k_fn rfl ?_
  unfold Lw.d_never_line
  refine k_ret ?_
  refine nev_make hn hz (fun q => k_var rfl q) ?_
  show P _ (trim S _ S)
  rw [trim_same rfl]
  exact q
theorem look_at_many_ok (hn : n ≤ 8) (hz : z = (n : Int)) (q : P .non S) : Ok (Lw.f_look_at_many [.int z] S) P := by
  unfold Lw.f_look_at_many
  refine k_fn rfl ?_
  unfold Lw.d_look_at_many Lw.c_MOST_NUMBERS
  walk_at "dl"
  refine is_whole_ok (k := 1) (by rfl) ?_
  walk_at "dl"
  with_reducible refine k_ifF ?hc ?_
  case hc => simp [isW]
  walk_at "dl"
  with_reducible refine k_ifT ?hc ?_
  case hc => simp; omega
  walk_at "dl"
  with_reducible refine k_ifF ?hc ?_
  case hc => simp; omega
  walk_at "dl"
  rw [trim_same rfl]
  exact q
end

/-! ### the law's own looks -/
section
variable {r n : Nat} {ws : List Wi} {fs : List Fr} {b t : D} {row : List Int} {z : Int} {S : Sto} {P : D → Sto → Prop}
theorem law_grants_ok (h : ∀ w ∈ ws, WiOk r n w) (hr2 : r ≤ 1000) (hf : ∀ f ∈ fs, FrS 40 40 f) (hn : fs.length ≤ 8) (q : P (.bl (ws.all (grF fs))) S) : Ok (Lw.f__law_grants [.lst (ws.map wD), .lst (fs.map fD)] S) P := by
  unfold Lw.f__law_grants
  refine k_fn rfl ?_
  unfold Lw.d__law_grants
  walk_at "dl"
  refine i_list ?_
  refine k_forL (fun i ρ S' => S' = S ∧ (ws.take i).all (grF fs) = true ∧ ∃ x2 x3 x4, ρ = [some (.lst (ws.map wD)), some (.lst (fs.map fD)), x2, x3, x4]) ⟨rfl, rfl, none, none, none, rfl⟩ ?_ ?_
  · rintro i ρ S' d hd ⟨rfl, hall, x2, x3, x4, rfl⟩
    obtain ⟨w, hw, rfl⟩ := getElem?_map_some hd
    have hm := List.mem_of_getElem? hw
    have hwo := h w hm
    refine ⟨_, rfl, ?_⟩
    walk_at "dl"
    refine total_ok hwo.ne hwo.sz hr2 hf hn ?_
    unfold fD
    walk_at "dl"
    have no : grF fs w = false → P (.bl false) S' := fun e => by
      have : ws.all (grF fs) = false := by
        rw [Bool.eq_false_iff]
        intro z
        have := List.all_eq_true.mp z w hm
        rw [e] at this; cases this
      rw [this] at q; exact q
    have yes : grF fs w = true → (ws.take (i + 1)).all (grF fs) = true := fun e => by
      rw [List.take_add_one, hw, List.all_append, hall]
      simp [e]
    by_cases h0 : (totF w.2 fs).1 < 0
    · with_reducible refine k_ifT ?hc ?_
      case hc => simpa using h0
      with_reducible refine k_ifT ?hc ?_
      case hc => rfl
      walk_at "dl"
      rw [trim_same rfl]
      refine no ?_
      unfold grF
      rw [decide_eq_false (show ¬(totF w.2 fs).1 = 0 by omega), decide_eq_false (show ¬0 < (totF w.2 fs).1 by omega)]; rfl
    with_reducible refine k_ifF ?hc ?_
    case hc => simp; omega
    walk_at "dl"
    by_cases h1 : 0 < (totF w.2 fs).1
    · with_reducible refine k_ifT ?hc ?_
      case hc => simpa using h1
      walk_at "dl"
      rcases hwo.word with e | e
      · rw [e]
        with_reducible refine k_ifF ?hc ?_
        case hc => decide
        walk_at "dl"
        refine ⟨rfl, yes ?_, _, _, _, rfl⟩
        unfold grF
        rw [decide_eq_true h1, e]; simp
      · rw [e]
        with_reducible refine k_ifT ?hc ?_
        case hc => decide
        walk_at "dl"
        rw [trim_same rfl]
        refine no ?_
        unfold grF
        rw [decide_eq_false (show ¬(totF w.2 fs).1 = 0 by omega), e, show decide (("just" : Str) = "least") = false by decide]; simp
    · with_reducible refine k_ifF ?hc ?_
      case hc => simpa using h1
      with_reducible refine k_ifF ?hc ?_
      case hc => simp
      walk_at "dl"
      refine ⟨rfl, yes ?_, _, _, _, rfl⟩
      unfold grF
      rw [decide_eq_true (show (totF w.2 fs).1 = 0 by omega)]; rfl
  · rintro ρ S' ⟨rfl, hall, x2, x3, x4, rfl⟩
    walk_at "dl"
    rw [trim_same rfl]
    rw [List.length_map, List.take_of_length_le (Nat.le_refl _)] at hall
    rw [hall] at q
    exact q
theorem law_carries_ok (hw : Wis r n ws) (hr : r ≤ 1000) (hn : n ≤ 10) (hn1 : 1 ≤ n) (hrow : row.length = n) (hrs : ∀ i ∈ row, Sz 2500 i) (h : Item b) (q : P (.bl (caB n ws row b)) S) : Ok (Lw.f__law_carries [.lst (ws.map wD), rD row, b] S) P := by
  have hm24 := hw.m
  unfold Lw.f__law_carries
  refine k_fn rfl ?_
  unfold Lw.d__law_carries
  walk_at "dl"
  refine o_isL h.pr ?_
  walk_at "dl"
  by_cases hb : ∀ xs, b ≠ .lst xs
  · obtain ⟨e1, _, e2⟩ := not_lst (n := n) (ws := ws) (row := row) h hb
    rw [e1]
    with_reducible refine k_ifT ?hc ?_
    case hc => simp
    with_reducible refine k_ifT ?hc ?_
    case hc => simp
    walk_at "dl"
    rw [trim_same rfl]
    rw [e2] at q; exact q
  have ⟨xs, hxs⟩ : ∃ xs, b = .lst xs := Classical.byContradiction fun z => hb fun xs e => z ⟨xs, e⟩
  subst hxs
  have hz := (h.el xs rfl).1
  have hel := (h.el xs rfl).2
  with_reducible refine k_ifF ?hc ?_
  case hc => simp [isL]
  walk_at "dl"
  by_cases hl : xs.length = ws.length
  case neg =>
    with_reducible refine k_ifT ?hc ?_
    case hc => simp; omega
    walk_at "dl"
    rw [trim_same rfl]
    have e : caB n ws row (.lst xs) = false := by rw [caB_lst, arB_lst, decide_eq_false hl]; rfl
    rw [e] at q; exact q
  with_reducible refine k_ifF ?hc ?_
  case hc => simp; omega
  walk_at "dl"
  refine i_list ?_
  refine lc_keepN (l := xs) (f := fun x => x) (g := fun x => x) (b := fun x => !frB x) rfl (fun i => by simp [itL]) (by rw [sizeLine_eq]; omega) ?_ ?_
  · intro x hx
    refine ⟨_, rfl, ?_⟩
    walk_at "dl"
    refine law_is_fraction_ok (hel x hx) ?_
    walk_at "dl"
    refine ⟨rfl, rfl, fun _ => ?_⟩
    walk_at "dl"
    exact ⟨rfl, rfl⟩
  walk_at "dl"
  rw [List.map_id']
  refine o_neD (by intro s hs; cases hs) (pl_elz fun x hx => hel x (List.mem_filter.mp hx).1) (by rfl) ?_
  walk_at "dl"
  rw [show topD S (.lst (xs.filter fun x => !frB x)) = .lst (xs.filter fun x => !frB x) from rfl, show topD S (.lst []) = .lst [] from rfl, eqv_nil, none_of]
  rw [show (xs.all fun x => !!frB x) = xs.all frB by simp]
  cases ha : xs.all frB with
  | false =>
    with_reducible refine k_ifT ?hc ?_
    case hc => rfl
    walk_at "dl"
    rw [trim_same rfl]
    have e : caB n ws row (.lst xs) = false := by rw [caB_lst, arB_lst, ha]; simp
    rw [e] at q; exact q
  | true =>
    with_reducible refine k_ifF ?hc ?_
    case hc => simp
    have ex := (frs_of hel ha).1
    have hfs := (frs_of hel ha).2
    have hlf : (xs.map frOf).length = ws.length := by rw [List.length_map]; exact hl
    rw [caB_lst, arB_lst, ha, decide_eq_true hl, Bool.true_and, Bool.true_and] at q
    have hzl := rows_len ws (xs.map frOf)
    generalize xs.map frOf = fs at *
    subst ex
    walk_at "dl"
    generalize hz2 : (((ws.map wD).length : Nat) : Int) = z2
    have hz3 : z2 = ws.length := by rw [← hz2, List.length_map]
    with_reducible refine i_rng1 ?h1 ?h2 ?_
    case h1 => omega
    case h2 => omega
    rw [show z2.toNat = ws.length by omega]
    refine lc_keepN (l := List.range ws.length) (f := fun j : Nat => .int (j : Int)) (g := fun j : Nat => .int (j : Int)) (b := fun j : Nat => leastAt ws fs (j : Int)) (by rw [List.length_range]; simp [itL]) (fun i => by simp [itL]) (by rw [sizeLine_eq, List.length_range]; omega) ?_ ?_
    · intro j hj
      have hj := List.mem_range.mp hj
      have hjf : j < fs.length := by omega
      generalize hy : (j : Int) = y
      have h0 : 0 ≤ y := by omega
      have hyj : y.toNat = j := by omega
      refine ⟨_, rfl, ?_⟩
      walk_at "dl"
      refine atI_at (x := wD ws[j]) h0 (by rw [hyj, List.getElem?_map, List.getElem?_eq_getElem hj]; rfl) ?_
      unfold wD
      walk_at "dl"
      have eL : leastAt ws fs y = leastB (ws[j], fs[j]) := by
        unfold leastAt
        rw [hyj, List.getElem?_eq_getElem hj, List.getElem?_eq_getElem hjf]
      rw [eL]
      unfold leastB
      by_cases hwd : ws[j].1 = "least"
      · with_reducible refine k_ifT ?hc ?_
        case hc => simpa using hwd
        walk_at "dl"
        refine atI_at (x := fD fs[j]) h0 (by rw [hyj, List.getElem?_map, List.getElem?_eq_getElem hjf]; rfl) ?_
        unfold fD
        walk_at "dl"
        refine ⟨by simp [hwd], rfl, fun _ => ?_⟩
        walk_at "dl"
        exact ⟨rfl, rfl⟩
      · with_reducible refine k_ifF ?hc ?_
        case hc => simpa using hwd
        refine ⟨by simp [hwd], rfl, fun _ => ?_⟩
        walk_at "dl"
        exact ⟨rfl, rfl⟩
    walk_at "dl"
    rw [show (((List.range ws.length).filter fun j : Nat => leastAt ws fs (j : Int)).map fun j : Nat => D.int (j : Int)) = (((List.range ws.length).filter fun j : Nat => leastAt ws fs (j : Int)).map fun j : Nat => (j : Int)).map D.int by rw [List.map_map]; rfl]
    refine o_neD (by intro s hs; cases hs) (pl_il _) (by rfl) ?_
    walk_at "dl"
    rw [show topD S (.lst ((((List.range ws.length).filter fun j : Nat => leastAt ws fs (j : Int)).map fun j : Nat => (j : Int)).map D.int)) = .lst ((((List.range ws.length).filter fun j : Nat => leastAt ws fs (j : Int)).map fun j : Nat => (j : Int)).map D.int) from rfl, show topD S (.lst []) = .lst [] from rfl, eqv_nil, isNil_ints, List.isEmpty_map, none_of]
    have eAny : ((List.range ws.length).all fun j : Nat => !leastAt ws fs (j : Int)) = !((ws.zip fs).any leastB) := by
      rw [any_at ws fs (by omega), List.not_any_eq_all_not]
    rw [eAny]
    cases hA : (ws.zip fs).any leastB with
    | true =>
      with_reducible refine k_ifT ?hc ?_
      case hc => rfl
      walk_at "dl"
      rw [trim_same rfl]
      rw [hA] at q; exact q
    | false =>
      with_reducible refine k_ifF ?hc ?_
      case hc => simp
      rw [hA, Bool.not_false, Bool.true_and] at q
      unfold rD
      walk_at "dl"
      generalize hz4 : (((row.map D.int).length : Nat) : Int) = z4
      have hz5 : z4 = n := by rw [← hz4, List.length_map, hrow]
      have hzl2 : (ws.zip fs).length ≤ 24 := by rw [List.length_zip]; omega
      with_reducible refine i_rng1 ?h1 ?h2 ?_
      case h1 => omega
      case h2 => omega
      rw [show z4.toNat = n by omega]
      refine k_forL (fun i ρ S' => i ≤ n ∧ S' = S ++ [some (.lst ((List.range i).map fun j => fD (totC (rows ws) fs j (ws.zip fs).length)))] ∧ ∃ x4 x5 x6 x7 x8 x9 x10 x11, ρ = [some (.lst (ws.map wD)), some (.lst (row.map .int)), some (.lst (fs.map fD)), some (.cell S.length), x4, x5, x6, x7, x8, x9, x10, x11]) ⟨Nat.zero_le _, rfl, _, _, _, _, _, _, _, _, rfl⟩ ?_ ?_
      · rintro j ρ S' d hd ⟨hjn, rfl, x4, x5, x6, x7, x8, x9, x10, x11, rfl⟩
        have hj : j < n := by
          have := (List.getElem?_eq_some_iff.mp hd).1
          simpa using this
        have hd' : d = .int (j : Int) := by
          rw [List.getElem?_map, List.getElem?_range hj] at hd
          simpa using hd.symm
        subst hd'
        generalize hzj : (j : Int) = y at *
        refine ⟨_, rfl, ?_⟩
        walk_at "dl"
        refine i_zip ?_
        rw [zipD_map]
        refine k_forL (fun i ρ S'' => S'' = S ++ [some (.lst ((List.range j).map fun j => fD (totC (rows ws) fs j (ws.zip fs).length)))] ∧ ∃ u v w, ρ = [some (.lst (ws.map wD)), some (.lst (row.map .int)), some (.lst (fs.map fD)), some (.cell S.length), some (.int y), some (fD (totC (rows ws) fs j i)), u, x7, x8, v, w, x11]) ⟨rfl, _, _, _, rfl⟩ ?_ ?_
        · rintro i ρ S'' d hd ⟨rfl, u, v, w0, rfl⟩
          obtain ⟨⟨w, f⟩, hx, rfl⟩ := getElem?_map_some hd
          have hmem := List.of_mem_zip (List.mem_of_getElem? hx)
          have hi := (List.getElem?_eq_some_iff.mp hx).1
          have hfS := hfs f hmem.2
          have hx2 := rows_zip hx
          have hil : i ≤ ((rows ws).zip fs).length := by rw [rows_len]; omega
          refine ⟨_, rfl, ?_⟩
          walk_at "dl"
          refine ix_row (by omega) (by rw [hw.len w hmem.1]; omega) ?_
          walk_at "dl"
          rw [show y.toNat = j by omega]
          refine law_times_ok (f := (w.2.getD j 0, 1)) (one_S (getD_S (hw.sz w hmem.1))) hfS (by omega) (by omega) (by omega) (by omega) ?_
          walk_at "dl"
          refine law_plus_ok (totR_S hw.rs hfs j i hil) (times_S (one_S (getD_S (hw.sz w hmem.1))) hfS) (by omega) (by omega) (by omega) (by omega) ?_
          walk_at "dl"
          rw [totC_succ hx2]
          exact ⟨rfl, _, _, _, rfl⟩
        · rintro ρ S'' ⟨rfl, u, v, w0, rfl⟩
          have hc : (S ++ [some (CO.lst ((List.range j).map fun j => fD (totC (rows ws) fs j (ws.zip fs).length)))])[S.length]? = some (some (.lst ((List.range j).map fun j => fD (totC (rows ws) fs j (ws.zip fs).length)))) := by simp
          walk_at "dl"
          refine ⟨by simp [chkL, DL.listOf], ?_⟩
          walk_at "dl"
          refine o_app hc (by rw [sizeLine_eq, List.length_map, List.length_range]; omega) ?_
          refine ⟨hj, ?_, _, _, _, _, _, _, _, _, rfl⟩
          rw [List.length_map, List.range_succ, List.map_append]
          simp
      · rintro ρ S' ⟨_, rfl, x4, x5, x6, x7, x8, x9, x10, x11, rfl⟩
        rw [List.length_map, List.length_range]
        have hT := totR_S hw.rs hfs 0 _ (Nat.le_refl _)
        rw [hzl] at hT
        have er := row_cons (row := row) hn1 hrow
        unfold rD at er
        have h0 := row_head hrs
        rw [tot_cons hn1 (fun j => totC (rows ws) fs j (ws.zip fs).length), er]
        have hc : (S ++ [some (CO.lst (fD (totC (rows ws) fs 0 (ws.zip fs).length) :: ((List.range n).drop 1).map fun j => fD (totC (rows ws) fs j (ws.zip fs).length)))])[S.length]? = some (some (CO.lst (fD (totC (rows ws) fs 0 (ws.zip fs).length) :: ((List.range n).drop 1).map fun j => fD (totC (rows ws) fs j (ws.zip fs).length)))) := by simp
        have eS : ∀ b : Bool, trim S (.bl b) (S ++ [some (CO.lst (fD (totC (rows ws) fs 0 (ws.zip fs).length) :: ((List.range n).drop 1).map fun j => fD (totC (rows ws) fs j (ws.zip fs).length)))]) = S := fun b => trim_last rfl
        generalize S ++ [some (CO.lst (fD (totC (rows ws) fs 0 (ws.zip fs).length) :: ((List.range n).drop 1).map fun j => fD (totC (rows ws) fs j (ws.zip fs).length)))] = S' at *
        walk_at "dl"
        refine o_sl (xs := fD (totC (rows ws) fs 0 (ws.zip fs).length) :: ((List.range n).drop 1).map fun j => fD (totC (rows ws) fs j (ws.zip fs).length)) (by simp only [DL.listOf, hc]) ?_
        walk_at "dl"
        rw [cut_1, cut_1]
        show Ok (mItL (.lst ((row.drop 1).map .int)) S') _
        refine i_list ?_
        refine lc_map (g := fun g : Int => fD (g, 1)) (by rw [sizeLine_eq, List.length_drop]; omega) ?_ ?_
        · intro g _
          refine ⟨_, rfl, ?_⟩
          walk_at "dl"
          exact ⟨rfl, rfl⟩
        rw [List.drop_succ_cons, List.drop_zero]
        rw [show (((List.range n).drop 1).map fun j => fD (totC (rows ws) fs j (ws.zip fs).length)) = (((List.range n).drop 1).map fun j => totC (rows ws) fs j (ws.zip fs).length).map fD by rw [List.map_map]; rfl, show ((row.drop 1).map fun g => fD (g, 1)) = ((row.drop 1).map fun g => ((g, 1) : Fr)).map fD by rw [List.map_map]; rfl]
        refine frs_eq ?_
        walk_at "dl"
        have hix : ∀ {P : D → Sto → Prop}, P (fD (totC (rows ws) fs 0 (ws.zip fs).length)) S' → Ok (oIx (.cell S.length) (.int 0) S') P := fun {P} q => o_ix (v := fD (totC (rows ws) fs 0 (ws.zip fs).length)) (by
          simp only [seqOf, DL.listOf, hc]
          show L2.atI (_ :: _) 0 = _
          unfold L2.atI L2.ixN
          rw [if_pos (by decide), if_pos (by simp)]
          rfl) q
        unfold lineB at q
        by_cases he : (((List.range n).drop 1).map fun j => totC (rows ws) fs j (ws.zip fs).length) = (row.drop 1).map fun g => ((g, 1) : Fr)
        · rw [decide_eq_true he, Bool.true_and] at q
          with_reducible refine k_ifT ?hc ?_
          case hc => simpa using he
          walk_at "dl"
          refine hix ?_
          walk_at "dl"
          refine o_ix0 ?_
          walk_at "dl"
          refine hix ?_
          walk_at "dl"
          refine o_mul (h0.mulOk hT.b (by omega) (by omega)) ?_
          walk_at "dl"
          rw [eS]
          have e : (!decide (row.headD 0 * (totC (rows ws) fs 0 (ws.zip fs).length).2 < (totC (rows ws) fs 0 (ws.zip fs).length).1)) = decide ((totC (rows ws) fs 0 (ws.zip fs).length).1 ≤ row.headD 0 * (totC (rows ws) fs 0 (ws.zip fs).length).2) := by
            rw [← decide_not]
            exact decide_eq_decide.mpr (by omega)
          rw [e] at q; exact q
        · rw [decide_eq_false he, Bool.false_and] at q
          with_reducible refine k_ifF ?hc ?_
          case hc => simpa using he
          rw [eS]
          exact q
end

/-! ### whether papers are right -/
structure Cs (n : Nat) (ws : List Wi) : Prop where
  n8 : n ≤ 8
  m : ws.length ≤ 24
  ok : ∀ w ∈ ws, WiOk 520 n w
theorem Cs.wis {n : Nat} {ws : List Wi} (c : Cs n ws) : Wis 520 (n + 1) ws := ⟨c.m, fun w hw => (c.ok w hw).len, fun w hw => (c.ok w hw).sz⟩
def lgB (n : Nat) (ws : List Wi) : D → Bool
  | .tup [.str s, b] => if s = "numbers" then nuB n b && ws.all (grF (frsOf b)) else decide (s = "shares") && caB (n + 1) ws (nevL n) b
  | _ => false
def lfB (n : Nat) (ws : List Wi) (row : List Int) : D → Bool
  | .tup [.str s, b] => if s = "shares" then caB (n + 1) ws row b else if s = "fails" then nuB n b && (ws.all (grF (frsOf b)) && decide ((totF row (frsOf b)).1 < 0)) else decide (s = "none") && caB (n + 1) ws (nevL n) b
  | _ => false
theorem lg_no {n : Nat} {ws : List Wi} {t : D} (h : toldB t = false) : lgB n ws t = false := by
  unfold lgB
  split
  · cases h
  · rfl
theorem lf_no {n : Nat} {ws : List Wi} {row : List Int} {t : D} (h : toldB t = false) : lfB n ws row t = false := by
  unfold lfB
  split
  · cases h
  · rfl
theorem lg_two {n : Nat} {ws : List Wi} {s : Str} {b : D} : lgB n ws (.tup [.str s, b]) = if s = "numbers" then nuB n b && ws.all (grF (frsOf b)) else decide (s = "shares") && caB (n + 1) ws (nevL n) b := rfl
theorem lf_two {n : Nat} {ws : List Wi} {row : List Int} {s : Str} {b : D} : lfB n ws row (.tup [.str s, b]) = if s = "shares" then caB (n + 1) ws row b else if s = "fails" then nuB n b && (ws.all (grF (frsOf b)) && decide ((totF row (frsOf b)).1 < 0)) else decide (s = "none") && caB (n + 1) ws (nevL n) b := rfl
section
variable {n : Nat} {ws : List Wi} {b t : D} {row : List Int} {z : Int} {S : Sto} {P : D → Sto → Prop}
theorem lets_granted_ok (c : Cs n ws) (hz : z = (n : Int)) (h : Thing t) (q : P (.bl (lgB n ws t)) S) : Ok (Lw.f_lets_granted [.int z, .lst (ws.map wD), t] S) P := by
  have n8 := c.n8
  unfold Lw.f_lets_granted
  refine k_fn rfl ?_
  unfold Lw.d_lets_granted
  walk_at "dl"
  refine look_at_many_ok n8 hz ?_
  walk_at "dl"
  refine is_told_ok h.dat.pl ?_
  walk_at "dl"
  cases hT : toldB t with
  | false =>
    with_reducible refine k_ifT ?hc ?_
    case hc => rfl
    walk_at "dl"
    rw [trim_same rfl]
    rw [lg_no hT] at q; exact q
  | true =>
    obtain ⟨s, b, rfl⟩ := told_get hT
    have hI := h.it _ _ rfl
    rw [lg_two] at q
    with_reducible refine k_ifF ?hc ?_
    case hc => simp
    walk_at "dl"
    by_cases h1 : s = "numbers"
    · rw [if_pos h1] at q
      with_reducible refine k_ifT ?hc ?_
      case hc => simpa using h1
      walk_at "dl"
      refine are_numbers_ok hI hz ?_
      walk_at "dl"
      cases hN : nuB n b with
      | false =>
        with_reducible refine k_ifF ?hc ?_
        case hc => simp
        rw [trim_same rfl]
        rw [hN] at q; exact q
      | true =>
        obtain ⟨e, hf, hl⟩ := nu_get hI hN
        rw [hN, Bool.true_and] at q
        with_reducible refine k_ifT ?hc ?_
        case hc => rfl
        walk_at "dl"
        rw [e]
        refine grants_ok c.ok (by have := c.m; omega) (by decide) hf (by omega) ?_
        rw [trim_same rfl]
        exact q
    · rw [if_neg h1] at q
      with_reducible refine k_ifF ?hc ?_
      case hc => simpa using h1
      walk_at "dl"
      by_cases h2 : s = "shares"
      · rw [decide_eq_true h2, Bool.true_and] at q
        with_reducible refine k_ifT ?hc ?_
        case hc => simpa using h2
        walk_at "dl"
        refine never_line_ok n8 hz ?_
        walk_at "dl"
        refine carries_ok c.wis (by decide) (by omega) (by omega) (nev_len n) (nev_sz n) hI ?_
        rw [trim_same rfl]
        exact q
      · rw [decide_eq_false h2, Bool.false_and] at q
        with_reducible refine k_ifF ?hc ?_
        case hc => simpa using h2
        rw [trim_same rfl]
        exact q
theorem law_granted_ok (c : Cs n ws) (hz : z = (n : Int)) (h : Thing t) (q : P (.bl (lgB n ws t)) S) : Ok (Lw.f__law_is_granted [.int z, .lst (ws.map wD), t] S) P := by
  have n8 := c.n8
  unfold Lw.f__law_is_granted
  refine k_fn rfl ?_
  unfold Lw.d__law_is_granted
  refine k_seq (k_if (told_test (t := t) rfl h.dat.pl ?_))
  cases hT : toldB t with
  | false =>
    with_reducible refine k_ifT ?hc ?_
    case hc => rfl
    walk_at "dl"
    rw [trim_same rfl]
    rw [lg_no hT] at q; exact q
  | true =>
    obtain ⟨s, b, rfl⟩ := told_get hT
    have hI := h.it _ _ rfl
    rw [lg_two] at q
    with_reducible refine k_ifF ?hc ?_
    case hc => simp
    walk_at "dl"
    by_cases h1 : s = "numbers"
    · rw [if_pos h1] at q
      with_reducible refine k_ifT ?hc ?_
      case hc => simpa using h1
      walk_at "dl"
      refine law_are_numbers_ok hI hz ?_
      walk_at "dl"
      cases hN : nuB n b with
      | false =>
        with_reducible refine k_ifF ?hc ?_
        case hc => simp
        rw [trim_same rfl]
        rw [hN] at q; exact q
      | true =>
        obtain ⟨e, hf, hl⟩ := nu_get hI hN
        rw [hN, Bool.true_and] at q
        with_reducible refine k_ifT ?hc ?_
        case hc => rfl
        walk_at "dl"
        rw [e]
        refine law_grants_ok c.ok (by decide) hf (by omega) ?_
        rw [trim_same rfl]
        exact q
    · rw [if_neg h1] at q
      with_reducible refine k_ifF ?hc ?_
      case hc => simpa using h1
      walk_at "dl"
      by_cases h2 : s = "shares"
      · rw [decide_eq_true h2, Bool.true_and] at q
        with_reducible refine k_ifT ?hc ?_
        case hc => simpa using h2
        refine k_L (k_cons (k_var rfl (k_cons (nev_make n8 hz (fun q => k_var rfl q) ?_))))
        walk_at "dl"
        refine law_carries_ok c.wis (by decide) (by omega) (by omega) (nev_len n) (nev_sz n) hI ?_
        rw [trim_same rfl]
        exact q
      · rw [decide_eq_false h2, Bool.false_and] at q
        with_reducible refine k_ifF ?hc ?_
        case hc => simpa using h2
        rw [trim_same rfl]
        exact q
theorem lets_follows_ok (c : Cs n ws) (hz : z = (n : Int)) (hrow : row.length = n + 1) (hrs : ∀ i ∈ row, Sz 520 i) (h : Thing t) (q : P (.bl (lfB n ws row t)) S) : Ok (Lw.f_lets_follows [.int z, .lst (ws.map wD), rD row, t] S) P := by
  have n8 := c.n8
  have hne : row ≠ [] := fun z => by rw [z] at hrow; simp at hrow
  unfold Lw.f_lets_follows
  refine k_fn rfl ?_
  unfold Lw.d_lets_follows
  walk_at "dl"
  refine look_at_many_ok n8 hz ?_
  walk_at "dl"
  refine is_told_ok h.dat.pl ?_
  walk_at "dl"
  cases hT : toldB t with
  | false =>
    with_reducible refine k_ifT ?hc ?_
    case hc => rfl
    walk_at "dl"
    rw [trim_same rfl]
    rw [lf_no hT] at q; exact q
  | true =>
    obtain ⟨s, b, rfl⟩ := told_get hT
    have hI := h.it _ _ rfl
    rw [lf_two] at q
    with_reducible refine k_ifF ?hc ?_
    case hc => simp
    walk_at "dl"
    by_cases h1 : s = "shares"
    · rw [if_pos h1] at q
      with_reducible refine k_ifT ?hc ?_
      case hc => simpa using h1
      walk_at "dl"
      refine carries_ok c.wis (by decide) (by omega) (by omega) hrow (fun i hi => (hrs i hi).mono (by decide)) hI ?_
      walk_at "dl"
      rw [trim_same rfl]
      exact q
    rw [if_neg h1] at q
    with_reducible refine k_ifF ?hc ?_
    case hc => simpa using h1
    walk_at "dl"
    by_cases h2 : s = "fails"
    · rw [if_pos h2] at q
      with_reducible refine k_ifT ?hc ?_
      case hc => simpa using h2
      walk_at "dl"
      refine are_numbers_ok hI hz ?_
      walk_at "dl"
      cases hN : nuB n b with
      | false =>
        with_reducible refine k_ifF ?hc ?_
        case hc => simp
        rw [trim_same rfl]
        rw [hN] at q; exact q
      | true =>
        obtain ⟨e, hf, hl⟩ := nu_get hI hN
        rw [hN, Bool.true_and] at q
        with_reducible refine k_ifT ?hc ?_
        case hc => rfl
        walk_at "dl"
        generalize frsOf b = fs at *
        subst e
        refine grants_ok c.ok (by have := c.m; omega) (by decide) hf (by omega) ?_
        walk_at "dl"
        cases hG : ws.all (grF fs) with
        | false =>
          with_reducible refine k_ifF ?hc ?_
          case hc => simp
          rw [trim_same rfl]
          rw [hG] at q; exact q
        | true =>
          rw [hG, Bool.true_and] at q
          with_reducible refine k_ifT ?hc ?_
          case hc => rfl
          walk_at "dl"
          refine worth_ok hne hrs (by decide) hf (by omega) ?_
          unfold fD
          walk_at "dl"
          rw [trim_same rfl]
          exact q
    rw [if_neg h2] at q
    with_reducible refine k_ifF ?hc ?_
    case hc => simpa using h2
    walk_at "dl"
    by_cases h3 : s = "none"
    · rw [decide_eq_true h3, Bool.true_and] at q
      with_reducible refine k_ifT ?hc ?_
      case hc => simpa using h3
      walk_at "dl"
      refine never_line_ok n8 hz ?_
      walk_at "dl"
      refine carries_ok c.wis (by decide) (by omega) (by omega) (nev_len n) (nev_sz n) hI ?_
      rw [trim_same rfl]
      exact q
    · rw [decide_eq_false h3, Bool.false_and] at q
      with_reducible refine k_ifF ?hc ?_
      case hc => simpa using h3
      rw [trim_same rfl]
      exact q
theorem law_follows_ok (c : Cs n ws) (hz : z = (n : Int)) (hrow : row.length = n + 1) (hrs : ∀ i ∈ row, Sz 520 i) (h : Thing t) (q : P (.bl (lfB n ws row t)) S) : Ok (Lw.f__law_is_follows [.int z, .lst (ws.map wD), rD row, t] S) P := by
  have n8 := c.n8
  have hne : row ≠ [] := fun z => by rw [z] at hrow; simp at hrow
  unfold Lw.f__law_is_follows
  refine k_fn rfl ?_
  unfold Lw.d__law_is_follows
  refine k_seq (k_if (told_test (t := t) rfl h.dat.pl ?_))
  cases hT : toldB t with
  | false =>
    with_reducible refine k_ifT ?hc ?_
    case hc => rfl
    walk_at "dl"
    rw [trim_same rfl]
    rw [lf_no hT] at q; exact q
  | true =>
    obtain ⟨s, b, rfl⟩ := told_get hT
    have hI := h.it _ _ rfl
    rw [lf_two] at q
    with_reducible refine k_ifF ?hc ?_
    case hc => simp
    walk_at "dl"
    by_cases h2 : s = "fails"
    · rw [if_neg (by rw [h2]; decide), if_pos h2] at q
      with_reducible refine k_ifT ?hc ?_
      case hc => simpa using h2
      walk_at "dl"
      refine law_are_numbers_ok hI hz ?_
      walk_at "dl"
      cases hN : nuB n b with
      | false =>
        with_reducible refine k_ifT ?hc ?_
        case hc => rfl
        with_reducible refine k_ifT ?hc ?_
        case hc => rfl
        walk_at "dl"
        rw [trim_same rfl]
        rw [hN] at q; exact q
      | true =>
        obtain ⟨e, hf, hl⟩ := nu_get hI hN
        rw [hN, Bool.true_and] at q
        with_reducible refine k_ifF ?hc ?_
        case hc => simp
        walk_at "dl"
        generalize frsOf b = fs at *
        subst e
        refine law_grants_ok c.ok (by decide) hf (by omega) ?_
        walk_at "dl"
        cases hG : ws.all (grF fs) with
        | false =>
          with_reducible refine k_ifT ?hc ?_
          case hc => rfl
          walk_at "dl"
          rw [trim_same rfl]
          rw [hG] at q; exact q
        | true =>
          rw [hG, Bool.true_and] at q
          with_reducible refine k_ifF ?hc ?_
          case hc => simp
          walk_at "dl"
          refine total_ok hne hrs (by decide) hf (by omega) ?_
          unfold fD
          walk_at "dl"
          rw [trim_same rfl]
          exact q
    with_reducible refine k_ifF ?hc ?_
    case hc => simpa using h2
    walk_at "dl"
    by_cases h1 : s = "shares"
    · rw [if_pos h1] at q
      with_reducible refine k_ifT ?hc ?_
      case hc => simpa using h1
      walk_at "dl"
      refine law_carries_ok c.wis (by decide) (by omega) (by omega) hrow (fun i hi => (hrs i hi).mono (by decide)) hI ?_
      walk_at "dl"
      rw [trim_same rfl]
      exact q
    rw [if_neg h1, if_neg h2] at q
    with_reducible refine k_ifF ?hc ?_
    case hc => simpa using h1
    walk_at "dl"
    by_cases h3 : s = "none"
    · rw [decide_eq_true h3, Bool.true_and] at q
      with_reducible refine k_ifT ?hc ?_
      case hc => simpa using h3
      refine k_L (k_cons (k_var rfl (k_cons (nev_make n8 hz (fun q => k_var rfl q) ?_))))
      walk_at "dl"
      refine law_carries_ok c.wis (by decide) (by omega) (by omega) (nev_len n) (nev_sz n) hI ?_
      rw [trim_same rfl]
      exact q
    · rw [decide_eq_false h3, Bool.false_and] at q
      with_reducible refine k_ifF ?hc ?_
      case hc => simpa using h3
      rw [trim_same rfl]
      exact q
end

/-! ### cells beside the pool -/
/-- a cell is kept while the pool is drawn from -/
theorem SP.at {p c : Nat} {S S' : Sto} {xs : List D} (s : SP p S S') (hc : c ≠ p) (h : S[c]? = some (some (.lst xs))) : S'[c]? = some (some (.lst xs)) := (s.oth c hc).trans h
/-- cells beyond S may come; of those of S the pool alone is changed -/
structure SQ (p : Nat) (S S' : Sto) : Prop where
  len : S.length ≤ S'.length
  oth : ∀ i : Nat, i < S.length → i ≠ p → S'[i]? = S[i]?
  pool : IsPool S' p
theorem SQ.refl {p : Nat} {S : Sto} (h : IsPool S p) : SQ p S S := ⟨Nat.le_refl _, fun _ _ _ => rfl, h⟩
theorem SQ.draw {p : Nat} {S S1 S2 : Sto} (a : SQ p S S1) (b : SP p S1 S2) : SQ p S S2 := ⟨by rw [b.len]; exact a.len, fun i h n => (b.oth i n).trans (a.oth i h n), b.pool⟩
theorem IsPool.lt {p : Nat} {S : Sto} (h : IsPool S p) : p < S.length := by
  obtain ⟨_, _, _, _, e⟩ := h
  exact (List.getElem?_eq_some_iff.mp e).1
theorem SQ.push {p : Nat} {S S1 : Sto} {c : Option CO} (a : SQ p S S1) : SQ p S (S1 ++ [c]) := by
  have hp := a.pool.lt
  refine ⟨by simp; have := a.len; omega, fun i h n => ?_, ?_⟩
  · rw [List.getElem?_append_left (by have := a.len; omega)]; exact a.oth i h n
  · obtain ⟨x, y, h0, h1, e⟩ := a.pool
    exact ⟨x, y, h0, h1, by rw [List.getElem?_append_left hp]; exact e⟩
theorem SQ.put {p c : Nat} {S S1 : Sto} {o : Option CO} (a : SQ p S S1) (hc : S.length ≤ c) (hp : p < S.length) : SQ p S (S1.set c o) := by
  refine ⟨by rw [List.length_set]; exact a.len, fun i h n => ?_, ?_⟩
  · rw [List.getElem?_set_ne (by omega)]; exact a.oth i h n
  · obtain ⟨x, y, h0, h1, e⟩ := a.pool
    exact ⟨x, y, h0, h1, by rw [List.getElem?_set_ne (by omega)]; exact e⟩
theorem SQ.more {p : Nat} {S S1 S2 : Sto} (a : SQ p S S1) (h : ∀ i : Nat, i < S1.length → S2[i]? = S1[i]?) (hl : S1.length ≤ S2.length) : SQ p S S2 := by
  have hp := a.pool.lt
  refine ⟨Nat.le_trans a.len hl, fun i hi n => (h i (Nat.lt_of_lt_of_le hi a.len)).trans (a.oth i hi n), ?_⟩
  obtain ⟨x, y, h0, h1, e⟩ := a.pool
  exact ⟨x, y, h0, h1, (h p hp).trans e⟩

theorem SQ.trim {p : Nat} {S S' : Sto} {d : D} (a : SQ p S S') (hp : p < S.length) (hd : d.bel S.length = true) : SP p S (trim S d S') := by
  obtain ⟨x, y, h0, h1, e⟩ := a.pool
  have hc : Cut S d S' := by
    refine ⟨hd, fun i c hi h => ?_⟩
    by_cases n : i = p
    · subst n
      rw [e] at h
      cases h
      right; rfl
    · left; rw [← a.oth i hi n]; exact h
  rw [trim_cut hc]
  have hl : (S'.take S.length).length = S.length := by rw [List.length_take, Nat.min_eq_left a.len]
  refine ⟨hl, fun i n => ?_, x, y, h0, h1, by rw [List.getElem?_take_of_lt hp]; exact e⟩
  by_cases hi : i < S.length
  · rw [List.getElem?_take_of_lt hi]; exact a.oth i hi n
  · rw [List.getElem?_eq_none (by omega), List.getElem?_eq_none (by omega)]
/-- columns made -/

local macro_rules | `(tactic| walk_at "szs") => `(tactic| first | assumption | (unfold Sz at *; omega))
local macro_rules | `(tactic| walk_at "mulOk") => `(tactic| first
  | exact IntMulOk.of_left (by decide) | exact IntMulOk.of_right (by decide)
  | exact Sz.mulOk (by assumption) (by assumption)
  | exact Sz.mulOk (k := 64) (l := 64) (by unfold Sz; omega) (by unfold Sz; omega))
local macro_rules | `(tactic| walk_at "szl") => `(tactic| first | (rw [sizeLine_eq]; omega) | (rw [sizeLine_eq]; simp; done) | (rw [sizeLine_eq]; simp; omega))
local macro_rules | `(tactic| walk_at "sp") => `(tactic| first | assumption | exact SP.refl (by assumption) | exact SP.trans (by assumption) (by walk_at "sp"))
local macro_rules | `(tactic| walk_at "splen") => `(tactic| first | rfl | exact SP.len (by walk_at "sp"))
local macro_rules | `(tactic| walk_at "bnd") => `(tactic| first | assumption | decide | omega)
local macro_rules | `(tactic| walk_at "call") => `(tactic| ((with_reducible refine take_ok ?hp ?h1 ?h2 ?_); (case hp => assumption); (case h1 => walk_at "bnd"); (case h2 => walk_at "bnd"); intro r S' hr0 hr1 hsp; have hpl := SP.pool hsp))
local macro_rules | `(tactic| walk_at "cond") => `(tactic| first
  | ((with_reducible refine k_condD ?ht ?hf) <;> intro hcond) | ((with_reducible refine k_condND ?ht ?hf) <;> intro hcond)
  | ((with_reducible refine k_condN ?ht ?hf) <;> intro hcond) | ((with_reducible refine k_condB ?ht ?hf) <;> intro hcond))
local macro_rules | `(tactic| walk_at "go1") => `(tactic| first
  | walk_at "dl1"
  | ((with_reducible refine o_mul01 (k := ?kk) ?hi ?_); (case hi => assumption); intro j hj hj2)
  | ((with_reducible refine o_mul ?hm ?_); (case hm => walk_at "mulOk"))
  | ((with_reducible refine o_mod ?hm ?_); (case hm => first | decide | omega))
  | ((with_reducible refine o_fdiv ?hm ?hm2 ?_); (case hm => first | decide | omega); (case hm2 => first | decide))
  | ((with_reducible refine o_pow ?hm ?_); (case hm => unfold L2.CPow; decide))
  | ((with_reducible refine o_addL ?hz0 ?_); (case hz0 => walk_at "szl"))
  | ((with_reducible refine o_tupL ?_)) | (with_reducible refine i_list ?_) | (with_reducible refine i_zip ?_)
  | ((with_reducible refine i_rng1 ?h1 ?h2 ?_); (case h1 => walk_at "bnd"); (case h2 => walk_at "bnd"))
  | walk_at "call"
  | ((refine trim_go ?ht ?_); (case ht => walk_at "splen")))
local macro_rules | `(tactic| walk_at "go") => `(tactic| repeat walk_at "go1")
local macro_rules | `(tactic| walk_at "goc") => `(tactic| repeat' (first | walk_at "go1" | walk_at "cond"))
local macro_rules | `(tactic| walk_at "pk") => `(tactic| ((case h0 => first | assumption | omega); (case h1 => first | assumption | (simp only [List.length_cons, List.length_nil]; omega) | (simp; omega)); (case hq => repeat' (first | exact all_nil | refine all_cons ?_ ?_ | exact in_i (by walk_at "szs")))))

theorem number_ok {p : Nat} {S : Sto} {P : D → Sto → Prop} (h : IsPool S p) (k : ∀ i S', Sz 7 i → SP p S S' → P (.int i) S') : Ok (Lw.f__law_number [.cell p] S) P := by
  unfold Lw.f__law_number
  refine k_fn rfl ?_
  unfold Lw.d__law_number
  walk_at "go"
  refine o_pick (In 7) ?h0 ?h1 ?hq ?_
  walk_at "pk"
  rintro v ⟨u, hu, rfl⟩
  walk_at "go"
  refine o_pick (In 7) ?h0 ?h1 ?hq ?_
  walk_at "pk"
  rintro v ⟨u', hu', rfl⟩
  walk_at "go"
  exact k _ _ hu' (by walk_at "sp")

section
local macro_rules | `(tactic| walk_at "call") => `(tactic| ((with_reducible refine number_ok ?hp ?_); (case hp => assumption); intro i S' hi hsp; have hpl := SP.pool hsp))
theorem wish_ok {p n : Nat} {z : Int} {S : Sto} {P : D → Sto → Prop} (h : IsPool S p) (hz : z = (n : Int)) (hn : n ≤ 8) (k : ∀ w S', WiOk 7 n w → SP p S S' → P (wD w) S') : Ok (Lw.f__law_wish [.cell p, .int z] S) P := by
  unfold Lw.f__law_wish
  refine k_fn rfl ?_
  unfold Lw.d__law_wish
  walk_at "go"
  refine lc_any (Q := In 7) (R := SP p S) (by simp; rw [sizeLine_eq]; omega) (.refl h) ?_ ?_
  · intro d _ S1 s1
    have hpl := s1.pool
    refine ⟨_, rfl, ?_⟩
    walk_at "go"
    exact ⟨⟨_, by assumption, rfl⟩, by walk_at "sp"⟩
  · intro ys S1 hl hq s1
    have hpl := s1.pool
    obtain ⟨row, hrow, rfl⟩ := made hq
    walk_at "go"
    refine o_pick (fun d => ∃ s, d = .str s ∧ (s = "least" ∨ s = "just")) (by assumption) (by assumption) (all_cons ⟨_, rfl, .inl rfl⟩ (all_cons ⟨_, rfl, .inl rfl⟩ (all_cons ⟨_, rfl, .inr rfl⟩ all_nil))) ?_
    rintro v ⟨s, rfl, hs⟩
    walk_at "go"
    refine k (s, row) _ ⟨hs, ?_, hrow⟩ (by walk_at "sp")
    simp at hl
    show row.length = n + 1
    omega
local macro_rules | `(tactic| walk_at "call") => `(tactic| ((with_reducible refine wish_ok ?hp ?h1 ?h2 ?_); (case hp => assumption); (case h1 => assumption); (case h2 => walk_at "bnd"); intro w S' hw hsp; have hpl := SP.pool hsp))
theorem some_ok {p n : Nat} {z : Int} {S : Sto} {P : D → Sto → Prop} (h : IsPool S p) (hz : z = (n : Int)) (hn : n ≤ 8) (k : ∀ (fs : List Fr) S', fs.length = n → (∀ f ∈ fs, FrS 30 30 f) → SP p S S' → P (.lst (fs.map fD)) S') : Ok (Lw.f__law_some [.cell p, .int z] S) P := by
  have hp := h.lt
  unfold Lw.f__law_some
  refine k_fn rfl ?_
  unfold Lw.d__law_some
  walk_at "go"
  rw [show z.toNat = n by omega]
  refine k_forL (fun i ρ S' => ∃ fs : List Fr, fs.length = i ∧ (∀ f ∈ fs, FrS 30 30 f) ∧ SQ p S S' ∧ S'[S.length]? = some (some (.lst (fs.map fD))) ∧ ∃ x3, ρ = [some (.cell p), some (.int z), some (.cell S.length), x3]) ⟨[], rfl, by simp, (SQ.refl h).push, by simp, _, rfl⟩ ?_ ?_
  · rintro i ρ S1 d hd ⟨fs, hl, hf, q1, hc, x3, rfl⟩
    have hin : i < n := by
      have := (List.getElem?_eq_some_iff.mp hd).1
      simpa using this
    have hpl := q1.pool
    refine ⟨_, rfl, ?_⟩
    walk_at "dl"
    refine ⟨by simp [chkL, DL.listOf, hc], ?_⟩
    walk_at "go"
    refine o_pick (Up 3) (by assumption) (by assumption) (all_cons ⟨_, rfl, by decide, by decide⟩ (all_cons ⟨_, rfl, by decide, by decide⟩ (all_cons ⟨_, rfl, by decide, by decide⟩ (all_cons ⟨_, rfl, by decide, by decide⟩ all_nil)))) ?_
    rintro v ⟨u, rfl, hu0, hu1⟩
    walk_at "go"
    rename_i r0 S2 h00 h01 s2 p2 r1 S3 h10 h11 s3 p3
    refine low_ok (k := 3) (by omega) (by decide) (by unfold Sz; omega) ?_
    have hF := (low_S (t := r0 - 4) (b := 1 + u) (k := 4) (l := 3) (by omega) (by unfold Sz; omega) (by unfold Sz; omega)).mono (k' := 30) (l' := 30) (by decide) (by decide)
    generalize lowF _ _ = f at hF ⊢
    walk_at "go"
    have hlt := (List.getElem?_eq_some_iff.mp hc).1
    refine o_app (SP.at (p := p) (S := S1) (by walk_at "sp") (by omega) hc) (by rw [sizeLine_eq, List.length_map]; omega) ?_
    refine ⟨fs ++ [f], by simp [hl], ?_, (q1.draw (by walk_at "sp")).put (Nat.le_refl _) hp, ?_, _, rfl⟩
    · intro g hg
      rcases List.mem_append.mp hg with hg | hg
      · exact hf g hg
      · rw [List.mem_singleton.mp hg]; exact hF
    · rw [List.getElem?_set_self (by rw [(s2.trans s3).len]; exact hlt)]
      simp
  · rintro ρ S1 ⟨fs, hl, hf, q1, hc, x3, rfl⟩
    walk_at "dl"
    refine k_frzC hc ?_
    refine k fs _ (by simpa using hl) hf (SQ.trim (q1.put (Nat.le_refl _) hp) hp ?_)
    exact bel_frl _ _
end

/-! ### what is told -/
theorem dat_row {k m : Nat} {row : List Int} {s : Nat} (h : ∀ i ∈ row, Sz s i) (h0 : 0 < s) (hs : s ≤ 1920) (hl : row.length ≤ m) : Dat (k + 1) (m * 1) (rD row) := by
  refine Dat.lst (DatL.all (b := 0) (n := m) ?_ (by simpa using hl))
  intro x hx
  obtain ⟨i, hi, rfl⟩ := List.mem_map.mp hx
  exact Dat.int (h i hi) h0 hs
theorem dat_word {k : Nat} {w : Str} (h : w = "least" ∨ w = "just") : Dat k 5 (.str w) := by
  rcases h with e | e
  · rw [e]; exact (Dat.str (s := "least") (by decide +kernel)).mono (by decide +kernel)
  · rw [e]; exact (Dat.str (s := "just") (by decide +kernel)).mono (by decide +kernel)
theorem dat_wi {k : Nat} {w : Wi} (h : w.1 = "least" ∨ w.1 = "just") (hs : ∀ i ∈ w.2, Sz 204 i) (hl : w.2.length ≤ 10) : Dat (k + 2) 18 (wD w) :=
  (Dat.tup (k := k + 1) (DatL.cons (dat_word h) (DatL.cons (dat_row (k := k) (m := 10) hs (by decide) (by decide) hl) DatL.nil))).mono (by decide)
theorem dat_fr {k a : Nat} {f : Fr} (h : FrS a a f) (h0 : 0 < a) (hs : a ≤ 1920) : Dat (k + 1) 2 (fD f) := (Dat.tup (DatL.cons (Dat.int h.t h0 hs) (DatL.cons (Dat.int h.b h0 hs) DatL.nil))).mono (by decide)
theorem dat_frs {k a m : Nat} {fs : List Fr} (h : ∀ f ∈ fs, FrS a a f) (h0 : 0 < a) (hs : a ≤ 1920) (hl : fs.length ≤ m) : Dat (k + 2) (m * 3) (.lst (fs.map fD)) := by
  refine Dat.lst (DatL.all (b := 2) (n := m) ?_ (by simpa using hl))
  intro x hx
  obtain ⟨f, hf, rfl⟩ := List.mem_map.mp hx
  exact dat_fr (h f hf) h0 hs
theorem dat_wis {k : Nat} {ws : List Wi} (h : ∀ w ∈ ws, w.1 = "least" ∨ w.1 = "just") (hs : ∀ w ∈ ws, ∀ i ∈ w.2, Sz 204 i) (hl : ∀ w ∈ ws, w.2.length ≤ 10) (hm : ws.length ≤ 24) : Dat (k + 3) (24 * 19) (.lst (ws.map wD)) := by
  refine Dat.lst (DatL.all (b := 18) (n := 24) ?_ (by simpa using hm))
  intro x hx
  obtain ⟨w, hw, rfl⟩ := List.mem_map.mp hx
  exact dat_wi (h w hw) (hs w hw) (hl w hw)

theorem ixN_zero (n : Nat) : L2.ixN (n + 1) 0 = some 0 := by
  unfold L2.ixN
  rw [if_pos (by decide), if_pos (by omega)]; rfl
theorem atI_zero (x : D) (xs : List D) : L2.atI (x :: xs) 0 = some x := by
  unfold L2.atI
  rw [List.length_cons, ixN_zero]; rfl
theorem setD_zero {c : Nat} {x v : D} {xs : List D} {S : Sto} (h : S[c]? = some (some (.lst (x :: xs)))) : setD (.cell c) (.int 0) v S = some (S.set c (some (.lst (v :: xs)))) := by
  simp only [setD, h, List.length_cons, ixN_zero]
  rfl

section
local macro_rules | `(tactic| walk_at "call") => `(tactic| ((with_reducible refine some_ok ?hp ?h1 ?h2 ?_); (case hp => assumption); (case h1 => assumption); (case h2 => walk_at "bnd"); intro fs S' hfl hff hsp; have hpl := SP.pool hsp))
theorem o_listL {xs : List D} {S : Sto} {P : D → Sto → Prop} (q : P (.lst xs) S) : Ok (fList [.lst xs] S) P := ⟨q⟩
theorem fdiv_S {k : Nat} {a b : Int} (h : Sz k a) (hb : 0 < b) : Sz k (a.fdiv b) := by
  refine h.of_le ?_
  rw [Int.fdiv_eq_ediv_of_nonneg _ (by omega)]
  exact Int.natAbs_ediv_le_natAbs _ _
theorem sum_S {l : List Int} {k m : Nat} (h : ∀ i ∈ l, Sz k i) (hl : l.length ≤ 2 ^ m) : Sz (k + m + 1) l.sum := by
  have key : ∀ l : List Int, (∀ i ∈ l, Sz k i) → l.sum.natAbs ≤ l.length * 2 ^ k := by
    intro l
    induction l with
    | nil => intro _; simp
    | cons x l ih =>
      intro h
      have h1 : x.natAbs < 2 ^ k := h x (by simp)
      have h2 := ih (fun i hi => h i (by simp [hi]))
      rw [List.sum_cons, List.length_cons, Nat.add_mul, Nat.one_mul]
      generalize l.length * 2 ^ k = z at *
      generalize (2 : Nat) ^ k = y at *
      omega
  have h1 := key l h
  have h2 : l.length * 2 ^ k ≤ 2 ^ m * 2 ^ k := Nat.mul_le_mul_right _ hl
  have h3 : 2 ^ (k + m + 1) = 2 ^ m * 2 ^ k * 2 := by rw [Nat.pow_succ, Nat.pow_add, Nat.mul_comm (2 ^ k)]
  have h4 : 0 < 2 ^ m * 2 ^ k := Nat.mul_pos (Nat.two_pow_pos _) (Nat.two_pow_pos _)
  unfold Sz
  rw [h3]
  omega
/-- the same of any list of ints -/
theorem total_okD {r : Nat} {row : List Int} {fs : List Fr} {d : D} {S : Sto} {P : D → Sto → Prop} (hs : seqOf S d = some (row.map .int)) (hL : DL.listOf S d = some (row.map .int)) (hl : row ≠ []) (hr : ∀ i ∈ row, Sz r i) (hr2 : r ≤ 1000) (hf : ∀ f ∈ fs, FrS 40 40 f) (hn : fs.length ≤ 8) (q : P (fD (totF row fs)) S) : Ok (Lw.f__law_total [d, .lst (fs.map fD)] S) P := by
  have hzl := zip_len (row := row) hn
  unfold Lw.f__law_total
  refine k_fn rfl ?_
  unfold Lw.d__law_total
  have e0 : row.map D.int = .int (row.headD 0) :: (row.drop 1).map .int := by
    cases row with
    | nil => exact absurd rfl hl
    | cons x xs => rfl
  walk_at "dl"
  refine o_ix (v := .int (row.headD 0)) (by rw [hs, e0]; exact atI_zero _ _) ?_
  walk_at "dl"
  refine o_sl (xs := row.map .int) hL ?_
  walk_at "dl"
  rw [cut_1, ← List.map_drop]
  refine i_zip ?_
  rw [zipD_map]
  refine k_forL (fun i ρ S' => S' = S ∧ ∃ u v, ρ = [some d, some (.lst (fs.map fD)), some (fD (totG row fs i)), u, v]) ⟨rfl, none, none, rfl⟩ ?_ ?_
  · rintro i ρ S' d hd ⟨rfl, u, v, rfl⟩
    obtain ⟨⟨x, f⟩, hx, rfl⟩ := getElem?_map_some hd
    obtain ⟨sx, sf⟩ := zip_S hr hf (List.mem_of_getElem? hx)
    have hi := (List.getElem?_eq_some_iff.mp hx).1
    refine ⟨_, rfl, ?_⟩
    walk_at "dl"
    refine law_times_ok (f := (x, 1)) (int_S sx) sf (by omega) (by omega) (by omega) (by omega) ?_
    walk_at "dl"
    refine law_plus_ok (tot_S hr hf i (by omega)) (times_S (int_S sx) sf) (by omega) (by omega) (by omega) (by omega) ?_
    walk_at "dl"
    rw [tot_succ hx]
    exact ⟨rfl, _, _, rfl⟩
  · rintro ρ S' ⟨rfl, u, v, rfl⟩
    walk_at "dl"
    rw [trim_same rfl]
    rw [List.length_map]
    exact q
theorem moved_ok {p n : Nat} {w : Wi} {fs : List Fr} {S : Sto} {P : D → Sto → Prop} (hp : IsPool S p) (h : WiOk 7 n w) (hn8 : n ≤ 8) (hf : ∀ f ∈ fs, FrS 40 40 f) (hn : fs.length ≤ 8) (k : ∀ w' S', WiOk 500 n w' → SP p S S' → P (wD w') S') : Ok (Lw.f__law_moved [.cell p, wD w, .lst (fs.map fD)] S) P := by
  have hlen := h.len
  have hr : ∀ i ∈ (0 : Int) :: w.2.drop 1, Sz 7 i := by
    intro i hi
    rcases List.mem_cons.mp hi with rfl | hi
    · unfold Sz; decide
    · exact h.sz i (List.mem_of_mem_drop hi)
  have hT := totF_S hr hf hn
  unfold Lw.f__law_moved
  refine k_fn rfl ?_
  unfold Lw.d__law_moved wD
  walk_at "dl"
  unfold rD
  walk_at "dl"
  rw [cut_1]
  refine o_addL (by rw [sizeLine_eq]; simp; omega) ?_
  walk_at "dl"
  rw [← List.map_drop]
  refine total_ok (row := 0 :: w.2.drop 1) (by simp) hr (by omega) hf hn ?_
  generalize totF (0 :: w.2.drop 1) fs = tt at hT ⊢
  unfold fD
  walk_at "go"
  refine o_pick (In 4) ?h0 ?h1 ?hq ?_
  walk_at "pk"
  rintro v ⟨u, hu, rfl⟩
  walk_at "go"
  rename_i j1 hj1 _
  rw [cut_1, ← List.map_drop]
  refine lc_map (g := fun i : Int => .int (i * tt.2)) (by rw [sizeLine_eq]; simp; omega) ?_ ?_
  · intro i hi
    refine ⟨_, rfl, ?_⟩
    walk_at "dl"
    refine o_mul ((h.sz i (List.mem_of_mem_drop hi)).mulOk hT.b) ?_
    exact ⟨rfl, rfl⟩
  walk_at "go"
  have e : D.tup [.str w.1, .lst ([D.int (j1 - tt.1)] ++ (w.2.drop 1).map fun i => D.int (i * tt.2))] = wD (w.1, (j1 - tt.1) :: (w.2.drop 1).map fun i => i * tt.2) := by
    unfold wD rD
    rw [List.map_cons, List.map_map]; rfl
  rw [e]
  refine k _ _ ⟨h.word, ?_, ?_⟩ (by walk_at "sp")
  · show (_ :: _ : List Int).length = n + 1
    rw [List.length_cons, List.length_map, List.length_drop]; omega
  · intro i hi
    rcases List.mem_cons.mp hi with rfl | hi
    · rw [Int.sub_eq_add_neg]
      exact (hj1.add hT.t.neg).mono (by decide)
    · obtain ⟨j, hj, rfl⟩ := List.mem_map.mp hi
      exact ((h.sz j (List.mem_of_mem_drop hj)).mul hT.b).mono (by decide)
end

/-! ### elements and items -/
theorem sm_int {k : Nat} {i : Int} (h : Sz k i) : sm k (.int i) = true := by simp only [sm, decide_eq_true_eq]; exact h
theorem el_int {i : Int} (h : Sz 40 i) : El (.int i) := ⟨(Dat.int h (by decide) (by decide)).mono (by decide), sm_int h⟩
theorem el_fr {a b : Int} (ha : Sz 40 a) (hb : Sz 40 b) : El (.tup [.int a, .int b]) := ⟨(Dat.tup (k := 39) (DatL.cons (Dat.int ha (by decide) (by decide)) (DatL.cons (Dat.int hb (by decide) (by decide)) DatL.nil))).mono (by decide), by simp only [sm, smL, Bool.and_eq_true, decide_eq_true_eq]; exact ⟨ha, hb, trivial⟩⟩
theorem item_lst {xs : List D} (h : ∀ x ∈ xs, El x) (hl : xs.length ≤ 50) : Item (.lst xs) ∧ Dat 41 550 (.lst xs) := by
  have d : Dat 41 550 (.lst xs) := Dat.lst (DatL.all (n := 50) (b := 10) (fun x hx => (h x hx).dat) hl)
  refine ⟨⟨pr_up (by decide) (D.pr_of d.pl), (fun ys e => nomatch e), fun ys e => ?_⟩, d⟩
  cases e
  exact ⟨by omega, h⟩
theorem item_no {d : D} (h : d.pr 58 = true) (hl : ∀ xs, d ≠ .lst xs) (hr : ∀ xs, d ≠ .ro xs) : Item d := ⟨h, hr, fun xs e => absurd e (hl xs)⟩

local macro_rules | `(tactic| walk_at "call") => `(tactic| ((with_reducible refine take_ok ?hp ?h1 ?h2 ?_); (case hp => assumption); (case h1 => walk_at "bnd"); (case h2 => walk_at "bnd"); intro r S' hr0 hr1 hsp; have hpl := SP.pool hsp))
def MadeI (d : D) : Prop := ∃ (w : Str) (xs : List D), d = .tup [.str w, .lst xs] ∧ w ∈ (["numbers", "fails", "shares", "none"] : List Str) ∧ (∀ x ∈ xs, El x) ∧ xs.length ≤ 10
theorem el_frs {fs : List Fr} (h : ∀ f ∈ fs, FrS 40 40 f) : ∀ x ∈ fs.map fD, El x := fun x hx => by
  obtain ⟨f, hf, rfl⟩ := List.mem_map.mp hx
  exact el_fr (h f hf).t (h f hf).b
theorem SQ.draw2 {p : Nat} {S S1 S2 S3 : Sto} (a : SQ p S S1) (b : SP p S1 S2) (c : SP p S2 S3) : SQ p S S3 := a.draw (b.trans c)
/-- a sum of a line's numbers -/
theorem o_sumI {l : List Int} {S : Sto} {P : D → Sto → Prop} (q : P (.int l.sum) S) : Ok (fSum [.lst (l.map .int)] S) P := o_sum (by
  show intsOf (l.map .int) = some l
  exact intsOf_map l) q
set_option maxHeartbeats 1000000 in
theorem made_ok {p : Nat} {S : Sto} {P : D → Sto → Prop} (hp : IsPool S p) (k : ∀ (n : Nat) (ws : List Wi) (row : List Int) (items : List D) S', n ≤ 3 → Cs n ws → ws.length ≤ 5 → row.length = n + 1 → (∀ i ∈ row, Sz 515 i) → (∀ d ∈ items, MadeI d) → 2 ≤ items.length → items.length ≤ 5 → SP p S S' → P (.tup [.int n, .lst (ws.map wD), rD row, .lst items]) S') : Ok (Lw.f__law_made_case [.cell p] S) P := by
  have hpS := hp.lt
  unfold Lw.f__law_made_case
  refine k_fn rfl ?_
  unfold Lw.d__law_made_case
  refine k_seq ?_
  walk_at "go"
  rename_i z S1 hz0 hz1 s1 p1
  obtain ⟨n, hn⟩ : ∃ n : Nat, z = (n : Int) := ⟨z.toNat, by omega⟩
  have hn3 : n ≤ 3 := by omega
  walk_at "go"
  with_reducible refine some_ok (n := n) p1 hn ?h2 ?_
  case h2 => omega
  intro fs S2 hfl hff s2
  have p2 := s2.pool
  have hfs : ∀ f ∈ fs, FrS 40 40 f := fun f hf => (hff f hf).mono (by decide) (by decide)
  walk_at "go"
  rename_i many S3 hm0 hm1 s3 p3
  refine lc_any (Q := fun d => ∃ w, WiOk 500 n w ∧ d = wD w) (R := SP p S3) (by simp; rw [sizeLine_eq]; omega) (.refl p3) ?_ ?_
  · intro d _ S4 s4
    have p4 := s4.pool
    refine ⟨_, rfl, ?_⟩
    walk_at "go"
    with_reducible refine wish_ok (n := n) p4 hn ?h2 ?_
    case h2 => omega
    intro w S5 hw s5
    have p5 := s5.pool
    walk_at "go"
    refine moved_ok p5 hw (by omega) hfs (by omega) fun w' S6 hw' s6 => ?_
    exact ⟨⟨w', hw', rfl⟩, s4.trans (s5.trans s6)⟩
  intro ys S4 hly hq s4
  have p4 := s4.pool
  obtain ⟨ws, hws, rfl⟩ := made hq
  have hwl : ws.length ≤ 4 := by simp at hly; omega
  walk_at "go"
  refine lc_any (Q := In 7) (R := SP p S4) (by simp; rw [sizeLine_eq]; omega) (.refl p4) ?_ ?_
  · intro d _ S5 s5
    have p5 := s5.pool
    refine ⟨_, rfl, ?_⟩
    walk_at "go"
    refine number_ok p5 fun i S6 hi s6 => ?_
    exact ⟨⟨i, hi, rfl⟩, s5.trans s6⟩
  intro ys S5 hlr hq2 s5
  obtain ⟨row0, hrow0, rfl⟩ := made hq2
  have hr0l : row0.length = n + 1 := by simp at hlr; omega
  have q5 : SQ p S (S5 ++ [some (.lst (row0.map .int))]) := ((SQ.refl hp).draw (s1.trans (s2.trans (s3.trans (s4.trans s5))))).push
  have hc5 : (S5 ++ [some (CO.lst (row0.map .int))])[S5.length]? = some (some (.lst (row0.map .int))) := by simp
  have hcS : S.length ≤ S5.length := by rw [(s1.trans (s2.trans (s3.trans (s4.trans s5)))).len]; exact Nat.le_refl _
  generalize S5 ++ [some (CO.lst (row0.map .int))] = S6 at q5 hc5 ⊢
  generalize S5.length = c at hc5 hcS ⊢
  have hcp : c ≠ p := by omega
  have p6 := q5.pool
  have hne0 : row0 ≠ [] := fun z => by rw [z] at hr0l; simp at hr0l
  walk_at "dl"
  refine total_okD (row := row0) (by simp [seqOf, DL.listOf, hc5]) (by simp [DL.listOf, hc5]) hne0 hrow0 (by decide) hfs (by omega) ?_
  have hT := totF_S hrow0 hfs (by omega)
  generalize totF row0 fs = tt at hT ⊢
  walk_at "dl"
  refine o_listL ?_
  walk_at "dl"
  refine o_listL ?_
  walk_at "dl"
  have e0 : row0.map D.int = .int (row0.headD 0) :: (row0.drop 1).map .int := by
    cases row0 with
    | nil => exact absurd rfl hne0
    | cons x xs => rfl
  refine o_ix (v := .int (row0.headD 0)) (by simp only [seqOf, DL.listOf, hc5]; rw [e0]; exact atI_zero _ _) ?_
  rw [show fD tt = .tup [.int tt.1, .int tt.2] from rfl]
  walk_at "dl"
  have hlog : tt.2.natAbs.log2 < 9000 := by have := hT.b.log (by decide); omega
  refine o_fdiv hT.nz hlog ?_
  walk_at "go"
  refine o_pick (In 1) ?h0 ?h1 ?hq ?_
  walk_at "pk"
  rintro v ⟨u, hu, rfl⟩
  rename_i r7 S7 _ _ s7 p7
  walk_at "dl"
  have hc7 := s7.at hcp hc5
  rw [e0] at hc7
  refine ⟨_, setD_zero hc7, ?_⟩
  have hrow1 : ∀ i ∈ (row0.headD 0 - tt.1.fdiv tt.2 - u) :: row0.drop 1, Sz 515 i := by
    intro i hi
    rcases List.mem_cons.mp hi with rfl | hi
    · rw [Int.sub_eq_add_neg, Int.sub_eq_add_neg]
      exact (((head_S hrow0).add (fdiv_S hT.t hT.n.1).neg).add hu.neg).mono (by decide)
    · exact (hrow0 i (List.mem_of_mem_drop hi)).mono (by decide)
  have hrl1 : ((row0.headD 0 - tt.1.fdiv tt.2 - u) :: row0.drop 1).length = n + 1 := by simp; omega
  have q8 := (q5.draw s7).put (o := some (.lst (.int (row0.headD 0 - tt.1.fdiv tt.2 - u) :: (row0.drop 1).map .int))) hcS hpS
  have hlt7 := (List.getElem?_eq_some_iff.mp hc7).1
  have hc8 : (S7.set c (some (.lst (.int (row0.headD 0 - tt.1.fdiv tt.2 - u) :: (row0.drop 1).map .int))))[c]? = some (some (.lst (((row0.headD 0 - tt.1.fdiv tt.2 - u) :: row0.drop 1).map .int))) := by rw [List.getElem?_set_self hlt7]; rfl
  generalize S7.set c (some (.lst (.int (row0.headD 0 - tt.1.fdiv tt.2 - u) :: (row0.drop 1).map .int))) = S8 at q8 hc8 ⊢
  generalize (row0.headD 0 - tt.1.fdiv tt.2 - u) :: row0.drop 1 = row1 at hrow1 hrl1 hc8
  have p8 := q8.pool
  have hw515 : ∀ w ∈ ws, WiOk 515 n w := fun w hw => (hws w hw).mono (by decide)
  have hit : ∀ d ∈ [D.tup [.str "numbers", .lst (fs.map fD)], .tup [.str "fails", .lst (fs.map fD)]], MadeI d := all_cons ⟨_, _, rfl, by decide, el_frs hfs, by rw [List.length_map]; omega⟩ (all_cons ⟨_, _, rfl, by decide, el_frs hfs, by rw [List.length_map]; omega⟩ all_nil)
  have hil : [D.tup [.str "numbers", .lst (fs.map fD)], .tup [.str "fails", .lst (fs.map fD)]].length = 2 := rfl
  generalize [D.tup [.str "numbers", .lst (fs.map fD)], .tup [.str "fails", .lst (fs.map fD)]] = items at hit hil ⊢
  try dsimp only
  with_reducible refine k_seqQ (fun f ρ S' => f = .nx ∧ ∃ (c : Nat) (row : List Int) (items : List D) (x7 x12 x11 x13 x14 x15 : Option D), SQ p S S' ∧ S.length ≤ c ∧ S'[c]? = some (some (.lst (row.map .int))) ∧ row.length = n + 1 ∧ (∀ i ∈ row, Sz 515 i) ∧ (∀ d ∈ items, MadeI d) ∧ 2 ≤ items.length ∧ items.length ≤ 3 ∧ ρ = [some (.cell p), some (.int z), some (.lst (fs.map fD)), some (.lst (ws.map wD)), some (.cell c), some (.tup [.int tt.1, .int tt.2]), some (.lst items), x7, none, none, none, x11, x12, x13, x14, x15]) ?_ ?_
  · walk_at "go"
    rename_i r9 S9 h90 h91 s9 p9
    by_cases h9 : r9 = 0
    · with_reducible refine k_ifT ?hc ?_
      case hc => simpa using h9
      walk_at "go"
      refine lc_any (Q := fun d => ∃ i : Int, (0 ≤ i ∧ i < 4) ∧ d = .int i) (R := SP p S9) (by rw [sizeLine_eq, List.length_map]; omega) (.refl p9) ?_ ?_
      · intro d _ S10 s10
        have p10 := s10.pool
        refine ⟨_, rfl, ?_⟩
        walk_at "go"
        exact ⟨⟨_, ⟨by assumption, by assumption⟩, rfl⟩, by walk_at "sp"⟩
      intro ys S10 hl10 hq10 s10
      obtain ⟨parts, hparts, rfl⟩ := made hq10
      have hpl : parts.length ≤ 4 := by simp at hl10; omega
      have hpS4 : ∀ i ∈ parts, Sz 2 i := fun i hi => by have := hparts i hi; unfold Sz; omega
      walk_at "go"
      rw [show (z + 1).toNat = n + 1 by omega]
      refine lc_map (l := List.range (n + 1)) (g := fun j : Nat => .int (((ws.zip parts).map fun q => q.1.2.getD j 0 * q.2).sum)) (by rw [sizeLine_eq, List.length_range]; omega) ?_ ?_
      · intro j hj
        have hj := List.mem_range.mp hj
        generalize hy : (j : Int) = y
        refine ⟨_, rfl, ?_⟩
        walk_at "go"
        rw [zipD_map]
        refine lc_map (g := fun q : Wi × Int => .int (q.1.2.getD j 0 * q.2)) (by rw [sizeLine_eq, List.length_zip]; omega) ?_ ?_
        · rintro ⟨w, f⟩ hwf
          have hm := List.of_mem_zip hwf
          have hwo := hws w hm.1
          refine ⟨_, rfl, ?_⟩
          unfold wD
          walk_at "dl"
          refine ix_row (by omega) (by have := hwo.len; omega) ?_
          rw [show y.toNat = j by omega]
          walk_at "dl"
          refine o_mul ((getD_S hwo.sz).mulOk (hpS4 f hm.2)) ?_
          exact ⟨rfl, rfl⟩
        walk_at "dl"
        rw [show ((ws.zip parts).map fun q => D.int (q.1.2.getD j 0 * q.2)) = ((ws.zip parts).map fun q => q.1.2.getD j 0 * q.2).map .int by rw [List.map_map]; rfl]
        refine o_sumI ?_
        exact ⟨rfl, rfl⟩
      walk_at "go"
      rw [show ((List.range (n + 1)).map fun j : Nat => D.int (((ws.zip parts).map fun q => q.1.2.getD j 0 * q.2).sum)) = ((List.range (n + 1)).map fun j : Nat => ((ws.zip parts).map fun q => q.1.2.getD j 0 * q.2).sum).map .int by rw [List.map_map]; rfl]
      have hrow2 : ∀ i ∈ ((List.range (n + 1)).map fun j : Nat => ((ws.zip parts).map fun q => q.1.2.getD j 0 * q.2).sum), Sz 515 i := by
        intro i hi
        obtain ⟨j, _, rfl⟩ := List.mem_map.mp hi
        refine (sum_S (k := 502) (m := 4) ?_ (by rw [List.length_map, List.length_zip]; omega)).mono (by decide)
        intro i hi
        obtain ⟨⟨w, f⟩, hwf, rfl⟩ := List.mem_map.mp hi
        have hm := List.of_mem_zip hwf
        exact (getD_S (hws w hm.1).sz).mul (hpS4 f hm.2)
      generalize hrr : ((List.range (n + 1)).map fun j : Nat => ((ws.zip parts).map fun q => q.1.2.getD j 0 * q.2).sum) = row2 at hrow2 ⊢
      have hr2l : row2.length = n + 1 := by rw [← hrr]; simp
      have q11 := q8.draw (s9.trans s10)
      refine lc_map (g := fun f : Int => .tup [.int f, .int 1]) (by rw [sizeLine_eq]; omega) ?_ ?_
      · intro f _
        refine ⟨_, rfl, ?_⟩
        walk_at "dl"
        exact ⟨rfl, rfl⟩
      walk_at "go"
      refine ⟨rfl, S10.length, row2, _, _, _, _, _, _, _, q11.push, q11.len, by simp, hr2l, hrow2, all_app hit (all_cons ⟨_, _, rfl, by decide, ?_, by rw [List.length_map]; omega⟩ all_nil), by simp; omega, by simp [hil], rfl⟩
      intro x hx
      obtain ⟨f, hf, rfl⟩ := List.mem_map.mp hx
      exact el_fr ((hpS4 f hf).mono (by decide)) (by unfold Sz; decide)
    · with_reducible refine k_ifF ?hc ?_
      case hc => simpa using h9
      walk_at "dl"
      exact ⟨rfl, c, row1, items, _, _, _, _, _, _, q8.draw s9, hcS, s9.at hcp hc8, hrl1, hrow1, hit, by omega, by omega, rfl⟩
  rintro f ρ S9 ⟨rfl, c, row, items, x7, x12, x11, x13, x14, x15, q9, hcS, hc9, hrl, hrow, hit, hi2, hi3, rfl⟩
  have p9 := q9.pool
  have hcp : c ≠ p := by omega
  try dsimp only
  with_reducible refine k_seqQ (fun f ρ S' => f = .nx ∧ ∃ (ws : List Wi) (items : List D) (x7 x8 x12 x11 x13 x14 x15 : Option D), SQ p S S' ∧ S'[c]? = some (some (.lst (row.map .int))) ∧ (∀ w ∈ ws, WiOk 520 n w) ∧ ws.length ≤ 5 ∧ (∀ d ∈ items, MadeI d) ∧ 2 ≤ items.length ∧ items.length ≤ 5 ∧ ρ = [some (.cell p), some (.int z), some (.lst (fs.map fD)), some (.lst (ws.map wD)), some (.cell c), some (.tup [.int tt.1, .int tt.2]), some (.lst items), x7, x8, none, none, x11, x12, x13, x14, x15]) ?_ ?_
  · walk_at "go"
    rename_i r10 S10 h100 h101 s10 p10
    by_cases h9 : r10 = 0
    · with_reducible refine k_ifT ?hc ?_
      case hc => simpa using h9
      walk_at "go"
      rw [show (z + 1).toNat = n + 1 by omega]
      refine lc_map (l := List.range (n + 1)) (g := fun j : Nat => .int (0 - (ws.map fun q => q.2.getD j 0).sum)) (by rw [sizeLine_eq, List.length_range]; omega) ?_ ?_
      · intro j hj
        have hj := List.mem_range.mp hj
        generalize hy : (j : Int) = y
        refine ⟨_, rfl, ?_⟩
        walk_at "go"
        refine lc_map (g := fun q : Wi => .int (q.2.getD j 0)) (by rw [sizeLine_eq]; omega) ?_ ?_
        · intro w hm
          have hwo := hws w hm
          refine ⟨_, rfl, ?_⟩
          unfold wD
          walk_at "dl"
          refine ix_row (by omega) (by have := hwo.len; omega) ?_
          rw [show y.toNat = j by omega]
          exact ⟨rfl, rfl⟩
        walk_at "dl"
        rw [show (ws.map fun q => D.int (q.2.getD j 0)) = (ws.map fun q => q.2.getD j 0).map .int by rw [List.map_map]; rfl]
        refine o_sumI ?_
        walk_at "dl"
        exact ⟨rfl, rfl⟩
      rw [show ((List.range (n + 1)).map fun j : Nat => D.int (0 - (ws.map fun q => q.2.getD j 0).sum)) = ((List.range (n + 1)).map fun j : Nat => 0 - (ws.map fun q => q.2.getD j 0).sum).map .int by rw [List.map_map]; rfl]
      have hag : ∀ i ∈ ((List.range (n + 1)).map fun j : Nat => 0 - (ws.map fun q => q.2.getD j 0).sum), Sz 506 i := by
        intro i hi
        obtain ⟨j, _, rfl⟩ := List.mem_map.mp hi
        rw [Int.zero_sub]
        refine (sum_S (k := 500) (m := 4) ?_ (by rw [List.length_map]; omega)).neg.mono (by decide)
        intro i hi
        obtain ⟨w, hm, rfl⟩ := List.mem_map.mp hi
        exact getD_S (hws w hm).sz
      generalize hrr : ((List.range (n + 1)).map fun j : Nat => 0 - (ws.map fun q => q.2.getD j 0).sum) = ag at hag ⊢
      have hagl : ag.length = n + 1 := by rw [← hrr]; simp
      obtain ⟨a0, as, rfl⟩ : ∃ a0 as, ag = a0 :: as := by
        cases ag with
        | nil => simp at hagl
        | cons x xs => exact ⟨x, xs, rfl⟩
      rw [List.map_cons]
      have hasl : as.length = n := by simpa using hagl
      walk_at "go"
      refine o_ix0 ?_
      walk_at "go"
      rw [cut_1]
      walk_at "go"
      rw [show [D.int (a0 - 1)] ++ (D.int a0 :: as.map .int).drop 1 = ((a0 - 1) :: as).map .int by simp]
      rw [show ws.map wD ++ [.tup [.str "least", .lst (((a0 - 1) :: as).map .int)]] = (ws ++ [(("least" : Str), (a0 - 1) :: as)]).map wD by simp [wD, rD]]
      have hwN : ∀ w ∈ ws ++ [(("least" : Str), (a0 - 1) :: as)], WiOk 520 n w := by
        intro w hw
        rcases List.mem_append.mp hw with hw | hw
        · exact (hws w hw).mono (by decide)
        · rw [List.mem_singleton.mp hw]
          refine ⟨.inl rfl, by simpa using hagl, ?_⟩
          intro i hi
          rcases List.mem_cons.mp hi with rfl | hi
          · rw [Int.sub_eq_add_neg]
            exact ((hag a0 (by simp)).add (show Sz 1 (-1) by unfold Sz; decide)).mono (by decide)
          · exact (hag i (by simp [hi])).mono (by decide)
      have hwNl : (ws ++ [(("least" : Str), (a0 - 1) :: as)]).length ≤ 5 := by simp; omega
      generalize ws ++ [(("least" : Str), (a0 - 1) :: as)] = wN at hwN hwNl ⊢
      walk_at "go"
      generalize hzz : (((wN.map wD).length : Nat) : Int) = z3
      have hz3 : z3 = wN.length := by rw [← hzz, List.length_map]
      with_reducible refine o_repL ?g0 ?g1 ?g2 ?g3 ?_
      case g0 => exact .inr trivial
      case g1 => omega
      case g2 => omega
      case g3 => rw [sizeLine_eq, List.length_singleton]; omega
      walk_at "go"
      with_reducible refine o_repL ?g0 ?g1 ?g2 ?g3 ?_
      case g0 => exact .inr trivial
      case g1 => omega
      case g2 => omega
      case g3 => rw [sizeLine_eq, List.length_singleton]; omega
      walk_at "go"
      rw [hzz, List.flatten_replicate_singleton]
      have hel : ∀ x ∈ List.replicate z3.toNat (D.tup [.int 1, .int 1]), El x := all_repeat (el_fr (by unfold Sz; decide) (by unfold Sz; decide))
      have hell : (List.replicate z3.toNat (D.tup [.int 1, .int 1])).length ≤ 10 := by simp; omega
      generalize List.replicate z3.toNat (D.tup [.int 1, .int 1]) = ones at hel hell ⊢
      exact ⟨rfl, wN, items ++ [.tup [.str "shares", .lst ones], .tup [.str "none", .lst ones]], _, _, _, _, _, _, _, q9.draw s10, s10.at hcp hc9, hwN, hwNl, all_app hit (all_cons ⟨_, _, rfl, by decide, hel, hell⟩ (all_cons ⟨_, _, rfl, by decide, hel, hell⟩ all_nil)), by rw [List.length_append]; omega, by rw [List.length_append]; simp; omega, rfl⟩
    · with_reducible refine k_ifF ?hc ?_
      case hc => simpa using h9
      walk_at "dl"
      exact ⟨rfl, ws, items, _, _, _, _, _, _, _, q9.draw s10, s10.at hcp hc9, fun w hw => (hws w hw).mono (by decide), by omega, hit, by omega, by omega, rfl⟩
  rintro f ρ S10 ⟨rfl, ws, items, x7, x8, x12, x11, x13, x14, x15, q10, hc10, hws, hwl, hit, hi2, hi5, rfl⟩
  walk_at "dl"
  refine k_frzC hc10 ?_
  walk_at "dl"
  rw [show D.lst (row.map .int) = rD row from rfl, hn]
  refine k n ws row items _ hn3 ⟨by omega, by omega, hws⟩ hwl hrl hrow hit hi2 hi5 ((q10.put hcS hpS).trim hpS ?_)
  have b1 : D.belL S.length (ws.map wD) = true := belL_all fun d hd => by
    obtain ⟨w, _, rfl⟩ := List.mem_map.mp hd
    show (true && (D.belL S.length (w.2.map D.int) && true)) = true
    rw [belL_all (m := S.length) (ds := w.2.map D.int) fun e he => by
      obtain ⟨i, _, rfl⟩ := List.mem_map.mp he
      rfl]
    rfl
  have b2 : D.belL S.length (row.map D.int) = true := belL_all fun e he => by
    obtain ⟨i, _, rfl⟩ := List.mem_map.mp he
    rfl
  have b3 : D.belL S.length items = true := belL_all fun d hd => by
    obtain ⟨w, xs, rfl, _, hx, _⟩ := hit d hd
    show (true && (D.belL S.length xs && true)) = true
    rw [belL_all (m := S.length) (ds := xs) fun e he => bel_pr (hx e he).pr]
    rfl
  show (true && (D.belL S.length (ws.map wD) && (D.belL S.length (row.map D.int) && (D.belL S.length items && true)))) = true
  rw [b1, b2, b3]; rfl

theorem o_ixL {xs : List D} {i : Int} {S : Sto} {P : D → Sto → Prop} {x : D} (h0 : 0 ≤ i) (h : xs[i.toNat]? = some x) (q : P x S) : Ok (oIx (.lst xs) (.int i) S) P := atI_at h0 h q
theorem thing_no {d : D} {k b : Nat} (h : DatE k b d) (hk : k ≤ 50) (hb : b ≤ 1000) (hn : ∀ x y, d ≠ .tup [x, y]) : Thing d := ⟨(h.up hk).mono hb, fun x y e => absurd e (hn x y)⟩
theorem thing_two {x y : D} {k a b : Nat} (hx : DatE k a x) (hy : DatE k b y) (hk : k + 1 ≤ 50) (hb : a + 1 + (b + 1 + 0) ≤ 1000) (hi : Item y) : Thing (.tup [x, y]) := by
  refine ⟨((DatE.tup (DatEL.cons hx (DatEL.cons hy DatEL.nil))).up hk).mono hb, fun u v e => ?_⟩
  cases e; exact hi
theorem dat_pw {k : Nat} {w : Str} (h : w ∈ (["numbers", "fails", "shares", "none"] : List Str)) : Dat k 7 (.str w) := by
  simp only [List.mem_cons, List.not_mem_nil, or_false] at h
  rcases h with e | e | e | e <;> rw [e] <;> exact (Dat.str (by decide +kernel)).mono (by decide +kernel)
theorem item_str {w : Str} {k : Nat} {b : Nat} (h : DatE k b (.str w)) : Item (.str w) := item_no h.pl (fun xs e => nomatch e) (fun xs e => nomatch e)
theorem dat_s {k : Nat} (w : Str) (h : PyData.strOk w = true := by decide +kernel) (hl : w.length ≤ 7 := by decide +kernel) : DatE k 7 (.str w) := (Dat.str h).e.mono hl
theorem MadeI.thing {d : D} (h : MadeI d) : Thing d := by
  obtain ⟨w, xs, rfl, hw, hx, hl⟩ := h
  have i := item_lst hx (by omega)
  exact thing_two (dat_pw hw).e i.2.e (by decide) (by decide) i.1
theorem bent_ok {p : Nat} {t : D} {S : Sto} {P : D → Sto → Prop} (hp : IsPool S p) (h : MadeI t) (k : ∀ r S', Thing r → SP p S S' → P r S') : Ok (Lw.f__law_bent [.cell p, t] S) P := by
  obtain ⟨w, xs, rfl, hw, hx, hl⟩ := h
  have dw : ∀ {k}, DatE k 7 (.str w) := (dat_pw hw).e
  unfold Lw.f__law_bent
  refine k_fn rfl ?_
  unfold Lw.d__law_bent
  walk_at "go"
  rename_i at0 S1 h10 h11 s1 p1 r2 S2 h20 h21 s2 p2
  have h11' : at0 ≤ xs.length := by omega
  refine o_pick El (by assumption) (by simpa using h21) (all_cons ⟨Dat.non.mono (by decide), rfl⟩ (all_cons ⟨Dat.bl.mono (by decide), rfl⟩ (all_cons (el_fr (by unfold Sz; decide) (by unfold Sz; decide)) (all_cons (el_fr (by unfold Sz; decide) (by unfold Sz; decide)) (all_cons (el_int (by unfold Sz; decide)) (all_cons (el_int (by unfold Sz; decide)) (all_cons (el_fr (by unfold Sz; decide) (by unfold Sz; decide)) (all_cons (el_fr (by unfold Sz; decide) (by unfold Sz; decide)) (all_cons ⟨(Dat.str (by decide +kernel)).mono (by decide +kernel), rfl⟩ (all_cons (el_fr (by unfold Sz; decide) (by unfold Sz; decide)) (all_cons (el_fr (by unfold Sz; decide) (by unfold Sz; decide)) all_nil))))))))))) ?_
  intro odd hodd
  have hap : ∀ {l : List D}, (∀ x ∈ l, El x) → l.length ≤ 30 → Item (.lst l) ∧ Dat 41 550 (.lst l) := fun hx hl => item_lst hx (by omega)
  have two : ∀ {y : D} {x : D}, DatE 41 100 x → (Item y ∧ Dat 41 550 y) → Thing (.tup [x, y]) := fun hx hy => thing_two hx hy.2.e (by decide) (by decide) hy.1
  have I0 := hap hx (by omega)
  have I1 := hap (l := xs.take at0.toNat) (fun x h => hx x (List.mem_of_mem_take h)) (by rw [List.length_take]; omega)
  have I2 := hap (l := xs ++ [odd]) (all_app hx (all_cons hodd all_nil)) (by simp; omega)
  have I3 := hap (l := [odd] ++ xs) (all_app (all_cons hodd all_nil) hx) (by simp; omega)
  have I4 := hap (l := (xs.take at0.toNat ++ [odd]) ++ xs.drop (at0 + 1).toNat) (all_app (all_app (fun x h => hx x (List.mem_of_mem_take h)) (all_cons hodd all_nil)) (fun x h => hx x (List.mem_of_mem_drop h))) (by simp; omega)
  have dt : Dat 41 110 (.tup xs) := Dat.tup (DatL.all (n := 10) (b := 10) (fun x h => (hx x h).dat) hl)
  walk_at "go"
  rw [cut_toZ h10]
  walk_at "go"
  rw [cut_fromZ (show 0 ≤ at0 + 1 by omega)]
  walk_at "go"
  with_reducible refine o_repL ?g0 ?g1 ?g2 ?g3 ?_
  case g0 => exact .inr trivial
  case g1 => decide
  case g2 => decide
  case g3 => rw [sizeLine_eq, List.length_singleton]; decide
  rw [List.flatten_replicate_singleton]
  walk_at "go"
  rename_i r3 S3 h30 h31 s3 p3
  have W : ∀ {x y : D}, DatE 41 7 x → (Item y ∧ Dat 41 550 y) → Thing (.tup [x, y]) := fun hx hy => two (hx.mono (by decide)) hy
  have iw : Item (.str w) := item_str (k := 41) dw
  have no : ∀ {d : D} {b : Nat}, DatE 45 b d → b ≤ 1000 → (∀ x y, d ≠ .tup [x, y]) → Thing d := fun h hb hn => thing_no h (by decide) hb hn
  have d0 : DatE 42 600 (.lst [.str w, .lst xs]) := (DatE.lst (DatEL.cons dw (DatEL.cons I0.2.e DatEL.nil))).mono (by decide)
  have d1 : DatE 42 600 (.tup [.str w, .lst xs, .int 0]) := (DatE.tup (DatEL.cons dw (DatEL.cons I0.2.e (DatEL.cons (Dat.int (m := 1) (by unfold Sz; decide) (by decide) (by decide)).e DatEL.nil)))).mono (by decide)
  have d2 : DatE 42 100 (.tup [.str w]) := (DatE.tup (DatEL.cons dw DatEL.nil)).mono (by decide)
  have d3 : DatE 41 100 (.lst [.str w]) := (DatE.lst (k := 40) (DatEL.cons dw DatEL.nil)).mono (by decide)
  refine o_pick Thing (by assumption) (by simpa using h31) (all_app (all_app (all_app ?A ?B) ?C) (all_repeat (W dw I4))) ?_
  case A =>
    refine all_cons (W (dat_s "numbers") I0) (all_cons (W (dat_s "shares") I0) (all_cons (W (dat_s "fails") I0) (all_cons (W (dat_s "none") I0) (all_cons (W dw I1) (all_cons (no (d0.up (by decide)) (by decide) (fun x y e => by simp at e)) all_nil)))))
  case B =>
    refine all_cons (W dw I2) (all_cons (no (d2.up (by decide)) (by decide) (fun x y e => by simp at e)) (all_cons (W dw ⟨item_no (pr_up (by decide) dt.e.pl) (fun xs e => nomatch e) (fun xs e => nomatch e), dt.mono (by decide)⟩) (all_cons (W dw ⟨item_no rfl (fun xs e => nomatch e) (fun xs e => nomatch e), Dat.non.mono (by decide)⟩) (all_cons (no (d1.up (by decide)) (by decide) (fun x y e => by simp at e)) (all_cons (no (b := 0) Dat.non.e (by decide) (fun x y e => by simp at e)) (all_cons (no (b := 0) (DatE.dE (k := 44)) (by decide) (fun x y e => by simp at e)) (all_cons (no dw (by decide) (fun x y e => by simp at e)) all_nil)))))))
  case C =>
    refine all_cons (W (dat_s "None") I0) (all_cons (W (Dat.non.e.mono (by decide)) I0) (all_cons (two d3 I0) (all_cons (W (dat_s "") I0) (all_cons ?_ (all_cons (W dw I3) all_nil)))))
    exact thing_two I0.2.e (dw (k := 41)) (by decide) (by decide) iw
  intro v hv
  walk_at "go"
  exact k v _ hv (by walk_at "sp")

theorem dat_row2 {k : Nat} {row : List Int} {s : Nat} (h : ∀ i ∈ row, Sz s i) (h0 : 0 < s) (hs : s ≤ 1920) (hl : row.length ≤ 10) : Dat (k + 1) 10 (rD row) := dat_row (m := 10) h h0 hs hl
theorem dat_ws5 {n : Nat} {ws : List Wi} (c : Cs n ws) (hl : ws.length ≤ 5) : Dat 59 100 (.lst (ws.map wD)) := by
  refine (Dat.lst (k := 58) (DatL.all (b := 18) (n := 5) ?_ (by simpa using hl))).mono (by decide)
  intro x hx
  obtain ⟨w, hw, rfl⟩ := List.mem_map.mp hx
  have h := c.ok w hw
  exact (Dat.tup (k := 57) (DatL.cons (dat_word h.word) (DatL.cons (dat_row2 (k := 56) h.sz (by decide) (by decide) (by have := c.n8; have := h.len; omega)) DatL.nil))).mono (by decide)
set_option maxHeartbeats 1000000 in
theorem law_true {ns : List Int} {S : Sto} (hl : ns.length ≤ 63) : Ok (Lw.f_law [.ro (ns.map .int)] S) fun d _ => d = .bl true := by
  unfold Lw.f_law
  refine k_fn rfl ?_
  unfold Lw.d_law
  walk_at "dl"
  refine i_rng1 (by omega) (by omega) ?_
  refine k_forL (fun i ρ S' => ∃ x1 x2 x3 x4 x5 x6 x7 x8 x9 x10 x11 x12, ρ = [some (.ro (ns.map .int)), x1, x2, x3, x4, x5, x6, x7, x8, x9, x10, x11, x12]) ⟨none, none, none, none, none, none, none, none, none, none, none, none, rfl⟩ ?_ ?_
  · rintro i ρ S0 d hd ⟨x1, x2, x3, x4, x5, x6, x7, x8, x9, x10, x11, x12, rfl⟩
    obtain ⟨j, hj0, hj1, rfl⟩ := rng_get hd
    clear hd
    refine ⟨_, rfl, ?_⟩
    walk_at "dl"
    refine pool_ok hj0 (by omega) fun a b ha hb => ?_
    have hp := pool_made (S := S0) ha hb
    generalize hS1 : S0 ++ [some (CO.lst [D.int a, D.int b])] = S1 at hp ⊢
    walk_at "dl"
    refine made_ok hp fun n ws row items S2 hn3 hC hwl hrl hrow hit hi2 hi5 s2 => ?_
    have p2 := s2.pool
    have hne : row ≠ [] := fun z => by rw [z] at hrl; simp at hrl
    walk_at "dl"
    with_reducible refine i_rng1 ?h1 ?h2 ?_
    case h1 => decide
    case h2 => decide
    refine lc_any (Q := Thing) (R := SP S0.length S2) (by simp; rw [sizeLine_eq]; decide) (.refl p2) ?_ ?_
    · intro d _ S3 s3
      have p3 := s3.pool
      refine ⟨_, rfl, ?_⟩
      walk_at "dl"
      generalize hz : ((items.length : Nat) : Int) = z
      walk_at "go"
      rename_i r S4 h40 h41 s4 p4
      refine o_pick MadeI h40 (by omega) hit ?_
      intro t ht
      walk_at "dl"
      exact bent_ok p4 ht fun r S5 hr s5 => ⟨hr, s3.trans (s4.trans s5)⟩
    intro bents S3 hly hbents s3
    have hbl : bents.length = 8 := by simpa using hly
    clear hly
    walk_at "go"
    have hall : ∀ d ∈ items ++ bents, Thing d := all_app (fun d h => (hit d h).thing) hbents
    generalize items ++ bents = things at hall ⊢
    generalize hzn : ((n : Nat) : Int) = z
    refine k_forL (fun i ρ S' => ∃ x4 x9 x10 x11 x12, ρ = [some (.ro (ns.map .int)), some (.int j), some (.cell S0.length), some (.lst things), x4, some (.int z), some (.lst (ws.map wD)), some (rD row), some (.lst items), x9, x10, x11, x12]) ⟨_, _, _, _, _, rfl⟩ ?_ ?_
    · rintro i ρ S4 t hd ⟨x4, x9, x10, x11, x12, rfl⟩
      have ht := hall t (List.mem_of_getElem? hd)
      have hB : DatE 60 2000 (.lst [.lst (ws.map wD), rD row, t]) := (DatE.lst (k := 59) (DatEL.cons (dat_ws5 hC hwl).e (DatEL.cons (dat_row2 (k := 58) hrow (by decide) (by decide) (by omega)).e (DatEL.cons (ht.dat.up (by decide)) DatEL.nil)))).mono (by decide)
      refine ⟨_, rfl, ?_⟩
      walk_at "dl"
      refine o_reprE hB (by decide) ?_
      walk_at "dl"
      refine law_granted_ok hC hzn.symm ht ?_
      walk_at "dl"
      refine lets_granted_ok hC hzn.symm ht ?_
      walk_at "dl"
      refine o_reprD Dat.bl (by decide) ?_
      walk_at "dl"
      refine o_reprD Dat.bl (by decide) ?_
      walk_at "dl"
      with_reducible refine k_ifF ?hc ?_
      case hc => simp
      walk_at "dl"
      show Ok (Lw.f_lets_granted [.int z, .lst (ws.map wD), t] S4) _
      refine lets_granted_ok hC hzn.symm ht ?_
      walk_at "dl"
      refine o_reprD Dat.bl (by decide) ?_
      walk_at "dl"
      refine o_reprD Dat.bl (by decide) ?_
      walk_at "dl"
      with_reducible refine k_ifF ?hc ?_
      case hc => simp
      walk_at "dl"
      have er : rD row = .lst (.int (row.headD 0) :: (row.drop 1).map .int) := row_cons (n := n + 1) (by omega) hrl
      have hix : ∀ {S : Sto} {P : D → Sto → Prop}, P (.int (row.headD 0)) S → Ok (oIx (rD row) (.int 0) S) P := fun {S P} q => by rw [er]; exact o_ix0 q
      have hcut : ∀ {S : Sto} {P : D → Sto → Prop}, P (.lst ((row.drop 1).map .int)) S → Ok (oSl (rD row) (some 1) none S) P := fun {S P} q => o_sl (xs := row.map .int) rfl (by rw [cut_1, ← List.map_drop]; exact q)
      refine hix ?_
      walk_at "dl"
      rw [cut_1, ← List.map_drop]
      with_reducible refine o_addL ?g0 ?_
      case g0 => rw [sizeLine_eq]; simp; omega
      walk_at "dl"
      have ern : D.lst ([D.int (row.headD 0 - 1)] ++ (row.drop 1).map .int) = rD ((row.headD 0 - 1) :: row.drop 1) := rfl
      rw [ern]
      have hrow2 : ∀ i ∈ (row.headD 0 - 1) :: row.drop 1, Sz 520 i := by
        intro i hi
        rcases List.mem_cons.mp hi with rfl | hi
        · rw [Int.sub_eq_add_neg]
          exact ((head_S hrow).add (show Sz 1 (-1) by unfold Sz; decide)).mono (by decide)
        · exact (hrow i (List.mem_of_mem_drop hi)).mono (by decide)
      have hrl2 : ((row.headD 0 - 1) :: row.drop 1).length = n + 1 := by simp; omega
      refine i_list ?_
      have hown : ∀ d ∈ [rD row, rD ((row.headD 0 - 1) :: row.drop 1)], ∃ r : List Int, d = rD r ∧ r.length = n + 1 ∧ ∀ i ∈ r, Sz 520 i := all_cons ⟨row, rfl, hrl, fun i hi => (hrow i hi).mono (by decide)⟩ (all_cons ⟨_, rfl, hrl2, hrow2⟩ all_nil)
      generalize hK : (D.lst [.lst (ws.map wD), rD row, t]).shown = kept
      generalize [rD row, rD ((row.headD 0 - 1) :: row.drop 1)] = owns at hown ⊢
      refine k_forL (fun i ρ S' => ∃ x10 x11, ρ = [some (.ro (ns.map .int)), some (.int j), some (.cell S0.length), some (.lst things), some t, some (.int z), some (.lst (ws.map wD)), some (rD row), some (.lst items), some (.str kept), x10, x11, x12]) ⟨_, _, rfl⟩ ?_ ?_
      · rintro i ρ S5 o hd ⟨x10, x11, rfl⟩
        obtain ⟨r, rfl, hr, hrs⟩ := hown o (List.mem_of_getElem? hd)
        refine ⟨_, rfl, ?_⟩
        walk_at "dl"
        refine law_follows_ok hC hzn.symm hr hrs ht ?_
        walk_at "dl"
        refine lets_follows_ok hC hzn.symm hr hrs ht ?_
        walk_at "dl"
        refine o_reprD Dat.bl (by decide) ?_
        walk_at "dl"
        refine o_reprD Dat.bl (by decide) ?_
        walk_at "dl"
        with_reducible refine k_ifF ?hc ?_
        case hc => simp
        walk_at "dl"
        show Ok (Lw.f_lets_follows [.int z, .lst (ws.map wD), rD r, t] S5) _
        refine lets_follows_ok hC hzn.symm hr hrs ht ?_
        walk_at "dl"
        refine o_reprD Dat.bl (by decide) ?_
        walk_at "dl"
        refine o_reprD Dat.bl (by decide) ?_
        walk_at "dl"
        with_reducible refine k_ifF ?hc ?_
        case hc => simp
        walk_at "dl"
        exact ⟨_, _, rfl⟩
      rintro ρ S5 ⟨x10, x11, rfl⟩
      walk_at "dl"
      refine o_reprE hB (by decide) ?_
      walk_at "dl"
      with_reducible refine k_ifF ?hc ?_
      case hc => simp [hK]
      walk_at "dl"
      exact ⟨_, _, _, _, _, rfl⟩
    rintro ρ S4 ⟨x4, x9, x10, x11, x12, rfl⟩
    exact ⟨_, _, _, _, _, _, _, _, _, _, _, _, rfl⟩
  · rintro ρ S' ⟨x1, x2, x3, x4, x5, x6, x7, x8, x9, x10, x11, x12, rfl⟩
    walk_at "dl"
theorem f_law_true (ns : List Int) (hl : ns.length ≤ 63) : ∃ S', Lw.f_law [.ro (ns.map D.int)] [] = .ok (.bl true) S' := by
  obtain ⟨d, S', e, rfl⟩ := (law_true (S := []) hl).get
  exact ⟨S', e⟩

end
end Lp

set_option Elab.async false
set_option linter.all false
set_option maxRecDepth 100000
/-! printed by gen.py: each def of the text does so; the end -/
namespace Lw
open PySem L2 DL
noncomputable section
def top (i : Nat) : Stmt := PySem.Challenge.pw_downweigh_k18_papers_of_wishes_looked_at.main.body.getD i (.Pass ⟨0, 0, 0, 0⟩)
abbrev s_is_whole : Stmt := top 5
abbrev s_look_at_many : Stmt := top 16
abbrev s_shared_by : Stmt := top 6
abbrev s_lowest : Stmt := top 8
abbrev s_plus : Stmt := top 9
abbrev s_times : Stmt := top 10
abbrev s_worth : Stmt := top 17
abbrev s_is_granted : Stmt := top 18
abbrev s_grants : Stmt := top 19
abbrev s_is_below : Stmt := top 11
abbrev s_sums : Stmt := top 21
abbrev s_is_fraction : Stmt := top 7
abbrev s_are_shares : Stmt := top 22
abbrev s_carries : Stmt := top 23
abbrev s_never_line : Stmt := top 25
abbrev s_are_numbers : Stmt := top 26
abbrev s_is_told : Stmt := top 27
abbrev s_lets_granted : Stmt := top 28
abbrev s_lets_follows : Stmt := top 29
abbrev s__law_pool : Stmt := top 31
abbrev s__law_take : Stmt := top 32
abbrev s__law_low : Stmt := top 33
abbrev s__law_plus : Stmt := top 34
abbrev s__law_times : Stmt := top 35
abbrev s__law_total : Stmt := top 41
abbrev s__law_grants : Stmt := top 42
abbrev s__law_is_whole : Stmt := top 37
abbrev s__law_is_fraction : Stmt := top 38
abbrev s__law_carries : Stmt := top 43
abbrev s__law_are_numbers : Stmt := top 44
abbrev s__law_is_granted : Stmt := top 45
abbrev s__law_is_follows : Stmt := top 46
abbrev s__law_number : Stmt := top 36
abbrev s__law_wish : Stmt := top 39
abbrev s__law_some : Stmt := top 40
abbrev s__law_moved : Stmt := top 47
abbrev s__law_made_case : Stmt := top 48
abbrev s__law_bent : Stmt := top 49
abbrev s_law : Stmt := top 50
/-- what the top has written -/
structure Txt (K : PySem.W.Frag) (mg : Str → Option Value) : Prop where
  d_is_whole : DefAt K mg "is_whole" s_is_whole ["thing"]
  d_look_at_many : DefAt K mg "look_at_many" s_look_at_many ["many"]
  d_shared_by : DefAt K mg "shared_by" s_shared_by ["one", "other"]
  d_lowest : DefAt K mg "lowest" s_lowest ["top", "bottom"]
  d_plus : DefAt K mg "plus" s_plus ["one", "other"]
  d_times : DefAt K mg "times" s_times ["one", "other"]
  d_worth : DefAt K mg "worth" s_worth ["line", "numbers"]
  d_is_granted : DefAt K mg "is_granted" s_is_granted ["wish", "numbers"]
  d_grants : DefAt K mg "grants" s_grants ["wishes", "numbers"]
  d_is_below : DefAt K mg "is_below" s_is_below ["one", "other"]
  d_sums : DefAt K mg "sums" s_sums ["wishes", "shares", "size"]
  d_is_fraction : DefAt K mg "is_fraction" s_is_fraction ["thing"]
  d_are_shares : DefAt K mg "are_shares" s_are_shares ["wishes", "thing"]
  d_carries : DefAt K mg "carries" s_carries ["wishes", "line", "thing"]
  d_never_line : DefAt K mg "never_line" s_never_line ["many"]
  d_are_numbers : DefAt K mg "are_numbers" s_are_numbers ["many", "thing"]
  d_is_told : DefAt K mg "is_told" s_is_told ["thing"]
  d_lets_granted : DefAt K mg "lets_granted" s_lets_granted ["many", "wishes", "thing"]
  d_lets_follows : DefAt K mg "lets_follows" s_lets_follows ["many", "wishes", "line", "thing"]
  d__law_pool : DefAt K mg "_law_pool" s__law_pool ["_law_script", "_law_k"]
  d__law_take : DefAt K mg "_law_take" s__law_take ["_law_pool_here", "_law_wide"]
  d__law_low : DefAt K mg "_law_low" s__law_low ["_law_upper", "_law_lower"]
  d__law_plus : DefAt K mg "_law_plus" s__law_plus ["_law_here", "_law_there"]
  d__law_times : DefAt K mg "_law_times" s__law_times ["_law_here", "_law_there"]
  d__law_total : DefAt K mg "_law_total" s__law_total ["_law_row", "_law_some_here"]
  d__law_grants : DefAt K mg "_law_grants" s__law_grants ["_law_asked", "_law_some_here"]
  d__law_is_whole : DefAt K mg "_law_is_whole" s__law_is_whole ["_law_item"]
  d__law_is_fraction : DefAt K mg "_law_is_fraction" s__law_is_fraction ["_law_item"]
  d__law_carries : DefAt K mg "_law_carries" s__law_carries ["_law_asked", "_law_row", "_law_item"]
  d__law_are_numbers : DefAt K mg "_law_are_numbers" s__law_are_numbers ["_law_size", "_law_item"]
  d__law_is_granted : DefAt K mg "_law_is_granted" s__law_is_granted ["_law_size", "_law_asked", "_law_item"]
  d__law_is_follows : DefAt K mg "_law_is_follows" s__law_is_follows ["_law_size", "_law_asked", "_law_row", "_law_item"]
  d__law_number : DefAt K mg "_law_number" s__law_number ["_law_pool_here"]
  d__law_wish : DefAt K mg "_law_wish" s__law_wish ["_law_pool_here", "_law_size"]
  d__law_some : DefAt K mg "_law_some" s__law_some ["_law_pool_here", "_law_size"]
  d__law_moved : DefAt K mg "_law_moved" s__law_moved ["_law_pool_here", "_law_wish_here", "_law_some_here"]
  d__law_made_case : DefAt K mg "_law_made_case" s__law_made_case ["_law_pool_here"]
  d__law_bent : DefAt K mg "_law_bent" s__law_bent ["_law_pool_here", "_law_item"]
  d_law : DefAt K mg "law" s_law ["_law_script"]
  z_abs : mg "abs" = none
  z_all : mg "all" = none
  z_any : mg "any" = none
  z_bool : mg "bool" = none
  z_int : mg "int" = none
  z_isinstance : mg "isinstance" = none
  z_len : mg "len" = none
  z_list : mg "list" = none
  z_max : mg "max" = none
  z_min : mg "min" = none
  z_range : mg "range" = none
  z_repr : mg "repr" = none
  z_str : mg "str" = none
  z_sum : mg "sum" = none
  z_tuple : mg "tuple" = none
  z_zip : mg "zip" = none
  k_JUST : ∃ t, mg "JUST" = some (.str "just" t)
  k_LEAST : ∃ t, mg "LEAST" = some (.str "least" t)
  k_MOST_NUMBERS : ∃ t, mg "MOST_NUMBERS" = some (.int 8 t)
  k_NOUGHT : ∃ u, mg "NOUGHT" = some u ∧ ∃ v, RelV v u ∧ ∀ as F, Rep K as F v c_NOUGHT
theorem Txt.c_JUST {X : Cx} {W : WX} {pos : Pos} (T : Txt X.K X.mg) (hg : Gl X "JUST") : DE X W (.Name "JUST" pos) (eC Lw.c_JUST) := by
  obtain ⟨t, h⟩ := T.k_JUST
  exact de_glob hg h (show RelV (.str _) _ from ⟨t, rfl⟩) fun _ _ => .str _
theorem Txt.c_LEAST {X : Cx} {W : WX} {pos : Pos} (T : Txt X.K X.mg) (hg : Gl X "LEAST") : DE X W (.Name "LEAST" pos) (eC Lw.c_LEAST) := by
  obtain ⟨t, h⟩ := T.k_LEAST
  exact de_glob hg h (show RelV (.str _) _ from ⟨t, rfl⟩) fun _ _ => .str _
theorem Txt.c_MOST_NUMBERS {X : Cx} {W : WX} {pos : Pos} (T : Txt X.K X.mg) (hg : Gl X "MOST_NUMBERS") : DE X W (.Name "MOST_NUMBERS" pos) (eC Lw.c_MOST_NUMBERS) := by
  obtain ⟨t, h⟩ := T.k_MOST_NUMBERS
  exact de_glob hg h (show RelV (.int _) _ from ⟨t, rfl⟩) fun _ _ => .int _
theorem Txt.c_NOUGHT {X : Cx} {W : WX} {pos : Pos} (T : Txt X.K X.mg) (hg : Gl X "NOUGHT") : DE X W (.Name "NOUGHT" pos) (eC Lw.c_NOUGHT) := by
  obtain ⟨u, h, v, r, rd⟩ := T.k_NOUGHT
  exact de_glob hg h r rd
section
variable {P : Program} {w : World} {K : PySem.W.Frag} {mg : Str → Option Value} {base : Heap}
theorem sc_is_whole : FnScope ["thing"] ["thing"] (defScope s_is_whole) := ⟨rfl, rfl, rfl, by decide +kernel, rfl, by decide +kernel, by decide +kernel⟩
set_option maxHeartbeats 1000000 in
theorem ok_is_whole (T : Txt K mg) : Has P w K mg base 1 "is_whole" s_is_whole ["thing"] f_is_whole :=
  has_of (N := ["thing"]) (m := d_is_whole) T.d_is_whole sc_is_whole fun f cdv A outer s H E hr hg0 =>
    have hu1 : (A.deeper (PyProof.Rows.envOfC "is_whole" (defScope s_is_whole) s.heap.objs.size f cdv)).units + 64 < cLine := hr.units
    have hu2 : (A.deeper (PyProof.Rows.envOfC "is_whole" (defScope s_is_whole) s.heap.objs.size f cdv)).units + 66 < cLine := by have := hr.un; omega
    (dss_one (ds_ret (de_and (de_callB call_isi act_isi (by rfl) T.z_isinstance (by decide +kernel) (da_cons (de_var 0) (da_cons (de_ty (by rfl) T.z_int (by decide +kernel)) da_nil))) (de_one (de_not (de_callB call_isi act_isi (by rfl) T.z_isinstance (by decide +kernel) (da_cons (de_var 0) (da_cons (de_ty (by rfl) T.z_bool (by decide +kernel)) da_nil))))))))
theorem sc_look_at_many : FnScope ["many"] ["many"] (defScope s_look_at_many) := ⟨rfl, rfl, rfl, by decide +kernel, rfl, by decide +kernel, by decide +kernel⟩
set_option maxHeartbeats 1000000 in
theorem ok_look_at_many (T : Txt K mg) (h_is_whole : Has P w K mg base 1 "is_whole" s_is_whole ["thing"] f_is_whole) : Has P w K mg base 2 "look_at_many" s_look_at_many ["many"] f_look_at_many :=
  has_of (N := ["many"]) (m := d_look_at_many) T.d_look_at_many sc_look_at_many fun f cdv A outer s H E hr hg0 =>
    have hu1 : (A.deeper (PyProof.Rows.envOfC "look_at_many" (defScope s_look_at_many) s.heap.objs.size f cdv)).units + 64 < cLine := hr.units
    have hu2 : (A.deeper (PyProof.Rows.envOfC "look_at_many" (defScope s_look_at_many) s.heap.objs.size f cdv)).units + 66 < cLine := by have := hr.un; omega
    (dss_one (ds_if (PW.pt (dw_or (dt_not (dt_val (de_fn h_is_whole hr (by decide) hg0 (takes_of rfl rfl rfl rfl) (by rfl) (da_cons (de_var 0) da_nil)))) (dw_or1 (dt_not (dt_chain op_le op_le act_le act_le de_int (de_var 0) (T.c_MOST_NUMBERS (by rfl))))))) (dss_one ds_never) dss_nil))
theorem sc_shared_by : FnScope ["one", "other"] ["one", "other"] (defScope s_shared_by) := ⟨rfl, rfl, rfl, by decide +kernel, rfl, by decide +kernel, by decide +kernel⟩
set_option maxHeartbeats 1000000 in
theorem ok_shared_by (T : Txt K mg) : Has P w K mg base 1 "shared_by" s_shared_by ["one", "other"] f_shared_by :=
  has_of (N := ["one", "other"]) (m := d_shared_by) T.d_shared_by sc_shared_by fun f cdv A outer s H E hr hg0 =>
    have hu1 : (A.deeper (PyProof.Rows.envOfC "shared_by" (defScope s_shared_by) s.heap.objs.size f cdv)).units + 64 < cLine := hr.units
    have hu2 : (A.deeper (PyProof.Rows.envOfC "shared_by" (defScope s_shared_by) s.heap.objs.size f cdv)).units + 66 < cLine := by have := hr.un; omega
    (dss_cons (ds_set 0 sc_shared_by.nd (de_callB call_abs act_abs (by rfl) T.z_abs (by decide +kernel) (da_cons (de_var 0) da_nil))) (dss_cons (ds_set 1 sc_shared_by.nd (de_callB call_abs act_abs (by rfl) T.z_abs (by decide +kernel) (da_cons (de_var 1) da_nil))) (dss_cons (ds_while (passes_of rfl) (dt_cmp op_gt act_gt (de_var 1) de_int (nomark _)) (dss_one (ds_par 0 1 rfl sc_shared_by.nd (da_cons (de_var 1) (da_cons (de_bin op_modN act_mod (de_var 0) (de_var 1)) da_nil))))) (dss_one (ds_ret (de_var 0))))))
theorem sc_lowest : FnScope ["top", "bottom", "by"] ["top", "bottom"] (defScope s_lowest) := ⟨rfl, rfl, rfl, by decide +kernel, rfl, by decide +kernel, by decide +kernel⟩
set_option maxHeartbeats 1000000 in
theorem ok_lowest (T : Txt K mg) (h_shared_by : Has P w K mg base 1 "shared_by" s_shared_by ["one", "other"] f_shared_by) : Has P w K mg base 2 "lowest" s_lowest ["top", "bottom"] f_lowest :=
  has_of (N := ["top", "bottom", "by"]) (m := d_lowest) T.d_lowest sc_lowest fun f cdv A outer s H E hr hg0 =>
    have hu1 : (A.deeper (PyProof.Rows.envOfC "lowest" (defScope s_lowest) s.heap.objs.size f cdv)).units + 64 < cLine := hr.units
    have hu2 : (A.deeper (PyProof.Rows.envOfC "lowest" (defScope s_lowest) s.heap.objs.size f cdv)).units + 66 < cLine := by have := hr.un; omega
    (dss_cons (ds_set 2 sc_lowest.nd (de_fn h_shared_by hr (by decide) hg0 (takes_of rfl rfl rfl rfl) (by rfl) (da_cons (de_var 0) (da_cons (de_var 1) da_nil)))) (dss_cons (ds_if (dt_cmp op_lt act_lt (de_var 1) de_int (nomark _)) (dss_one (ds_set 2 sc_lowest.nd (de_un un_neg act_neg (de_var 2)))) dss_nil) (dss_one (ds_ret (de_tup (da_cons (de_bin opr_fdiv act_fdiv (de_var 0) (de_var 2)) (da_cons (de_bin opr_fdiv act_fdiv (de_var 1) (de_var 2)) da_nil)))))))
theorem sc_plus : FnScope ["one", "other"] ["one", "other"] (defScope s_plus) := ⟨rfl, rfl, rfl, by decide +kernel, rfl, by decide +kernel, by decide +kernel⟩
set_option maxHeartbeats 1000000 in
theorem ok_plus (T : Txt K mg) (h_lowest : Has P w K mg base 2 "lowest" s_lowest ["top", "bottom"] f_lowest) : Has P w K mg base 3 "plus" s_plus ["one", "other"] f_plus :=
  has_of (N := ["one", "other"]) (m := d_plus) T.d_plus sc_plus fun f cdv A outer s H E hr hg0 =>
    have hu1 : (A.deeper (PyProof.Rows.envOfC "plus" (defScope s_plus) s.heap.objs.size f cdv)).units + 64 < cLine := hr.units
    have hu2 : (A.deeper (PyProof.Rows.envOfC "plus" (defScope s_plus) s.heap.objs.size f cdv)).units + 66 < cLine := by have := hr.un; omega
    (dss_cons (ds_if (dt_chain (opr_eq hu1) (opr_eq hu1) act_eq act_eq (de_ix ix_seq act_ix (de_var 0) de_int) (de_ix ix_seq act_ix (de_var 1) de_int) de_int) (dss_one (ds_ret (de_tup (da_cons (de_bin opr_add act_add (de_ix ix_seq act_ix (de_var 0) de_int) (de_ix ix_seq act_ix (de_var 1) de_int)) (da_cons de_int da_nil))))) dss_nil) (dss_one (ds_ret (de_fn h_lowest hr (by decide) hg0 (takes_of rfl rfl rfl rfl) (by rfl) (da_cons (de_bin opr_add act_add (de_bin opr_mul act_mul (de_ix ix_seq act_ix (de_var 0) de_int) (de_ix ix_seq act_ix (de_var 1) de_int)) (de_bin opr_mul act_mul (de_ix ix_seq act_ix (de_var 1) de_int) (de_ix ix_seq act_ix (de_var 0) de_int))) (da_cons (de_bin opr_mul act_mul (de_ix ix_seq act_ix (de_var 0) de_int) (de_ix ix_seq act_ix (de_var 1) de_int)) da_nil))))))
theorem sc_times : FnScope ["one", "other"] ["one", "other"] (defScope s_times) := ⟨rfl, rfl, rfl, by decide +kernel, rfl, by decide +kernel, by decide +kernel⟩
set_option maxHeartbeats 1000000 in
theorem ok_times (T : Txt K mg) (h_lowest : Has P w K mg base 2 "lowest" s_lowest ["top", "bottom"] f_lowest) : Has P w K mg base 3 "times" s_times ["one", "other"] f_times :=
  has_of (N := ["one", "other"]) (m := d_times) T.d_times sc_times fun f cdv A outer s H E hr hg0 =>
    have hu1 : (A.deeper (PyProof.Rows.envOfC "times" (defScope s_times) s.heap.objs.size f cdv)).units + 64 < cLine := hr.units
    have hu2 : (A.deeper (PyProof.Rows.envOfC "times" (defScope s_times) s.heap.objs.size f cdv)).units + 66 < cLine := by have := hr.un; omega
    (dss_one (ds_ret (de_fn h_lowest hr (by decide) hg0 (takes_of rfl rfl rfl rfl) (by rfl) (da_cons (de_bin opr_mul act_mul (de_ix ix_seq act_ix (de_var 0) de_int) (de_ix ix_seq act_ix (de_var 1) de_int)) (da_cons (de_bin opr_mul act_mul (de_ix ix_seq act_ix (de_var 0) de_int) (de_ix ix_seq act_ix (de_var 1) de_int)) da_nil)))))
theorem sc_worth : FnScope ["line", "numbers", "found", "factor", "number"] ["line", "numbers"] (defScope s_worth) := ⟨rfl, rfl, rfl, by decide +kernel, rfl, by decide +kernel, by decide +kernel⟩
set_option maxHeartbeats 1000000 in
theorem ok_worth (T : Txt K mg) (h_plus : Has P w K mg base 3 "plus" s_plus ["one", "other"] f_plus) (h_times : Has P w K mg base 3 "times" s_times ["one", "other"] f_times) : Has P w K mg base 4 "worth" s_worth ["line", "numbers"] f_worth :=
  has_of (N := ["line", "numbers", "found", "factor", "number"]) (m := d_worth) T.d_worth sc_worth fun f cdv A outer s H E hr hg0 =>
    have hu1 : (A.deeper (PyProof.Rows.envOfC "worth" (defScope s_worth) s.heap.objs.size f cdv)).units + 64 < cLine := hr.units
    have hu2 : (A.deeper (PyProof.Rows.envOfC "worth" (defScope s_worth) s.heap.objs.size f cdv)).units + 66 < cLine := by have := hr.un; omega
    (dss_cons (ds_set 2 sc_worth.nd (de_tup (da_cons (de_ix ix_seq act_ix (de_var 0) de_int) (da_cons de_int da_nil)))) (dss_cons (ds_for (passes_of rfl) rfl (di_zip (by rfl) T.z_zip (da_cons (de_slice slr_all act_sl (de_var 0) (do_some de_int) do_none) (da_cons (de_var 1) da_nil))) (dg_tup rfl (dgs_cons (dg_name 3 sc_worth.nd) (dgs_cons (dg_name 4 sc_worth.nd) dgs_nil))) (dss_one (ds_if (dt_cmp (opr_ne hu1) act_ne (de_var 3) de_int (nomark _)) (dss_one (ds_set 2 sc_worth.nd (de_fn h_plus hr (by decide) hg0 (takes_of rfl rfl rfl rfl) (by rfl) (da_cons (de_var 2) (da_cons (de_fn h_times hr (by decide) hg0 (takes_of rfl rfl rfl rfl) (by rfl) (da_cons (de_tup (da_cons (de_var 3) (da_cons de_int da_nil))) (da_cons (de_var 4) da_nil))) da_nil))))) dss_nil))) (dss_one (ds_ret (de_var 2)))))
theorem sc_is_granted : FnScope ["wish", "numbers", "found", "word", "line"] ["wish", "numbers"] (defScope s_is_granted) := ⟨rfl, rfl, rfl, by decide +kernel, rfl, by decide +kernel, by decide +kernel⟩
set_option maxHeartbeats 1000000 in
theorem ok_is_granted (T : Txt K mg) (h_worth : Has P w K mg base 4 "worth" s_worth ["line", "numbers"] f_worth) : Has P w K mg base 5 "is_granted" s_is_granted ["wish", "numbers"] f_is_granted :=
  has_of (N := ["wish", "numbers", "found", "word", "line"]) (m := d_is_granted) T.d_is_granted sc_is_granted fun f cdv A outer s H E hr hg0 =>
    have hu1 : (A.deeper (PyProof.Rows.envOfC "is_granted" (defScope s_is_granted) s.heap.objs.size f cdv)).units + 64 < cLine := hr.units
    have hu2 : (A.deeper (PyProof.Rows.envOfC "is_granted" (defScope s_is_granted) s.heap.objs.size f cdv)).units + 66 < cLine := by have := hr.un; omega
    (dss_cons (ds_asg (de_var 0) (dg_tup rfl (dgs_cons (dg_name 3 sc_is_granted.nd) (dgs_cons (dg_name 4 sc_is_granted.nd) dgs_nil)))) (dss_cons (ds_set 2 sc_is_granted.nd (de_fn h_worth hr (by decide) hg0 (takes_of rfl rfl rfl rfl) (by rfl) (da_cons (de_var 4) (da_cons (de_var 1) da_nil)))) (dss_cons (ds_if (dt_cmp (opr_eq hu1) act_eq (de_var 3) (T.c_JUST (by rfl)) (nomark _)) (dss_one (ds_ret (de_cmp (opr_eq hu1) act_eq (de_var 2) (T.c_NOUGHT (by rfl)) (nomark _)))) dss_nil) (dss_one (ds_ret (de_cmp op_ge act_ge (de_ix ix_seq act_ix (de_var 2) de_int) de_int (nomark _)))))))
theorem sc_grants : FnScope ["wishes", "numbers", "wish"] ["wishes", "numbers"] (defScope s_grants) := ⟨rfl, rfl, rfl, by decide +kernel, rfl, by decide +kernel, by decide +kernel⟩
set_option maxHeartbeats 1000000 in
theorem ok_grants (T : Txt K mg) (h_is_granted : Has P w K mg base 5 "is_granted" s_is_granted ["wish", "numbers"] f_is_granted) : Has P w K mg base 6 "grants" s_grants ["wishes", "numbers"] f_grants :=
  has_of (N := ["wishes", "numbers", "wish"]) (m := d_grants) T.d_grants sc_grants fun f cdv A outer s H E hr hg0 =>
    have hu1 : (A.deeper (PyProof.Rows.envOfC "grants" (defScope s_grants) s.heap.objs.size f cdv)).units + 64 < cLine := hr.units
    have hu2 : (A.deeper (PyProof.Rows.envOfC "grants" (defScope s_grants) s.heap.objs.size f cdv)).units + 66 < cLine := by have := hr.un; omega
    (dss_one (ds_ret (de_callB (cr_all rfl) act_all (by rfl) T.z_all (by decide +kernel) (da_cons (de_lc [("wish", 2)] rfl sc_grants.nd (di_list (de_var 0)) (blkOk_by (N := ["wishes", "numbers", "wish"]) (sc := defScope s_grants) (by decide +kernel)) (fun _ _ _ _ _ => (dg_name 2 sc_grants.nd)) (fun _ _ _ _ _ => dts_nil) (fun _ _ _ _ _ => (de_fn h_is_granted hr (by decide) hg0 takes_no (by rfl) (da_cons (de_var 2) (da_cons (de_var 1) da_nil))))) da_nil))))
theorem sc_is_below : FnScope ["one", "other"] ["one", "other"] (defScope s_is_below) := ⟨rfl, rfl, rfl, by decide +kernel, rfl, by decide +kernel, by decide +kernel⟩
set_option maxHeartbeats 1000000 in
theorem ok_is_below (T : Txt K mg) : Has P w K mg base 1 "is_below" s_is_below ["one", "other"] f_is_below :=
  has_of (N := ["one", "other"]) (m := d_is_below) T.d_is_below sc_is_below fun f cdv A outer s H E hr hg0 =>
    have hu1 : (A.deeper (PyProof.Rows.envOfC "is_below" (defScope s_is_below) s.heap.objs.size f cdv)).units + 64 < cLine := hr.units
    have hu2 : (A.deeper (PyProof.Rows.envOfC "is_below" (defScope s_is_below) s.heap.objs.size f cdv)).units + 66 < cLine := by have := hr.un; omega
    (dss_one (ds_ret (de_cmp op_lt act_lt (de_bin opr_mul act_mul (de_ix ix_seq act_ix (de_var 0) de_int) (de_ix ix_seq act_ix (de_var 1) de_int)) (de_bin opr_mul act_mul (de_ix ix_seq act_ix (de_var 1) de_int) (de_ix ix_seq act_ix (de_var 0) de_int)) (nomark _))))
theorem sc_sums : FnScope ["wishes", "shares", "size", "found", "share", "word", "line", "one", "number"] ["wishes", "shares", "size"] (defScope s_sums) := ⟨rfl, rfl, rfl, by decide +kernel, rfl, by decide +kernel, by decide +kernel⟩
set_option maxHeartbeats 1000000 in
theorem ok_sums (T : Txt K mg) (h_plus : Has P w K mg base 3 "plus" s_plus ["one", "other"] f_plus) (h_times : Has P w K mg base 3 "times" s_times ["one", "other"] f_times) : Has P w K mg base 4 "sums" s_sums ["wishes", "shares", "size"] f_sums :=
  has_of (N := ["wishes", "shares", "size", "found", "share", "word", "line", "one", "number"]) (m := d_sums) T.d_sums sc_sums fun f cdv A outer s H E hr hg0 =>
    have hu1 : (A.deeper (PyProof.Rows.envOfC "sums" (defScope s_sums) s.heap.objs.size f cdv)).units + 64 < cLine := hr.units
    have hu2 : (A.deeper (PyProof.Rows.envOfC "sums" (defScope s_sums) s.heap.objs.size f cdv)).units + 66 < cLine := by have := hr.un; omega
    (dss_cons (ds_set 3 sc_sums.nd (de_bin opr_mul act_mul (de_lst (da_cons (T.c_NOUGHT (by rfl)) da_nil)) (de_var 2))) (dss_cons (ds_for (passes_of rfl) rfl (di_zip (by rfl) T.z_zip (da_cons (de_var 0) (da_cons (de_var 1) da_nil))) (dg_tup rfl (dgs_cons (dg_tup rfl (dgs_cons (dg_name 5 sc_sums.nd) (dgs_cons (dg_name 6 sc_sums.nd) dgs_nil))) (dgs_cons (dg_name 4 sc_sums.nd) dgs_nil))) (dss_one (ds_if (dt_cmp (opr_ne hu1) act_ne (de_var 4) (T.c_NOUGHT (by rfl)) (nomark _)) (dss_one (ds_setLc 3 [("one", 7), ("number", 8)] rfl sc_sums.nd (di_zip (by rfl) T.z_zip (da_cons (de_var 3) (da_cons (de_var 6) da_nil))) (blkOk_by (N := ["wishes", "shares", "size", "found", "share", "word", "line", "one", "number"]) (sc := defScope s_sums) (by decide +kernel)) (fun _ _ _ _ _ => (dg_tup rfl (dgs_cons (dg_name 7 sc_sums.nd) (dgs_cons (dg_name 8 sc_sums.nd) dgs_nil)))) (fun _ _ _ _ _ => dts_nil) (fun _ _ _ _ _ => (de_fn h_plus hr (by decide) hg0 takes_no (by rfl) (da_cons (de_var 7) (da_cons (de_fn h_times hr (by decide) hg0 takes_no (by rfl) (da_cons (de_var 4) (da_cons (de_tup (da_cons (de_var 8) (da_cons de_int da_nil))) da_nil))) da_nil)))))) dss_nil))) (dss_one (ds_ret (de_var 3)))))
theorem sc_is_fraction : FnScope ["thing"] ["thing"] (defScope s_is_fraction) := ⟨rfl, rfl, rfl, by decide +kernel, rfl, by decide +kernel, by decide +kernel⟩
set_option maxHeartbeats 1000000 in
theorem ok_is_fraction (T : Txt K mg) (h_is_whole : Has P w K mg base 1 "is_whole" s_is_whole ["thing"] f_is_whole) (h_shared_by : Has P w K mg base 1 "shared_by" s_shared_by ["one", "other"] f_shared_by) : Has P w K mg base 2 "is_fraction" s_is_fraction ["thing"] f_is_fraction :=
  has_of (N := ["thing"]) (m := d_is_fraction) T.d_is_fraction sc_is_fraction fun f cdv A outer s H E hr hg0 =>
    have hu1 : (A.deeper (PyProof.Rows.envOfC "is_fraction" (defScope s_is_fraction) s.heap.objs.size f cdv)).units + 64 < cLine := hr.units
    have hu2 : (A.deeper (PyProof.Rows.envOfC "is_fraction" (defScope s_is_fraction) s.heap.objs.size f cdv)).units + 66 < cLine := by have := hr.un; omega
    (dss_cons (ds_if (PW.pt (dw_or (dt_not (dt_val (de_callB call_isi act_isi (by rfl) T.z_isinstance (by decide +kernel) (da_cons (de_var 0) (da_cons (de_ty (by rfl) T.z_tuple (by decide +kernel)) da_nil))))) (dw_or (dt_cmp (opr_ne hu1) act_ne (de_callB call_len act_len (by rfl) T.z_len PySem.boot_len (da_cons (de_var 0) da_nil)) de_int (nomark _)) (dw_or (dt_not (dt_val (de_fn h_is_whole hr (by decide) hg0 (takes_of rfl rfl rfl rfl) (by rfl) (da_cons (de_ix ix_seq act_ix (de_var 0) de_int) da_nil)))) (dw_or1 (dt_not (dt_val (de_fn h_is_whole hr (by decide) hg0 (takes_of rfl rfl rfl rfl) (by rfl) (da_cons (de_ix ix_seq act_ix (de_var 0) de_int) da_nil))))))))) (dss_one (ds_ret de_bl)) dss_nil) (dss_one (ds_ret (de_and (de_cmp op_ge act_ge (de_ix ix_seq act_ix (de_var 0) de_int) de_int (nomark _)) (de_one (de_cmp (opr_eq hu1) act_eq (de_fn h_shared_by hr (by decide) hg0 (takes_of rfl rfl rfl rfl) (by rfl) (da_cons (de_ix ix_seq act_ix (de_var 0) de_int) (da_cons (de_ix ix_seq act_ix (de_var 0) de_int) da_nil))) de_int (nomark _)))))))
theorem sc_are_shares : FnScope ["wishes", "thing", "one", "share", "word", "line"] ["wishes", "thing"] (defScope s_are_shares) := ⟨rfl, rfl, rfl, by decide +kernel, rfl, by decide +kernel, by decide +kernel⟩
set_option maxHeartbeats 1000000 in
theorem ok_are_shares (T : Txt K mg) (h_is_fraction : Has P w K mg base 2 "is_fraction" s_is_fraction ["thing"] f_is_fraction) : Has P w K mg base 3 "are_shares" s_are_shares ["wishes", "thing"] f_are_shares :=
  has_of (N := ["wishes", "thing", "one", "share", "word", "line"]) (m := d_are_shares) T.d_are_shares sc_are_shares fun f cdv A outer s H E hr hg0 =>
    have hu1 : (A.deeper (PyProof.Rows.envOfC "are_shares" (defScope s_are_shares) s.heap.objs.size f cdv)).units + 64 < cLine := hr.units
    have hu2 : (A.deeper (PyProof.Rows.envOfC "are_shares" (defScope s_are_shares) s.heap.objs.size f cdv)).units + 66 < cLine := by have := hr.un; omega
    (dss_cons (ds_if (PW.pt (dw_or (dt_not (dt_val (de_callB call_isi act_isi (by rfl) T.z_isinstance (by decide +kernel) (da_cons (de_var 1) (da_cons (de_ty (by rfl) T.z_list (by decide +kernel)) da_nil))))) (dw_or (dt_cmp (opr_ne hu1) act_ne (de_callB call_len act_len (by rfl) T.z_len PySem.boot_len (da_cons (de_var 1) da_nil)) (de_callB call_len act_len (by rfl) T.z_len PySem.boot_len (da_cons (de_var 0) da_nil)) (nomark _)) (dw_or1 (dt_not (dt_val (de_callB (cr_all rfl) act_all (by rfl) T.z_all (by decide +kernel) (da_cons (de_lc [("one", 2)] rfl sc_are_shares.nd (di_list (de_var 1)) (blkOk_by (N := ["wishes", "thing", "one", "share", "word", "line"]) (sc := defScope s_are_shares) (by decide +kernel)) (fun _ _ _ _ _ => (dg_name 2 sc_are_shares.nd)) (fun _ _ _ _ _ => dts_nil) (fun _ _ _ _ _ => (de_fn h_is_fraction hr (by decide) hg0 takes_no (by rfl) (da_cons (de_var 2) da_nil)))) da_nil)))))))) (dss_one (ds_ret de_bl)) dss_nil) (dss_one (ds_ret (de_not (de_callB (cr_any rfl) act_any (by rfl) T.z_any (by decide +kernel) (da_cons (de_lc [("word", 4), ("line", 5), ("share", 3)] rfl sc_are_shares.nd (di_zip (by rfl) T.z_zip (da_cons (de_var 0) (da_cons (de_var 1) da_nil))) (blkOk_by (N := ["wishes", "thing", "one", "share", "word", "line"]) (sc := defScope s_are_shares) (by decide +kernel)) (fun _ _ _ _ _ => (dg_tup rfl (dgs_cons (dg_tup rfl (dgs_cons (dg_name 4 sc_are_shares.nd) (dgs_cons (dg_name 5 sc_are_shares.nd) dgs_nil))) (dgs_cons (dg_name 3 sc_are_shares.nd) dgs_nil)))) (fun _ _ _ _ _ => dts_nil) (fun _ _ _ _ _ => (de_and (de_cmp (opr_eq hu1) act_eq (de_var 4) (T.c_LEAST (by rfl)) (nomark _)) (de_one (de_cmp op_lt act_lt (de_ix ix_seq act_ix (de_var 3) de_int) de_int (nomark _)))))) da_nil))))))
theorem sc_carries : FnScope ["wishes", "line", "thing", "plain", "factors", "factor"] ["wishes", "line", "thing"] (defScope s_carries) := ⟨rfl, rfl, rfl, by decide +kernel, rfl, by decide +kernel, by decide +kernel⟩
set_option maxHeartbeats 1000000 in
theorem ok_carries (T : Txt K mg) (h_is_below : Has P w K mg base 1 "is_below" s_is_below ["one", "other"] f_is_below) (h_sums : Has P w K mg base 4 "sums" s_sums ["wishes", "shares", "size"] f_sums) (h_are_shares : Has P w K mg base 3 "are_shares" s_are_shares ["wishes", "thing"] f_are_shares) : Has P w K mg base 5 "carries" s_carries ["wishes", "line", "thing"] f_carries :=
  has_of (N := ["wishes", "line", "thing", "plain", "factors", "factor"]) (m := d_carries) T.d_carries sc_carries fun f cdv A outer s H E hr hg0 =>
    have hu1 : (A.deeper (PyProof.Rows.envOfC "carries" (defScope s_carries) s.heap.objs.size f cdv)).units + 64 < cLine := hr.units
    have hu2 : (A.deeper (PyProof.Rows.envOfC "carries" (defScope s_carries) s.heap.objs.size f cdv)).units + 66 < cLine := by have := hr.un; omega
    (dss_cons (ds_if (dt_not (dt_val (de_fn h_are_shares hr (by decide) hg0 (takes_of rfl rfl rfl rfl) (by rfl) (da_cons (de_var 0) (da_cons (de_var 2) da_nil))))) (dss_one (ds_ret de_bl)) dss_nil) (dss_cons (ds_star (de_fn h_sums hr (by decide) hg0 (takes_of rfl rfl rfl rfl) (by rfl) (da_cons (de_var 0) (da_cons (de_var 2) (da_cons (de_callB call_len act_len (by rfl) T.z_len PySem.boot_len (da_cons (de_var 1) da_nil)) da_nil)))) (dg_name 3 sc_carries.nd) (dg_name 4 sc_carries.nd) rfl) (dss_one (ds_ret (de_and (de_cmp (opr_eq hu1) act_eq (de_var 4) (de_lc [("factor", 5)] rfl sc_carries.nd (di_list (de_slice slr_all act_sl (de_var 1) (do_some de_int) do_none)) (blkOk_by (N := ["wishes", "line", "thing", "plain", "factors", "factor"]) (sc := defScope s_carries) (by decide +kernel)) (fun _ _ _ _ _ => (dg_name 5 sc_carries.nd)) (fun _ _ _ _ _ => dts_nil) (fun _ _ _ _ _ => (de_tup (da_cons (de_var 5) (da_cons de_int da_nil))))) (nomark _)) (de_one (de_not (de_fn h_is_below hr (by decide) hg0 (takes_of rfl rfl rfl rfl) (by rfl) (da_cons (de_tup (da_cons (de_ix ix_seq act_ix (de_var 1) de_int) (da_cons de_int da_nil))) (da_cons (de_var 3) da_nil))))))))))
theorem sc_never_line : FnScope ["many"] ["many"] (defScope s_never_line) := ⟨rfl, rfl, rfl, by decide +kernel, rfl, by decide +kernel, by decide +kernel⟩
set_option maxHeartbeats 1000000 in
theorem ok_never_line (T : Txt K mg) : Has P w K mg base 1 "never_line" s_never_line ["many"] f_never_line :=
  has_of (N := ["many"]) (m := d_never_line) T.d_never_line sc_never_line fun f cdv A outer s H E hr hg0 =>
    have hu1 : (A.deeper (PyProof.Rows.envOfC "never_line" (defScope s_never_line) s.heap.objs.size f cdv)).units + 64 < cLine := hr.units
    have hu2 : (A.deeper (PyProof.Rows.envOfC "never_line" (defScope s_never_line) s.heap.objs.size f cdv)).units + 66 < cLine := by have := hr.un; omega
    (dss_one (ds_ret (de_bin opr_add act_add (de_lst (da_cons (de_un un_neg act_neg de_int) da_nil)) (de_bin opr_mul act_mul (de_lst (da_cons de_int da_nil)) (de_var 0)))))
theorem sc_are_numbers : FnScope ["many", "thing", "one"] ["many", "thing"] (defScope s_are_numbers) := ⟨rfl, rfl, rfl, by decide +kernel, rfl, by decide +kernel, by decide +kernel⟩
set_option maxHeartbeats 1000000 in
theorem ok_are_numbers (T : Txt K mg) (h_is_fraction : Has P w K mg base 2 "is_fraction" s_is_fraction ["thing"] f_is_fraction) : Has P w K mg base 3 "are_numbers" s_are_numbers ["many", "thing"] f_are_numbers :=
  has_of (N := ["many", "thing", "one"]) (m := d_are_numbers) T.d_are_numbers sc_are_numbers fun f cdv A outer s H E hr hg0 =>
    have hu1 : (A.deeper (PyProof.Rows.envOfC "are_numbers" (defScope s_are_numbers) s.heap.objs.size f cdv)).units + 64 < cLine := hr.units
    have hu2 : (A.deeper (PyProof.Rows.envOfC "are_numbers" (defScope s_are_numbers) s.heap.objs.size f cdv)).units + 66 < cLine := by have := hr.un; omega
    (dss_one (ds_ret (de_and (de_callB call_isi act_isi (by rfl) T.z_isinstance (by decide +kernel) (da_cons (de_var 1) (da_cons (de_ty (by rfl) T.z_list (by decide +kernel)) da_nil))) (de_and (de_cmp (opr_eq hu1) act_eq (de_callB call_len act_len (by rfl) T.z_len PySem.boot_len (da_cons (de_var 1) da_nil)) (de_var 0) (nomark _)) (de_one (de_callB (cr_all rfl) act_all (by rfl) T.z_all (by decide +kernel) (da_cons (de_lc [("one", 2)] rfl sc_are_numbers.nd (di_list (de_var 1)) (blkOk_by (N := ["many", "thing", "one"]) (sc := defScope s_are_numbers) (by decide +kernel)) (fun _ _ _ _ _ => (dg_name 2 sc_are_numbers.nd)) (fun _ _ _ _ _ => dts_nil) (fun _ _ _ _ _ => (de_fn h_is_fraction hr (by decide) hg0 takes_no (by rfl) (da_cons (de_var 2) da_nil)))) da_nil)))))))
theorem sc_is_told : FnScope ["thing"] ["thing"] (defScope s_is_told) := ⟨rfl, rfl, rfl, by decide +kernel, rfl, by decide +kernel, by decide +kernel⟩
set_option maxHeartbeats 1000000 in
theorem ok_is_told (T : Txt K mg) : Has P w K mg base 1 "is_told" s_is_told ["thing"] f_is_told :=
  has_of (N := ["thing"]) (m := d_is_told) T.d_is_told sc_is_told fun f cdv A outer s H E hr hg0 =>
    have hu1 : (A.deeper (PyProof.Rows.envOfC "is_told" (defScope s_is_told) s.heap.objs.size f cdv)).units + 64 < cLine := hr.units
    have hu2 : (A.deeper (PyProof.Rows.envOfC "is_told" (defScope s_is_told) s.heap.objs.size f cdv)).units + 66 < cLine := by have := hr.un; omega
    (dss_one (ds_ret (de_and (de_callB call_isi act_isi (by rfl) T.z_isinstance (by decide +kernel) (da_cons (de_var 0) (da_cons (de_ty (by rfl) T.z_tuple (by decide +kernel)) da_nil))) (de_and (de_cmp (opr_eq hu1) act_eq (de_callB call_len act_len (by rfl) T.z_len PySem.boot_len (da_cons (de_var 0) da_nil)) de_int (nomark _)) (de_one (de_callB call_isi act_isi (by rfl) T.z_isinstance (by decide +kernel) (da_cons (de_ix ix_seq act_ix (de_var 0) de_int) (da_cons (de_ty (by rfl) T.z_str (by decide +kernel)) da_nil))))))))
theorem sc_lets_granted : FnScope ["many", "wishes", "thing"] ["many", "wishes", "thing"] (defScope s_lets_granted) := ⟨rfl, rfl, rfl, by decide +kernel, rfl, by decide +kernel, by decide +kernel⟩
set_option maxHeartbeats 1000000 in
theorem ok_lets_granted (T : Txt K mg) (h_look_at_many : Has P w K mg base 2 "look_at_many" s_look_at_many ["many"] f_look_at_many) (h_grants : Has P w K mg base 6 "grants" s_grants ["wishes", "numbers"] f_grants) (h_carries : Has P w K mg base 5 "carries" s_carries ["wishes", "line", "thing"] f_carries) (h_never_line : Has P w K mg base 1 "never_line" s_never_line ["many"] f_never_line) (h_are_numbers : Has P w K mg base 3 "are_numbers" s_are_numbers ["many", "thing"] f_are_numbers) (h_is_told : Has P w K mg base 1 "is_told" s_is_told ["thing"] f_is_told) : Has P w K mg base 7 "lets_granted" s_lets_granted ["many", "wishes", "thing"] f_lets_granted :=
  has_of (N := ["many", "wishes", "thing"]) (m := d_lets_granted) T.d_lets_granted sc_lets_granted fun f cdv A outer s H E hr hg0 =>
    have hu1 : (A.deeper (PyProof.Rows.envOfC "lets_granted" (defScope s_lets_granted) s.heap.objs.size f cdv)).units + 64 < cLine := hr.units
    have hu2 : (A.deeper (PyProof.Rows.envOfC "lets_granted" (defScope s_lets_granted) s.heap.objs.size f cdv)).units + 66 < cLine := by have := hr.un; omega
    (dss_cons (ds_expr (de_fn h_look_at_many hr (by decide) hg0 (takes_of rfl rfl rfl rfl) (by rfl) (da_cons (de_var 0) da_nil))) (dss_cons (ds_if (dt_not (dt_val (de_fn h_is_told hr (by decide) hg0 (takes_of rfl rfl rfl rfl) (by rfl) (da_cons (de_var 2) da_nil)))) (dss_one (ds_ret de_bl)) dss_nil) (dss_cons (ds_if (dt_cmp (opr_eq hu1) act_eq (de_ix ix_seq act_ix (de_var 2) de_int) de_str (nomark _)) (dss_one (ds_ret (de_and (de_fn h_are_numbers hr (by decide) hg0 (takes_of rfl rfl rfl rfl) (by rfl) (da_cons (de_var 0) (da_cons (de_ix ix_seq act_ix (de_var 2) de_int) da_nil))) (de_one (de_fn h_grants hr (by decide) hg0 (takes_of rfl rfl rfl rfl) (by rfl) (da_cons (de_var 1) (da_cons (de_ix ix_seq act_ix (de_var 2) de_int) da_nil))))))) dss_nil) (dss_one (ds_ret (de_and (de_cmp (opr_eq hu1) act_eq (de_ix ix_seq act_ix (de_var 2) de_int) de_str (nomark _)) (de_one (de_fn h_carries hr (by decide) hg0 (takes_of rfl rfl rfl rfl) (by rfl) (da_cons (de_var 1) (da_cons (de_fn h_never_line hr (by decide) hg0 (takes_of rfl rfl rfl rfl) (by rfl) (da_cons (de_var 0) da_nil)) (da_cons (de_ix ix_seq act_ix (de_var 2) de_int) da_nil)))))))))))
theorem sc_lets_follows : FnScope ["many", "wishes", "line", "thing"] ["many", "wishes", "line", "thing"] (defScope s_lets_follows) := ⟨rfl, rfl, rfl, by decide +kernel, rfl, by decide +kernel, by decide +kernel⟩
set_option maxHeartbeats 1000000 in
theorem ok_lets_follows (T : Txt K mg) (h_look_at_many : Has P w K mg base 2 "look_at_many" s_look_at_many ["many"] f_look_at_many) (h_worth : Has P w K mg base 4 "worth" s_worth ["line", "numbers"] f_worth) (h_grants : Has P w K mg base 6 "grants" s_grants ["wishes", "numbers"] f_grants) (h_carries : Has P w K mg base 5 "carries" s_carries ["wishes", "line", "thing"] f_carries) (h_never_line : Has P w K mg base 1 "never_line" s_never_line ["many"] f_never_line) (h_are_numbers : Has P w K mg base 3 "are_numbers" s_are_numbers ["many", "thing"] f_are_numbers) (h_is_told : Has P w K mg base 1 "is_told" s_is_told ["thing"] f_is_told) : Has P w K mg base 7 "lets_follows" s_lets_follows ["many", "wishes", "line", "thing"] f_lets_follows :=
  has_of (N := ["many", "wishes", "line", "thing"]) (m := d_lets_follows) T.d_lets_follows sc_lets_follows fun f cdv A outer s H E hr hg0 =>
    have hu1 : (A.deeper (PyProof.Rows.envOfC "lets_follows" (defScope s_lets_follows) s.heap.objs.size f cdv)).units + 64 < cLine := hr.units
    have hu2 : (A.deeper (PyProof.Rows.envOfC "lets_follows" (defScope s_lets_follows) s.heap.objs.size f cdv)).units + 66 < cLine := by have := hr.un; omega
    (dss_cons (ds_expr (de_fn h_look_at_many hr (by decide) hg0 (takes_of rfl rfl rfl rfl) (by rfl) (da_cons (de_var 0) da_nil))) (dss_cons (ds_if (dt_not (dt_val (de_fn h_is_told hr (by decide) hg0 (takes_of rfl rfl rfl rfl) (by rfl) (da_cons (de_var 3) da_nil)))) (dss_one (ds_ret de_bl)) dss_nil) (dss_cons (ds_if (dt_cmp (opr_eq hu1) act_eq (de_ix ix_seq act_ix (de_var 3) de_int) de_str (nomark _)) (dss_one (ds_ret (de_fn h_carries hr (by decide) hg0 (takes_of rfl rfl rfl rfl) (by rfl) (da_cons (de_var 1) (da_cons (de_var 2) (da_cons (de_ix ix_seq act_ix (de_var 3) de_int) da_nil)))))) dss_nil) (dss_cons (ds_if (dt_cmp (opr_eq hu1) act_eq (de_ix ix_seq act_ix (de_var 3) de_int) de_str (nomark _)) (dss_one (ds_ret (de_and (de_fn h_are_numbers hr (by decide) hg0 (takes_of rfl rfl rfl rfl) (by rfl) (da_cons (de_var 0) (da_cons (de_ix ix_seq act_ix (de_var 3) de_int) da_nil))) (de_and (de_fn h_grants hr (by decide) hg0 (takes_of rfl rfl rfl rfl) (by rfl) (da_cons (de_var 1) (da_cons (de_ix ix_seq act_ix (de_var 3) de_int) da_nil))) (de_one (de_cmp op_lt act_lt (de_ix ix_seq act_ix (de_fn h_worth hr (by decide) hg0 (takes_of rfl rfl rfl rfl) (by rfl) (da_cons (de_var 2) (da_cons (de_ix ix_seq act_ix (de_var 3) de_int) da_nil))) de_int) de_int (nomark _))))))) dss_nil) (dss_one (ds_ret (de_and (de_cmp (opr_eq hu1) act_eq (de_ix ix_seq act_ix (de_var 3) de_int) de_str (nomark _)) (de_one (de_fn h_carries hr (by decide) hg0 (takes_of rfl rfl rfl rfl) (by rfl) (da_cons (de_var 1) (da_cons (de_fn h_never_line hr (by decide) hg0 (takes_of rfl rfl rfl rfl) (by rfl) (da_cons (de_var 0) da_nil)) (da_cons (de_ix ix_seq act_ix (de_var 3) de_int) da_nil))))))))))))
theorem sc__law_pool : FnScope ["_law_script", "_law_k", "_law_cell", "_law_number_here", "_law_mixed"] ["_law_script", "_law_k"] (defScope s__law_pool) := ⟨rfl, rfl, rfl, by decide +kernel, rfl, by decide +kernel, by decide +kernel⟩
set_option maxHeartbeats 1000000 in
theorem ok__law_pool (T : Txt K mg) : Has P w K mg base 1 "_law_pool" s__law_pool ["_law_script", "_law_k"] f__law_pool :=
  has_of (N := ["_law_script", "_law_k", "_law_cell", "_law_number_here", "_law_mixed"]) (m := d__law_pool) T.d__law_pool sc__law_pool fun f cdv A outer s H E hr hg0 =>
    have hu1 : (A.deeper (PyProof.Rows.envOfC "_law_pool" (defScope s__law_pool) s.heap.objs.size f cdv)).units + 64 < cLine := hr.units
    have hu2 : (A.deeper (PyProof.Rows.envOfC "_law_pool" (defScope s__law_pool) s.heap.objs.size f cdv)).units + 66 < cLine := by have := hr.un; omega
    (dss_cons (ds_set 2 sc__law_pool.nd de_int) (dss_cons (ds_if (dt_cmp op_lt act_lt (de_var 1) (de_callB call_len act_len (by rfl) T.z_len PySem.boot_len (da_cons (de_var 0) da_nil)) (nomark _)) (dss_one (ds_set 2 sc__law_pool.nd (de_ix ix_seq act_ix (de_var 0) (de_var 1)))) dss_nil) (dss_cons (ds_set 3 sc__law_pool.nd (de_callB (call_max2 rfl) act_max2 (by rfl) T.z_max (by decide +kernel) (da_cons (de_var 2) (da_cons (de_bin op_sub act_sub (de_un un_neg act_neg de_int) (de_var 2)) da_nil)))) (dss_cons (ds_set 4 sc__law_pool.nd (de_bin op_modN act_mod (de_bin opr_mul act_mul (de_bin opr_add act_add (de_bin opr_add act_add (de_bin opr_add act_add (de_bin op_modN act_mod (de_var 3) de_int) (de_bin opr_mul act_mul (de_bin opr_mul act_mul de_int (de_var 1)) (de_var 1))) (de_bin opr_mul act_mul de_int (de_var 1))) de_int) de_int) de_int)) (dss_one (ds_ret (de_lstC (da_cons (de_bin opr_mul act_mul (de_var 3) (de_callTy call_int1 act_int (by rfl) T.z_int (by decide +kernel) (da_cons (de_cmp op_ge act_ge (de_var 3) (de_bin op_pow act_pow de_int de_int) (nomark _)) da_nil))) (da_cons (de_var 4) da_nil)))))))))
theorem sc__law_take : FnScope ["_law_pool_here", "_law_wide", "_law_found"] ["_law_pool_here", "_law_wide"] (defScope s__law_take) := ⟨rfl, rfl, rfl, by decide +kernel, rfl, by decide +kernel, by decide +kernel⟩
set_option maxHeartbeats 1000000 in
theorem ok__law_take (T : Txt K mg) : Has P w K mg base 1 "_law_take" s__law_take ["_law_pool_here", "_law_wide"] f__law_take :=
  has_of (N := ["_law_pool_here", "_law_wide", "_law_found"]) (m := d__law_take) T.d__law_take sc__law_take fun f cdv A outer s H E hr hg0 =>
    have hu1 : (A.deeper (PyProof.Rows.envOfC "_law_take" (defScope s__law_take) s.heap.objs.size f cdv)).units + 64 < cLine := hr.units
    have hu2 : (A.deeper (PyProof.Rows.envOfC "_law_take" (defScope s__law_take) s.heap.objs.size f cdv)).units + 66 < cLine := by have := hr.un; omega
    (dss_cons (ds_if (dt_cmp op_gt act_gt (de_ix ix_seq act_ix (de_var 0) de_int) de_int (nomark _)) (dss_cons (ds_set 2 sc__law_take.nd (de_bin op_modN act_mod (de_ix ix_seq act_ix (de_var 0) de_int) (de_var 1))) (dss_cons (ds_sub set_list act_setD (de_bin opr_fdiv act_fdiv (de_ix ix_seq act_ix (de_var 0) de_int) (de_var 1)) (de_var 0) de_int (pg_sub (de_var 0) de_int set_list)) (dss_one (ds_ret (de_var 2))))) dss_nil) (dss_cons (ds_sub set_list act_setD (de_bin op_modN act_mod (de_bin opr_add act_add (de_bin opr_mul act_mul (de_ix ix_seq act_ix (de_var 0) de_int) de_int) de_int) de_int) (de_var 0) de_int (pg_sub (de_var 0) de_int set_list)) (dss_one (ds_ret (de_bin op_modN act_mod (de_bin opr_fdiv act_fdiv (de_bin op_modN act_mod (de_bin opr_mul act_mul (de_ix ix_seq act_ix (de_var 0) de_int) (de_ix ix_seq act_ix (de_var 0) de_int)) de_int) de_int) (de_var 1))))))
theorem sc__law_low : FnScope ["_law_upper", "_law_lower", "_law_here", "_law_there"] ["_law_upper", "_law_lower"] (defScope s__law_low) := ⟨rfl, rfl, rfl, by decide +kernel, rfl, by decide +kernel, by decide +kernel⟩
set_option maxHeartbeats 1000000 in
theorem ok__law_low (T : Txt K mg) : Has P w K mg base 1 "_law_low" s__law_low ["_law_upper", "_law_lower"] f__law_low :=
  has_of (N := ["_law_upper", "_law_lower", "_law_here", "_law_there"]) (m := d__law_low) T.d__law_low sc__law_low fun f cdv A outer s H E hr hg0 =>
    have hu1 : (A.deeper (PyProof.Rows.envOfC "_law_low" (defScope s__law_low) s.heap.objs.size f cdv)).units + 64 < cLine := hr.units
    have hu2 : (A.deeper (PyProof.Rows.envOfC "_law_low" (defScope s__law_low) s.heap.objs.size f cdv)).units + 66 < cLine := by have := hr.un; omega
    (dss_cons (ds_set 2 sc__law_low.nd (de_callB call_abs act_abs (by rfl) T.z_abs (by decide +kernel) (da_cons (de_var 0) da_nil))) (dss_cons (ds_set 3 sc__law_low.nd (de_callB call_abs act_abs (by rfl) T.z_abs (by decide +kernel) (da_cons (de_var 1) da_nil))) (dss_cons (ds_while (passes_of rfl) (dt_cmp op_gt act_gt (de_var 3) de_int (nomark _)) (dss_one (ds_par 2 3 rfl sc__law_low.nd (da_cons (de_var 3) (da_cons (de_bin op_modN act_mod (de_var 2) (de_var 3)) da_nil))))) (dss_cons (ds_if (dt_cmp op_lt act_lt (de_var 1) de_int (nomark _)) (dss_one (ds_set 2 sc__law_low.nd (de_bin op_sub act_sub de_int (de_var 2)))) dss_nil) (dss_one (ds_ret (de_tup (da_cons (de_bin opr_fdiv act_fdiv (de_var 0) (de_var 2)) (da_cons (de_bin opr_fdiv act_fdiv (de_var 1) (de_var 2)) da_nil)))))))))
theorem sc__law_plus : FnScope ["_law_here", "_law_there"] ["_law_here", "_law_there"] (defScope s__law_plus) := ⟨rfl, rfl, rfl, by decide +kernel, rfl, by decide +kernel, by decide +kernel⟩
set_option maxHeartbeats 1000000 in
theorem ok__law_plus (T : Txt K mg) (h__law_low : Has P w K mg base 1 "_law_low" s__law_low ["_law_upper", "_law_lower"] f__law_low) : Has P w K mg base 2 "_law_plus" s__law_plus ["_law_here", "_law_there"] f__law_plus :=
  has_of (N := ["_law_here", "_law_there"]) (m := d__law_plus) T.d__law_plus sc__law_plus fun f cdv A outer s H E hr hg0 =>
    have hu1 : (A.deeper (PyProof.Rows.envOfC "_law_plus" (defScope s__law_plus) s.heap.objs.size f cdv)).units + 64 < cLine := hr.units
    have hu2 : (A.deeper (PyProof.Rows.envOfC "_law_plus" (defScope s__law_plus) s.heap.objs.size f cdv)).units + 66 < cLine := by have := hr.un; omega
    (dss_one (ds_ret (de_fn h__law_low hr (by decide) hg0 (takes_of rfl rfl rfl rfl) (by rfl) (da_cons (de_bin opr_add act_add (de_bin opr_mul act_mul (de_ix ix_seq act_ix (de_var 0) de_int) (de_ix ix_seq act_ix (de_var 1) de_int)) (de_bin opr_mul act_mul (de_ix ix_seq act_ix (de_var 1) de_int) (de_ix ix_seq act_ix (de_var 0) de_int))) (da_cons (de_bin opr_mul act_mul (de_ix ix_seq act_ix (de_var 0) de_int) (de_ix ix_seq act_ix (de_var 1) de_int)) da_nil)))))
theorem sc__law_times : FnScope ["_law_here", "_law_there"] ["_law_here", "_law_there"] (defScope s__law_times) := ⟨rfl, rfl, rfl, by decide +kernel, rfl, by decide +kernel, by decide +kernel⟩
set_option maxHeartbeats 1000000 in
theorem ok__law_times (T : Txt K mg) (h__law_low : Has P w K mg base 1 "_law_low" s__law_low ["_law_upper", "_law_lower"] f__law_low) : Has P w K mg base 2 "_law_times" s__law_times ["_law_here", "_law_there"] f__law_times :=
  has_of (N := ["_law_here", "_law_there"]) (m := d__law_times) T.d__law_times sc__law_times fun f cdv A outer s H E hr hg0 =>
    have hu1 : (A.deeper (PyProof.Rows.envOfC "_law_times" (defScope s__law_times) s.heap.objs.size f cdv)).units + 64 < cLine := hr.units
    have hu2 : (A.deeper (PyProof.Rows.envOfC "_law_times" (defScope s__law_times) s.heap.objs.size f cdv)).units + 66 < cLine := by have := hr.un; omega
    (dss_one (ds_ret (de_fn h__law_low hr (by decide) hg0 (takes_of rfl rfl rfl rfl) (by rfl) (da_cons (de_bin opr_mul act_mul (de_ix ix_seq act_ix (de_var 0) de_int) (de_ix ix_seq act_ix (de_var 1) de_int)) (da_cons (de_bin opr_mul act_mul (de_ix ix_seq act_ix (de_var 0) de_int) (de_ix ix_seq act_ix (de_var 1) de_int)) da_nil)))))
theorem sc__law_total : FnScope ["_law_row", "_law_some_here", "_law_found", "_law_factor", "_law_number_here"] ["_law_row", "_law_some_here"] (defScope s__law_total) := ⟨rfl, rfl, rfl, by decide +kernel, rfl, by decide +kernel, by decide +kernel⟩
set_option maxHeartbeats 1000000 in
theorem ok__law_total (T : Txt K mg) (h__law_plus : Has P w K mg base 2 "_law_plus" s__law_plus ["_law_here", "_law_there"] f__law_plus) (h__law_times : Has P w K mg base 2 "_law_times" s__law_times ["_law_here", "_law_there"] f__law_times) : Has P w K mg base 3 "_law_total" s__law_total ["_law_row", "_law_some_here"] f__law_total :=
  has_of (N := ["_law_row", "_law_some_here", "_law_found", "_law_factor", "_law_number_here"]) (m := d__law_total) T.d__law_total sc__law_total fun f cdv A outer s H E hr hg0 =>
    have hu1 : (A.deeper (PyProof.Rows.envOfC "_law_total" (defScope s__law_total) s.heap.objs.size f cdv)).units + 64 < cLine := hr.units
    have hu2 : (A.deeper (PyProof.Rows.envOfC "_law_total" (defScope s__law_total) s.heap.objs.size f cdv)).units + 66 < cLine := by have := hr.un; omega
    (dss_cons (ds_set 2 sc__law_total.nd (de_tup (da_cons (de_ix ix_seq act_ix (de_var 0) de_int) (da_cons de_int da_nil)))) (dss_cons (ds_for (passes_of rfl) rfl (di_zip (by rfl) T.z_zip (da_cons (de_slice slr_all act_sl (de_var 0) (do_some de_int) do_none) (da_cons (de_var 1) da_nil))) (dg_tup rfl (dgs_cons (dg_name 3 sc__law_total.nd) (dgs_cons (dg_name 4 sc__law_total.nd) dgs_nil))) (dss_one (ds_set 2 sc__law_total.nd (de_fn h__law_plus hr (by decide) hg0 (takes_of rfl rfl rfl rfl) (by rfl) (da_cons (de_var 2) (da_cons (de_fn h__law_times hr (by decide) hg0 (takes_of rfl rfl rfl rfl) (by rfl) (da_cons (de_tup (da_cons (de_var 3) (da_cons de_int da_nil))) (da_cons (de_var 4) da_nil))) da_nil)))))) (dss_one (ds_ret (de_var 2)))))
theorem sc__law_grants : FnScope ["_law_asked", "_law_some_here", "_law_word", "_law_row", "_law_upper"] ["_law_asked", "_law_some_here"] (defScope s__law_grants) := ⟨rfl, rfl, rfl, by decide +kernel, rfl, by decide +kernel, by decide +kernel⟩
set_option maxHeartbeats 1000000 in
theorem ok__law_grants (T : Txt K mg) (h__law_total : Has P w K mg base 3 "_law_total" s__law_total ["_law_row", "_law_some_here"] f__law_total) : Has P w K mg base 4 "_law_grants" s__law_grants ["_law_asked", "_law_some_here"] f__law_grants :=
  has_of (N := ["_law_asked", "_law_some_here", "_law_word", "_law_row", "_law_upper"]) (m := d__law_grants) T.d__law_grants sc__law_grants fun f cdv A outer s H E hr hg0 =>
    have hu1 : (A.deeper (PyProof.Rows.envOfC "_law_grants" (defScope s__law_grants) s.heap.objs.size f cdv)).units + 64 < cLine := hr.units
    have hu2 : (A.deeper (PyProof.Rows.envOfC "_law_grants" (defScope s__law_grants) s.heap.objs.size f cdv)).units + 66 < cLine := by have := hr.un; omega
    (dss_cons (ds_for (passes_of rfl) rfl (di_list (de_var 0)) (dg_tup rfl (dgs_cons (dg_name 2 sc__law_grants.nd) (dgs_cons (dg_name 3 sc__law_grants.nd) dgs_nil))) (dss_cons (ds_set 4 sc__law_grants.nd (de_ix ix_seq act_ix (de_fn h__law_total hr (by decide) hg0 (takes_of rfl rfl rfl rfl) (by rfl) (da_cons (de_var 3) (da_cons (de_var 1) da_nil))) de_int)) (dss_one (ds_if (PW.pt (dw_or (dt_cmp op_lt act_lt (de_var 4) de_int (nomark _)) (dw_or1 (PW.pt (dw_and (dt_cmp op_gt act_gt (de_var 4) de_int (nomark _)) (dw_and1 (dt_cmp (opr_eq hu1) act_eq (de_var 2) de_str (nomark _)))))))) (dss_one (ds_ret de_bl)) dss_nil)))) (dss_one (ds_ret de_bl)))
theorem sc__law_is_whole : FnScope ["_law_item"] ["_law_item"] (defScope s__law_is_whole) := ⟨rfl, rfl, rfl, by decide +kernel, rfl, by decide +kernel, by decide +kernel⟩
set_option maxHeartbeats 1000000 in
theorem ok__law_is_whole (T : Txt K mg) : Has P w K mg base 1 "_law_is_whole" s__law_is_whole ["_law_item"] f__law_is_whole :=
  has_of (N := ["_law_item"]) (m := d__law_is_whole) T.d__law_is_whole sc__law_is_whole fun f cdv A outer s H E hr hg0 =>
    have hu1 : (A.deeper (PyProof.Rows.envOfC "_law_is_whole" (defScope s__law_is_whole) s.heap.objs.size f cdv)).units + 64 < cLine := hr.units
    have hu2 : (A.deeper (PyProof.Rows.envOfC "_law_is_whole" (defScope s__law_is_whole) s.heap.objs.size f cdv)).units + 66 < cLine := by have := hr.un; omega
    (dss_one (ds_ret (de_and (de_callB call_isi act_isi (by rfl) T.z_isinstance (by decide +kernel) (da_cons (de_var 0) (da_cons (de_ty (by rfl) T.z_int (by decide +kernel)) da_nil))) (de_one (de_not (de_callB call_isi act_isi (by rfl) T.z_isinstance (by decide +kernel) (da_cons (de_var 0) (da_cons (de_ty (by rfl) T.z_bool (by decide +kernel)) da_nil))))))))
theorem sc__law_is_fraction : FnScope ["_law_item"] ["_law_item"] (defScope s__law_is_fraction) := ⟨rfl, rfl, rfl, by decide +kernel, rfl, by decide +kernel, by decide +kernel⟩
set_option maxHeartbeats 1000000 in
theorem ok__law_is_fraction (T : Txt K mg) (h__law_low : Has P w K mg base 1 "_law_low" s__law_low ["_law_upper", "_law_lower"] f__law_low) (h__law_is_whole : Has P w K mg base 1 "_law_is_whole" s__law_is_whole ["_law_item"] f__law_is_whole) : Has P w K mg base 2 "_law_is_fraction" s__law_is_fraction ["_law_item"] f__law_is_fraction :=
  has_of (N := ["_law_item"]) (m := d__law_is_fraction) T.d__law_is_fraction sc__law_is_fraction fun f cdv A outer s H E hr hg0 =>
    have hu1 : (A.deeper (PyProof.Rows.envOfC "_law_is_fraction" (defScope s__law_is_fraction) s.heap.objs.size f cdv)).units + 64 < cLine := hr.units
    have hu2 : (A.deeper (PyProof.Rows.envOfC "_law_is_fraction" (defScope s__law_is_fraction) s.heap.objs.size f cdv)).units + 66 < cLine := by have := hr.un; omega
    (dss_cons (ds_if (PW.pt (dw_or (dt_not (dt_val (de_callB call_isi act_isi (by rfl) T.z_isinstance (by decide +kernel) (da_cons (de_var 0) (da_cons (de_ty (by rfl) T.z_tuple (by decide +kernel)) da_nil))))) (dw_or (dt_cmp (opr_ne hu1) act_ne (de_callB call_len act_len (by rfl) T.z_len PySem.boot_len (da_cons (de_var 0) da_nil)) de_int (nomark _)) (dw_or (dt_not (dt_val (de_fn h__law_is_whole hr (by decide) hg0 (takes_of rfl rfl rfl rfl) (by rfl) (da_cons (de_ix ix_seq act_ix (de_var 0) de_int) da_nil)))) (dw_or1 (dt_not (dt_val (de_fn h__law_is_whole hr (by decide) hg0 (takes_of rfl rfl rfl rfl) (by rfl) (da_cons (de_ix ix_seq act_ix (de_var 0) de_int) da_nil))))))))) (dss_one (ds_ret de_bl)) dss_nil) (dss_one (ds_ret (de_and (de_cmp op_gt act_gt (de_ix ix_seq act_ix (de_var 0) de_int) de_int (nomark _)) (de_one (de_cmp (opr_eq hu1) act_eq (de_fn h__law_low hr (by decide) hg0 (takes_of rfl rfl rfl rfl) (by rfl) (da_cons (de_ix ix_seq act_ix (de_var 0) de_int) (da_cons (de_ix ix_seq act_ix (de_var 0) de_int) da_nil))) (de_var 0) (nomark _)))))))
theorem sc__law_carries : FnScope ["_law_asked", "_law_row", "_law_item", "_law_totals", "_law_place", "_law_total_here", "_law_share", "_law_one", "_law_k", "_law_word", "_law_own", "_law_factor"] ["_law_asked", "_law_row", "_law_item"] (defScope s__law_carries) := ⟨rfl, rfl, rfl, by decide +kernel, rfl, by decide +kernel, by decide +kernel⟩
set_option maxHeartbeats 1000000 in
theorem ok__law_carries (T : Txt K mg) (h__law_plus : Has P w K mg base 2 "_law_plus" s__law_plus ["_law_here", "_law_there"] f__law_plus) (h__law_times : Has P w K mg base 2 "_law_times" s__law_times ["_law_here", "_law_there"] f__law_times) (h__law_is_fraction : Has P w K mg base 2 "_law_is_fraction" s__law_is_fraction ["_law_item"] f__law_is_fraction) : Has P w K mg base 3 "_law_carries" s__law_carries ["_law_asked", "_law_row", "_law_item"] f__law_carries :=
  has_of (N := ["_law_asked", "_law_row", "_law_item", "_law_totals", "_law_place", "_law_total_here", "_law_share", "_law_one", "_law_k", "_law_word", "_law_own", "_law_factor"]) (m := d__law_carries) T.d__law_carries sc__law_carries fun f cdv A outer s H E hr hg0 =>
    have hu1 : (A.deeper (PyProof.Rows.envOfC "_law_carries" (defScope s__law_carries) s.heap.objs.size f cdv)).units + 64 < cLine := hr.units
    have hu2 : (A.deeper (PyProof.Rows.envOfC "_law_carries" (defScope s__law_carries) s.heap.objs.size f cdv)).units + 66 < cLine := by have := hr.un; omega
    (dss_cons (ds_if (PW.pt (dw_or (dt_not (dt_val (de_callB call_isi act_isi (by rfl) T.z_isinstance (by decide +kernel) (da_cons (de_var 2) (da_cons (de_ty (by rfl) T.z_list (by decide +kernel)) da_nil))))) (dw_or1 (dt_cmp (opr_ne hu1) act_ne (de_callB call_len act_len (by rfl) T.z_len PySem.boot_len (da_cons (de_var 2) da_nil)) (de_callB call_len act_len (by rfl) T.z_len PySem.boot_len (da_cons (de_var 0) da_nil)) (nomark _))))) (dss_one (ds_ret de_bl)) dss_nil) (dss_cons (ds_if (dt_cmp (opr_ne hu1) act_ne (de_lc [("_law_one", 7)] rfl sc__law_carries.nd (di_list (de_var 2)) (blkOk_by (N := ["_law_asked", "_law_row", "_law_item", "_law_totals", "_law_place", "_law_total_here", "_law_share", "_law_one", "_law_k", "_law_word", "_law_own", "_law_factor"]) (sc := defScope s__law_carries) (by decide +kernel)) (fun _ _ _ _ _ => (dg_name 7 sc__law_carries.nd)) (fun _ _ _ _ _ => (dts_one (dt_not (dt_val (de_fn h__law_is_fraction hr (by decide) hg0 takes_no (by rfl) (da_cons (de_var 7) da_nil)))))) (fun _ _ _ _ _ => (de_var 7))) (de_lst da_nil) (nomark _)) (dss_one (ds_ret de_bl)) dss_nil) (dss_cons (ds_if (dt_cmp (opr_ne hu1) act_ne (de_lc [("_law_k", 8)] rfl sc__law_carries.nd (di_rng1 (by rfl) T.z_range (da_cons (de_callB call_len act_len (by rfl) T.z_len PySem.boot_len (da_cons (de_var 0) da_nil)) da_nil)) (blkOk_by (N := ["_law_asked", "_law_row", "_law_item", "_law_totals", "_law_place", "_law_total_here", "_law_share", "_law_one", "_law_k", "_law_word", "_law_own", "_law_factor"]) (sc := defScope s__law_carries) (by decide +kernel)) (fun _ _ _ _ _ => (dg_name 8 sc__law_carries.nd)) (fun _ _ _ _ _ => (dts_one (PW.pt (dw_and (dt_cmp (opr_eq hu1) act_eq (de_ix ix_seq act_ix (de_ix ix_seq act_ix (de_var 0) (de_var 8)) de_int) de_str (nomark _)) (dw_and1 (dt_cmp op_lt act_lt (de_ix ix_seq act_ix (de_ix ix_seq act_ix (de_var 2) (de_var 8)) de_int) de_int (nomark _))))))) (fun _ _ _ _ _ => (de_var 8))) (de_lst da_nil) (nomark _)) (dss_one (ds_ret de_bl)) dss_nil) (dss_cons (ds_set 3 sc__law_carries.nd (de_lstC da_nil)) (dss_cons (ds_for (passes_of rfl) rfl (di_rng1 (by rfl) T.z_range (da_cons (de_callB call_len act_len (by rfl) T.z_len PySem.boot_len (da_cons (de_var 1) da_nil)) da_nil)) (dg_name 4 sc__law_carries.nd) (dss_cons (ds_set 5 sc__law_carries.nd (de_tup (da_cons de_int (da_cons de_int da_nil)))) (dss_cons (ds_for (passes_of rfl) rfl (di_zip (by rfl) T.z_zip (da_cons (de_var 0) (da_cons (de_var 2) da_nil))) (dg_tup rfl (dgs_cons (dg_tup rfl (dgs_cons (dg_name 9 sc__law_carries.nd) (dgs_cons (dg_name 10 sc__law_carries.nd) dgs_nil))) (dgs_cons (dg_name 6 sc__law_carries.nd) dgs_nil))) (dss_one (ds_set 5 sc__law_carries.nd (de_fn h__law_plus hr (by decide) hg0 (takes_of rfl rfl rfl rfl) (by rfl) (da_cons (de_var 5) (da_cons (de_fn h__law_times hr (by decide) hg0 (takes_of rfl rfl rfl rfl) (by rfl) (da_cons (de_tup (da_cons (de_ix ix_seq act_ix (de_var 10) (de_var 4)) (da_cons de_int da_nil))) (da_cons (de_var 6) da_nil))) da_nil)))))) (dss_one (ds_expr (de_bm PySem.F.plainAttrs_list PySem.F.slot_list_append PySem.F.type_list_append mt_append act_append ty_list (de_var 3) (da_cons (de_var 5) da_nil))))))) (dss_one (ds_ret (de_and (de_cmp (opr_eq hu1) act_eq (de_slice slr_all act_sl (de_var 3) (do_some de_int) do_none) (de_lc [("_law_factor", 11)] rfl sc__law_carries.nd (di_list (de_slice slr_all act_sl (de_var 1) (do_some de_int) do_none)) (blkOk_by (N := ["_law_asked", "_law_row", "_law_item", "_law_totals", "_law_place", "_law_total_here", "_law_share", "_law_one", "_law_k", "_law_word", "_law_own", "_law_factor"]) (sc := defScope s__law_carries) (by decide +kernel)) (fun _ _ _ _ _ => (dg_name 11 sc__law_carries.nd)) (fun _ _ _ _ _ => dts_nil) (fun _ _ _ _ _ => (de_tup (da_cons (de_var 11) (da_cons de_int da_nil))))) (nomark _)) (de_one (de_cmp op_le act_le (de_ix ix_seq act_ix (de_ix ix_seq act_ix (de_var 3) de_int) de_int) (de_bin opr_mul act_mul (de_ix ix_seq act_ix (de_var 1) de_int) (de_ix ix_seq act_ix (de_ix ix_seq act_ix (de_var 3) de_int) de_int)) (nomark _)))))))))))
theorem sc__law_are_numbers : FnScope ["_law_size", "_law_item", "_law_one"] ["_law_size", "_law_item"] (defScope s__law_are_numbers) := ⟨rfl, rfl, rfl, by decide +kernel, rfl, by decide +kernel, by decide +kernel⟩
set_option maxHeartbeats 1000000 in
theorem ok__law_are_numbers (T : Txt K mg) (h__law_is_fraction : Has P w K mg base 2 "_law_is_fraction" s__law_is_fraction ["_law_item"] f__law_is_fraction) : Has P w K mg base 3 "_law_are_numbers" s__law_are_numbers ["_law_size", "_law_item"] f__law_are_numbers :=
  has_of (N := ["_law_size", "_law_item", "_law_one"]) (m := d__law_are_numbers) T.d__law_are_numbers sc__law_are_numbers fun f cdv A outer s H E hr hg0 =>
    have hu1 : (A.deeper (PyProof.Rows.envOfC "_law_are_numbers" (defScope s__law_are_numbers) s.heap.objs.size f cdv)).units + 64 < cLine := hr.units
    have hu2 : (A.deeper (PyProof.Rows.envOfC "_law_are_numbers" (defScope s__law_are_numbers) s.heap.objs.size f cdv)).units + 66 < cLine := by have := hr.un; omega
    (dss_one (ds_ret (de_and (de_callB call_isi act_isi (by rfl) T.z_isinstance (by decide +kernel) (da_cons (de_var 1) (da_cons (de_ty (by rfl) T.z_list (by decide +kernel)) da_nil))) (de_and (de_cmp (opr_eq hu1) act_eq (de_callB call_len act_len (by rfl) T.z_len PySem.boot_len (da_cons (de_var 1) da_nil)) (de_var 0) (nomark _)) (de_one (de_cmp (opr_eq hu1) act_eq (de_lc [("_law_one", 2)] rfl sc__law_are_numbers.nd (di_list (de_var 1)) (blkOk_by (N := ["_law_size", "_law_item", "_law_one"]) (sc := defScope s__law_are_numbers) (by decide +kernel)) (fun _ _ _ _ _ => (dg_name 2 sc__law_are_numbers.nd)) (fun _ _ _ _ _ => (dts_one (dt_not (dt_val (de_fn h__law_is_fraction hr (by decide) hg0 takes_no (by rfl) (da_cons (de_var 2) da_nil)))))) (fun _ _ _ _ _ => (de_var 2))) (de_lst da_nil) (nomark _)))))))
theorem sc__law_is_granted : FnScope ["_law_size", "_law_asked", "_law_item"] ["_law_size", "_law_asked", "_law_item"] (defScope s__law_is_granted) := ⟨rfl, rfl, rfl, by decide +kernel, rfl, by decide +kernel, by decide +kernel⟩
set_option maxHeartbeats 1000000 in
theorem ok__law_is_granted (T : Txt K mg) (h__law_grants : Has P w K mg base 4 "_law_grants" s__law_grants ["_law_asked", "_law_some_here"] f__law_grants) (h__law_carries : Has P w K mg base 3 "_law_carries" s__law_carries ["_law_asked", "_law_row", "_law_item"] f__law_carries) (h__law_are_numbers : Has P w K mg base 3 "_law_are_numbers" s__law_are_numbers ["_law_size", "_law_item"] f__law_are_numbers) : Has P w K mg base 5 "_law_is_granted" s__law_is_granted ["_law_size", "_law_asked", "_law_item"] f__law_is_granted :=
  has_of (N := ["_law_size", "_law_asked", "_law_item"]) (m := d__law_is_granted) T.d__law_is_granted sc__law_is_granted fun f cdv A outer s H E hr hg0 =>
    have hu1 : (A.deeper (PyProof.Rows.envOfC "_law_is_granted" (defScope s__law_is_granted) s.heap.objs.size f cdv)).units + 64 < cLine := hr.units
    have hu2 : (A.deeper (PyProof.Rows.envOfC "_law_is_granted" (defScope s__law_is_granted) s.heap.objs.size f cdv)).units + 66 < cLine := by have := hr.un; omega
    (dss_cons (ds_if (PW.pt (dw_or (dt_not (dt_val (de_callB call_isi act_isi (by rfl) T.z_isinstance (by decide +kernel) (da_cons (de_var 2) (da_cons (de_ty (by rfl) T.z_tuple (by decide +kernel)) da_nil))))) (dw_or (dt_cmp (opr_ne hu1) act_ne (de_callB call_len act_len (by rfl) T.z_len PySem.boot_len (da_cons (de_var 2) da_nil)) de_int (nomark _)) (dw_or1 (dt_not (dt_val (de_callB call_isi act_isi (by rfl) T.z_isinstance (by decide +kernel) (da_cons (de_ix ix_seq act_ix (de_var 2) de_int) (da_cons (de_ty (by rfl) T.z_str (by decide +kernel)) da_nil))))))))) (dss_one (ds_ret de_bl)) dss_nil) (dss_cons (ds_if (dt_cmp (opr_eq hu1) act_eq (de_ix ix_seq act_ix (de_var 2) de_int) de_str (nomark _)) (dss_one (ds_ret (de_and (de_fn h__law_are_numbers hr (by decide) hg0 (takes_of rfl rfl rfl rfl) (by rfl) (da_cons (de_var 0) (da_cons (de_ix ix_seq act_ix (de_var 2) de_int) da_nil))) (de_one (de_fn h__law_grants hr (by decide) hg0 (takes_of rfl rfl rfl rfl) (by rfl) (da_cons (de_var 1) (da_cons (de_ix ix_seq act_ix (de_var 2) de_int) da_nil))))))) dss_nil) (dss_one (ds_ret (de_and (de_cmp (opr_eq hu1) act_eq (de_ix ix_seq act_ix (de_var 2) de_int) de_str (nomark _)) (de_one (de_fn h__law_carries hr (by decide) hg0 (takes_of rfl rfl rfl rfl) (by rfl) (da_cons (de_var 1) (da_cons (de_bin opr_add act_add (de_lst (da_cons (de_un un_neg act_neg de_int) da_nil)) (de_bin opr_mul act_mul (de_lst (da_cons de_int da_nil)) (de_var 0))) (da_cons (de_ix ix_seq act_ix (de_var 2) de_int) da_nil))))))))))
theorem sc__law_is_follows : FnScope ["_law_size", "_law_asked", "_law_row", "_law_item"] ["_law_size", "_law_asked", "_law_row", "_law_item"] (defScope s__law_is_follows) := ⟨rfl, rfl, rfl, by decide +kernel, rfl, by decide +kernel, by decide +kernel⟩
set_option maxHeartbeats 1000000 in
theorem ok__law_is_follows (T : Txt K mg) (h__law_total : Has P w K mg base 3 "_law_total" s__law_total ["_law_row", "_law_some_here"] f__law_total) (h__law_grants : Has P w K mg base 4 "_law_grants" s__law_grants ["_law_asked", "_law_some_here"] f__law_grants) (h__law_carries : Has P w K mg base 3 "_law_carries" s__law_carries ["_law_asked", "_law_row", "_law_item"] f__law_carries) (h__law_are_numbers : Has P w K mg base 3 "_law_are_numbers" s__law_are_numbers ["_law_size", "_law_item"] f__law_are_numbers) : Has P w K mg base 5 "_law_is_follows" s__law_is_follows ["_law_size", "_law_asked", "_law_row", "_law_item"] f__law_is_follows :=
  has_of (N := ["_law_size", "_law_asked", "_law_row", "_law_item"]) (m := d__law_is_follows) T.d__law_is_follows sc__law_is_follows fun f cdv A outer s H E hr hg0 =>
    have hu1 : (A.deeper (PyProof.Rows.envOfC "_law_is_follows" (defScope s__law_is_follows) s.heap.objs.size f cdv)).units + 64 < cLine := hr.units
    have hu2 : (A.deeper (PyProof.Rows.envOfC "_law_is_follows" (defScope s__law_is_follows) s.heap.objs.size f cdv)).units + 66 < cLine := by have := hr.un; omega
    (dss_cons (ds_if (PW.pt (dw_or (dt_not (dt_val (de_callB call_isi act_isi (by rfl) T.z_isinstance (by decide +kernel) (da_cons (de_var 3) (da_cons (de_ty (by rfl) T.z_tuple (by decide +kernel)) da_nil))))) (dw_or (dt_cmp (opr_ne hu1) act_ne (de_callB call_len act_len (by rfl) T.z_len PySem.boot_len (da_cons (de_var 3) da_nil)) de_int (nomark _)) (dw_or1 (dt_not (dt_val (de_callB call_isi act_isi (by rfl) T.z_isinstance (by decide +kernel) (da_cons (de_ix ix_seq act_ix (de_var 3) de_int) (da_cons (de_ty (by rfl) T.z_str (by decide +kernel)) da_nil))))))))) (dss_one (ds_ret de_bl)) dss_nil) (dss_cons (ds_if (dt_cmp (opr_eq hu1) act_eq (de_ix ix_seq act_ix (de_var 3) de_int) de_str (nomark _)) (dss_cons (ds_if (PW.pt (dw_or (dt_not (dt_val (de_fn h__law_are_numbers hr (by decide) hg0 (takes_of rfl rfl rfl rfl) (by rfl) (da_cons (de_var 0) (da_cons (de_ix ix_seq act_ix (de_var 3) de_int) da_nil))))) (dw_or1 (dt_not (dt_val (de_fn h__law_grants hr (by decide) hg0 (takes_of rfl rfl rfl rfl) (by rfl) (da_cons (de_var 1) (da_cons (de_ix ix_seq act_ix (de_var 3) de_int) da_nil)))))))) (dss_one (ds_ret de_bl)) dss_nil) (dss_one (ds_ret (de_cmp op_lt act_lt (de_ix ix_seq act_ix (de_fn h__law_total hr (by decide) hg0 (takes_of rfl rfl rfl rfl) (by rfl) (da_cons (de_var 2) (da_cons (de_ix ix_seq act_ix (de_var 3) de_int) da_nil))) de_int) de_int (nomark _))))) dss_nil) (dss_cons (ds_if (dt_cmp (opr_eq hu1) act_eq (de_ix ix_seq act_ix (de_var 3) de_int) de_str (nomark _)) (dss_one (ds_ret (de_fn h__law_carries hr (by decide) hg0 (takes_of rfl rfl rfl rfl) (by rfl) (da_cons (de_var 1) (da_cons (de_var 2) (da_cons (de_ix ix_seq act_ix (de_var 3) de_int) da_nil)))))) dss_nil) (dss_one (ds_ret (de_and (de_cmp (opr_eq hu1) act_eq (de_ix ix_seq act_ix (de_var 3) de_int) de_str (nomark _)) (de_one (de_fn h__law_carries hr (by decide) hg0 (takes_of rfl rfl rfl rfl) (by rfl) (da_cons (de_var 1) (da_cons (de_bin opr_add act_add (de_lst (da_cons (de_un un_neg act_neg de_int) da_nil)) (de_bin opr_mul act_mul (de_lst (da_cons de_int da_nil)) (de_var 0))) (da_cons (de_ix ix_seq act_ix (de_var 3) de_int) da_nil)))))))))))
theorem sc__law_number : FnScope ["_law_pool_here", "_law_number_here"] ["_law_pool_here"] (defScope s__law_number) := ⟨rfl, rfl, rfl, by decide +kernel, rfl, by decide +kernel, by decide +kernel⟩
set_option maxHeartbeats 1000000 in
theorem ok__law_number (T : Txt K mg) (h__law_take : Has P w K mg base 1 "_law_take" s__law_take ["_law_pool_here", "_law_wide"] f__law_take) : Has P w K mg base 2 "_law_number" s__law_number ["_law_pool_here"] f__law_number :=
  has_of (N := ["_law_pool_here", "_law_number_here"]) (m := d__law_number) T.d__law_number sc__law_number fun f cdv A outer s H E hr hg0 =>
    have hu1 : (A.deeper (PyProof.Rows.envOfC "_law_number" (defScope s__law_number) s.heap.objs.size f cdv)).units + 64 < cLine := hr.units
    have hu2 : (A.deeper (PyProof.Rows.envOfC "_law_number" (defScope s__law_number) s.heap.objs.size f cdv)).units + 66 < cLine := by have := hr.un; omega
    (dss_cons (ds_set 1 sc__law_number.nd (de_ix ix_seq act_ix (de_lst (da_cons (de_fn h__law_take hr (by decide) hg0 (takes_of rfl rfl rfl rfl) (by rfl) (da_cons (de_var 0) (da_cons de_int da_nil))) (da_cons (de_fn h__law_take hr (by decide) hg0 (takes_of rfl rfl rfl rfl) (by rfl) (da_cons (de_var 0) (da_cons de_int da_nil))) (da_cons (de_fn h__law_take hr (by decide) hg0 (takes_of rfl rfl rfl rfl) (by rfl) (da_cons (de_var 0) (da_cons de_int da_nil))) (da_cons (de_fn h__law_take hr (by decide) hg0 (takes_of rfl rfl rfl rfl) (by rfl) (da_cons (de_var 0) (da_cons de_int da_nil))) da_nil))))) (de_fn h__law_take hr (by decide) hg0 (takes_of rfl rfl rfl rfl) (by rfl) (da_cons (de_var 0) (da_cons de_int da_nil))))) (dss_one (ds_ret (de_ix ix_seq act_ix (de_lst (da_cons (de_var 1) (da_cons (de_bin op_sub act_sub de_int (de_var 1)) da_nil))) (de_fn h__law_take hr (by decide) hg0 (takes_of rfl rfl rfl rfl) (by rfl) (da_cons (de_var 0) (da_cons de_int da_nil)))))))
theorem sc__law_wish : FnScope ["_law_pool_here", "_law_size", "_law_row", "_law_k"] ["_law_pool_here", "_law_size"] (defScope s__law_wish) := ⟨rfl, rfl, rfl, by decide +kernel, rfl, by decide +kernel, by decide +kernel⟩
set_option maxHeartbeats 1000000 in
theorem ok__law_wish (T : Txt K mg) (h__law_take : Has P w K mg base 1 "_law_take" s__law_take ["_law_pool_here", "_law_wide"] f__law_take) (h__law_number : Has P w K mg base 2 "_law_number" s__law_number ["_law_pool_here"] f__law_number) : Has P w K mg base 3 "_law_wish" s__law_wish ["_law_pool_here", "_law_size"] f__law_wish :=
  has_of (N := ["_law_pool_here", "_law_size", "_law_row", "_law_k"]) (m := d__law_wish) T.d__law_wish sc__law_wish fun f cdv A outer s H E hr hg0 =>
    have hu1 : (A.deeper (PyProof.Rows.envOfC "_law_wish" (defScope s__law_wish) s.heap.objs.size f cdv)).units + 64 < cLine := hr.units
    have hu2 : (A.deeper (PyProof.Rows.envOfC "_law_wish" (defScope s__law_wish) s.heap.objs.size f cdv)).units + 66 < cLine := by have := hr.un; omega
    (dss_cons (ds_setLc 2 [("_law_k", 3)] rfl sc__law_wish.nd (di_rng1 (by rfl) T.z_range (da_cons (de_bin opr_add act_add (de_var 1) de_int) da_nil)) (blkOk_by (N := ["_law_pool_here", "_law_size", "_law_row", "_law_k"]) (sc := defScope s__law_wish) (by decide +kernel)) (fun _ _ _ _ _ => (dg_name 3 sc__law_wish.nd)) (fun _ _ _ _ _ => dts_nil) (fun _ _ _ _ _ => (de_bin opr_mul act_mul (de_fn h__law_number hr (by decide) hg0 takes_no (by rfl) (da_cons (de_var 0) da_nil)) (de_callTy call_int1 act_int (by rfl) T.z_int (by decide +kernel) (da_cons (de_cmp op_gt act_gt (de_fn h__law_take hr (by decide) hg0 takes_no (by rfl) (da_cons (de_var 0) (da_cons de_int da_nil))) de_int (nomark _)) da_nil))))) (dss_one (ds_ret (de_tup (da_cons (de_ix ix_seq act_ix (de_lst (da_cons de_str (da_cons de_str (da_cons de_str da_nil)))) (de_fn h__law_take hr (by decide) hg0 (takes_of rfl rfl rfl rfl) (by rfl) (da_cons (de_var 0) (da_cons de_int da_nil)))) (da_cons (de_var 2) da_nil))))))
theorem sc__law_some : FnScope ["_law_pool_here", "_law_size", "_law_found", "_law_k"] ["_law_pool_here", "_law_size"] (defScope s__law_some) := ⟨rfl, rfl, rfl, by decide +kernel, rfl, by decide +kernel, by decide +kernel⟩
set_option maxHeartbeats 1000000 in
theorem ok__law_some (T : Txt K mg) (h__law_take : Has P w K mg base 1 "_law_take" s__law_take ["_law_pool_here", "_law_wide"] f__law_take) (h__law_low : Has P w K mg base 1 "_law_low" s__law_low ["_law_upper", "_law_lower"] f__law_low) : Has P w K mg base 2 "_law_some" s__law_some ["_law_pool_here", "_law_size"] f__law_some :=
  has_of (N := ["_law_pool_here", "_law_size", "_law_found", "_law_k"]) (m := d__law_some) T.d__law_some sc__law_some fun f cdv A outer s H E hr hg0 =>
    have hu1 : (A.deeper (PyProof.Rows.envOfC "_law_some" (defScope s__law_some) s.heap.objs.size f cdv)).units + 64 < cLine := hr.units
    have hu2 : (A.deeper (PyProof.Rows.envOfC "_law_some" (defScope s__law_some) s.heap.objs.size f cdv)).units + 66 < cLine := by have := hr.un; omega
    (dss_cons (ds_set 2 sc__law_some.nd (de_lstC da_nil)) (dss_cons (ds_for (passes_of rfl) rfl (di_rng1 (by rfl) T.z_range (da_cons (de_var 1) da_nil)) (dg_name 3 sc__law_some.nd) (dss_one (ds_expr (de_bm PySem.F.plainAttrs_list PySem.F.slot_list_append PySem.F.type_list_append mt_append act_append ty_list (de_var 2) (da_cons (de_fn h__law_low hr (by decide) hg0 (takes_of rfl rfl rfl rfl) (by rfl) (da_cons (de_bin op_sub act_sub (de_fn h__law_take hr (by decide) hg0 (takes_of rfl rfl rfl rfl) (by rfl) (da_cons (de_var 0) (da_cons de_int da_nil))) de_int) (da_cons (de_bin opr_add act_add de_int (de_ix ix_seq act_ix (de_lst (da_cons de_int (da_cons de_int (da_cons de_int (da_cons de_int da_nil))))) (de_fn h__law_take hr (by decide) hg0 (takes_of rfl rfl rfl rfl) (by rfl) (da_cons (de_var 0) (da_cons de_int da_nil))))) da_nil))) da_nil))))) (dss_one (ds_ret (de_frz (de_var 2))))))
theorem sc__law_moved : FnScope ["_law_pool_here", "_law_wish_here", "_law_some_here", "_law_total_here", "_law_spare", "_law_word", "_law_row", "_law_factor"] ["_law_pool_here", "_law_wish_here", "_law_some_here"] (defScope s__law_moved) := ⟨rfl, rfl, rfl, by decide +kernel, rfl, by decide +kernel, by decide +kernel⟩
set_option maxHeartbeats 1000000 in
theorem ok__law_moved (T : Txt K mg) (h__law_take : Has P w K mg base 1 "_law_take" s__law_take ["_law_pool_here", "_law_wide"] f__law_take) (h__law_total : Has P w K mg base 3 "_law_total" s__law_total ["_law_row", "_law_some_here"] f__law_total) : Has P w K mg base 4 "_law_moved" s__law_moved ["_law_pool_here", "_law_wish_here", "_law_some_here"] f__law_moved :=
  has_of (N := ["_law_pool_here", "_law_wish_here", "_law_some_here", "_law_total_here", "_law_spare", "_law_word", "_law_row", "_law_factor"]) (m := d__law_moved) T.d__law_moved sc__law_moved fun f cdv A outer s H E hr hg0 =>
    have hu1 : (A.deeper (PyProof.Rows.envOfC "_law_moved" (defScope s__law_moved) s.heap.objs.size f cdv)).units + 64 < cLine := hr.units
    have hu2 : (A.deeper (PyProof.Rows.envOfC "_law_moved" (defScope s__law_moved) s.heap.objs.size f cdv)).units + 66 < cLine := by have := hr.un; omega
    (dss_cons (ds_asg (de_var 1) (dg_tup rfl (dgs_cons (dg_name 5 sc__law_moved.nd) (dgs_cons (dg_name 6 sc__law_moved.nd) dgs_nil)))) (dss_cons (ds_set 3 sc__law_moved.nd (de_fn h__law_total hr (by decide) hg0 (takes_of rfl rfl rfl rfl) (by rfl) (da_cons (de_bin opr_add act_add (de_lst (da_cons de_int da_nil)) (de_slice slr_all act_sl (de_var 6) (do_some de_int) do_none)) (da_cons (de_var 2) da_nil)))) (dss_cons (ds_set 4 sc__law_moved.nd (de_bin opr_mul act_mul (de_ix ix_seq act_ix (de_lst (da_cons de_int (da_cons de_int (da_cons de_int (da_cons (de_fn h__law_take hr (by decide) hg0 (takes_of rfl rfl rfl rfl) (by rfl) (da_cons (de_var 0) (da_cons de_int da_nil))) da_nil))))) (de_fn h__law_take hr (by decide) hg0 (takes_of rfl rfl rfl rfl) (by rfl) (da_cons (de_var 0) (da_cons de_int da_nil)))) (de_callTy call_int1 act_int (by rfl) T.z_int (by decide +kernel) (da_cons (de_cmp (opr_eq hu1) act_eq (de_var 5) de_str (nomark _)) da_nil)))) (dss_one (ds_ret (de_tup (da_cons (de_var 5) (da_cons (de_bin opr_add act_add (de_lst (da_cons (de_bin op_sub act_sub (de_var 4) (de_ix ix_seq act_ix (de_var 3) de_int)) da_nil)) (de_lc [("_law_factor", 7)] rfl sc__law_moved.nd (di_list (de_slice slr_all act_sl (de_var 6) (do_some de_int) do_none)) (blkOk_by (N := ["_law_pool_here", "_law_wish_here", "_law_some_here", "_law_total_here", "_law_spare", "_law_word", "_law_row", "_law_factor"]) (sc := defScope s__law_moved) (by decide +kernel)) (fun _ _ _ _ _ => (dg_name 7 sc__law_moved.nd)) (fun _ _ _ _ _ => dts_nil) (fun _ _ _ _ _ => (de_bin opr_mul act_mul (de_var 7) (de_ix ix_seq act_ix (de_var 3) de_int))))) da_nil))))))))
theorem sc__law_made_case : FnScope ["_law_pool_here", "_law_size", "_law_some_here", "_law_asked", "_law_row", "_law_total_here", "_law_items", "_law_parts", "_law_against", "_law_turn", "_law_k", "_law_wish_here", "_law_place", "_law_part", "_law_word", "_law_own"] ["_law_pool_here"] (defScope s__law_made_case) := ⟨rfl, rfl, rfl, by decide +kernel, rfl, by decide +kernel, by decide +kernel⟩
set_option maxHeartbeats 1000000 in
theorem ok__law_made_case (T : Txt K mg) (h__law_take : Has P w K mg base 1 "_law_take" s__law_take ["_law_pool_here", "_law_wide"] f__law_take) (h__law_total : Has P w K mg base 3 "_law_total" s__law_total ["_law_row", "_law_some_here"] f__law_total) (h__law_number : Has P w K mg base 2 "_law_number" s__law_number ["_law_pool_here"] f__law_number) (h__law_wish : Has P w K mg base 3 "_law_wish" s__law_wish ["_law_pool_here", "_law_size"] f__law_wish) (h__law_some : Has P w K mg base 2 "_law_some" s__law_some ["_law_pool_here", "_law_size"] f__law_some) (h__law_moved : Has P w K mg base 4 "_law_moved" s__law_moved ["_law_pool_here", "_law_wish_here", "_law_some_here"] f__law_moved) : Has P w K mg base 5 "_law_made_case" s__law_made_case ["_law_pool_here"] f__law_made_case :=
  has_of (N := ["_law_pool_here", "_law_size", "_law_some_here", "_law_asked", "_law_row", "_law_total_here", "_law_items", "_law_parts", "_law_against", "_law_turn", "_law_k", "_law_wish_here", "_law_place", "_law_part", "_law_word", "_law_own"]) (m := d__law_made_case) T.d__law_made_case sc__law_made_case fun f cdv A outer s H E hr hg0 =>
    have hu1 : (A.deeper (PyProof.Rows.envOfC "_law_made_case" (defScope s__law_made_case) s.heap.objs.size f cdv)).units + 64 < cLine := hr.units
    have hu2 : (A.deeper (PyProof.Rows.envOfC "_law_made_case" (defScope s__law_made_case) s.heap.objs.size f cdv)).units + 66 < cLine := by have := hr.un; omega
    (dss_cons (ds_set 1 sc__law_made_case.nd (de_fn h__law_take hr (by decide) hg0 (takes_of rfl rfl rfl rfl) (by rfl) (da_cons (de_var 0) (da_cons de_int da_nil)))) (dss_cons (ds_set 2 sc__law_made_case.nd (de_fn h__law_some hr (by decide) hg0 (takes_of rfl rfl rfl rfl) (by rfl) (da_cons (de_var 0) (da_cons (de_var 1) da_nil)))) (dss_cons (ds_set 3 sc__law_made_case.nd (de_lc [("_law_turn", 9)] rfl sc__law_made_case.nd (di_rng1 (by rfl) T.z_range (da_cons (de_fn h__law_take hr (by decide) hg0 (takes_of rfl rfl rfl rfl) (by rfl) (da_cons (de_var 0) (da_cons de_int da_nil))) da_nil)) (blkOk_by (N := ["_law_pool_here", "_law_size", "_law_some_here", "_law_asked", "_law_row", "_law_total_here", "_law_items", "_law_parts", "_law_against", "_law_turn", "_law_k", "_law_wish_here", "_law_place", "_law_part", "_law_word", "_law_own"]) (sc := defScope s__law_made_case) (by decide +kernel)) (fun _ _ _ _ _ => (dg_name 9 sc__law_made_case.nd)) (fun _ _ _ _ _ => dts_nil) (fun _ _ _ _ _ => (de_fn h__law_moved hr (by decide) hg0 takes_no (by rfl) (da_cons (de_var 0) (da_cons (de_fn h__law_wish hr (by decide) hg0 takes_no (by rfl) (da_cons (de_var 0) (da_cons (de_var 1) da_nil))) (da_cons (de_var 2) da_nil))))))) (dss_cons (ds_setLcC 4 [("_law_k", 10)] rfl sc__law_made_case.nd (di_rng1 (by rfl) T.z_range (da_cons (de_bin opr_add act_add (de_var 1) de_int) da_nil)) (blkOk_by (N := ["_law_pool_here", "_law_size", "_law_some_here", "_law_asked", "_law_row", "_law_total_here", "_law_items", "_law_parts", "_law_against", "_law_turn", "_law_k", "_law_wish_here", "_law_place", "_law_part", "_law_word", "_law_own"]) (sc := defScope s__law_made_case) (by decide +kernel)) (fun _ _ _ _ _ => (dg_name 10 sc__law_made_case.nd)) (fun _ _ _ _ _ => dts_nil) (fun _ _ _ _ _ => (de_fn h__law_number hr (by decide) hg0 takes_no (by rfl) (da_cons (de_var 0) da_nil)))) (dss_cons (ds_set 5 sc__law_made_case.nd (de_fn h__law_total hr (by decide) hg0 (takes_of rfl rfl rfl rfl) (by rfl) (da_cons (de_var 4) (da_cons (de_var 2) da_nil)))) (dss_cons (ds_set 6 sc__law_made_case.nd (de_lst (da_cons (de_tup (da_cons de_str (da_cons (de_callTy call_list_of act_list (by rfl) T.z_list (by decide +kernel) (da_cons (de_var 2) da_nil)) da_nil))) (da_cons (de_tup (da_cons de_str (da_cons (de_callTy call_list_of act_list (by rfl) T.z_list (by decide +kernel) (da_cons (de_var 2) da_nil)) da_nil))) da_nil)))) (dss_cons (ds_sub set_list act_setD (de_bin op_sub act_sub (de_bin op_sub act_sub (de_ix ix_seq act_ix (de_var 4) de_int) (de_bin opr_fdiv act_fdiv (de_ix ix_seq act_ix (de_var 5) de_int) (de_ix ix_seq act_ix (de_var 5) de_int))) (de_ix ix_seq act_ix (de_lst (da_cons de_int (da_cons de_int da_nil))) (de_fn h__law_take hr (by decide) hg0 (takes_of rfl rfl rfl rfl) (by rfl) (da_cons (de_var 0) (da_cons de_int da_nil))))) (de_var 4) de_int (pg_sub (de_var 4) de_int set_list)) (dss_cons (ds_if (dt_cmp (opr_eq hu1) act_eq (de_fn h__law_take hr (by decide) hg0 (takes_of rfl rfl rfl rfl) (by rfl) (da_cons (de_var 0) (da_cons de_int da_nil))) de_int (nomark _)) (dss_cons (ds_set 7 sc__law_made_case.nd (de_lc [("_law_wish_here", 11)] rfl sc__law_made_case.nd (di_list (de_var 3)) (blkOk_by (N := ["_law_pool_here", "_law_size", "_law_some_here", "_law_asked", "_law_row", "_law_total_here", "_law_items", "_law_parts", "_law_against", "_law_turn", "_law_k", "_law_wish_here", "_law_place", "_law_part", "_law_word", "_law_own"]) (sc := defScope s__law_made_case) (by decide +kernel)) (fun _ _ _ _ _ => (dg_name 11 sc__law_made_case.nd)) (fun _ _ _ _ _ => dts_nil) (fun _ _ _ _ _ => (de_fn h__law_take hr (by decide) hg0 takes_no (by rfl) (da_cons (de_var 0) (da_cons de_int da_nil)))))) (dss_cons (ds_setLcC 4 [("_law_place", 12)] rfl sc__law_made_case.nd (di_rng1 (by rfl) T.z_range (da_cons (de_bin opr_add act_add (de_var 1) de_int) da_nil)) (blkOk_by (N := ["_law_pool_here", "_law_size", "_law_some_here", "_law_asked", "_law_row", "_law_total_here", "_law_items", "_law_parts", "_law_against", "_law_turn", "_law_k", "_law_wish_here", "_law_place", "_law_part", "_law_word", "_law_own"]) (sc := defScope s__law_made_case) (by decide +kernel)) (fun _ _ _ _ _ => (dg_name 12 sc__law_made_case.nd)) (fun _ _ _ _ _ => dts_nil) (fun _ _ _ _ _ => (de_callB (cr_sum rfl) act_sum (by rfl) T.z_sum (by decide +kernel) (da_cons (de_lc [("_law_word", 14), ("_law_own", 15), ("_law_part", 13)] rfl sc__law_made_case.nd (di_zip (by rfl) T.z_zip (da_cons (de_var 3) (da_cons (de_var 7) da_nil))) (blkOk_in (N := ["_law_pool_here", "_law_size", "_law_some_here", "_law_asked", "_law_row", "_law_total_here", "_law_items", "_law_parts", "_law_against", "_law_turn", "_law_k", "_law_wish_here", "_law_place", "_law_part", "_law_word", "_law_own"]) (by decide +kernel)) (fun _ _ _ _ _ => (dg_tup rfl (dgs_cons (dg_tup rfl (dgs_cons (dg_name 14 sc__law_made_case.nd) (dgs_cons (dg_name 15 sc__law_made_case.nd) dgs_nil))) (dgs_cons (dg_name 13 sc__law_made_case.nd) dgs_nil)))) (fun _ _ _ _ _ => dts_nil) (fun _ _ _ _ _ => (de_bin opr_mul act_mul (de_ix ix_seq act_ix (de_var 15) (de_var 12)) (de_var 13)))) da_nil)))) (dss_one (ds_set 6 sc__law_made_case.nd (de_bin opr_add act_add (de_var 6) (de_lst (da_cons (de_tup (da_cons de_str (da_cons (de_lc [("_law_part", 13)] rfl sc__law_made_case.nd (di_list (de_var 7)) (blkOk_by (N := ["_law_pool_here", "_law_size", "_law_some_here", "_law_asked", "_law_row", "_law_total_here", "_law_items", "_law_parts", "_law_against", "_law_turn", "_law_k", "_law_wish_here", "_law_place", "_law_part", "_law_word", "_law_own"]) (sc := defScope s__law_made_case) (by decide +kernel)) (fun _ _ _ _ _ => (dg_name 13 sc__law_made_case.nd)) (fun _ _ _ _ _ => dts_nil) (fun _ _ _ _ _ => (de_tup (da_cons (de_var 13) (da_cons de_int da_nil))))) da_nil))) da_nil))))))) dss_nil) (dss_cons (ds_if (dt_cmp (opr_eq hu1) act_eq (de_fn h__law_take hr (by decide) hg0 (takes_of rfl rfl rfl rfl) (by rfl) (da_cons (de_var 0) (da_cons de_int da_nil))) de_int (nomark _)) (dss_cons (ds_setLc 8 [("_law_place", 12)] rfl sc__law_made_case.nd (di_rng1 (by rfl) T.z_range (da_cons (de_bin opr_add act_add (de_var 1) de_int) da_nil)) (blkOk_by (N := ["_law_pool_here", "_law_size", "_law_some_here", "_law_asked", "_law_row", "_law_total_here", "_law_items", "_law_parts", "_law_against", "_law_turn", "_law_k", "_law_wish_here", "_law_place", "_law_part", "_law_word", "_law_own"]) (sc := defScope s__law_made_case) (by decide +kernel)) (fun _ _ _ _ _ => (dg_name 12 sc__law_made_case.nd)) (fun _ _ _ _ _ => dts_nil) (fun _ _ _ _ _ => (de_bin op_sub act_sub de_int (de_callB (cr_sum rfl) act_sum (by rfl) T.z_sum (by decide +kernel) (da_cons (de_lc [("_law_word", 14), ("_law_own", 15)] rfl sc__law_made_case.nd (di_list (de_var 3)) (blkOk_in (N := ["_law_pool_here", "_law_size", "_law_some_here", "_law_asked", "_law_row", "_law_total_here", "_law_items", "_law_parts", "_law_against", "_law_turn", "_law_k", "_law_wish_here", "_law_place", "_law_part", "_law_word", "_law_own"]) (by decide +kernel)) (fun _ _ _ _ _ => (dg_tup rfl (dgs_cons (dg_name 14 sc__law_made_case.nd) (dgs_cons (dg_name 15 sc__law_made_case.nd) dgs_nil)))) (fun _ _ _ _ _ => dts_nil) (fun _ _ _ _ _ => (de_ix ix_seq act_ix (de_var 15) (de_var 12)))) da_nil))))) (dss_cons (ds_set 3 sc__law_made_case.nd (de_bin opr_add act_add (de_var 3) (de_lst (da_cons (de_tup (da_cons de_str (da_cons (de_bin opr_add act_add (de_lst (da_cons (de_bin op_sub act_sub (de_ix ix_seq act_ix (de_var 8) de_int) de_int) da_nil)) (de_slice slr_all act_sl (de_var 8) (do_some de_int) do_none)) da_nil))) da_nil)))) (dss_one (ds_set 6 sc__law_made_case.nd (de_bin opr_add act_add (de_var 6) (de_lst (da_cons (de_tup (da_cons de_str (da_cons (de_bin opr_mul act_mul (de_lst (da_cons (de_tup (da_cons de_int (da_cons de_int da_nil))) da_nil)) (de_callB call_len act_len (by rfl) T.z_len PySem.boot_len (da_cons (de_var 3) da_nil))) da_nil))) (da_cons (de_tup (da_cons de_str (da_cons (de_bin opr_mul act_mul (de_lst (da_cons (de_tup (da_cons de_int (da_cons de_int da_nil))) da_nil)) (de_callB call_len act_len (by rfl) T.z_len PySem.boot_len (da_cons (de_var 3) da_nil))) da_nil))) da_nil)))))))) dss_nil) (dss_one (ds_ret (de_tup (da_cons (de_var 1) (da_cons (de_var 3) (da_cons (de_frz (de_var 4)) (da_cons (de_var 6) da_nil))))))))))))))))
theorem sc__law_bent : FnScope ["_law_pool_here", "_law_item", "_law_at", "_law_odd", "_law_ways", "_law_word", "_law_some_here"] ["_law_pool_here", "_law_item"] (defScope s__law_bent) := ⟨rfl, rfl, rfl, by decide +kernel, rfl, by decide +kernel, by decide +kernel⟩
set_option maxHeartbeats 1000000 in
theorem ok__law_bent (T : Txt K mg) (h__law_take : Has P w K mg base 1 "_law_take" s__law_take ["_law_pool_here", "_law_wide"] f__law_take) : Has P w K mg base 2 "_law_bent" s__law_bent ["_law_pool_here", "_law_item"] f__law_bent :=
  has_of (N := ["_law_pool_here", "_law_item", "_law_at", "_law_odd", "_law_ways", "_law_word", "_law_some_here"]) (m := d__law_bent) T.d__law_bent sc__law_bent fun f cdv A outer s H E hr hg0 =>
    have hu1 : (A.deeper (PyProof.Rows.envOfC "_law_bent" (defScope s__law_bent) s.heap.objs.size f cdv)).units + 64 < cLine := hr.units
    have hu2 : (A.deeper (PyProof.Rows.envOfC "_law_bent" (defScope s__law_bent) s.heap.objs.size f cdv)).units + 66 < cLine := by have := hr.un; omega
    (dss_cons (ds_asg (de_var 1) (dg_tup rfl (dgs_cons (dg_name 5 sc__law_bent.nd) (dgs_cons (dg_name 6 sc__law_bent.nd) dgs_nil)))) (dss_cons (ds_set 2 sc__law_bent.nd (de_fn h__law_take hr (by decide) hg0 (takes_of rfl rfl rfl rfl) (by rfl) (da_cons (de_var 0) (da_cons (de_bin opr_add act_add (de_callB call_len act_len (by rfl) T.z_len PySem.boot_len (da_cons (de_var 6) da_nil)) de_int) da_nil)))) (dss_cons (ds_set 3 sc__law_bent.nd (de_ix ix_seq act_ix (de_lst (da_cons de_non (da_cons de_bl (da_cons (de_tup (da_cons de_int (da_cons de_int da_nil))) (da_cons (de_tup (da_cons de_int (da_cons de_int da_nil))) (da_cons de_int (da_cons de_int (da_cons (de_tup (da_cons de_int (da_cons de_int da_nil))) (da_cons (de_tup (da_cons (de_un un_neg act_neg de_int) (da_cons de_int da_nil))) (da_cons de_str (da_cons (de_tup (da_cons de_int (da_cons de_int da_nil))) (da_cons (de_tup (da_cons de_int (da_cons de_int da_nil))) da_nil)))))))))))) (de_fn h__law_take hr (by decide) hg0 (takes_of rfl rfl rfl rfl) (by rfl) (da_cons (de_var 0) (da_cons de_int da_nil))))) (dss_cons (ds_set 4 sc__law_bent.nd (de_lst (da_cons (de_tup (da_cons de_str (da_cons (de_var 6) da_nil))) (da_cons (de_tup (da_cons de_str (da_cons (de_var 6) da_nil))) (da_cons (de_tup (da_cons de_str (da_cons (de_var 6) da_nil))) (da_cons (de_tup (da_cons de_str (da_cons (de_var 6) da_nil))) (da_cons (de_tup (da_cons (de_var 5) (da_cons (de_slice slr_all act_sl (de_var 6) do_none (do_some (de_var 2))) da_nil))) (da_cons (de_lst (da_cons (de_var 5) (da_cons (de_var 6) da_nil))) da_nil)))))))) (dss_cons (ds_set 4 sc__law_bent.nd (de_bin opr_add act_add (de_var 4) (de_lst (da_cons (de_tup (da_cons (de_var 5) (da_cons (de_bin opr_add act_add (de_var 6) (de_lst (da_cons (de_var 3) da_nil))) da_nil))) (da_cons (de_tup (da_cons (de_var 5) da_nil)) (da_cons (de_tup (da_cons (de_var 5) (da_cons (de_callTy call_tuple_of act_tuple (by rfl) T.z_tuple (by decide +kernel) (da_cons (de_var 6) da_nil)) da_nil))) (da_cons (de_tup (da_cons (de_var 5) (da_cons de_non da_nil))) (da_cons (de_tup (da_cons (de_var 5) (da_cons (de_var 6) (da_cons de_int da_nil)))) (da_cons de_non (da_cons de_dE (da_cons (de_var 5) da_nil))))))))))) (dss_cons (ds_set 4 sc__law_bent.nd (de_bin opr_add act_add (de_var 4) (de_lst (da_cons (de_tup (da_cons de_str (da_cons (de_var 6) da_nil))) (da_cons (de_tup (da_cons de_non (da_cons (de_var 6) da_nil))) (da_cons (de_tup (da_cons (de_lst (da_cons (de_var 5) da_nil)) (da_cons (de_var 6) da_nil))) (da_cons (de_tup (da_cons de_str (da_cons (de_var 6) da_nil))) (da_cons (de_tup (da_cons (de_var 6) (da_cons (de_var 5) da_nil))) (da_cons (de_tup (da_cons (de_var 5) (da_cons (de_bin opr_add act_add (de_lst (da_cons (de_var 3) da_nil)) (de_var 6)) da_nil))) da_nil))))))))) (dss_one (ds_ret (de_ix ix_seq act_ix (de_bin opr_add act_add (de_var 4) (de_bin opr_mul act_mul (de_lst (da_cons (de_tup (da_cons (de_var 5) (da_cons (de_bin opr_add act_add (de_bin opr_add act_add (de_slice slr_all act_sl (de_var 6) do_none (do_some (de_var 2))) (de_lst (da_cons (de_var 3) da_nil))) (de_slice slr_all act_sl (de_var 6) (do_some (de_bin opr_add act_add (de_var 2) de_int)) do_none)) da_nil))) da_nil)) de_int)) (de_fn h__law_take hr (by decide) hg0 (takes_of rfl rfl rfl rfl) (by rfl) (da_cons (de_var 0) (da_cons de_int da_nil))))))))))))
theorem sc_law : FnScope ["_law_script", "_law_k", "_law_pool_here", "_law_things", "_law_item", "_law_size", "_law_asked", "_law_row", "_law_items", "_law_kept", "_law_due", "_law_own", "_law_turn"] ["_law_script"] (defScope s_law) := ⟨rfl, rfl, rfl, by decide +kernel, rfl, by decide +kernel, by decide +kernel⟩
set_option maxHeartbeats 1000000 in
theorem ok_law (T : Txt K mg) (h_lets_granted : Has P w K mg base 7 "lets_granted" s_lets_granted ["many", "wishes", "thing"] f_lets_granted) (h_lets_follows : Has P w K mg base 7 "lets_follows" s_lets_follows ["many", "wishes", "line", "thing"] f_lets_follows) (h__law_pool : Has P w K mg base 1 "_law_pool" s__law_pool ["_law_script", "_law_k"] f__law_pool) (h__law_take : Has P w K mg base 1 "_law_take" s__law_take ["_law_pool_here", "_law_wide"] f__law_take) (h__law_is_granted : Has P w K mg base 5 "_law_is_granted" s__law_is_granted ["_law_size", "_law_asked", "_law_item"] f__law_is_granted) (h__law_is_follows : Has P w K mg base 5 "_law_is_follows" s__law_is_follows ["_law_size", "_law_asked", "_law_row", "_law_item"] f__law_is_follows) (h__law_made_case : Has P w K mg base 5 "_law_made_case" s__law_made_case ["_law_pool_here"] f__law_made_case) (h__law_bent : Has P w K mg base 2 "_law_bent" s__law_bent ["_law_pool_here", "_law_item"] f__law_bent) : Has P w K mg base 8 "law" s_law ["_law_script"] f_law :=
  has_of (N := ["_law_script", "_law_k", "_law_pool_here", "_law_things", "_law_item", "_law_size", "_law_asked", "_law_row", "_law_items", "_law_kept", "_law_due", "_law_own", "_law_turn"]) (m := d_law) T.d_law sc_law fun f cdv A outer s H E hr hg0 =>
    have hu1 : (A.deeper (PyProof.Rows.envOfC "law" (defScope s_law) s.heap.objs.size f cdv)).units + 64 < cLine := hr.units
    have hu2 : (A.deeper (PyProof.Rows.envOfC "law" (defScope s_law) s.heap.objs.size f cdv)).units + 66 < cLine := by have := hr.un; omega
    (dss_cons (ds_for (passes_of rfl) rfl (di_rng1 (by rfl) T.z_range (da_cons (de_callB (call_max2 rfl) act_max2 (by rfl) T.z_max (by decide +kernel) (da_cons de_int (da_cons (de_callB (call_min2 rfl) act_min2 (by rfl) T.z_min (by decide +kernel) (da_cons (de_callB call_len act_len (by rfl) T.z_len PySem.boot_len (da_cons (de_var 0) da_nil)) (da_cons de_int da_nil))) da_nil))) da_nil)) (dg_name 1 sc_law.nd) (dss_cons (ds_set 2 sc_law.nd (de_fn h__law_pool hr (by decide) hg0 (takes_of rfl rfl rfl rfl) (by rfl) (da_cons (de_var 0) (da_cons (de_var 1) da_nil)))) (dss_cons (ds_asg (de_fn h__law_made_case hr (by decide) hg0 (takes_of rfl rfl rfl rfl) (by rfl) (da_cons (de_var 2) da_nil)) (dg_tup rfl (dgs_cons (dg_name 5 sc_law.nd) (dgs_cons (dg_name 6 sc_law.nd) (dgs_cons (dg_name 7 sc_law.nd) (dgs_cons (dg_name 8 sc_law.nd) dgs_nil)))))) (dss_cons (ds_set 3 sc_law.nd (de_bin opr_add act_add (de_var 8) (de_lc [("_law_turn", 12)] rfl sc_law.nd (di_rng1 (by rfl) T.z_range (da_cons de_int da_nil)) (blkOk_by (N := ["_law_script", "_law_k", "_law_pool_here", "_law_things", "_law_item", "_law_size", "_law_asked", "_law_row", "_law_items", "_law_kept", "_law_due", "_law_own", "_law_turn"]) (sc := defScope s_law) (by decide +kernel)) (fun _ _ _ _ _ => (dg_name 12 sc_law.nd)) (fun _ _ _ _ _ => dts_nil) (fun _ _ _ _ _ => (de_fn h__law_bent hr (by decide) hg0 takes_no (by rfl) (da_cons (de_var 2) (da_cons (de_ix ix_seq act_ix (de_var 8) (de_fn h__law_take hr (by decide) hg0 takes_no (by rfl) (da_cons (de_var 2) (da_cons (de_callB call_len act_len (by rfl) T.z_len PySem.boot_len (da_cons (de_var 8) da_nil)) da_nil)))) da_nil))))))) (dss_one (ds_for (passes_of rfl) rfl (di_list (de_var 3)) (dg_name 4 sc_law.nd) (dss_cons (ds_set 9 sc_law.nd (de_callB (call_reprA hg0 hu2) act_repr (by rfl) T.z_repr (by decide +kernel) (da_cons (de_lst (da_cons (de_var 6) (da_cons (de_var 7) (da_cons (de_var 4) da_nil)))) da_nil))) (dss_cons (ds_set 10 sc_law.nd (de_fn h__law_is_granted hr (by decide) hg0 (takes_of rfl rfl rfl rfl) (by rfl) (da_cons (de_var 5) (da_cons (de_var 6) (da_cons (de_var 4) da_nil))))) (dss_cons (ds_if (dt_cmp (opr_ne hu1) act_ne (de_callB (call_reprA hg0 hu2) act_repr (by rfl) T.z_repr (by decide +kernel) (da_cons (de_fn h_lets_granted hr (by decide) hg0 (takes_of rfl rfl rfl rfl) (by rfl) (da_cons (de_var 5) (da_cons (de_var 6) (da_cons (de_var 4) da_nil)))) da_nil)) (de_callB (call_reprA hg0 hu2) act_repr (by rfl) T.z_repr (by decide +kernel) (da_cons (de_var 10) da_nil)) (nomark _)) (dss_one (ds_ret de_bl)) dss_nil) (dss_cons (ds_if (dt_cmp (opr_ne hu1) act_ne (de_callB (call_reprA hg0 hu2) act_repr (by rfl) T.z_repr (by decide +kernel) (da_cons (de_fnK0 (ks := ["thing", "wishes", "many"]) h_lets_granted [2, 1, 0] (fun _ _ _ _ _ _ us ws hu hw => match us, ws, hu, hw with | [], [_, _, _], _, _ => rfl) hr (by decide) hg0 (takes_of rfl rfl rfl rfl) (by rfl) (dk_cons (de_var 4) (dk_cons (de_var 6) (dk_cons (de_var 5) dk_nil))) (len_cons (len_cons (len_cons len_nil)))) da_nil)) (de_callB (call_reprA hg0 hu2) act_repr (by rfl) T.z_repr (by decide +kernel) (da_cons (de_var 10) da_nil)) (nomark _)) (dss_one (ds_ret de_bl)) dss_nil) (dss_cons (ds_for (passes_of rfl) rfl (di_list (de_lst (da_cons (de_var 7) (da_cons (de_bin opr_add act_add (de_lst (da_cons (de_bin op_sub act_sub (de_ix ix_seq act_ix (de_var 7) de_int) de_int) da_nil)) (de_slice slr_all act_sl (de_var 7) (do_some de_int) do_none)) da_nil)))) (dg_name 11 sc_law.nd) (dss_cons (ds_set 10 sc_law.nd (de_fn h__law_is_follows hr (by decide) hg0 (takes_of rfl rfl rfl rfl) (by rfl) (da_cons (de_var 5) (da_cons (de_var 6) (da_cons (de_var 11) (da_cons (de_var 4) da_nil)))))) (dss_cons (ds_if (dt_cmp (opr_ne hu1) act_ne (de_callB (call_reprA hg0 hu2) act_repr (by rfl) T.z_repr (by decide +kernel) (da_cons (de_fn h_lets_follows hr (by decide) hg0 (takes_of rfl rfl rfl rfl) (by rfl) (da_cons (de_var 5) (da_cons (de_var 6) (da_cons (de_var 11) (da_cons (de_var 4) da_nil))))) da_nil)) (de_callB (call_reprA hg0 hu2) act_repr (by rfl) T.z_repr (by decide +kernel) (da_cons (de_var 10) da_nil)) (nomark _)) (dss_one (ds_ret de_bl)) dss_nil) (dss_one (ds_if (dt_cmp (opr_ne hu1) act_ne (de_callB (call_reprA hg0 hu2) act_repr (by rfl) T.z_repr (by decide +kernel) (da_cons (de_fnK0 (ks := ["thing", "line", "wishes", "many"]) h_lets_follows [3, 2, 1, 0] (fun _ _ _ _ _ _ us ws hu hw => match us, ws, hu, hw with | [], [_, _, _, _], _, _ => rfl) hr (by decide) hg0 (takes_of rfl rfl rfl rfl) (by rfl) (dk_cons (de_var 4) (dk_cons (de_var 11) (dk_cons (de_var 6) (dk_cons (de_var 5) dk_nil)))) (len_cons (len_cons (len_cons (len_cons len_nil))))) da_nil)) (de_callB (call_reprA hg0 hu2) act_repr (by rfl) T.z_repr (by decide +kernel) (da_cons (de_var 10) da_nil)) (nomark _)) (dss_one (ds_ret de_bl)) dss_nil))))) (dss_one (ds_if (dt_cmp (opr_ne hu1) act_ne (de_callB (call_reprA hg0 hu2) act_repr (by rfl) T.z_repr (by decide +kernel) (da_cons (de_lst (da_cons (de_var 6) (da_cons (de_var 7) (da_cons (de_var 4) da_nil)))) da_nil)) (de_var 9) (nomark _)) (dss_one (ds_ret de_bl)) dss_nil))))))))))))) (dss_one (ds_ret de_bl)))
theorem all_ok (T : Txt K mg) : Has P w K mg base 8 "law" s_law ["_law_script"] f_law :=
  have h_is_whole := ok_is_whole (P := P) (w := w) (base := base) T
  have h_look_at_many := ok_look_at_many (P := P) (w := w) (base := base) T h_is_whole
  have h_shared_by := ok_shared_by (P := P) (w := w) (base := base) T
  have h_lowest := ok_lowest (P := P) (w := w) (base := base) T h_shared_by
  have h_plus := ok_plus (P := P) (w := w) (base := base) T h_lowest
  have h_times := ok_times (P := P) (w := w) (base := base) T h_lowest
  have h_worth := ok_worth (P := P) (w := w) (base := base) T h_plus h_times
  have h_is_granted := ok_is_granted (P := P) (w := w) (base := base) T h_worth
  have h_grants := ok_grants (P := P) (w := w) (base := base) T h_is_granted
  have h_is_below := ok_is_below (P := P) (w := w) (base := base) T
  have h_sums := ok_sums (P := P) (w := w) (base := base) T h_plus h_times
  have h_is_fraction := ok_is_fraction (P := P) (w := w) (base := base) T h_is_whole h_shared_by
  have h_are_shares := ok_are_shares (P := P) (w := w) (base := base) T h_is_fraction
  have h_carries := ok_carries (P := P) (w := w) (base := base) T h_is_below h_sums h_are_shares
  have h_never_line := ok_never_line (P := P) (w := w) (base := base) T
  have h_are_numbers := ok_are_numbers (P := P) (w := w) (base := base) T h_is_fraction
  have h_is_told := ok_is_told (P := P) (w := w) (base := base) T
  have h_lets_granted := ok_lets_granted (P := P) (w := w) (base := base) T h_look_at_many h_grants h_carries h_never_line h_are_numbers h_is_told
  have h_lets_follows := ok_lets_follows (P := P) (w := w) (base := base) T h_look_at_many h_worth h_grants h_carries h_never_line h_are_numbers h_is_told
  have h__law_pool := ok__law_pool (P := P) (w := w) (base := base) T
  have h__law_take := ok__law_take (P := P) (w := w) (base := base) T
  have h__law_low := ok__law_low (P := P) (w := w) (base := base) T
  have h__law_plus := ok__law_plus (P := P) (w := w) (base := base) T h__law_low
  have h__law_times := ok__law_times (P := P) (w := w) (base := base) T h__law_low
  have h__law_total := ok__law_total (P := P) (w := w) (base := base) T h__law_plus h__law_times
  have h__law_grants := ok__law_grants (P := P) (w := w) (base := base) T h__law_total
  have h__law_is_whole := ok__law_is_whole (P := P) (w := w) (base := base) T
  have h__law_is_fraction := ok__law_is_fraction (P := P) (w := w) (base := base) T h__law_low h__law_is_whole
  have h__law_carries := ok__law_carries (P := P) (w := w) (base := base) T h__law_plus h__law_times h__law_is_fraction
  have h__law_are_numbers := ok__law_are_numbers (P := P) (w := w) (base := base) T h__law_is_fraction
  have h__law_is_granted := ok__law_is_granted (P := P) (w := w) (base := base) T h__law_grants h__law_carries h__law_are_numbers
  have h__law_is_follows := ok__law_is_follows (P := P) (w := w) (base := base) T h__law_total h__law_grants h__law_carries h__law_are_numbers
  have h__law_number := ok__law_number (P := P) (w := w) (base := base) T h__law_take
  have h__law_wish := ok__law_wish (P := P) (w := w) (base := base) T h__law_take h__law_number
  have h__law_some := ok__law_some (P := P) (w := w) (base := base) T h__law_take h__law_low
  have h__law_moved := ok__law_moved (P := P) (w := w) (base := base) T h__law_take h__law_total
  have h__law_made_case := ok__law_made_case (P := P) (w := w) (base := base) T h__law_take h__law_total h__law_number h__law_wish h__law_some h__law_moved
  have h__law_bent := ok__law_bent (P := P) (w := w) (base := base) T h__law_take
  ok_law T h_lets_granted h_lets_follows h__law_pool h__law_take h__law_is_granted h__law_is_follows h__law_made_case h__law_bent
end
set_option maxHeartbeats 4000000 in
theorem all_mk {l : PySem.W.OpenLaw} {w : World} {K : PySem.W.Frag} {h : Heap} {mg : Str → Option Value} {fa : Addr} (X : K.In h) (G : h.Ns mainGlobals mg) (hfa : mg "law" = some (.ref fa))
    {f0 : Addr} {od0 an0 : Option Addr} {sl0 : Array (Option Value)} {oc0 kV0 dc0 pm0 cd0 ct0 : Value}
    {f1 : Addr} {od1 an1 : Option Addr} {sl1 : Array (Option Value)} {oc1 kV1 dc1 pm1 cd1 ct1 : Value}
    {f2 : Addr} {od2 an2 : Option Addr} {sl2 : Array (Option Value)} {oc2 kV2 dc2 pm2 cd2 ct2 : Value}
    {f3 : Addr} {od3 an3 : Option Addr} {sl3 : Array (Option Value)} {oc3 kV3 dc3 pm3 cd3 ct3 : Value}
    {f4 : Addr} {od4 an4 : Option Addr} {sl4 : Array (Option Value)} {oc4 kV4 dc4 pm4 cd4 ct4 : Value}
    {f5 : Addr} {od5 an5 : Option Addr} {sl5 : Array (Option Value)} {oc5 kV5 dc5 pm5 cd5 ct5 : Value}
    {f6 : Addr} {od6 an6 : Option Addr} {sl6 : Array (Option Value)} {oc6 kV6 dc6 pm6 cd6 ct6 : Value}
    {f7 : Addr} {od7 an7 : Option Addr} {sl7 : Array (Option Value)} {oc7 kV7 dc7 pm7 cd7 ct7 : Value}
    {f8 : Addr} {od8 an8 : Option Addr} {sl8 : Array (Option Value)} {oc8 kV8 dc8 pm8 cd8 ct8 : Value}
    {f9 : Addr} {od9 an9 : Option Addr} {sl9 : Array (Option Value)} {oc9 kV9 dc9 pm9 cd9 ct9 : Value}
    {f10 : Addr} {od10 an10 : Option Addr} {sl10 : Array (Option Value)} {oc10 kV10 dc10 pm10 cd10 ct10 : Value}
    {f11 : Addr} {od11 an11 : Option Addr} {sl11 : Array (Option Value)} {oc11 kV11 dc11 pm11 cd11 ct11 : Value}
    {f12 : Addr} {od12 an12 : Option Addr} {sl12 : Array (Option Value)} {oc12 kV12 dc12 pm12 cd12 ct12 : Value}
    {f13 : Addr} {od13 an13 : Option Addr} {sl13 : Array (Option Value)} {oc13 kV13 dc13 pm13 cd13 ct13 : Value}
    {f14 : Addr} {od14 an14 : Option Addr} {sl14 : Array (Option Value)} {oc14 kV14 dc14 pm14 cd14 ct14 : Value}
    {f15 : Addr} {od15 an15 : Option Addr} {sl15 : Array (Option Value)} {oc15 kV15 dc15 pm15 cd15 ct15 : Value}
    {f16 : Addr} {od16 an16 : Option Addr} {sl16 : Array (Option Value)} {oc16 kV16 dc16 pm16 cd16 ct16 : Value}
    {f17 : Addr} {od17 an17 : Option Addr} {sl17 : Array (Option Value)} {oc17 kV17 dc17 pm17 cd17 ct17 : Value}
    {f18 : Addr} {od18 an18 : Option Addr} {sl18 : Array (Option Value)} {oc18 kV18 dc18 pm18 cd18 ct18 : Value}
    {f19 : Addr} {od19 an19 : Option Addr} {sl19 : Array (Option Value)} {oc19 kV19 dc19 pm19 cd19 ct19 : Value}
    {f20 : Addr} {od20 an20 : Option Addr} {sl20 : Array (Option Value)} {oc20 kV20 dc20 pm20 cd20 ct20 : Value}
    {f21 : Addr} {od21 an21 : Option Addr} {sl21 : Array (Option Value)} {oc21 kV21 dc21 pm21 cd21 ct21 : Value}
    {f22 : Addr} {od22 an22 : Option Addr} {sl22 : Array (Option Value)} {oc22 kV22 dc22 pm22 cd22 ct22 : Value}
    {f23 : Addr} {od23 an23 : Option Addr} {sl23 : Array (Option Value)} {oc23 kV23 dc23 pm23 cd23 ct23 : Value}
    {f24 : Addr} {od24 an24 : Option Addr} {sl24 : Array (Option Value)} {oc24 kV24 dc24 pm24 cd24 ct24 : Value}
    {f25 : Addr} {od25 an25 : Option Addr} {sl25 : Array (Option Value)} {oc25 kV25 dc25 pm25 cd25 ct25 : Value}
    {f26 : Addr} {od26 an26 : Option Addr} {sl26 : Array (Option Value)} {oc26 kV26 dc26 pm26 cd26 ct26 : Value}
    {f27 : Addr} {od27 an27 : Option Addr} {sl27 : Array (Option Value)} {oc27 kV27 dc27 pm27 cd27 ct27 : Value}
    {f28 : Addr} {od28 an28 : Option Addr} {sl28 : Array (Option Value)} {oc28 kV28 dc28 pm28 cd28 ct28 : Value}
    {f29 : Addr} {od29 an29 : Option Addr} {sl29 : Array (Option Value)} {oc29 kV29 dc29 pm29 cd29 ct29 : Value}
    {f30 : Addr} {od30 an30 : Option Addr} {sl30 : Array (Option Value)} {oc30 kV30 dc30 pm30 cd30 ct30 : Value}
    {f31 : Addr} {od31 an31 : Option Addr} {sl31 : Array (Option Value)} {oc31 kV31 dc31 pm31 cd31 ct31 : Value}
    {f32 : Addr} {od32 an32 : Option Addr} {sl32 : Array (Option Value)} {oc32 kV32 dc32 pm32 cd32 ct32 : Value}
    {f33 : Addr} {od33 an33 : Option Addr} {sl33 : Array (Option Value)} {oc33 kV33 dc33 pm33 cd33 ct33 : Value}
    {f34 : Addr} {od34 an34 : Option Addr} {sl34 : Array (Option Value)} {oc34 kV34 dc34 pm34 cd34 ct34 : Value}
    {f35 : Addr} {od35 an35 : Option Addr} {sl35 : Array (Option Value)} {oc35 kV35 dc35 pm35 cd35 ct35 : Value}
    {f36 : Addr} {od36 an36 : Option Addr} {sl36 : Array (Option Value)} {oc36 kV36 dc36 pm36 cd36 ct36 : Value}
    {f37 : Addr} {od37 an37 : Option Addr} {sl37 : Array (Option Value)} {oc37 kV37 dc37 pm37 cd37 ct37 : Value}
    {f38 : Addr} {od38 an38 : Option Addr} {sl38 : Array (Option Value)} {oc38 kV38 dc38 pm38 cd38 ct38 : Value}
    {t0 : Tok}
    {t1 : Tok}
    {t2 : Tok}
    {ta3 : Addr} {tl3 : Option Addr} {tn3 : Nat} {ts3 : Array (Option Value)} {tt3_0 : Tok} {tt3_1 : Tok}
    (a0 : PySem.W.nsIn K mainGlobals "is_whole" = some (some (.ref f0)))
    (l0 : K.lookup f0 = some ⟨oc0, od0, .func (PySem.W.fnOf "is_whole" "is_whole" (defArgs s_is_whole) (defBody s_is_whole) (defScope s_is_whole) .none kV0 dc0 pm0 an0 cd0 ct0), sl0⟩)
    (c0 : PySem.W.codeIn K cd0 "is_whole" = true)
    (k0 : PySem.W.keepIn K (.ref f0) = true)
    (a1 : PySem.W.nsIn K mainGlobals "look_at_many" = some (some (.ref f1)))
    (l1 : K.lookup f1 = some ⟨oc1, od1, .func (PySem.W.fnOf "look_at_many" "look_at_many" (defArgs s_look_at_many) (defBody s_look_at_many) (defScope s_look_at_many) .none kV1 dc1 pm1 an1 cd1 ct1), sl1⟩)
    (c1 : PySem.W.codeIn K cd1 "look_at_many" = true)
    (k1 : PySem.W.keepIn K (.ref f1) = true)
    (a2 : PySem.W.nsIn K mainGlobals "shared_by" = some (some (.ref f2)))
    (l2 : K.lookup f2 = some ⟨oc2, od2, .func (PySem.W.fnOf "shared_by" "shared_by" (defArgs s_shared_by) (defBody s_shared_by) (defScope s_shared_by) .none kV2 dc2 pm2 an2 cd2 ct2), sl2⟩)
    (c2 : PySem.W.codeIn K cd2 "shared_by" = true)
    (k2 : PySem.W.keepIn K (.ref f2) = true)
    (a3 : PySem.W.nsIn K mainGlobals "lowest" = some (some (.ref f3)))
    (l3 : K.lookup f3 = some ⟨oc3, od3, .func (PySem.W.fnOf "lowest" "lowest" (defArgs s_lowest) (defBody s_lowest) (defScope s_lowest) .none kV3 dc3 pm3 an3 cd3 ct3), sl3⟩)
    (c3 : PySem.W.codeIn K cd3 "lowest" = true)
    (k3 : PySem.W.keepIn K (.ref f3) = true)
    (a4 : PySem.W.nsIn K mainGlobals "plus" = some (some (.ref f4)))
    (l4 : K.lookup f4 = some ⟨oc4, od4, .func (PySem.W.fnOf "plus" "plus" (defArgs s_plus) (defBody s_plus) (defScope s_plus) .none kV4 dc4 pm4 an4 cd4 ct4), sl4⟩)
    (c4 : PySem.W.codeIn K cd4 "plus" = true)
    (k4 : PySem.W.keepIn K (.ref f4) = true)
    (a5 : PySem.W.nsIn K mainGlobals "times" = some (some (.ref f5)))
    (l5 : K.lookup f5 = some ⟨oc5, od5, .func (PySem.W.fnOf "times" "times" (defArgs s_times) (defBody s_times) (defScope s_times) .none kV5 dc5 pm5 an5 cd5 ct5), sl5⟩)
    (c5 : PySem.W.codeIn K cd5 "times" = true)
    (k5 : PySem.W.keepIn K (.ref f5) = true)
    (a6 : PySem.W.nsIn K mainGlobals "worth" = some (some (.ref f6)))
    (l6 : K.lookup f6 = some ⟨oc6, od6, .func (PySem.W.fnOf "worth" "worth" (defArgs s_worth) (defBody s_worth) (defScope s_worth) .none kV6 dc6 pm6 an6 cd6 ct6), sl6⟩)
    (c6 : PySem.W.codeIn K cd6 "worth" = true)
    (k6 : PySem.W.keepIn K (.ref f6) = true)
    (a7 : PySem.W.nsIn K mainGlobals "is_granted" = some (some (.ref f7)))
    (l7 : K.lookup f7 = some ⟨oc7, od7, .func (PySem.W.fnOf "is_granted" "is_granted" (defArgs s_is_granted) (defBody s_is_granted) (defScope s_is_granted) .none kV7 dc7 pm7 an7 cd7 ct7), sl7⟩)
    (c7 : PySem.W.codeIn K cd7 "is_granted" = true)
    (k7 : PySem.W.keepIn K (.ref f7) = true)
    (a8 : PySem.W.nsIn K mainGlobals "grants" = some (some (.ref f8)))
    (l8 : K.lookup f8 = some ⟨oc8, od8, .func (PySem.W.fnOf "grants" "grants" (defArgs s_grants) (defBody s_grants) (defScope s_grants) .none kV8 dc8 pm8 an8 cd8 ct8), sl8⟩)
    (c8 : PySem.W.codeIn K cd8 "grants" = true)
    (k8 : PySem.W.keepIn K (.ref f8) = true)
    (a9 : PySem.W.nsIn K mainGlobals "is_below" = some (some (.ref f9)))
    (l9 : K.lookup f9 = some ⟨oc9, od9, .func (PySem.W.fnOf "is_below" "is_below" (defArgs s_is_below) (defBody s_is_below) (defScope s_is_below) .none kV9 dc9 pm9 an9 cd9 ct9), sl9⟩)
    (c9 : PySem.W.codeIn K cd9 "is_below" = true)
    (k9 : PySem.W.keepIn K (.ref f9) = true)
    (a10 : PySem.W.nsIn K mainGlobals "sums" = some (some (.ref f10)))
    (l10 : K.lookup f10 = some ⟨oc10, od10, .func (PySem.W.fnOf "sums" "sums" (defArgs s_sums) (defBody s_sums) (defScope s_sums) .none kV10 dc10 pm10 an10 cd10 ct10), sl10⟩)
    (c10 : PySem.W.codeIn K cd10 "sums" = true)
    (k10 : PySem.W.keepIn K (.ref f10) = true)
    (a11 : PySem.W.nsIn K mainGlobals "is_fraction" = some (some (.ref f11)))
    (l11 : K.lookup f11 = some ⟨oc11, od11, .func (PySem.W.fnOf "is_fraction" "is_fraction" (defArgs s_is_fraction) (defBody s_is_fraction) (defScope s_is_fraction) .none kV11 dc11 pm11 an11 cd11 ct11), sl11⟩)
    (c11 : PySem.W.codeIn K cd11 "is_fraction" = true)
    (k11 : PySem.W.keepIn K (.ref f11) = true)
    (a12 : PySem.W.nsIn K mainGlobals "are_shares" = some (some (.ref f12)))
    (l12 : K.lookup f12 = some ⟨oc12, od12, .func (PySem.W.fnOf "are_shares" "are_shares" (defArgs s_are_shares) (defBody s_are_shares) (defScope s_are_shares) .none kV12 dc12 pm12 an12 cd12 ct12), sl12⟩)
    (c12 : PySem.W.codeIn K cd12 "are_shares" = true)
    (k12 : PySem.W.keepIn K (.ref f12) = true)
    (a13 : PySem.W.nsIn K mainGlobals "carries" = some (some (.ref f13)))
    (l13 : K.lookup f13 = some ⟨oc13, od13, .func (PySem.W.fnOf "carries" "carries" (defArgs s_carries) (defBody s_carries) (defScope s_carries) .none kV13 dc13 pm13 an13 cd13 ct13), sl13⟩)
    (c13 : PySem.W.codeIn K cd13 "carries" = true)
    (k13 : PySem.W.keepIn K (.ref f13) = true)
    (a14 : PySem.W.nsIn K mainGlobals "never_line" = some (some (.ref f14)))
    (l14 : K.lookup f14 = some ⟨oc14, od14, .func (PySem.W.fnOf "never_line" "never_line" (defArgs s_never_line) (defBody s_never_line) (defScope s_never_line) .none kV14 dc14 pm14 an14 cd14 ct14), sl14⟩)
    (c14 : PySem.W.codeIn K cd14 "never_line" = true)
    (k14 : PySem.W.keepIn K (.ref f14) = true)
    (a15 : PySem.W.nsIn K mainGlobals "are_numbers" = some (some (.ref f15)))
    (l15 : K.lookup f15 = some ⟨oc15, od15, .func (PySem.W.fnOf "are_numbers" "are_numbers" (defArgs s_are_numbers) (defBody s_are_numbers) (defScope s_are_numbers) .none kV15 dc15 pm15 an15 cd15 ct15), sl15⟩)
    (c15 : PySem.W.codeIn K cd15 "are_numbers" = true)
    (k15 : PySem.W.keepIn K (.ref f15) = true)
    (a16 : PySem.W.nsIn K mainGlobals "is_told" = some (some (.ref f16)))
    (l16 : K.lookup f16 = some ⟨oc16, od16, .func (PySem.W.fnOf "is_told" "is_told" (defArgs s_is_told) (defBody s_is_told) (defScope s_is_told) .none kV16 dc16 pm16 an16 cd16 ct16), sl16⟩)
    (c16 : PySem.W.codeIn K cd16 "is_told" = true)
    (k16 : PySem.W.keepIn K (.ref f16) = true)
    (a17 : PySem.W.nsIn K mainGlobals "lets_granted" = some (some (.ref f17)))
    (l17 : K.lookup f17 = some ⟨oc17, od17, .func (PySem.W.fnOf "lets_granted" "lets_granted" (defArgs s_lets_granted) (defBody s_lets_granted) (defScope s_lets_granted) .none kV17 dc17 pm17 an17 cd17 ct17), sl17⟩)
    (c17 : PySem.W.codeIn K cd17 "lets_granted" = true)
    (k17 : PySem.W.keepIn K (.ref f17) = true)
    (a18 : PySem.W.nsIn K mainGlobals "lets_follows" = some (some (.ref f18)))
    (l18 : K.lookup f18 = some ⟨oc18, od18, .func (PySem.W.fnOf "lets_follows" "lets_follows" (defArgs s_lets_follows) (defBody s_lets_follows) (defScope s_lets_follows) .none kV18 dc18 pm18 an18 cd18 ct18), sl18⟩)
    (c18 : PySem.W.codeIn K cd18 "lets_follows" = true)
    (k18 : PySem.W.keepIn K (.ref f18) = true)
    (a19 : PySem.W.nsIn K mainGlobals "_law_pool" = some (some (.ref f19)))
    (l19 : K.lookup f19 = some ⟨oc19, od19, .func (PySem.W.fnOf "_law_pool" "_law_pool" (defArgs s__law_pool) (defBody s__law_pool) (defScope s__law_pool) .none kV19 dc19 pm19 an19 cd19 ct19), sl19⟩)
    (c19 : PySem.W.codeIn K cd19 "_law_pool" = true)
    (k19 : PySem.W.keepIn K (.ref f19) = true)
    (a20 : PySem.W.nsIn K mainGlobals "_law_take" = some (some (.ref f20)))
    (l20 : K.lookup f20 = some ⟨oc20, od20, .func (PySem.W.fnOf "_law_take" "_law_take" (defArgs s__law_take) (defBody s__law_take) (defScope s__law_take) .none kV20 dc20 pm20 an20 cd20 ct20), sl20⟩)
    (c20 : PySem.W.codeIn K cd20 "_law_take" = true)
    (k20 : PySem.W.keepIn K (.ref f20) = true)
    (a21 : PySem.W.nsIn K mainGlobals "_law_low" = some (some (.ref f21)))
    (l21 : K.lookup f21 = some ⟨oc21, od21, .func (PySem.W.fnOf "_law_low" "_law_low" (defArgs s__law_low) (defBody s__law_low) (defScope s__law_low) .none kV21 dc21 pm21 an21 cd21 ct21), sl21⟩)
    (c21 : PySem.W.codeIn K cd21 "_law_low" = true)
    (k21 : PySem.W.keepIn K (.ref f21) = true)
    (a22 : PySem.W.nsIn K mainGlobals "_law_plus" = some (some (.ref f22)))
    (l22 : K.lookup f22 = some ⟨oc22, od22, .func (PySem.W.fnOf "_law_plus" "_law_plus" (defArgs s__law_plus) (defBody s__law_plus) (defScope s__law_plus) .none kV22 dc22 pm22 an22 cd22 ct22), sl22⟩)
    (c22 : PySem.W.codeIn K cd22 "_law_plus" = true)
    (k22 : PySem.W.keepIn K (.ref f22) = true)
    (a23 : PySem.W.nsIn K mainGlobals "_law_times" = some (some (.ref f23)))
    (l23 : K.lookup f23 = some ⟨oc23, od23, .func (PySem.W.fnOf "_law_times" "_law_times" (defArgs s__law_times) (defBody s__law_times) (defScope s__law_times) .none kV23 dc23 pm23 an23 cd23 ct23), sl23⟩)
    (c23 : PySem.W.codeIn K cd23 "_law_times" = true)
    (k23 : PySem.W.keepIn K (.ref f23) = true)
    (a24 : PySem.W.nsIn K mainGlobals "_law_total" = some (some (.ref f24)))
    (l24 : K.lookup f24 = some ⟨oc24, od24, .func (PySem.W.fnOf "_law_total" "_law_total" (defArgs s__law_total) (defBody s__law_total) (defScope s__law_total) .none kV24 dc24 pm24 an24 cd24 ct24), sl24⟩)
    (c24 : PySem.W.codeIn K cd24 "_law_total" = true)
    (k24 : PySem.W.keepIn K (.ref f24) = true)
    (a25 : PySem.W.nsIn K mainGlobals "_law_grants" = some (some (.ref f25)))
    (l25 : K.lookup f25 = some ⟨oc25, od25, .func (PySem.W.fnOf "_law_grants" "_law_grants" (defArgs s__law_grants) (defBody s__law_grants) (defScope s__law_grants) .none kV25 dc25 pm25 an25 cd25 ct25), sl25⟩)
    (c25 : PySem.W.codeIn K cd25 "_law_grants" = true)
    (k25 : PySem.W.keepIn K (.ref f25) = true)
    (a26 : PySem.W.nsIn K mainGlobals "_law_is_whole" = some (some (.ref f26)))
    (l26 : K.lookup f26 = some ⟨oc26, od26, .func (PySem.W.fnOf "_law_is_whole" "_law_is_whole" (defArgs s__law_is_whole) (defBody s__law_is_whole) (defScope s__law_is_whole) .none kV26 dc26 pm26 an26 cd26 ct26), sl26⟩)
    (c26 : PySem.W.codeIn K cd26 "_law_is_whole" = true)
    (k26 : PySem.W.keepIn K (.ref f26) = true)
    (a27 : PySem.W.nsIn K mainGlobals "_law_is_fraction" = some (some (.ref f27)))
    (l27 : K.lookup f27 = some ⟨oc27, od27, .func (PySem.W.fnOf "_law_is_fraction" "_law_is_fraction" (defArgs s__law_is_fraction) (defBody s__law_is_fraction) (defScope s__law_is_fraction) .none kV27 dc27 pm27 an27 cd27 ct27), sl27⟩)
    (c27 : PySem.W.codeIn K cd27 "_law_is_fraction" = true)
    (k27 : PySem.W.keepIn K (.ref f27) = true)
    (a28 : PySem.W.nsIn K mainGlobals "_law_carries" = some (some (.ref f28)))
    (l28 : K.lookup f28 = some ⟨oc28, od28, .func (PySem.W.fnOf "_law_carries" "_law_carries" (defArgs s__law_carries) (defBody s__law_carries) (defScope s__law_carries) .none kV28 dc28 pm28 an28 cd28 ct28), sl28⟩)
    (c28 : PySem.W.codeIn K cd28 "_law_carries" = true)
    (k28 : PySem.W.keepIn K (.ref f28) = true)
    (a29 : PySem.W.nsIn K mainGlobals "_law_are_numbers" = some (some (.ref f29)))
    (l29 : K.lookup f29 = some ⟨oc29, od29, .func (PySem.W.fnOf "_law_are_numbers" "_law_are_numbers" (defArgs s__law_are_numbers) (defBody s__law_are_numbers) (defScope s__law_are_numbers) .none kV29 dc29 pm29 an29 cd29 ct29), sl29⟩)
    (c29 : PySem.W.codeIn K cd29 "_law_are_numbers" = true)
    (k29 : PySem.W.keepIn K (.ref f29) = true)
    (a30 : PySem.W.nsIn K mainGlobals "_law_is_granted" = some (some (.ref f30)))
    (l30 : K.lookup f30 = some ⟨oc30, od30, .func (PySem.W.fnOf "_law_is_granted" "_law_is_granted" (defArgs s__law_is_granted) (defBody s__law_is_granted) (defScope s__law_is_granted) .none kV30 dc30 pm30 an30 cd30 ct30), sl30⟩)
    (c30 : PySem.W.codeIn K cd30 "_law_is_granted" = true)
    (k30 : PySem.W.keepIn K (.ref f30) = true)
    (a31 : PySem.W.nsIn K mainGlobals "_law_is_follows" = some (some (.ref f31)))
    (l31 : K.lookup f31 = some ⟨oc31, od31, .func (PySem.W.fnOf "_law_is_follows" "_law_is_follows" (defArgs s__law_is_follows) (defBody s__law_is_follows) (defScope s__law_is_follows) .none kV31 dc31 pm31 an31 cd31 ct31), sl31⟩)
    (c31 : PySem.W.codeIn K cd31 "_law_is_follows" = true)
    (k31 : PySem.W.keepIn K (.ref f31) = true)
    (a32 : PySem.W.nsIn K mainGlobals "_law_number" = some (some (.ref f32)))
    (l32 : K.lookup f32 = some ⟨oc32, od32, .func (PySem.W.fnOf "_law_number" "_law_number" (defArgs s__law_number) (defBody s__law_number) (defScope s__law_number) .none kV32 dc32 pm32 an32 cd32 ct32), sl32⟩)
    (c32 : PySem.W.codeIn K cd32 "_law_number" = true)
    (k32 : PySem.W.keepIn K (.ref f32) = true)
    (a33 : PySem.W.nsIn K mainGlobals "_law_wish" = some (some (.ref f33)))
    (l33 : K.lookup f33 = some ⟨oc33, od33, .func (PySem.W.fnOf "_law_wish" "_law_wish" (defArgs s__law_wish) (defBody s__law_wish) (defScope s__law_wish) .none kV33 dc33 pm33 an33 cd33 ct33), sl33⟩)
    (c33 : PySem.W.codeIn K cd33 "_law_wish" = true)
    (k33 : PySem.W.keepIn K (.ref f33) = true)
    (a34 : PySem.W.nsIn K mainGlobals "_law_some" = some (some (.ref f34)))
    (l34 : K.lookup f34 = some ⟨oc34, od34, .func (PySem.W.fnOf "_law_some" "_law_some" (defArgs s__law_some) (defBody s__law_some) (defScope s__law_some) .none kV34 dc34 pm34 an34 cd34 ct34), sl34⟩)
    (c34 : PySem.W.codeIn K cd34 "_law_some" = true)
    (k34 : PySem.W.keepIn K (.ref f34) = true)
    (a35 : PySem.W.nsIn K mainGlobals "_law_moved" = some (some (.ref f35)))
    (l35 : K.lookup f35 = some ⟨oc35, od35, .func (PySem.W.fnOf "_law_moved" "_law_moved" (defArgs s__law_moved) (defBody s__law_moved) (defScope s__law_moved) .none kV35 dc35 pm35 an35 cd35 ct35), sl35⟩)
    (c35 : PySem.W.codeIn K cd35 "_law_moved" = true)
    (k35 : PySem.W.keepIn K (.ref f35) = true)
    (a36 : PySem.W.nsIn K mainGlobals "_law_made_case" = some (some (.ref f36)))
    (l36 : K.lookup f36 = some ⟨oc36, od36, .func (PySem.W.fnOf "_law_made_case" "_law_made_case" (defArgs s__law_made_case) (defBody s__law_made_case) (defScope s__law_made_case) .none kV36 dc36 pm36 an36 cd36 ct36), sl36⟩)
    (c36 : PySem.W.codeIn K cd36 "_law_made_case" = true)
    (k36 : PySem.W.keepIn K (.ref f36) = true)
    (a37 : PySem.W.nsIn K mainGlobals "_law_bent" = some (some (.ref f37)))
    (l37 : K.lookup f37 = some ⟨oc37, od37, .func (PySem.W.fnOf "_law_bent" "_law_bent" (defArgs s__law_bent) (defBody s__law_bent) (defScope s__law_bent) .none kV37 dc37 pm37 an37 cd37 ct37), sl37⟩)
    (c37 : PySem.W.codeIn K cd37 "_law_bent" = true)
    (k37 : PySem.W.keepIn K (.ref f37) = true)
    (a38 : PySem.W.nsIn K mainGlobals "law" = some (some (.ref f38)))
    (l38 : K.lookup f38 = some ⟨oc38, od38, .func (PySem.W.fnOf "law" "law" (defArgs s_law) (defBody s_law) (defScope s_law) .none kV38 dc38 pm38 an38 cd38 ct38), sl38⟩)
    (c38 : PySem.W.codeIn K cd38 "law" = true)
    (k38 : PySem.W.keepIn K (.ref f38) = true)
    (z_abs : PySem.W.nsIn K mainGlobals "abs" = some none)
    (z_all : PySem.W.nsIn K mainGlobals "all" = some none)
    (z_any : PySem.W.nsIn K mainGlobals "any" = some none)
    (z_bool : PySem.W.nsIn K mainGlobals "bool" = some none)
    (z_int : PySem.W.nsIn K mainGlobals "int" = some none)
    (z_isinstance : PySem.W.nsIn K mainGlobals "isinstance" = some none)
    (z_len : PySem.W.nsIn K mainGlobals "len" = some none)
    (z_list : PySem.W.nsIn K mainGlobals "list" = some none)
    (z_max : PySem.W.nsIn K mainGlobals "max" = some none)
    (z_min : PySem.W.nsIn K mainGlobals "min" = some none)
    (z_range : PySem.W.nsIn K mainGlobals "range" = some none)
    (z_repr : PySem.W.nsIn K mainGlobals "repr" = some none)
    (z_str : PySem.W.nsIn K mainGlobals "str" = some none)
    (z_sum : PySem.W.nsIn K mainGlobals "sum" = some none)
    (z_tuple : PySem.W.nsIn K mainGlobals "tuple" = some none)
    (z_zip : PySem.W.nsIn K mainGlobals "zip" = some none)
    (q0 : PySem.W.nsIn K mainGlobals "JUST" = some (some (.str "just" t0)))
    (q1 : PySem.W.nsIn K mainGlobals "LEAST" = some (some (.str "least" t1)))
    (q2 : PySem.W.nsIn K mainGlobals "MOST_NUMBERS" = some (some (.int 8 t2)))
    (q3 : PySem.W.nsIn K mainGlobals "NOUGHT" = some (some (.ref ta3)))
    (r3 : K.lookup ta3 = some ⟨.type "tuple", tl3, .seq #[.int 0 tt3_0, .int 1 tt3_1] tn3, ts3⟩) :
    ∃ fd : FuncData, (∀ (s : Shared) (v : Value), BindsTo s fd ⟨[v], []⟩ [("_law_script", v)]) ∧ ∀ base : Heap, K.In base → base.Ns mainGlobals mg → FnG l.prog w K mg base 8 fa fd ["_law_script"] f_law := by
  have T : Txt K mg := by
    constructor
    · have F := fun_mk (st := s_is_whole) l0 c0 k0
      exact ⟨f0, _, F, PySem.W.mg_of X G a0, F.binds fun _ _ _ _ _ _ us hl => match us, hl with | [_], _ => rfl⟩
    · have F := fun_mk (st := s_look_at_many) l1 c1 k1
      exact ⟨f1, _, F, PySem.W.mg_of X G a1, F.binds fun _ _ _ _ _ _ us hl => match us, hl with | [_], _ => rfl⟩
    · have F := fun_mk (st := s_shared_by) l2 c2 k2
      exact ⟨f2, _, F, PySem.W.mg_of X G a2, F.binds fun _ _ _ _ _ _ us hl => match us, hl with | [_, _], _ => rfl⟩
    · have F := fun_mk (st := s_lowest) l3 c3 k3
      exact ⟨f3, _, F, PySem.W.mg_of X G a3, F.binds fun _ _ _ _ _ _ us hl => match us, hl with | [_, _], _ => rfl⟩
    · have F := fun_mk (st := s_plus) l4 c4 k4
      exact ⟨f4, _, F, PySem.W.mg_of X G a4, F.binds fun _ _ _ _ _ _ us hl => match us, hl with | [_, _], _ => rfl⟩
    · have F := fun_mk (st := s_times) l5 c5 k5
      exact ⟨f5, _, F, PySem.W.mg_of X G a5, F.binds fun _ _ _ _ _ _ us hl => match us, hl with | [_, _], _ => rfl⟩
    · have F := fun_mk (st := s_worth) l6 c6 k6
      exact ⟨f6, _, F, PySem.W.mg_of X G a6, F.binds fun _ _ _ _ _ _ us hl => match us, hl with | [_, _], _ => rfl⟩
    · have F := fun_mk (st := s_is_granted) l7 c7 k7
      exact ⟨f7, _, F, PySem.W.mg_of X G a7, F.binds fun _ _ _ _ _ _ us hl => match us, hl with | [_, _], _ => rfl⟩
    · have F := fun_mk (st := s_grants) l8 c8 k8
      exact ⟨f8, _, F, PySem.W.mg_of X G a8, F.binds fun _ _ _ _ _ _ us hl => match us, hl with | [_, _], _ => rfl⟩
    · have F := fun_mk (st := s_is_below) l9 c9 k9
      exact ⟨f9, _, F, PySem.W.mg_of X G a9, F.binds fun _ _ _ _ _ _ us hl => match us, hl with | [_, _], _ => rfl⟩
    · have F := fun_mk (st := s_sums) l10 c10 k10
      exact ⟨f10, _, F, PySem.W.mg_of X G a10, F.binds fun _ _ _ _ _ _ us hl => match us, hl with | [_, _, _], _ => rfl⟩
    · have F := fun_mk (st := s_is_fraction) l11 c11 k11
      exact ⟨f11, _, F, PySem.W.mg_of X G a11, F.binds fun _ _ _ _ _ _ us hl => match us, hl with | [_], _ => rfl⟩
    · have F := fun_mk (st := s_are_shares) l12 c12 k12
      exact ⟨f12, _, F, PySem.W.mg_of X G a12, F.binds fun _ _ _ _ _ _ us hl => match us, hl with | [_, _], _ => rfl⟩
    · have F := fun_mk (st := s_carries) l13 c13 k13
      exact ⟨f13, _, F, PySem.W.mg_of X G a13, F.binds fun _ _ _ _ _ _ us hl => match us, hl with | [_, _, _], _ => rfl⟩
    · have F := fun_mk (st := s_never_line) l14 c14 k14
      exact ⟨f14, _, F, PySem.W.mg_of X G a14, F.binds fun _ _ _ _ _ _ us hl => match us, hl with | [_], _ => rfl⟩
    · have F := fun_mk (st := s_are_numbers) l15 c15 k15
      exact ⟨f15, _, F, PySem.W.mg_of X G a15, F.binds fun _ _ _ _ _ _ us hl => match us, hl with | [_, _], _ => rfl⟩
    · have F := fun_mk (st := s_is_told) l16 c16 k16
      exact ⟨f16, _, F, PySem.W.mg_of X G a16, F.binds fun _ _ _ _ _ _ us hl => match us, hl with | [_], _ => rfl⟩
    · have F := fun_mk (st := s_lets_granted) l17 c17 k17
      exact ⟨f17, _, F, PySem.W.mg_of X G a17, F.binds fun _ _ _ _ _ _ us hl => match us, hl with | [_, _, _], _ => rfl⟩
    · have F := fun_mk (st := s_lets_follows) l18 c18 k18
      exact ⟨f18, _, F, PySem.W.mg_of X G a18, F.binds fun _ _ _ _ _ _ us hl => match us, hl with | [_, _, _, _], _ => rfl⟩
    · have F := fun_mk (st := s__law_pool) l19 c19 k19
      exact ⟨f19, _, F, PySem.W.mg_of X G a19, F.binds fun _ _ _ _ _ _ us hl => match us, hl with | [_, _], _ => rfl⟩
    · have F := fun_mk (st := s__law_take) l20 c20 k20
      exact ⟨f20, _, F, PySem.W.mg_of X G a20, F.binds fun _ _ _ _ _ _ us hl => match us, hl with | [_, _], _ => rfl⟩
    · have F := fun_mk (st := s__law_low) l21 c21 k21
      exact ⟨f21, _, F, PySem.W.mg_of X G a21, F.binds fun _ _ _ _ _ _ us hl => match us, hl with | [_, _], _ => rfl⟩
    · have F := fun_mk (st := s__law_plus) l22 c22 k22
      exact ⟨f22, _, F, PySem.W.mg_of X G a22, F.binds fun _ _ _ _ _ _ us hl => match us, hl with | [_, _], _ => rfl⟩
    · have F := fun_mk (st := s__law_times) l23 c23 k23
      exact ⟨f23, _, F, PySem.W.mg_of X G a23, F.binds fun _ _ _ _ _ _ us hl => match us, hl with | [_, _], _ => rfl⟩
    · have F := fun_mk (st := s__law_total) l24 c24 k24
      exact ⟨f24, _, F, PySem.W.mg_of X G a24, F.binds fun _ _ _ _ _ _ us hl => match us, hl with | [_, _], _ => rfl⟩
    · have F := fun_mk (st := s__law_grants) l25 c25 k25
      exact ⟨f25, _, F, PySem.W.mg_of X G a25, F.binds fun _ _ _ _ _ _ us hl => match us, hl with | [_, _], _ => rfl⟩
    · have F := fun_mk (st := s__law_is_whole) l26 c26 k26
      exact ⟨f26, _, F, PySem.W.mg_of X G a26, F.binds fun _ _ _ _ _ _ us hl => match us, hl with | [_], _ => rfl⟩
    · have F := fun_mk (st := s__law_is_fraction) l27 c27 k27
      exact ⟨f27, _, F, PySem.W.mg_of X G a27, F.binds fun _ _ _ _ _ _ us hl => match us, hl with | [_], _ => rfl⟩
    · have F := fun_mk (st := s__law_carries) l28 c28 k28
      exact ⟨f28, _, F, PySem.W.mg_of X G a28, F.binds fun _ _ _ _ _ _ us hl => match us, hl with | [_, _, _], _ => rfl⟩
    · have F := fun_mk (st := s__law_are_numbers) l29 c29 k29
      exact ⟨f29, _, F, PySem.W.mg_of X G a29, F.binds fun _ _ _ _ _ _ us hl => match us, hl with | [_, _], _ => rfl⟩
    · have F := fun_mk (st := s__law_is_granted) l30 c30 k30
      exact ⟨f30, _, F, PySem.W.mg_of X G a30, F.binds fun _ _ _ _ _ _ us hl => match us, hl with | [_, _, _], _ => rfl⟩
    · have F := fun_mk (st := s__law_is_follows) l31 c31 k31
      exact ⟨f31, _, F, PySem.W.mg_of X G a31, F.binds fun _ _ _ _ _ _ us hl => match us, hl with | [_, _, _, _], _ => rfl⟩
    · have F := fun_mk (st := s__law_number) l32 c32 k32
      exact ⟨f32, _, F, PySem.W.mg_of X G a32, F.binds fun _ _ _ _ _ _ us hl => match us, hl with | [_], _ => rfl⟩
    · have F := fun_mk (st := s__law_wish) l33 c33 k33
      exact ⟨f33, _, F, PySem.W.mg_of X G a33, F.binds fun _ _ _ _ _ _ us hl => match us, hl with | [_, _], _ => rfl⟩
    · have F := fun_mk (st := s__law_some) l34 c34 k34
      exact ⟨f34, _, F, PySem.W.mg_of X G a34, F.binds fun _ _ _ _ _ _ us hl => match us, hl with | [_, _], _ => rfl⟩
    · have F := fun_mk (st := s__law_moved) l35 c35 k35
      exact ⟨f35, _, F, PySem.W.mg_of X G a35, F.binds fun _ _ _ _ _ _ us hl => match us, hl with | [_, _, _], _ => rfl⟩
    · have F := fun_mk (st := s__law_made_case) l36 c36 k36
      exact ⟨f36, _, F, PySem.W.mg_of X G a36, F.binds fun _ _ _ _ _ _ us hl => match us, hl with | [_], _ => rfl⟩
    · have F := fun_mk (st := s__law_bent) l37 c37 k37
      exact ⟨f37, _, F, PySem.W.mg_of X G a37, F.binds fun _ _ _ _ _ _ us hl => match us, hl with | [_, _], _ => rfl⟩
    · have F := fun_mk (st := s_law) l38 c38 k38
      exact ⟨f38, _, F, PySem.W.mg_of X G a38, F.binds fun _ _ _ _ _ _ us hl => match us, hl with | [_], _ => rfl⟩
    · exact PySem.W.mg_none_of X G z_abs
    · exact PySem.W.mg_none_of X G z_all
    · exact PySem.W.mg_none_of X G z_any
    · exact PySem.W.mg_none_of X G z_bool
    · exact PySem.W.mg_none_of X G z_int
    · exact PySem.W.mg_none_of X G z_isinstance
    · exact PySem.W.mg_none_of X G z_len
    · exact PySem.W.mg_none_of X G z_list
    · exact PySem.W.mg_none_of X G z_max
    · exact PySem.W.mg_none_of X G z_min
    · exact PySem.W.mg_none_of X G z_range
    · exact PySem.W.mg_none_of X G z_repr
    · exact PySem.W.mg_none_of X G z_str
    · exact PySem.W.mg_none_of X G z_sum
    · exact PySem.W.mg_none_of X G z_tuple
    · exact PySem.W.mg_none_of X G z_zip
    · exact ⟨_, PySem.W.mg_of X G q0⟩
    · exact ⟨_, PySem.W.mg_of X G q1⟩
    · exact ⟨_, PySem.W.mg_of X G q2⟩
    · exact ⟨_, PySem.W.mg_of X G q3, .ref ta3, rfl, fun as F => .tup (.inr ⟨_, _, _, r3, rfl, rfl, by rw [sizeLine_eq]; simp, show Vals [V.int 0, V.int 1] _ from (.cons ⟨_, rfl⟩ (.cons ⟨_, rfl⟩ .nil))⟩) (.cons (.int _) (.cons (.int _) .nil))⟩
  have e := hfa.symm.trans (PySem.W.mg_of X G a38)
  cases e
  have Fl := fun_mk (st := s_law) l38 c38 k38
  refine ⟨_, fun s v => .of_eq (show bindArgs (PySem.W.fnOf "law" "law" (defArgs s_law) (defBody s_law) (defScope s_law) .none kV38 dc38 pm38 an38 cd38 ct38) ⟨[v], []⟩ = _ from rfl), fun base _ _ => ?_⟩
  obtain ⟨f, fd, F, hm, Fu, _⟩ := (all_ok (P := l.prog) (w := w) (base := base) T).ex
  cases hfa.symm.trans hm
  obtain ⟨_, _, _, _, _, _, _, _, _, e1, lk, _⟩ := Fu.ex
  cases lk.symm.trans l38
  exact F
end
end Lw

theorem Lw.f_law_true : ∀ ns : List Int, ns.length ≤ 63 → ∃ S', Lw.f_law [.ro (ns.map DL.D.int)] [] = .ok (.bl true) S' := fun ns h => Lp.f_law_true ns h

open PySem PySem.W PyProof.Rows
set_option maxRecDepth 100000 in
set_option maxHeartbeats 0 in
theorem PySem.Challenge.cw_downweigh_k18_papers_of_wishes_looked_at_holds : PySem.Challenge.rw_downweigh_k18_papers_of_wishes_looked_at.Holds := by
  w_on; o_law; k_head; (case hw => w_witness2)
  k_fill
  refine DL.walk_ofG (l := PySem.Challenge.rw_downweigh_k18_papers_of_wishes_looked_at) (n := 63) (k := 8) (m := Lw.f_law) (x := "_law_script") (by decide +kernel) rfl (by decide) rfl ⟨rfl, by decide, by decide⟩ (fun w h Y => PySem.W.kIn_of Y) ?F Lw.f_law_true
  case F =>
    intro w mg fa h KX G hmg
    refine' Lw.all_mk KX G hmg ?a0 ?l0 ?c0 ?k0 ?a1 ?l1 ?c1 ?k1 ?a2 ?l2 ?c2 ?k2 ?a3 ?l3 ?c3 ?k3 ?a4 ?l4 ?c4 ?k4 ?a5 ?l5 ?c5 ?k5 ?a6 ?l6 ?c6 ?k6 ?a7 ?l7 ?c7 ?k7 ?a8 ?l8 ?c8 ?k8 ?a9 ?l9 ?c9 ?k9 ?a10 ?l10 ?c10 ?k10 ?a11 ?l11 ?c11 ?k11 ?a12 ?l12 ?c12 ?k12 ?a13 ?l13 ?c13 ?k13 ?a14 ?l14 ?c14 ?k14 ?a15 ?l15 ?c15 ?k15 ?a16 ?l16 ?c16 ?k16 ?a17 ?l17 ?c17 ?k17 ?a18 ?l18 ?c18 ?k18 ?a19 ?l19 ?c19 ?k19 ?a20 ?l20 ?c20 ?k20 ?a21 ?l21 ?c21 ?k21 ?a22 ?l22 ?c22 ?k22 ?a23 ?l23 ?c23 ?k23 ?a24 ?l24 ?c24 ?k24 ?a25 ?l25 ?c25 ?k25 ?a26 ?l26 ?c26 ?k26 ?a27 ?l27 ?c27 ?k27 ?a28 ?l28 ?c28 ?k28 ?a29 ?l29 ?c29 ?k29 ?a30 ?l30 ?c30 ?k30 ?a31 ?l31 ?c31 ?k31 ?a32 ?l32 ?c32 ?k32 ?a33 ?l33 ?c33 ?k33 ?a34 ?l34 ?c34 ?k34 ?a35 ?l35 ?c35 ?k35 ?a36 ?l36 ?c36 ?k36 ?a37 ?l37 ?c37 ?k37 ?a38 ?l38 ?c38 ?k38 ?z_abs ?z_all ?z_any ?z_bool ?z_int ?z_isinstance ?z_len ?z_list ?z_max ?z_min ?z_range ?z_repr ?z_str ?z_sum ?z_tuple ?z_zip ?q0 ?q1 ?q2 ?q3 ?r3
    (case a0 => k_is)
    (case l0 => k_is)
    (case c0 => k_is)
    (case k0 => k_is)
    (case a1 => k_is)
    (case l1 => k_is)
    (case c1 => k_is)
    (case k1 => k_is)
    (case a2 => k_is)
    (case l2 => k_is)
    (case c2 => k_is)
    (case k2 => k_is)
    (case a3 => k_is)
    (case l3 => k_is)
    (case c3 => k_is)
    (case k3 => k_is)
    (case a4 => k_is)
    (case l4 => k_is)
    (case c4 => k_is)
    (case k4 => k_is)
    (case a5 => k_is)
    (case l5 => k_is)
    (case c5 => k_is)
    (case k5 => k_is)
    (case a6 => k_is)
    (case l6 => k_is)
    (case c6 => k_is)
    (case k6 => k_is)
    (case a7 => k_is)
    (case l7 => k_is)
    (case c7 => k_is)
    (case k7 => k_is)
    (case a8 => k_is)
    (case l8 => k_is)
    (case c8 => k_is)
    (case k8 => k_is)
    (case a9 => k_is)
    (case l9 => k_is)
    (case c9 => k_is)
    (case k9 => k_is)
    (case a10 => k_is)
    (case l10 => k_is)
    (case c10 => k_is)
    (case k10 => k_is)
    (case a11 => k_is)
    (case l11 => k_is)
    (case c11 => k_is)
    (case k11 => k_is)
    (case a12 => k_is)
    (case l12 => k_is)
    (case c12 => k_is)
    (case k12 => k_is)
    (case a13 => k_is)
    (case l13 => k_is)
    (case c13 => k_is)
    (case k13 => k_is)
    (case a14 => k_is)
    (case l14 => k_is)
    (case c14 => k_is)
    (case k14 => k_is)
    (case a15 => k_is)
    (case l15 => k_is)
    (case c15 => k_is)
    (case k15 => k_is)
    (case a16 => k_is)
    (case l16 => k_is)
    (case c16 => k_is)
    (case k16 => k_is)
    (case a17 => k_is)
    (case l17 => k_is)
    (case c17 => k_is)
    (case k17 => k_is)
    (case a18 => k_is)
    (case l18 => k_is)
    (case c18 => k_is)
    (case k18 => k_is)
    (case a19 => k_is)
    (case l19 => k_is)
    (case c19 => k_is)
    (case k19 => k_is)
    (case a20 => k_is)
    (case l20 => k_is)
    (case c20 => k_is)
    (case k20 => k_is)
    (case a21 => k_is)
    (case l21 => k_is)
    (case c21 => k_is)
    (case k21 => k_is)
    (case a22 => k_is)
    (case l22 => k_is)
    (case c22 => k_is)
    (case k22 => k_is)
    (case a23 => k_is)
    (case l23 => k_is)
    (case c23 => k_is)
    (case k23 => k_is)
    (case a24 => k_is)
    (case l24 => k_is)
    (case c24 => k_is)
    (case k24 => k_is)
    (case a25 => k_is)
    (case l25 => k_is)
    (case c25 => k_is)
    (case k25 => k_is)
    (case a26 => k_is)
    (case l26 => k_is)
    (case c26 => k_is)
    (case k26 => k_is)
    (case a27 => k_is)
    (case l27 => k_is)
    (case c27 => k_is)
    (case k27 => k_is)
    (case a28 => k_is)
    (case l28 => k_is)
    (case c28 => k_is)
    (case k28 => k_is)
    (case a29 => k_is)
    (case l29 => k_is)
    (case c29 => k_is)
    (case k29 => k_is)
    (case a30 => k_is)
    (case l30 => k_is)
    (case c30 => k_is)
    (case k30 => k_is)
    (case a31 => k_is)
    (case l31 => k_is)
    (case c31 => k_is)
    (case k31 => k_is)
    (case a32 => k_is)
    (case l32 => k_is)
    (case c32 => k_is)
    (case k32 => k_is)
    (case a33 => k_is)
    (case l33 => k_is)
    (case c33 => k_is)
    (case k33 => k_is)
    (case a34 => k_is)
    (case l34 => k_is)
    (case c34 => k_is)
    (case k34 => k_is)
    (case a35 => k_is)
    (case l35 => k_is)
    (case c35 => k_is)
    (case k35 => k_is)
    (case a36 => k_is)
    (case l36 => k_is)
    (case c36 => k_is)
    (case k36 => k_is)
    (case a37 => k_is)
    (case l37 => k_is)
    (case c37 => k_is)
    (case k37 => k_is)
    (case a38 => k_is)
    (case l38 => k_is)
    (case c38 => k_is)
    (case k38 => k_is)
    (case z_abs => k_is)
    (case z_all => k_is)
    (case z_any => k_is)
    (case z_bool => k_is)
    (case z_int => k_is)
    (case z_isinstance => k_is)
    (case z_len => k_is)
    (case z_list => k_is)
    (case z_max => k_is)
    (case z_min => k_is)
    (case z_range => k_is)
    (case z_repr => k_is)
    (case z_str => k_is)
    (case z_sum => k_is)
    (case z_tuple => k_is)
    (case z_zip => k_is)
    (case q0 => k_is)
    (case q1 => k_is)
    (case q2 => k_is)
    (case q3 => k_is)
    (case r3 => k_is)
#print axioms PySem.Challenge.cw_downweigh_k18_papers_of_wishes_looked_at_holds
