import PyProof.Rows.All
import Wide.All
import OpenK.AllK
import Wide.FinOn
import HandS.ForMost
import HandS.Exc
import HandS.TryOnly
import HandS.TryMany
import HandS.ExcOwn
import HandS.WordsExc
import HandS.Defaults
import HandS.More
import HandS.Star
import HandS.ClsMeth
import HandS.Property
import HandS.IsInst
import HandS.FStr
import HandS.TupAny
import HandS.Conv
import HandS.Walk
import HandS.Zip
import HandS.Wide
import KE.LtData
import KE.SortData
import PyProof.ReprRoads
import HandS.Iter
import KE.GoesEnum
import HandS.List
import PyProof.MeetsStr3
import HandS.Dict
import HandS.DictComp
import HandS.SetKeys
import HandS.SetBool
import HandS.Style
import KE.KUnpackStar
import PyProof.SetRoads
import HandS.OwnEq
import HandS.SlotsOwn
import PyProof.InstEq
import PyProof.Ends
import HandS.Ends
import HandS.HeadEnd
import HandS.Head0
import HandS.Head1
import HandS.Head2
import HandS.HeadHook1
import HandS.HeadHook2
import HandS.HeadNt
import HandS.Codes
import PySem.Challenge.RW_holdlevels_k84_texts_of_tasks_levels_and
import KE.KStateDown
import Lean
/-! ### DL1 -/
set_option Elab.async false
set_option linter.all false
set_option maxRecDepth 100000
set_option maxHeartbeats 4000000
namespace DL
open PySem L2

/-! ## values as trees: what never changes is a tree, what changes is an address -/
inductive D where
  | non | bl (b : Bool) | int (i : Int) | str (s : Str)
  | tup (xs : List D) | lst (xs : List D) | scr (xs : List D) | dct (ks : List Key) (xs : List D) | ins (C : Addr) (ns : List Str) (xs : List D)
  | ref (a : Addr) | ty (n : String)

section
variable (K : PySem.W.Frag) (F : Hp)
mutual
def Rp : D → V → Prop
  | .non, v => v = .non
  | .bl b, v => v = .bl b
  | .int i, v => v = .int i
  | .str s, v => v = .str s
  | .ref a, v => v = .ref a
  | .ty n, v => v = .ty n
  | .tup ds, v => ∃ a vs, v = .ref a ∧ SqT K F a vs ∧ vs.length ≤ sizeLine ∧ Rps ds vs
  | .lst ds, v => ∃ a vs, v = .ref a ∧ F a = some (.lst vs) ∧ vs.length ≤ sizeLine ∧ Rps ds vs
  | .scr ds, v => ∃ a vs, v = .ref a ∧ SqL K F a vs ∧ vs.length ≤ sizeLine ∧ Rps ds vs
  | .dct ks ds, v => ∃ a vs, v = .ref a ∧ F a = some (.dK (ks.zip vs)) ∧ ks.length = vs.length ∧ Rps ds vs
  | .ins C ns ds, v => ∃ a dx vs, v = .ref a ∧ F a = some (.ins C dx (ns.zip vs)) ∧ ns.length = vs.length ∧ Rps ds vs
def Rps : List D → List V → Prop
  | [], vs => vs = []
  | d :: ds, vs => ∃ v r, vs = v :: r ∧ Rp d v ∧ Rps ds r
end
end

theorem rd_mono {F F' : Hp} {a : Addr} {u : HO} (e : Same F F') (h : Rd F a u) : Rd F' a u := by
  rcases h with h | ⟨o, h⟩
  · exact .inl (e a _ h)
  · exact .inr ⟨o, e a _ h⟩
theorem sqL_mono {K : PySem.W.Frag} {F F' : Hp} {a : Addr} {vs : List V} (e : Same F F') (h : SqL K F a vs) : SqL K F' a vs := by
  rcases h with h | h
  · exact .inl (rd_mono e h)
  · exact .inr h
theorem sqT_mono {K : PySem.W.Frag} {F F' : Hp} {a : Addr} {vs : List V} (e : Same F F') (h : SqT K F a vs) : SqT K F' a vs := by
  rcases h with h | h
  · exact .inl (rd_mono e h)
  · exact .inr h

section
variable {K : PySem.W.Frag} {F F' : Hp}
mutual
theorem Rp.mono (e : Same F F') : ∀ (d : D) (v : V), Rp K F d v → Rp K F' d v
  | .non, _, h => by simp only [Rp] at h ⊢; exact h
  | .bl _, _, h => by simp only [Rp] at h ⊢; exact h
  | .int _, _, h => by simp only [Rp] at h ⊢; exact h
  | .str _, _, h => by simp only [Rp] at h ⊢; exact h
  | .ref _, _, h => by simp only [Rp] at h ⊢; exact h
  | .ty _, _, h => by simp only [Rp] at h ⊢; exact h
  | .tup ds, v, h => by
    simp only [Rp] at h ⊢
    obtain ⟨a, vs, h1, h2, h3, h4⟩ := h
    exact ⟨a, vs, h1, sqT_mono e h2, h3, Rps.mono e ds vs h4⟩
  | .lst ds, v, h => by
    simp only [Rp] at h ⊢
    obtain ⟨a, vs, h1, h2, h3, h4⟩ := h
    exact ⟨a, vs, h1, e _ _ h2, h3, Rps.mono e ds vs h4⟩
  | .scr ds, v, h => by
    simp only [Rp] at h ⊢
    obtain ⟨a, vs, h1, h2, h3, h4⟩ := h
    exact ⟨a, vs, h1, sqL_mono e h2, h3, Rps.mono e ds vs h4⟩
  | .dct ks ds, v, h => by
    simp only [Rp] at h ⊢
    obtain ⟨a, vs, h1, h2, h3, h4⟩ := h
    exact ⟨a, vs, h1, e _ _ h2, h3, Rps.mono e ds vs h4⟩
  | .ins C ns ds, v, h => by
    simp only [Rp] at h ⊢
    obtain ⟨a, dx, vs, h1, h2, h3, h4⟩ := h
    exact ⟨a, dx, vs, h1, e _ _ h2, h3, Rps.mono e ds vs h4⟩
theorem Rps.mono (e : Same F F') : ∀ (ds : List D) (vs : List V), Rps K F ds vs → Rps K F' ds vs
  | [], _, h => by simp only [Rps] at h ⊢; exact h
  | d :: ds, vs, h => by
    simp only [Rps] at h ⊢
    obtain ⟨v, r, h1, h2, h3⟩ := h
    exact ⟨v, r, h1, Rp.mono e d v h2, Rps.mono e ds r h3⟩
end
theorem Rps.nil : Rps K F [] [] := by simp only [Rps]
theorem Rps.cons {d : D} {v : V} {ds : List D} {vs : List V} (h : Rp K F d v) (r : Rps K F ds vs) : Rps K F (d :: ds) (v :: vs) := by
  simp only [Rps]
  exact ⟨v, vs, rfl, h, r⟩
theorem Rps.len : ∀ {ds : List D} {vs : List V}, Rps K F ds vs → ds.length = vs.length
  | [], vs, h => by simp only [Rps] at h; rw [h]; rfl
  | d :: ds, vs, h => by
    simp only [Rps] at h
    obtain ⟨v, r, rfl, _, h3⟩ := h
    rw [List.length_cons, List.length_cons, Rps.len h3]
theorem Rps.nil_inv {vs : List V} (h : Rps K F [] vs) : vs = [] := by simpa only [Rps] using h
theorem Rps.cons_inv {d : D} {ds : List D} {vs : List V} (h : Rps K F (d :: ds) vs) : ∃ v r, vs = v :: r ∧ Rp K F d v ∧ Rps K F ds r := by simpa only [Rps] using h
theorem Rps.get : ∀ {ds : List D} {vs : List V} {i : Nat} {d : D}, Rps K F ds vs → ds[i]? = some d → ∃ v, vs[i]? = some v ∧ Rp K F d v
  | [], _, i, d, _, e => by simp at e
  | d :: ds, vs, 0, d', h, e => by
    obtain ⟨v, r, rfl, h2, _⟩ := h.cons_inv
    have : d = d' := by simpa using e
    subst this
    exact ⟨v, rfl, h2⟩
  | d :: ds, vs, i + 1, d', h, e => by
    obtain ⟨v, r, rfl, _, h3⟩ := h.cons_inv
    obtain ⟨v', e', h'⟩ := Rps.get h3 (i := i) (d := d') (by simpa using e)
    exact ⟨v', by simpa using e', h'⟩
theorem Rps.getV : ∀ {ds : List D} {vs : List V} {i : Nat} {v : V}, Rps K F ds vs → vs[i]? = some v → ∃ d, ds[i]? = some d ∧ Rp K F d v
  | [], vs, i, v, h, e => by rw [h.nil_inv] at e; simp at e
  | d :: ds, vs, 0, v', h, e => by
    obtain ⟨v, r, rfl, h2, _⟩ := h.cons_inv
    have : v = v' := by simpa using e
    subst this
    exact ⟨d, rfl, h2⟩
  | d :: ds, vs, i + 1, v', h, e => by
    obtain ⟨v, r, rfl, _, h3⟩ := h.cons_inv
    obtain ⟨d', e', h'⟩ := Rps.getV h3 (i := i) (v := v') (by simpa using e)
    exact ⟨d', by simpa using e', h'⟩
theorem Rps.append : ∀ {ds es : List D} {vs ws : List V}, Rps K F ds vs → Rps K F es ws → Rps K F (ds ++ es) (vs ++ ws)
  | [], es, vs, ws, h, h' => by rw [h.nil_inv]; exact h'
  | d :: ds, es, vs, ws, h, h' => by
    obtain ⟨v, r, rfl, h2, h3⟩ := h.cons_inv
    exact Rps.cons h2 (Rps.append h3 h')
theorem Rps.drop : ∀ {ds : List D} {vs : List V} (n : Nat), Rps K F ds vs → Rps K F (ds.drop n) (vs.drop n)
  | ds, vs, 0, h => h
  | [], vs, n + 1, h => by rw [h.nil_inv]; exact Rps.nil
  | d :: ds, vs, n + 1, h => by
    obtain ⟨v, r, rfl, _, h3⟩ := h.cons_inv
    exact Rps.drop n h3
theorem Rps.take : ∀ {ds : List D} {vs : List V} (n : Nat), Rps K F ds vs → Rps K F (ds.take n) (vs.take n)
  | ds, vs, 0, h => by rw [List.take_zero, List.take_zero]; exact Rps.nil
  | [], vs, n + 1, h => by rw [h.nil_inv]; exact Rps.nil
  | d :: ds, vs, n + 1, h => by
    obtain ⟨v, r, rfl, h2, h3⟩ := h.cons_inv
    exact Rps.cons h2 (Rps.take n h3)
theorem Rps.set {d : D} {v : V} (hv : Rp K F d v) : ∀ {ds : List D} {vs : List V} (n : Nat), Rps K F ds vs → Rps K F (ds.set n d) (vs.set n v)
  | [], vs, n, h => by rw [h.nil_inv]; exact Rps.nil
  | d' :: ds, vs, 0, h => by
    obtain ⟨v', r, rfl, _, h3⟩ := h.cons_inv
    exact Rps.cons hv h3
  | d' :: ds, vs, n + 1, h => by
    obtain ⟨v', r, rfl, h2, h3⟩ := h.cons_inv
    exact Rps.cons h2 (Rps.set hv n h3)
theorem Rps.erase : ∀ {ds : List D} {vs : List V} (n : Nat), Rps K F ds vs → Rps K F (ds.eraseIdx n) (vs.eraseIdx n)
  | [], vs, n, h => by rw [h.nil_inv]; exact Rps.nil
  | d' :: ds, vs, 0, h => by
    obtain ⟨v', r, rfl, _, h3⟩ := h.cons_inv
    exact h3
  | d' :: ds, vs, n + 1, h => by
    obtain ⟨v', r, rfl, h2, h3⟩ := h.cons_inv
    exact Rps.cons h2 (Rps.erase n h3)
theorem Rps.rev {ds : List D} {vs : List V} (h : Rps K F ds vs) : Rps K F ds.reverse vs.reverse := by
  induction ds generalizing vs with
  | nil => rw [h.nil_inv]; exact Rps.nil
  | cons d ds ih =>
    obtain ⟨v, r, rfl, h2, h3⟩ := h.cons_inv
    rw [List.reverse_cons, List.reverse_cons]
    exact (ih h3).append (Rps.cons h2 Rps.nil)
end

/-! ## what changes -/
inductive MO where
  | lst (xs : List D) | dct (ks : List Key) (xs : List D) | ins (C : Addr) (ns : List Str) (xs : List D)
abbrev HD := Addr → Option MO
def updM (M : HD) (a : Addr) (o : MO) : HD := fun b => if b = a then some o else M b
def delM (M : HD) (a : Addr) : HD := fun b => if b = a then none else M b
theorem updM_same {M : HD} {a : Addr} {o : MO} : updM M a o a = some o := by unfold updM; rw [if_pos rfl]
theorem updM_ne {M : HD} {a b : Addr} {o : MO} (h : b ≠ a) : updM M a o b = M b := by unfold updM; rw [if_neg h]
theorem updM_updM {M : HD} {a : Addr} {o u : MO} : updM (updM M a o) a u = updM M a u := by
  funext b; unfold updM; split <;> rfl
theorem delM_ne {M : HD} {a b : Addr} (h : b ≠ a) : delM M a b = M b := by unfold delM; rw [if_neg h]
theorem delM_same {M : HD} {a : Addr} : delM M a a = none := by unfold delM; rw [if_pos rfl]
def Sub (M M' : HD) : Prop := ∀ a o, M a = some o → M' a = some o
theorem Sub.refl (M : HD) : Sub M M := fun _ _ h => h
theorem Sub.trans {A B C : HD} (h : Sub A B) (h' : Sub B C) : Sub A C := fun a o e => h' a o (h a o e)
theorem Sub.upd {M : HD} {a : Addr} {o : MO} (h : M a = none) : Sub M (updM M a o) := fun b u e => by
  rw [updM_ne (fun q => by rw [q, h] at e; cases e)]; exact e

section
variable (K : PySem.W.Frag) (F H : Hp)
def OwnR (a : Addr) : MO → Prop
  | .lst ds => ∃ vs, H a = some (.lst vs) ∧ vs.length ≤ sizeLine ∧ Rps K F ds vs
  | .dct ks ds => ∃ vs, H a = some (.dK (ks.zip vs)) ∧ ks.length = vs.length ∧ Rps K F ds vs
  | .ins C ns ds => ∃ dx vs, H a = some (.ins C dx (ns.zip vs)) ∧ ns.length = vs.length ∧ Rps K F ds vs
end
theorem OwnR.some {K : PySem.W.Frag} {F H : Hp} {a : Addr} {m : MO} (h : OwnR K F H a m) : ∃ o, H a = some o := by
  cases m with
  | lst ds => obtain ⟨vs, e, _⟩ := h; exact ⟨_, e⟩
  | dct ks ds => obtain ⟨vs, e, _⟩ := h; exact ⟨_, e⟩
  | ins C ns ds => obtain ⟨dx, vs, e, _⟩ := h; exact ⟨_, e⟩
theorem OwnR.go {K : PySem.W.Frag} {F F' H H' : Hp} {a : Addr} {m : MO} (h : OwnR K F H a m) (e : Same F F') (eh : ∀ o, H a = Option.some o → H' a = Option.some o) : OwnR K F' H' a m := by
  cases m with
  | lst ds => obtain ⟨vs, e1, e2, e3⟩ := h; exact ⟨vs, eh _ e1, e2, e3.mono e⟩
  | dct ks ds => obtain ⟨vs, e1, e2, e3⟩ := h; exact ⟨vs, eh _ e1, e2, e3.mono e⟩
  | ins C ns ds => obtain ⟨dx, vs, e1, e2, e3⟩ := h; exact ⟨dx, vs, eh _ e1, e2, e3.mono e⟩

/-- F: the frozen part; M: what may change; Z: what is put aside (it stands, and nobody touches it) -/
structure Sim (Z : Hp) (K : PySem.W.Frag) (F : Hp) (M : HD) (H : Hp) : Prop where
  sub : Same F H
  own : ∀ a m, M a = some m → F a = none ∧ OwnR K F H a m
  res : ∀ a o, Z a = some o → H a = some o ∧ F a = none ∧ M a = none

section
variable {K : PySem.W.Frag} {Z F : Hp} {M : HD} {H : Hp}
theorem Sim.freshF (S : Sim Z K F M H) {p : Addr} (h : H p = none) : F p = none := S.sub.free h
theorem Sim.freshM (S : Sim Z K F M H) {p : Addr} (h : H p = none) : M p = none := by
  cases e : M p with
  | none => rfl
  | some m =>
    obtain ⟨_, o⟩ := S.own p m e
    obtain ⟨o', e'⟩ := o.some
    rw [h] at e'; cases e'
theorem Sim.freshZ (S : Sim Z K F M H) {p : Addr} (h : H p = none) {a : Addr} {o : HO} (q : Z a = some o) : a ≠ p := fun e => by
  subst e
  rw [(S.res a o q).1] at h; cases h
theorem Sim.apartM (S : Sim Z K F M H) {p : Addr} {m : MO} (h : M p = some m) {a : Addr} {o : HO} (q : Z a = some o) : a ≠ p := fun e => by
  subst e
  rw [(S.res a o q).2.2] at h; cases h
theorem same_upd {H : Hp} {p : Addr} {o : HO} (h : H p = none) : Same H (upd H p o) := fun a u e => by rw [upd_ne (ne_of_none e h)]; exact e
/-- the heap grows by what is not looked at -/
theorem Sim.more {H' : Hp} (S : Sim Z K F M H) (e : Same H H') : Sim Z K F M H' :=
  ⟨S.sub.trans e, fun a m h => ⟨(S.own a m h).1, (S.own a m h).2.go (Same.refl F) fun o q => e a o q⟩, fun a o q => ⟨e a o (S.res a o q).1, (S.res a o q).2⟩⟩
/-- a new frozen object -/
theorem Sim.grow {p : Addr} {o : HO} (S : Sim Z K F M H) (h : H p = none) : Same F (upd F p o) ∧ Sim Z K (upd F p o) M (upd H p o) := by
  have eF : Same F (upd F p o) := same_upd (S.freshF h)
  refine ⟨eF, fun a u q => ?_, fun a m q => ?_, fun a u q => ?_⟩
  · by_cases ha : a = p
    · subst ha; rw [upd_same] at q ⊢; exact q
    · rw [upd_ne ha] at q ⊢; exact S.sub a u q
  · obtain ⟨h1, h2⟩ := S.own a m q
    have ha : a ≠ p := fun e => by subst e; obtain ⟨o', e'⟩ := h2.some; rw [h] at e'; cases e'
    exact ⟨by rw [upd_ne ha]; exact h1, h2.go eF fun u e => by rw [upd_ne ha]; exact e⟩
  · have ha := S.freshZ h q
    rw [upd_ne ha, upd_ne ha]
    exact S.res a u q
/-- a new object that may change -/
theorem Sim.new {p : Addr} {o : HO} {m : MO} (S : Sim Z K F M H) (h : H p = none) (r : OwnR K F (upd H p o) p m) : Sim Z K F (updM M p m) (upd H p o) := by
  have e := same_upd (o := o) h
  refine ⟨S.sub.trans e, fun a m' q => ?_, fun a u q => ?_⟩
  · by_cases ha : a = p
    · subst ha; rw [updM_same] at q; cases q; exact ⟨S.freshF h, r⟩
    · rw [updM_ne ha] at q
      exact ⟨(S.own a m' q).1, (S.own a m' q).2.go (Same.refl F) fun u z => e a u z⟩
  · have ha := S.freshZ h q
    rw [upd_ne ha, updM_ne ha]
    exact S.res a u q
/-- an object is changed -/
theorem Sim.put {a : Addr} {o : HO} {m m' : MO} (S : Sim Z K F M H) (h : M a = some m) (r : OwnR K F (upd H a o) a m') : Sim Z K F (updM M a m') (upd H a o) := by
  have hF := (S.own a m h).1
  refine ⟨fun b u q => ?_, fun b m2 q => ?_, fun b u q => ?_⟩
  · have hb : b ≠ a := fun e => by subst e; rw [hF] at q; cases q
    rw [upd_ne hb]; exact S.sub b u q
  · by_cases hb : b = a
    · subst hb; rw [updM_same] at q; cases q; exact ⟨hF, r⟩
    · rw [updM_ne hb] at q
      exact ⟨(S.own b m2 q).1, (S.own b m2 q).2.go (Same.refl F) fun u z => by rw [upd_ne hb]; exact z⟩
  · have hb := S.apartM h q
    rw [upd_ne hb, updM_ne hb]
    exact S.res b u q
theorem Sim.forget {M0 : HD} (S : Sim Z K F M H) (h : Sub M0 M) : Sim Z K F M0 H := ⟨S.sub, fun a m e => S.own a m (h a m e), fun a o q => ⟨(S.res a o q).1, (S.res a o q).2.1, by
  cases e : M0 a with
  | none => rfl
  | some m => rw [← (S.res a o q).2.2]; exact (h a m e).symm⟩⟩
/-- what will not change any more -/
theorem Sim.frz {a : Addr} {m : MO} {o : HO} (S : Sim Z K F M H) (h : M a = some m) (e : H a = some o) : Same F (upd F a o) ∧ Sim Z K (upd F a o) (delM M a) H := by
  have hF := (S.own a m h).1
  have eF : Same F (upd F a o) := same_upd hF
  refine ⟨eF, fun b u q => ?_, fun b m2 q => ?_, fun b u q => ?_⟩
  · by_cases hb : b = a
    · subst hb; rw [upd_same] at q; rw [← q]; exact e
    · rw [upd_ne hb] at q; exact S.sub b u q
  · by_cases hb : b = a
    · subst hb; rw [delM_same] at q; cases q
    · rw [delM_ne hb] at q
      exact ⟨by rw [upd_ne hb]; exact (S.own b m2 q).1, (S.own b m2 q).2.go eF fun u z => z⟩
  · have hb := S.apartM h q
    rw [upd_ne hb, delM_ne hb]
    exact S.res b u q
/-- an object that nobody else looks at is put aside -/
theorem Sim.aside {L : Addr} {o : HO} (S : Sim Z K F M H) (h : H L = some o) (f : F L = none) (m : M L = none) : Sim (upd Z L o) K F M H := ⟨S.sub, S.own, fun a u q => by
  by_cases ha : a = L
  · subst ha; rw [upd_same] at q; cases q; exact ⟨h, f, m⟩
  · rw [upd_ne ha] at q; exact S.res a u q⟩
/-- .. and written, or taken back -/
theorem Sim.back {L : Addr} {o u : HO} (zl : Z L = none) (S : Sim (upd Z L o) K F M H) : Sim Z K F M (upd H L u) ∧ F L = none ∧ M L = none ∧ H L = some o := by
  obtain ⟨h1, h2, h3⟩ := S.res L o upd_same
  refine ⟨⟨fun a v q => ?_, fun a m q => ?_, fun a v q => ?_⟩, h2, h3, h1⟩
  · have ha : a ≠ L := fun e => by subst e; rw [h2] at q; cases q
    rw [upd_ne ha]; exact S.sub a v q
  · have ha : a ≠ L := fun e => by subst e; rw [h3] at q; cases q
    exact ⟨(S.own a m q).1, (S.own a m q).2.go (Same.refl F) fun v z => by rw [upd_ne ha]; exact z⟩
  · have ha : a ≠ L := fun e => by subst e; rw [zl] at q; cases q
    rw [upd_ne ha]
    exact S.res a v (by rw [upd_ne ha]; exact q)
end

/-! ## slots -/
abbrev SD := List (Option D)
structure RelS (K : PySem.W.Frag) (F : Hp) (σd : SD) (σ : L2.St) : Prop where
  len : σd.length = σ.length
  val : ∀ (i : Nat) (d : D), σd[i]? = some (some d) → ∃ v, σ[i]? = some (some v) ∧ Rp K F d v
section
variable {K : PySem.W.Frag} {F F' : Hp} {σd : SD} {σ : L2.St}
theorem RelS.mono (e : Same F F') (h : RelS K F σd σ) : RelS K F' σd σ := ⟨h.len, fun i d q => let ⟨v, a, b⟩ := h.val i d q; ⟨v, a, b.mono e⟩⟩
theorem RelS.set {d : D} {v : V} (h : RelS K F σd σ) (r : Rp K F d v) (i : Nat) : RelS K F (σd.set i (some d)) (σ.set i (some v)) := by
  refine ⟨by rw [List.length_set, List.length_set, h.len], fun j d' q => ?_⟩
  by_cases hj : i = j
  · subst hj
    by_cases hl : i < σd.length
    · rw [List.getElem?_set_self hl] at q
      cases q
      exact ⟨v, by rw [List.getElem?_set_self (by rw [← h.len]; exact hl)], r⟩
    · rw [List.getElem?_eq_none (by rw [List.length_set]; omega)] at q; cases q
  · rw [List.getElem?_set_ne hj] at q
    obtain ⟨w, a, b⟩ := h.val j d' q
    exact ⟨w, by rw [List.getElem?_set_ne hj]; exact a, b⟩
theorem RelS.unset {x : Option V} (h : RelS K F σd σ) (i : Nat) : RelS K F (σd.set i none) (σ.set i x) := by
  refine ⟨by rw [List.length_set, List.length_set, h.len], fun j d' q => ?_⟩
  by_cases hj : i = j
  · subst hj
    by_cases hl : i < σd.length
    · rw [List.getElem?_set_self hl] at q; cases q
    · rw [List.getElem?_eq_none (by rw [List.length_set]; omega)] at q; cases q
  · rw [List.getElem?_set_ne hj] at q
    obtain ⟨w, a, b⟩ := h.val j d' q
    exact ⟨w, by rw [List.getElem?_set_ne hj]; exact a, b⟩
end
def wipeD (σ : SD) : List Nat → SD
  | [] => σ
  | v :: vs => (wipeD σ vs).set v none
theorem RelS.wipe {K : PySem.W.Frag} {F : Hp} {σd : SD} {σ : L2.St} (h : RelS K F σd σ) : ∀ vs : List Nat, RelS K F (wipeD σd vs) (wipe σ vs)
  | [] => h
  | v :: vs => (RelS.wipe h vs).unset v

/-! ## what an exception is -/
structure XV where
  cls : Value
  ns : List Str
  ds : List D
def ExR (K : PySem.W.Frag) (F : Hp) (x : XV) (cls : Value) (d : Option Addr) : Prop :=
  x.cls = cls ∧ ((d = none ∧ x.ns = []) ∨ ∃ dd vs, d = some dd ∧ F dd = some (.xd (x.ns.zip vs)) ∧ x.ns.length = vs.length ∧ Rps K F x.ds vs)

/-! ## readings over trees -/
abbrev VKD := D → HD → Prop
abbrev XD := XV → HD → Prop
abbrev TD := SD → HD → VKD → XD → Prop
abbrev TTD := SD → HD → (Bool → HD → Prop) → XD → Prop
abbrev TAD := SD → HD → (List D → HD → Prop) → XD → Prop
structure EndsD where
  nx : SD → HD → Prop
  rt : VKD
  bk : SD → HD → Prop := fun _ _ => False
  ct : SD → HD → Prop := fun _ _ => False
  ex : XD
abbrev TSD := EndsD → SD → HD → Prop

section
variable (Z : Hp) (K : PySem.W.Frag) (W : WX)
/-- how the ends of both sides belong together -/
def PostE (F : Hp) (Q : VKD) (Qv : VK) : Prop := ∀ v H' F' M' d, Same F F' → Sim Z K F' M' H' → Rp K F' d v → Q d M' → Qv v H'
def PostB (F : Hp) (Q : Bool → HD → Prop) (Qv : Bool → Hp → Prop) : Prop := ∀ b H' F' M', Same F F' → Sim Z K F' M' H' → Q b M' → Qv b H'
def PostA (F : Hp) (Q : List D → HD → Prop) (Qv : List V → Hp → Prop) : Prop := ∀ vs H' F' M' ds, Same F F' → Sim Z K F' M' H' → Rps K F' ds vs → Q ds M' → Qv vs H'
def PostX (F : Hp) (σ : L2.St) (E : XD) : Prop := ∀ x cls d H' F' M', Same F F' → Sim Z K F' M' H' → ExR K F' x cls d → E x M' → W cls d σ H'
def LiftE (tv : TE) (t : TD) : Prop := ∀ Z F M σd σ H Q E Qv, Sim Z K F M H → RelS K F σd σ → t σd M Q E → PostE Z K F Q Qv → PostX Z K W F σ E → tv σ H Qv
def LiftT (tv : TT) (t : TTD) : Prop := ∀ Z F M σd σ H Q E Qv, Sim Z K F M H → RelS K F σd σ → t σd M Q E → PostB Z K F Q Qv → PostX Z K W F σ E → tv σ H Qv
def LiftA (tv : TA) (t : TAD) : Prop := ∀ Z F M σd σ H Q E Qv, Sim Z K F M H → RelS K F σd σ → t σd M Q E → PostA Z K F Q Qv → PostX Z K W F σ E → tv σ H Qv
def PostS (F : Hp) (n : SD → HD → Prop) (nv : L2.St → Hp → Prop) : Prop := ∀ σd' σ' H' F' M', Same F F' → Sim Z K F' M' H' → RelS K F' σd' σ' → n σd' M' → nv σ' H'
structure EndsR (F : Hp) (D : EndsD) (Dv : Ends) : Prop where
  nx : PostS Z K F D.nx Dv.nx
  rt : PostE Z K F D.rt Dv.rt
  bk : PostS Z K F D.bk Dv.bk
  ct : PostS Z K F D.ct Dv.ct
  ex : ∀ σ, PostX Z K W F σ D.ex
def LiftS (tv : TS) (t : TSD) : Prop := ∀ Z F M σd σ H D Dv, Sim Z K F M H → RelS K F σd σ → t D σd M → EndsR Z K W F D Dv → tv Dv σ H
end
section
variable {Z : Hp} {K : PySem.W.Frag} {W : WX} {F F' : Hp}
theorem PostE.mono {Q : VKD} {Qv : VK} (e : Same F F') (h : PostE Z K F Q Qv) : PostE Z K F' Q Qv := fun v H' F2 M' d e2 => h v H' F2 M' d (e.trans e2)
theorem PostB.mono {Q : Bool → HD → Prop} {Qv : Bool → Hp → Prop} (e : Same F F') (h : PostB Z K F Q Qv) : PostB Z K F' Q Qv := fun v H' F2 M' e2 => h v H' F2 M' (e.trans e2)
theorem PostA.mono {Q : List D → HD → Prop} {Qv : List V → Hp → Prop} (e : Same F F') (h : PostA Z K F Q Qv) : PostA Z K F' Q Qv := fun v H' F2 M' d e2 => h v H' F2 M' d (e.trans e2)
theorem PostX.mono {σ : L2.St} {E : XD} (e : Same F F') (h : PostX Z K W F σ E) : PostX Z K W F' σ E := fun x c d H' F2 M' e2 => h x c d H' F2 M' (e.trans e2)
theorem PostS.mono {n : SD → HD → Prop} {nv : L2.St → Hp → Prop} (e : Same F F') (h : PostS Z K F n nv) : PostS Z K F' n nv := fun a b c F2 M' e2 => h a b c F2 M' (e.trans e2)
theorem EndsR.mono {D : EndsD} {Dv : Ends} (e : Same F F') (h : EndsR Z K W F D Dv) : EndsR Z K W F' D Dv := ⟨h.nx.mono e, h.rt.mono e, h.bk.mono e, h.ct.mono e, fun σ => (h.ex σ).mono e⟩
end

structure DE (X : Cx) (W : WX) (e : Expr) (t : TD) : Prop where
  ex : ∃ tv, PE X e tv ∧ LiftE X.K W tv t
structure DT (X : Cx) (W : WX) (e : Expr) (t : TTD) : Prop where
  ex : ∃ tv, PT X e tv ∧ LiftT X.K W tv t
structure DW (X : Cx) (W : WX) (e : Expr) (t : TTD) : Prop where
  ex : ∃ tv, PW X e tv ∧ LiftT X.K W tv t
structure DA (X : Cx) (W : WX) (es : List Expr) (t : TAD) : Prop where
  ex : ∃ tv, PA X es tv ∧ LiftA X.K W tv t
structure DS (X : Cx) (W : WX) (st : Stmt) (t : TSD) : Prop where
  ex : ∃ tv, PS X st tv ∧ LiftS X.K W tv t
structure DSs (X : Cx) (W : WX) (st : List Stmt) (t : TSD) : Prop where
  ex : ∃ tv, PSs X st tv ∧ LiftS X.K W tv t
end DL

/-! ### DL2 -/
set_option Elab.async false
set_option linter.all false
set_option maxRecDepth 100000
set_option maxHeartbeats 4000000
namespace DL
open PySem L2

/-! ## small expressions -/
section
variable {X : Cx} {W : WX}
def tVarD (i : Nat) : TD := fun σ M Q _ => match σ[i]? with
  | some (some d) => Q d M
  | _ => False
theorem de_var {i : Nat} {x : Str} {pos : Pos} (hN : X.N[i]? = some x) (hv : Vis X.env.scope x) (hd : (x == ("__debug__" : Str)) = false := by decide) (hcd : (x == ("__classdict__" : Str)) = false := by decide) : DE X W (.Name x pos) (tVarD i) := by
  refine ⟨tVar i, pe_var hN hv hd hcd, fun Z F M σd σ H Q E Qv S R h P _ => ?_⟩
  unfold tVarD at h
  split at h
  · rename_i d e
    obtain ⟨v, e', r⟩ := R.val i d e
    exact ⟨v, e', P v H F M d (Same.refl F) S r h⟩
  · exact h.elim
theorem dv (i : Nat) {x : Str} {pos : Pos} (hN : X.N[i]? = some x := by rfl) (hv : Vis X.env.scope x := by first | exact Or.inl rfl | exact Or.inr (Or.inl rfl) | exact Or.inr (Or.inr rfl))
    (hd : (x == ("__debug__" : Str)) = false := by decide) (hcd : (x == ("__classdict__" : Str)) = false := by decide) : DE X W (.Name x pos) (tVarD i) := de_var hN hv hd hcd
def tCD (d : D) : TD := fun _ M Q _ => Q d M
theorem de_c {e : Expr} {d : D} {v : V} (h : PE X e (tC v)) (r : ∀ F, Rp X.K F d v) : DE X W e (tCD d) :=
  ⟨tC v, h, fun Z F M σd σ H Q E Qv S R q P _ => P v H F M d (Same.refl F) S (r F) q⟩
theorem de_int {i j pos} : DE X W (.Constant (.int i) j pos) (tCD (.int i)) := de_c pe_int fun F => by simp only [Rp]
theorem de_bl {b j pos} : DE X W (.Constant (.bool b) j pos) (tCD (.bl b)) := de_c pe_bl fun F => by simp only [Rp]
theorem de_non {j pos} : DE X W (.Constant .none j pos) (tCD .non) := de_c pe_non fun F => by simp only [Rp]
theorem de_str {x j pos} : DE X W (.Constant (.str x) j pos) (tCD (.str x)) := de_c pe_str fun F => by simp only [Rp]
/-- a global: the tree d stands for its value v whatever the heap -/
theorem de_glob {x : Str} {d : D} {v : V} {u : Value} {pos : Pos} (hg : Gl X x) (hm : X.mg x = some u) (r : RelV v u) (rd : ∀ F, Rp X.K F d v) (hd : (x == ("__debug__" : Str)) = false := by decide) : DE X W (.Name x pos) (tCD d) :=
  de_c (pe_glob hg hm r hd) rd
theorem de_globI {x : Str} {i : Int} {pos : Pos} (hm : ∃ t, X.mg x = some (.int i t)) (hg : Gl X x := by rfl) (hd : (x == ("__debug__" : Str)) = false := by decide) : DE X W (.Name x pos) (tCD (.int i)) := by
  obtain ⟨t, e⟩ := hm
  exact de_glob hg e (v := .int i) ⟨t, rfl⟩ (fun F => by simp only [Rp]) hd
theorem de_globS {x z : Str} {pos : Pos} (hm : ∃ t, X.mg x = some (.str z t)) (hg : Gl X x := by rfl) (hd : (x == ("__debug__" : Str)) = false := by decide) : DE X W (.Name x pos) (tCD (.str z)) := by
  obtain ⟨t, e⟩ := hm
  exact de_glob hg e (v := .str z) ⟨t, rfl⟩ (fun F => by simp only [Rp]) hd
theorem de_globA {x : Str} {a : Addr} {pos : Pos} (hm : X.mg x = some (.ref a)) (hg : Gl X x := by rfl) (hd : (x == ("__debug__" : Str)) = false := by decide) : DE X W (.Name x pos) (tCD (.ref a)) :=
  de_glob hg hm (v := .ref a) rfl (fun F => by simp only [Rp]) hd
theorem de_ty {x : Str} {n : String} {pos : Pos} (hm : X.mg x = none) (hv : bootBuiltins x = some (.type n)) (hg : Gl X x := by rfl) (hn : x ≠ "__name__" := by decide) (hd : (x == ("__debug__" : Str)) = false := by decide) : DE X W (.Name x pos) (tCD (.ty n)) :=
  de_c (pe_bltn hg hm hv (v := .ty n) rfl hn hd) fun F => by simp only [Rp]

/-! ## two operands -/
abbrev R2D := D → D → HD → VKD → Prop
def LiftR2 (K : PySem.W.Frag) (rv : R2) (r : R2D) : Prop := ∀ Z F M H x y dx dy Q Qv, Sim Z K F M H → Rp K F dx x → Rp K F dy y → r dx dy M Q → PostE Z K F Q Qv → rv x y H Qv
def tOpD (r : R2D) (ta tb : TD) : TD := fun σ M Q E => ta σ M (fun x M1 => tb σ M1 (fun y M2 => r x y M2 Q) E) E
variable {a b c : Expr} {ta tb tc : TD} {pos : Pos}
theorem lift_op {K : PySem.W.Frag} {rv : R2} {r : R2D} {va vb : TE} (hl : LiftR2 K rv r) (la : LiftE K W va ta) (lb : LiftE K W vb tb) : LiftE K W (tOp rv va vb) (tOpD r ta tb) := by
  intro Z F M σd σ H Q E Qv S R h P PX
  refine la Z F M σd σ H _ E _ S R h (fun x H1 F1 M1 dx e1 S1 r1 q1 => ?_) PX
  refine lb Z F1 M1 σd σ H1 _ E _ S1 (R.mono e1) q1 (fun y H2 F2 M2 dy e2 S2 r2 q2 => ?_) (PX.mono e1)
  exact hl Z F2 M2 H2 x y dx dy Q Qv S2 (r1.mono e2) r2 q2 (P.mono (e1.trans e2))
theorem de_op {op : Operator} {rv : R2} {r : R2D} (ho : OpR X (binaryOp op) rv) (hl : LiftR2 X.K rv r) (ha : DE X W a ta) (hb : DE X W b tb) : DE X W (.BinOp a op b pos) (tOpD r ta tb) := by
  obtain ⟨va, pa, la⟩ := ha
  obtain ⟨vb, pb, lb⟩ := hb
  exact ⟨_, pe_op ho pa pb, lift_op hl la lb⟩
theorem de_cmp {op : CmpOp} {rv : R2} {r : R2D} (ho : OpR X (compareOp op) rv) (hl : LiftR2 X.K rv r) (ha : DE X W a ta) (hb : DE X W b tb) (hm : behindInMarks op b = false) : DE X W (.Compare a [op] [b] pos) (tOpD r ta tb) := by
  obtain ⟨va, pa, la⟩ := ha
  obtain ⟨vb, pb, lb⟩ := hb
  exact ⟨_, pe_cmpR ho pa pb hm, lift_op hl la lb⟩
def tTestD (t : TD) : TTD := fun σ M Q E => t σ M (fun d M1 => match d with
  | .bl k => Q k M1
  | _ => False) E
theorem lift_test {K : PySem.W.Frag} {va : TE} (la : LiftE K W va ta) : LiftT K W (tTest va) (tTestD ta) := by
  intro Z F M σd σ H Q E Qv S R h P PX
  refine la Z F M σd σ H _ E _ S R h (fun x H1 F1 M1 d e1 S1 r1 q1 => ?_) PX
  cases d with
  | bl k =>
    simp only [Rp] at r1
    exact ⟨k, r1, P k H1 F1 M1 e1 S1 q1⟩
  | _ => exact q1.elim
theorem dt_cmp {op : CmpOp} {rv : R2} {r : R2D} (ho : OpR X (compareOp op) rv) (hl : LiftR2 X.K rv r) (ha : DE X W a ta) (hb : DE X W b tb) (hm : behindInMarks op b = false) : DT X W (.Compare a [op] [b] pos) (tTestD (tOpD r ta tb)) := by
  obtain ⟨va, pa, la⟩ := ha
  obtain ⟨vb, pb, lb⟩ := hb
  exact ⟨_, pt_cmpR ho pa pb hm, lift_test (lift_op hl la lb)⟩
def tChainD (r r' : R2D) (ta tb tc : TD) : TD := fun σ M Q E => ta σ M (fun x M1 => tb σ M1 (fun y M2 => r x y M2 fun z M3 => match z with
  | .bl true => tc σ M3 (fun w M4 => r' y w M4 Q) E
  | .bl false => Q (.bl false) M3
  | _ => False) E) E
theorem lift_chain {K : PySem.W.Frag} {rv rv' : R2} {r r' : R2D} {va vb vc : TE} (hl : LiftR2 K rv r) (hl' : LiftR2 K rv' r') (la : LiftE K W va ta) (lb : LiftE K W vb tb) (lc : LiftE K W vc tc) :
    LiftE K W (tChain rv rv' va vb vc) (tChainD r r' ta tb tc) := by
  intro Z F M σd σ H Q E Qv S R h P PX
  refine la Z F M σd σ H _ E _ S R h (fun x H1 F1 M1 dx e1 S1 r1 q1 => ?_) PX
  refine lb Z F1 M1 σd σ H1 _ E _ S1 (R.mono e1) q1 (fun y H2 F2 M2 dy e2 S2 r2 q2 => ?_) (PX.mono e1)
  refine hl Z F2 M2 H2 x y dx dy _ _ S2 (r1.mono e2) r2 q2 fun z H3 F3 M3 dz e3 S3 r3 q3 => ?_
  have e12 := e1.trans e2
  cases dz with
  | bl k =>
    simp only [Rp] at r3
    refine ⟨k, r3, ?_⟩
    cases k with
    | true =>
      rw [if_pos rfl]
      refine lc Z F3 M3 σd σ H3 _ E _ S3 (R.mono (e12.trans e3)) q3 (fun w H4 F4 M4 dw e4 S4 r4 q4 => ?_) (PX.mono (e12.trans e3))
      exact hl' Z F4 M4 H4 y w dy dw Q Qv S4 (r2.mono (e3.trans e4)) r4 q4 (P.mono ((e12.trans e3).trans e4))
    | false =>
      rw [if_neg Bool.false_ne_true]
      exact P _ H3 F3 M3 _ (e12.trans e3) S3 (by simp only [Rp]) q3
  | _ => exact q3.elim
theorem de_chain {op op' : CmpOp} {rv rv' : R2} {r r' : R2D} (ho : OpR X (compareOp op) rv) (ho' : OpR X (compareOp op') rv') (hl : LiftR2 X.K rv r) (hl' : LiftR2 X.K rv' r') (ha : DE X W a ta) (hb : DE X W b tb) (hc : DE X W c tc)
    (hm : lastMarks [op, op'] [b, c] = false := by with_unfolding_all rfl) : DE X W (.Compare a [op, op'] [b, c] pos) (tChainD r r' ta tb tc) := by
  obtain ⟨va, pa, la⟩ := ha
  obtain ⟨vb, pb, lb⟩ := hb
  obtain ⟨vc, pc, lc⟩ := hc
  exact ⟨_, pe_chain ho ho' pa pb pc hm, lift_chain hl hl' la lb lc⟩
theorem dt_chain {op op' : CmpOp} {rv rv' : R2} {r r' : R2D} (ho : OpR X (compareOp op) rv) (ho' : OpR X (compareOp op') rv') (hl : LiftR2 X.K rv r) (hl' : LiftR2 X.K rv' r') (ha : DE X W a ta) (hb : DE X W b tb) (hc : DE X W c tc)
    (hm : lastMarks [op, op'] [b, c] = false := by with_unfolding_all rfl) : DT X W (.Compare a [op, op'] [b, c] pos) (tTestD (tChainD r r' ta tb tc)) := by
  obtain ⟨va, pa, la⟩ := ha
  obtain ⟨vb, pb, lb⟩ := hb
  obtain ⟨vc, pc, lc⟩ := hc
  exact ⟨_, pt_chain ho ho' pa pb pc hm, lift_test (lift_chain hl hl' la lb lc)⟩

/-! ## truth, and, or, not -/
theorem dt_val {e : Expr} {t : TD} (h : DE X W e t) (he : ∀ whole, isTrue e X.env whole = (do let v ← whole; standAt e.pos; holding [v] (truthy v)) := by intro _; rfl) : DT X W e (tTestD t) := by
  obtain ⟨v, p, l⟩ := h
  exact ⟨_, pt_val p he, lift_test l⟩
variable {uA uB : TTD} {rest : List Expr}
def tAndD (t u : TTD) : TTD := fun σ M Q E => t σ M (fun c M1 => match c with
  | true => u σ M1 Q E
  | false => Q false M1) E
def tOrD (t u : TTD) : TTD := fun σ M Q E => t σ M (fun c M1 => match c with
  | true => Q true M1
  | false => u σ M1 Q E) E
def tNotD (t : TTD) : TTD := fun σ M Q E => t σ M (fun c M1 => Q (!c) M1) E
theorem dw_and1 (h : DT X W a uA) : DW X W (.BoolOp .And [a] pos) uA := let ⟨_, p, l⟩ := h; ⟨_, pw_and1 p, l⟩
theorem dw_or1 (h : DT X W a uA) : DW X W (.BoolOp .Or [a] pos) uA := let ⟨_, p, l⟩ := h; ⟨_, pw_or1 p, l⟩
theorem dw_and (h : DT X W a uA) (h' : DW X W (.BoolOp .And (b :: rest) pos) uB) : DW X W (.BoolOp .And (a :: b :: rest) pos) (tAndD uA uB) := by
  obtain ⟨va, pa, la⟩ := h
  obtain ⟨vb, pb, lb⟩ := h'
  refine ⟨_, pw_and pa pb, fun Z F M σd σ H Q E Qv S R h P PX => ?_⟩
  refine la Z F M σd σ H _ E _ S R h (fun k H1 F1 M1 e1 S1 q1 => ?_) PX
  cases k with
  | true => rw [if_pos rfl]; exact lb Z F1 M1 σd σ H1 Q E Qv S1 (R.mono e1) q1 (P.mono e1) (PX.mono e1)
  | false => rw [if_neg Bool.false_ne_true]; exact P _ H1 F1 M1 e1 S1 q1
theorem dw_or (h : DT X W a uA) (h' : DW X W (.BoolOp .Or (b :: rest) pos) uB) : DW X W (.BoolOp .Or (a :: b :: rest) pos) (tOrD uA uB) := by
  obtain ⟨va, pa, la⟩ := h
  obtain ⟨vb, pb, lb⟩ := h'
  refine ⟨_, pw_or pa pb, fun Z F M σd σ H Q E Qv S R h P PX => ?_⟩
  refine la Z F M σd σ H _ E _ S R h (fun k H1 F1 M1 e1 S1 q1 => ?_) PX
  cases k with
  | true => rw [if_pos rfl]; exact P _ H1 F1 M1 e1 S1 q1
  | false => rw [if_neg Bool.false_ne_true]; exact lb Z F1 M1 σd σ H1 Q E Qv S1 (R.mono e1) q1 (P.mono e1) (PX.mono e1)
theorem dt_w {e : Expr} (h : DW X W e uA) : DT X W e uA := let ⟨_, p, l⟩ := h; ⟨_, p.pt, l⟩
theorem dt_not (h : DT X W a uA) : DT X W (.UnaryOp .Not a pos) (tNotD uA) := by
  obtain ⟨va, pa, la⟩ := h
  exact ⟨_, pt_not pa, fun Z F M σd σ H Q E Qv S R h P PX => la Z F M σd σ H _ E _ S R h (fun k H1 F1 M1 e1 S1 q1 => P _ H1 F1 M1 e1 S1 q1) PX⟩
/-- as values, of True and False -/
def tAndVD (ta tb : TD) : TD := fun σ M Q E => ta σ M (fun c M1 => match c with
  | .bl true => tb σ M1 Q E
  | .bl false => Q (.bl false) M1
  | _ => False) E
def tOrVD (ta tb : TD) : TD := fun σ M Q E => ta σ M (fun c M1 => match c with
  | .bl true => Q (.bl true) M1
  | .bl false => tb σ M1 Q E
  | _ => False) E
def tNotVD (ta : TD) : TD := fun σ M Q E => ta σ M (fun c M1 => match c with
  | .bl k => Q (.bl (!k)) M1
  | _ => False) E
theorem de_one {op} {t : TD} (h : DE X W a t) : DE X W (.BoolOp op [a] pos) t := let ⟨_, p, l⟩ := h; ⟨_, pe_one p, l⟩
theorem de_and (h : DE X W a ta) (h' : DE X W (.BoolOp .And (b :: rest) pos) tb) : DE X W (.BoolOp .And (a :: b :: rest) pos) (tAndVD ta tb) := by
  obtain ⟨va, pa, la⟩ := h
  obtain ⟨vb, pb, lb⟩ := h'
  refine ⟨_, pe_and pa pb, fun Z F M σd σ H Q E Qv S R h P PX => ?_⟩
  refine la Z F M σd σ H _ E _ S R h (fun x H1 F1 M1 d e1 S1 r1 q1 => ?_) PX
  cases d with
  | bl k =>
    simp only [Rp] at r1
    refine ⟨k, r1, ?_⟩
    cases k with
    | true => rw [if_pos rfl]; exact lb Z F1 M1 σd σ H1 Q E Qv S1 (R.mono e1) q1 (P.mono e1) (PX.mono e1)
    | false => rw [if_neg Bool.false_ne_true]; exact P _ H1 F1 M1 _ e1 S1 (by simp only [Rp]) q1
  | _ => exact q1.elim
theorem de_or (h : DE X W a ta) (h' : DE X W (.BoolOp .Or (b :: rest) pos) tb) : DE X W (.BoolOp .Or (a :: b :: rest) pos) (tOrVD ta tb) := by
  obtain ⟨va, pa, la⟩ := h
  obtain ⟨vb, pb, lb⟩ := h'
  refine ⟨_, pe_or pa pb, fun Z F M σd σ H Q E Qv S R h P PX => ?_⟩
  refine la Z F M σd σ H _ E _ S R h (fun x H1 F1 M1 d e1 S1 r1 q1 => ?_) PX
  cases d with
  | bl k =>
    simp only [Rp] at r1
    refine ⟨k, r1, ?_⟩
    cases k with
    | true => rw [if_pos rfl]; exact P _ H1 F1 M1 _ e1 S1 (by simp only [Rp]) q1
    | false => rw [if_neg Bool.false_ne_true]; exact lb Z F1 M1 σd σ H1 Q E Qv S1 (R.mono e1) q1 (P.mono e1) (PX.mono e1)
  | _ => exact q1.elim
theorem de_not (h : DE X W a ta) : DE X W (.UnaryOp .Not a pos) (tNotVD ta) := by
  obtain ⟨va, pa, la⟩ := h
  refine ⟨_, pe_not pa, fun Z F M σd σ H Q E Qv S R h P PX => ?_⟩
  refine la Z F M σd σ H _ E _ S R h (fun x H1 F1 M1 d e1 S1 r1 q1 => ?_) PX
  cases d with
  | bl k =>
    simp only [Rp] at r1
    exact ⟨k, r1, P _ H1 F1 M1 _ e1 S1 (by simp only [Rp]) q1⟩
  | _ => exact q1.elim
def tIfD (t : TTD) (ta tb : TD) : TD := fun σ M Q E => t σ M (fun c M1 => match c with
  | true => ta σ M1 Q E
  | false => tb σ M1 Q E) E
theorem de_if (hc : DT X W c uA) (ha : DE X W a ta) (hb : DE X W b tb) : DE X W (.IfExp c a b pos) (tIfD uA ta tb) := by
  obtain ⟨vc, pc, lc⟩ := hc
  obtain ⟨va, pa, la⟩ := ha
  obtain ⟨vb, pb, lb⟩ := hb
  refine ⟨_, pe_ifExp pc pa pb, fun Z F M σd σ H Q E Qv S R h P PX => ?_⟩
  refine lc Z F M σd σ H _ E _ S R h (fun k H1 F1 M1 e1 S1 q1 => ?_) PX
  cases k with
  | true => rw [if_pos rfl]; exact la Z F1 M1 σd σ H1 Q E Qv S1 (R.mono e1) q1 (P.mono e1) (PX.mono e1)
  | false => rw [if_neg Bool.false_ne_true]; exact lb Z F1 M1 σd σ H1 Q E Qv S1 (R.mono e1) q1 (P.mono e1) (PX.mono e1)

/-! ## arguments, displays -/
def tNilD : TAD := fun _ M Q _ => Q [] M
def tConsD (ta : TD) (tr : TAD) : TAD := fun σ M Q E => ta σ M (fun x M1 => tr σ M1 (fun xs M2 => Q (x :: xs) M2) E) E
variable {e : Expr} {es : List Expr} {te : TD} {t : TAD}
theorem da_nil : DA X W [] tNilD := ⟨_, pa_nil, fun Z F M σd σ H Q E Qv S R h P _ => P [] H F M [] (Same.refl F) S Rps.nil h⟩
theorem lift_cons {K : PySem.W.Frag} {va : TE} {vr : TA} (la : LiftE K W va te) (lr : LiftA K W vr t) : LiftA K W (tCons va vr) (tConsD te t) := by
  intro Z F M σd σ H Q E Qv S R h P PX
  refine la Z F M σd σ H _ E _ S R h (fun x H1 F1 M1 dx e1 S1 r1 q1 => ?_) PX
  refine lr Z F1 M1 σd σ H1 _ E _ S1 (R.mono e1) q1 (fun xs H2 F2 M2 ds e2 S2 r2 q2 => ?_) (PX.mono e1)
  exact P _ H2 F2 M2 _ (e1.trans e2) S2 (Rps.cons (r1.mono e2) r2) q2
theorem da_cons (ha : DE X W e te) (hr : DA X W es t) (hs : starEach (e :: es) X.env = (false, eval e X.env) :: starEach es X.env := by rfl) : DA X W (e :: es) (tConsD te t) := by
  obtain ⟨va, pa, la⟩ := ha
  obtain ⟨vr, pr, lr⟩ := hr
  exact ⟨_, pa_cons pa pr hs, lift_cons la lr⟩
def viewL (M : HD) : D → Option (List D)
  | .lst xs => some xs
  | .ref a => match M a with
    | some (.lst xs) => some xs
    | _ => none
  | _ => none
def viewS (M : HD) : D → Option (List D)
  | .tup xs => some xs
  | .lst xs => some xs
  | .scr xs => some xs
  | .ref a => match M a with
    | some (.lst xs) => some xs
    | _ => none
  | _ => none
theorem viewL_ok {Z : Hp} {K : PySem.W.Frag} {F : Hp} {M : HD} {H : Hp} {d : D} {v : V} {ds : List D} (S : Sim Z K F M H) (r : Rp K F d v) (h : viewL M d = some ds) : ∃ a vs, v = .ref a ∧ H a = some (.lst vs) ∧ vs.length ≤ sizeLine ∧ Rps K F ds vs := by
  cases d with
  | lst xs =>
    cases h
    simp only [Rp] at r
    obtain ⟨a, vs, h1, h2, h3, h4⟩ := r
    exact ⟨a, vs, h1, S.sub _ _ h2, h3, h4⟩
  | ref a =>
    simp only [Rp] at r
    simp only [viewL] at h
    split at h
    · rename_i xs e
      cases h
      obtain ⟨_, vs, h1, h2, h3⟩ := S.own a _ e
      exact ⟨a, vs, r, h1, h2, h3⟩
    · cases h
  | _ => cases h
theorem scr_ok {Z : Hp} {K : PySem.W.Frag} {F : Hp} {M : HD} {H : Hp} {xs : List D} {v : V} (S : Sim Z K F M H) (r : Rp K F (.scr xs) v) : ∃ a vs, v = .ref a ∧ SqL K H a vs ∧ vs.length ≤ sizeLine ∧ Rps K F xs vs := by
  simp only [Rp] at r
  obtain ⟨a, vs, h1, h2, h3, h4⟩ := r
  exact ⟨a, vs, h1, sqL_mono S.sub h2, h3, h4⟩
theorem viewS_ok {Z : Hp} {K : PySem.W.Frag} {F : Hp} {M : HD} {H : Hp} {d : D} {v : V} {ds : List D} (S : Sim Z K F M H) (r : Rp K F d v) (h : viewS M d = some ds) : ∃ a vs, v = .ref a ∧ (SqL K H a vs ∨ SqT K H a vs) ∧ vs.length ≤ sizeLine ∧ Rps K F ds vs := by
  cases d with
  | tup xs =>
    cases h
    simp only [Rp] at r
    obtain ⟨a, vs, h1, h2, h3, h4⟩ := r
    exact ⟨a, vs, h1, .inr (sqT_mono S.sub h2), h3, h4⟩
  | scr xs =>
    cases h
    obtain ⟨a, vs, h1, h2, h3, h4⟩ := scr_ok S r
    exact ⟨a, vs, h1, .inl h2, h3, h4⟩
  | lst xs =>
    obtain ⟨a, vs, h1, h2, h3, h4⟩ := viewL_ok S r (ds := ds) h
    exact ⟨a, vs, h1, .inl (SqL.of h2), h3, h4⟩
  | ref a =>
    obtain ⟨a, vs, h1, h2, h3, h4⟩ := viewL_ok S r (ds := ds) h
    exact ⟨a, vs, h1, .inl (SqL.of h2), h3, h4⟩
  | _ => cases h
/-- *e -/
def tStarD (te : TD) (t : TAD) : TAD := fun σ M Q E => te σ M (fun x M1 => match viewS M1 x with
  | some xs => t σ M1 (fun ys M2 => Q (xs ++ ys) M2) E
  | none => False) E
theorem da_star {p : Pos} (ha : DE X W e te) (hr : DA X W es t) (hs : starEach (.Starred e p :: es) X.env = (true, eval e X.env) :: starEach es X.env := by rfl) : DA X W (.Starred e p :: es) (tStarD te t) := by
  obtain ⟨va, pa, la⟩ := ha
  obtain ⟨vr, pr, lr⟩ := hr
  refine ⟨_, StX.pa_star pa pr hs, fun Z F M σd σ H Q E Qv S R h P PX => ?_⟩
  refine la Z F M σd σ H _ E _ S R h (fun x H1 F1 M1 dx e1 S1 r1 q1 => ?_) PX
  split at q1
  · rename_i xs ev
    obtain ⟨a, vs, ex, sq, _, rv⟩ := viewS_ok S1 r1 ev
    refine ⟨a, vs, ex, sq.symm, ?_⟩
    refine lr Z F1 M1 σd σ H1 _ E _ S1 (R.mono e1) q1 (fun ys H2 F2 M2 ds e2 S2 r2 q2 => ?_) (PX.mono e1)
    exact P _ H2 F2 M2 _ (e1.trans e2) S2 ((rv.mono e2).append r2) q2
  · exact q1.elim
/-- a tuple; a list that does not change; a list that may change -/
def tTupD (t : TAD) : TD := fun σ M Q E => t σ M (fun xs M1 => xs.length ≤ sizeLine ∧ Q (.tup xs) M1) E
def tLstD (t : TAD) : TD := fun σ M Q E => t σ M (fun xs M1 => xs.length ≤ sizeLine ∧ Q (.lst xs) M1) E
def tLstM (t : TAD) : TD := fun σ M Q E => t σ M (fun xs M1 => xs.length ≤ sizeLine ∧ ∀ a, M1 a = none → Q (.ref a) (updM M1 a (.lst xs))) E
section
variable {Z : Hp} {K : PySem.W.Frag} {F : Hp} {M : HD} {H : Hp} {p : Addr} {xs : List D} {vs : List V} {Q : VKD} {Qv : VK}
theorem fin_tup (S : Sim Z K F M H) (r : Rps K F xs vs) (hz : vs.length ≤ sizeLine) (q : Q (.tup xs) M) (P : PostE Z K F Q Qv) (hp : H p = none) : Qv (.ref p) (upd H p (.tup vs)) := by
  obtain ⟨e, S'⟩ := S.grow (o := .tup vs) hp
  refine P _ _ _ M _ e S' ?_ q
  simp only [Rp]
  exact ⟨p, vs, rfl, SqT.of upd_same, hz, r.mono e⟩
theorem fin_lst (S : Sim Z K F M H) (r : Rps K F xs vs) (hz : vs.length ≤ sizeLine) (q : Q (.lst xs) M) (P : PostE Z K F Q Qv) (hp : H p = none) : Qv (.ref p) (upd H p (.lst vs)) := by
  obtain ⟨e, S'⟩ := S.grow (o := .lst vs) hp
  refine P _ _ _ M _ e S' ?_ q
  simp only [Rp]
  exact ⟨p, vs, rfl, upd_same, hz, r.mono e⟩
theorem fin_lstM (S : Sim Z K F M H) (r : Rps K F xs vs) (hz : vs.length ≤ sizeLine) (q : ∀ a, M a = none → Q (.ref a) (updM M a (.lst xs))) (P : PostE Z K F Q Qv) (hp : H p = none) : Qv (.ref p) (upd H p (.lst vs)) := by
  have S' := S.new (o := .lst vs) (m := .lst xs) hp ⟨vs, upd_same, hz, r⟩
  exact P _ _ _ _ _ (Same.refl F) S' (by simp only [Rp]) (q p (S.freshM hp))
end
theorem de_tup {x1} (h : DA X W es t) : DE X W (.Tuple es x1 pos) (tTupD t) := by
  obtain ⟨va, pa, la⟩ := h
  refine ⟨_, pe_tup pa, fun Z F M σd σ H Q E Qv S R h P PX => ?_⟩
  refine la Z F M σd σ H _ E _ S R h (fun xs H1 F1 M1 ds e1 S1 r1 q1 => ?_) PX
  have hz : xs.length ≤ sizeLine := by rw [← r1.len]; exact q1.1
  exact ⟨hz, fun p hp => fin_tup S1 r1 hz q1.2 (P.mono e1) hp⟩
theorem de_lst (h : DA X W es t) : DE X W (.List es pos) (tLstD t) := by
  obtain ⟨va, pa, la⟩ := h
  refine ⟨_, pe_lst pa, fun Z F M σd σ H Q E Qv S R h P PX => ?_⟩
  refine la Z F M σd σ H _ E _ S R h (fun xs H1 F1 M1 ds e1 S1 r1 q1 => ?_) PX
  have hz : xs.length ≤ sizeLine := by rw [← r1.len]; exact q1.1
  exact ⟨hz, fun p hp => fin_lst S1 r1 hz q1.2 (P.mono e1) hp⟩
theorem de_lstM (h : DA X W es t) : DE X W (.List es pos) (tLstM t) := by
  obtain ⟨va, pa, la⟩ := h
  refine ⟨_, pe_lst pa, fun Z F M σd σ H Q E Qv S R h P PX => ?_⟩
  refine la Z F M σd σ H _ E _ S R h (fun xs H1 F1 M1 ds e1 S1 r1 q1 => ?_) PX
  have hz : xs.length ≤ sizeLine := by rw [← r1.len]; exact q1.1
  exact ⟨hz, fun p hp => fin_lstM S1 r1 hz q1.2 (P.mono e1) hp⟩
/-- from here on it does not change -/
def tFrzD (te : TD) : TD := fun σ M Q E => te σ M (fun d M1 => match d with
  | .ref a => (match M1 a with
    | some (.lst xs) => Q (.lst xs) (delM M1 a)
    | some (.dct ks xs) => Q (.dct ks xs) (delM M1 a)
    | some (.ins C ns xs) => Q (.ins C ns xs) (delM M1 a)
    | none => False)
  | _ => False) E
theorem de_frz (h : DE X W e te) : DE X W e (tFrzD te) := by
  obtain ⟨va, pa, la⟩ := h
  refine ⟨_, pa, fun Z F M σd σ H Q E Qv S R h P PX => ?_⟩
  refine la Z F M σd σ H _ E _ S R h (fun x H1 F1 M1 d e1 S1 r1 q1 => ?_) PX
  cases d with
  | ref a =>
    simp only [Rp] at r1
    subst r1
    dsimp only at q1
    split at q1
    · rename_i xs em
      obtain ⟨_, vs, h1, h2, h3⟩ := S1.own a _ em
      obtain ⟨e2, S2⟩ := S1.frz em h1
      exact P _ H1 _ _ _ (e1.trans e2) S2 (by simp only [Rp]; exact ⟨a, vs, rfl, upd_same, h2, h3.mono e2⟩) q1
    · rename_i ks xs em
      obtain ⟨_, vs, h1, h2, h3⟩ := S1.own a _ em
      obtain ⟨e2, S2⟩ := S1.frz em h1
      exact P _ H1 _ _ _ (e1.trans e2) S2 (by simp only [Rp]; exact ⟨a, vs, rfl, upd_same, h2, h3.mono e2⟩) q1
    · rename_i C ns xs em
      obtain ⟨_, dx, vs, h1, h2, h3⟩ := S1.own a _ em
      obtain ⟨e2, S2⟩ := S1.frz em h1
      exact P _ H1 _ _ _ (e1.trans e2) S2 (by simp only [Rp]; exact ⟨a, dx, vs, rfl, upd_same, h2, h3.mono e2⟩) q1
    · exact q1.elim
  | _ => exact q1.elim
end
end DL

/-! ### DL3 -/
set_option Elab.async false
set_option linter.all false
set_option maxRecDepth 100000
set_option maxHeartbeats 4000000
namespace DL
open PySem L2

/-! ## a reading of its own for every tree reading: the weakest one -/
def canonE (K : PySem.W.Frag) (W : WX) (t : TD) : TE := fun σ H Qv => ∃ Z F M σd Q E, Sim Z K F M H ∧ RelS K F σd σ ∧ t σd M Q E ∧ PostE Z K F Q Qv ∧ PostX Z K W F σ E
def canonT (K : PySem.W.Frag) (W : WX) (t : TTD) : TT := fun σ H Qv => ∃ Z F M σd Q E, Sim Z K F M H ∧ RelS K F σd σ ∧ t σd M Q E ∧ PostB Z K F Q Qv ∧ PostX Z K W F σ E
theorem DE.canon {X : Cx} {W : WX} {e : Expr} {t : TD} (h : DE X W e t) : PE X e (canonE X.K W t) := by
  obtain ⟨v, p, l⟩ := h
  refine ⟨fun pins s σ H Q I hq => ?_⟩
  obtain ⟨Z, F, M, σd, Qd, E, S, R, q, P, PX⟩ := hq
  exact p.run pins s σ H Q I (l Z F M σd σ H Qd E Q S R q P PX)
theorem lift_canonE {K : PySem.W.Frag} {W : WX} {t : TD} : LiftE K W (canonE K W t) t := fun Z F M σd σ H Q E Qv S R h P PX => ⟨Z, F, M, σd, Q, E, S, R, h, P, PX⟩
theorem lift_canonT {K : PySem.W.Frag} {W : WX} {t : TTD} : LiftT K W (canonT K W t) t := fun Z F M σd σ H Q E Qv S R h P PX => ⟨Z, F, M, σd, Q, E, S, R, h, P, PX⟩

/-! ## targets -/
abbrev TGD := D → SD → HD → (SD → HD → Prop) → XD → Prop
abbrev TGsD := List D → SD → HD → (SD → HD → Prop) → XD → Prop
def PostG (Z : Hp) (K : PySem.W.Frag) (F : Hp) (is : List Nat) (σ : L2.St) (N : SD → HD → Prop) (Nv : L2.St → Hp → Prop) : Prop :=
  ∀ σd' σ' H' F' M', Same F F' → Sim Z K F' M' H' → RelS K F' σd' σ' → σ'.length = σ.length → (∀ j, j ∉ is → σ'[j]? = σ[j]?) → N σd' M' → Nv σ' H'
def LiftG (K : PySem.W.Frag) (W : WX) (is : List Nat) (tv : TG) (t : TGD) : Prop := ∀ Z F M σd σ H d v N E Nv, Sim Z K F M H → RelS K F σd σ → Rp K F d v → t d σd M N E → PostG Z K F is σ N Nv → (∀ σ, PostX Z K W F σ E) → tv v σ H Nv
def LiftGs (K : PySem.W.Frag) (W : WX) (is : List Nat) (tv : TGs) (t : TGsD) : Prop := ∀ Z F M σd σ H ds vs N E Nv, Sim Z K F M H → RelS K F σd σ → Rps K F ds vs → t ds σd M N E → PostG Z K F is σ N Nv → (∀ σ, PostX Z K W F σ E) → tv vs σ H Nv
structure DG (X : Cx) (W : WX) (tg : Expr) (is : List Nat) (t : TGD) : Prop where
  ex : ∃ tv, PG X tg tv ∧ LiftG X.K W is tv t
structure DGs (X : Cx) (W : WX) (tgs : List Expr) (is : List Nat) (t : TGsD) : Prop where
  ex : ∃ tv, PGs X tgs tv ∧ LiftGs X.K W is tv t
def canonG (K : PySem.W.Frag) (W : WX) (is : List Nat) (t : TGD) : TG := fun v σ H Nv => ∃ Z F M σd d N E, Sim Z K F M H ∧ RelS K F σd σ ∧ Rp K F d v ∧ t d σd M N E ∧ PostG Z K F is σ N Nv ∧ ∀ σ, PostX Z K W F σ E
theorem DG.canon {X : Cx} {W : WX} {tg : Expr} {is : List Nat} {t : TGD} (h : DG X W tg is t) : PG X tg (canonG X.K W is t) := by
  obtain ⟨v, p, l⟩ := h
  refine ⟨fun pins s σ H v u Q I r hq => ?_⟩
  obtain ⟨Z, F, M, σd, d, N, E, S, R, rd, q, P, PX⟩ := hq
  exact p.run pins s σ H v u Q I r (l Z F M σd σ H d v N E Q S R rd q P PX)
theorem lift_canonG {K : PySem.W.Frag} {W : WX} {is : List Nat} {t : TGD} : LiftG K W is (canonG K W is t) t := fun Z F M σd σ H d v N E Nv S R rd h P PX => ⟨Z, F, M, σd, d, N, E, S, R, rd, h, P, PX⟩
section
variable {X : Cx} {W : WX} {pos : Pos}
def gNameD (i : Nat) : TGD := fun d σ M N _ => N (σ.set i (some d)) M
theorem dg_name (i : Nat) {x : Str} (hN : X.N.Nodup) (hi : X.N[i]? = some x := by rfl) (hx : Loc X.env.scope x := by first | exact Or.inl rfl | exact Or.inr rfl)
    (hf : X.fn x = true ∨ X.env.scope.names.lookup x = some .local := by first | exact .inl rfl | exact .inr rfl) : DG X W (.Name x pos) [i] (gNameD i) := by
  refine ⟨gName i, pg_name hN hi hx hf, fun Z F M σd σ H d v N E Nv S R rd h P _ => ?_⟩
  exact P _ _ H F M (Same.refl F) S (R.set rd i) (by rw [List.length_set]) (fun j hj => by rw [List.getElem?_set_ne (fun e => hj (by simp [e]))]) h
def gNilD : TGsD := fun ds σ M N _ => match ds with
  | [] => N σ M
  | _ => False
def gConsD (t : TGD) (u : TGsD) : TGsD := fun ds σ M N E => match ds with
  | d :: r => t d σ M (fun σ' M' => u r σ' M' N E) E
  | [] => False
theorem dgs_nil : DGs X W [] [] gNilD := by
  refine ⟨gNil, pgs_nil, fun Z F M σd σ H ds vs N E Nv S R rd h P _ => ?_⟩
  cases ds with
  | nil => exact ⟨rd.nil_inv, P _ _ H F M (Same.refl F) S R rfl (fun _ _ => rfl) h⟩
  | cons d r => exact h.elim
theorem dgs_cons {e : Expr} {es : List Expr} {is js : List Nat} {t : TGD} {u : TGsD} (h1 : DG X W e is t) (h2 : DGs X W es js u)
    (hs : (assignEach (e :: es) X.env).map (·.2) = assign e X.env :: (assignEach es X.env).map (·.2) := by rfl) : DGs X W (e :: es) (is ++ js) (gConsD t u) := by
  obtain ⟨v1, p1, l1⟩ := h1
  obtain ⟨v2, p2, l2⟩ := h2
  refine ⟨gCons v1 v2, pgs_cons p1 p2 hs, fun Z F M σd σ H ds vs N E Nv S R rd h P PX => ?_⟩
  cases ds with
  | nil => exact h.elim
  | cons d r =>
    obtain ⟨v, rv, e1, r1, r2⟩ := rd.cons_inv
    refine ⟨v, rv, e1, l1 Z F M σd σ H d v _ E _ S R r1 h (fun σd' σ' H' F' M' e S' R' hl hj q => ?_) PX⟩
    exact l2 Z F' M' σd' σ' H' r rv N E Nv S' R' (r2.mono e) q (fun σd2 σ2 H2 F2 M2 e2 S2 R2 hl2 hj2 q2 =>
      P σd2 σ2 H2 F2 M2 (e.trans e2) S2 R2 (hl2.trans hl) (fun j hjj => (hj2 j fun z => hjj (List.mem_append_right _ z)).trans (hj j fun z => hjj (List.mem_append_left _ z))) q2) (fun σ => (PX σ).mono e)
def gTupD (n : Nat) (t : TGsD) : TGD := fun d σ M N E => match d with
  | .tup xs => xs.length = n ∧ t xs σ M N E
  | _ => False
theorem dg_tup {es : List Expr} {k : Nat} {is : List Nat} {t : TGsD} {n : Nat} (hc : X.calm = true) (h : DGs X W es is t)
    (hn : (assignEach es X.env).length = n := by rfl) (hst : (assignEach es X.env).findIdx? (·.1) = none := by rfl) : DG X W (.Tuple es k pos) is (gTupD n t) := by
  obtain ⟨v1, p1, l1⟩ := h
  refine ⟨_, pg_tup hc p1 hn hst, fun Z F M σd σ H d v N E Nv S R rd h P PX => ?_⟩
  cases d with
  | tup xs =>
    simp only [Rp] at rd
    obtain ⟨a, vs, e1, e2, e3, e4⟩ := rd
    exact ⟨a, vs, e1, sqT_mono S.sub e2, by rw [← e4.len]; exact h.1, l1 Z F M σd σ H xs vs N E Nv S R e4 h.2 P PX⟩
  | _ => exact h.elim
/-- o[i] = v -/
abbrev TSetD := D → D → D → HD → (HD → Prop) → Prop
def LiftSet (K : PySem.W.Frag) (tv : TSet) (t : TSetD) : Prop := ∀ Z F M H o i v d_o di dv N Nv, Sim Z K F M H → Rp K F d_o o → Rp K F di i → Rp K F dv v → t d_o di dv M N →
  (∀ H' M', Sim Z K F M' H' → N M' → Nv H') → tv o i v H Nv
def gSubD (to ti : TD) (t : TSetD) : TGD := fun d σ M N E => to σ M (fun o M1 => ti σ M1 (fun i M2 => t o i d M2 fun M3 => N σ M3) E) E
theorem dg_sub {o i : Expr} {to ti : TD} {tv : TSet} {t : TSetD} (ho : DE X W o to) (hi : DE X W i ti) (hs : PSet X tv) (hl : LiftSet X.K tv t)
    (ha : ∀ v, assign (.Subscript o i pos) X.env v = (do
      let ov ← holding [v] (eval o X.env)
      let iv ← holding [v, ov] (eval i X.env)
      standAt pos
      holding [v, ov, iv] (setItem ov iv v)
      release [v, ov, iv] []) := by intro _; rfl) : DG X W (.Subscript o i pos) [] (gSubD to ti t) := by
  obtain ⟨vo, po, lo⟩ := ho
  obtain ⟨vi, pi, li⟩ := hi
  refine ⟨_, pg_sub po pi hs ha, fun Z F M σd σ H d v N E Nv S R rd h P PX => ?_⟩
  refine lo Z F M σd σ H _ E _ S R h (fun x H1 F1 M1 dx e1 S1 r1 q1 => ?_) (PX σ)
  refine li Z F1 M1 σd σ H1 _ E _ S1 (R.mono e1) q1 (fun y H2 F2 M2 dy e2 S2 r2 q2 => ?_) ((PX σ).mono e1)
  exact hl Z F2 M2 H2 x y v dx dy d _ _ S2 (r1.mono e2) r2 (rd.mono (e1.trans e2)) q2 fun H3 M3 S3 q3 =>
    P σd σ H3 F2 M3 (e1.trans e2) S3 (R.mono (e1.trans e2)) rfl (fun _ _ => rfl) q3

/-! ## statements -/
def tNextD : TSD := fun D σ M => D.nx σ M
def tSeqD (t u : TSD) : TSD := fun D σ M => t { D with nx := u D } σ M
variable {st : Stmt} {rest : List Stmt} {t u : TSD} {e : Expr} {te : TD}
theorem lift_seq {K : PySem.W.Frag} {tv uv : TS} (l1 : LiftS K W tv t) (l2 : LiftS K W uv u) : LiftS K W (tSeq tv uv) (tSeqD t u) := by
  intro Z F M σd σ H D Dv S R h P
  exact l1 Z F M σd σ H { D with nx := u D } { Dv with nx := uv Dv } S R h ⟨fun σd' σ' H' F' M' e S' R' q => l2 Z F' M' σd' σ' H' D Dv S' R' q (P.mono e), P.rt, P.bk, P.ct, P.ex⟩
theorem dss_nil : DSs X W [] tNextD := ⟨_, pss_nil, fun Z F M σd σ H D Dv S R h P => P.nx σd σ H F M (Same.refl F) S R h⟩
theorem dss_cons (h1 : DS X W st t) (h2 : DSs X W rest u) : DSs X W (st :: rest) (tSeqD t u) := by
  obtain ⟨v1, p1, l1⟩ := h1
  obtain ⟨v2, p2, l2⟩ := h2
  exact ⟨_, pss_cons p1 p2, lift_seq l1 l2⟩
theorem dss_one (h1 : DS X W st t) : DSs X W [st] t := let ⟨_, p1, l1⟩ := h1; ⟨_, pss_one p1, l1⟩
theorem ds_pass : DS X W (.Pass pos) tNextD := ⟨_, ps_pass, fun Z F M σd σ H D Dv S R h P => P.nx σd σ H F M (Same.refl F) S R h⟩
def tBreakD : TSD := fun D σ M => D.bk σ M
def tContD : TSD := fun D σ M => D.ct σ M
theorem ds_break : DS X W (.Break pos) tBreakD := ⟨_, ps_break, fun Z F M σd σ H D Dv S R h P => P.bk σd σ H F M (Same.refl F) S R h⟩
theorem ds_continue : DS X W (.Continue pos) tContD := ⟨_, ps_continue, fun Z F M σd σ H D Dv S R h P => P.ct σd σ H F M (Same.refl F) S R h⟩
def tDropD (te : TD) : TSD := fun D σ M => te σ M (fun _ M1 => D.nx σ M1) D.ex
theorem ds_expr (he : DE X W e te) (hs : swapsWith e none pos.line X.env = pure false := by rfl) : DS X W (.Expr e pos) (tDropD te) := by
  obtain ⟨v, p, l⟩ := he
  refine ⟨_, ps_expr p hs, fun Z F M σd σ H D Dv S R h P => ?_⟩
  exact l Z F M σd σ H _ D.ex _ S R h (fun x H1 F1 M1 d e1 S1 r1 q1 => P.nx σd σ H1 F1 M1 e1 S1 (R.mono e1) q1) (P.ex σ)
def tRetD (te : TD) : TSD := fun D σ M => te σ M D.rt D.ex
theorem ds_ret (he : DE X W e te) : DS X W (.Return (some e) pos) (tRetD te) := by
  obtain ⟨v, p, l⟩ := he
  exact ⟨_, ps_ret p, fun Z F M σd σ H D Dv S R h P => l Z F M σd σ H _ D.ex _ S R h P.rt (P.ex σ)⟩
def tRetND : TSD := fun D _ M => D.rt .non M
theorem ds_retN : DS X W (.Return none pos) tRetND := ⟨_, ps_retN, fun Z F M σd σ H D Dv S R h P => P.rt .non H F M .non (Same.refl F) S (by simp only [Rp]) h⟩
def tIfSD (c : TTD) (t u : TSD) : TSD := fun D σ M => c σ M (fun b M1 => match b with
  | true => t D σ M1
  | false => u D σ M1) D.ex
theorem ds_if {c : Expr} {a b : List Stmt} {tc : TTD} (hc : DT X W c tc) (ha : DSs X W a t) (hb : DSs X W b u) : DS X W (.If c a b pos) (tIfSD tc t u) := by
  obtain ⟨vc, pc, lc⟩ := hc
  obtain ⟨va, pa, la⟩ := ha
  obtain ⟨vb, pb, lb⟩ := hb
  refine ⟨_, ps_if pc pa pb, fun Z F M σd σ H D Dv S R h P => ?_⟩
  refine lc Z F M σd σ H _ D.ex _ S R h (fun k H1 F1 M1 e1 S1 q1 => ?_) (P.ex σ)
  cases k with
  | true => rw [if_pos rfl]; exact la Z F1 M1 σd σ H1 D Dv S1 (R.mono e1) q1 (P.mono e1)
  | false => rw [if_neg Bool.false_ne_true]; exact lb Z F1 M1 σd σ H1 D Dv S1 (R.mono e1) q1 (P.mono e1)
def tNeverD : TSD := fun _ _ _ => False
theorem ds_never : DS X W st tNeverD := ⟨_, ps_never, fun Z F M σd σ H D Dv S R h P => h.elim⟩
theorem dss_never {sts : List Stmt} : DSs X W sts tNeverD := ⟨_, pss_never, fun Z F M σd σ H D Dv S R h P => h.elim⟩
def tAsgD (te : TD) (g : TGD) : TSD := fun D σ M => te σ M (fun d M1 => g d σ M1 D.nx D.ex) D.ex
theorem lift_asg {K : PySem.W.Frag} {tv : TE} {gv : TG} {is : List Nat} {g : TGD} (l : LiftE K W tv te) (lg : LiftG K W is gv g) : LiftS K W (tAsg tv gv) (tAsgD te g) := by
  intro Z F M σd σ H D Dv S R h P
  refine l Z F M σd σ H _ D.ex _ S R h (fun x H1 F1 M1 d e1 S1 r1 q1 => ?_) (P.ex σ)
  exact lg Z F1 M1 σd σ H1 d x _ D.ex _ S1 (R.mono e1) r1 q1 (fun σd' σ' H' F' M' e S' R' _ _ q => P.nx σd' σ' H' F' M' (e1.trans e) S' R' q) (fun σ => (P.ex σ).mono e1)
theorem ds_set (i : Nat) {x : Str} {pos' : Pos} (hN : X.N.Nodup) (he : DE X W e te) (hi : X.N[i]? = some x := by rfl) (hx : Loc X.env.scope x := by first | exact Or.inl rfl | exact Or.inr rfl)
    (hs : swapsWith e (some (.Name x pos')) pos.line X.env = pure false := by rfl) (hf : X.fn x = true ∨ X.env.scope.names.lookup x = some .local := by first | exact .inl rfl | exact .inr rfl) :
    DS X W (.Assign [.Name x pos'] e pos) (tAsgD te (gNameD i)) := by
  obtain ⟨v, p, l⟩ := he
  obtain ⟨gv, _, lg⟩ := dg_name (W := W) (pos := pos') i hN hi hx hf
  exact ⟨_, ps_set hN hi hx p hs hf, lift_asg l (fun Z F M σd σ H d v N E Nv S R rd h P _ => P _ _ H F M (Same.refl F) S (R.set rd i) (by rw [List.length_set]) (fun j hj => by rw [List.getElem?_set_ne (fun e => hj (by simp [e]))]) h : LiftG X.K W [i] (gName i) (gNameD i))⟩
theorem ds_asg {tg : Expr} {is : List Nat} {g : TGD} (he : DE X W e te) (hg : DG X W tg is g) (hs : swapsWithSole [tg] e pos.line X.env = pure false := by rfl) (hw : swappedStores [tg] e X.env = pure none := by rfl)
    (h1 : (assignEach [tg] X.env).map (·.2) = [assign tg X.env] := by rfl) : DS X W (.Assign [tg] e pos) (tAsgD te g) := by
  obtain ⟨v, p, l⟩ := he
  obtain ⟨gv, pg, lg⟩ := hg
  exact ⟨_, ps_asg p pg hs hw h1, lift_asg l lg⟩
def tParD (i j : Nat) (ta : TAD) : TSD := fun D σ M => ta σ M (fun vs M1 => match vs with
  | [v, w] => D.nx ((σ.set i (some v)).set j (some w)) M1
  | _ => False) D.ex
theorem ds_par (i j : Nat) {x y : Str} {a b : Expr} {ta : TAD} {px py pt : Pos} {kt k2 pt2} (hc : X.calm = true) (hN : X.N.Nodup) (ha : DA X W [a, b] ta)
    (hw : swappedStores [.Tuple [.Name x px, .Name y py] kt pt] (.Tuple [a, b] k2 pt2) X.env = pure (some [x, y]) := by rfl) (hi : X.N[i]? = some x := by rfl) (hj : X.N[j]? = some y := by rfl) (hij : i ≠ j := by decide)
    (hx : X.env.scope.names.lookup x = some .local := by rfl) (hy : X.env.scope.names.lookup y = some .local := by rfl)
    (hs : swapsWithSole [.Tuple [.Name x px, .Name y py] kt pt] (.Tuple [a, b] k2 pt2) pos.line X.env = pure false := by rfl) :
    DS X W (.Assign [.Tuple [.Name x px, .Name y py] kt pt] (.Tuple [a, b] k2 pt2) pos) (tParD i j ta) := by
  obtain ⟨v, p, l⟩ := ha
  refine ⟨_, ps_par hc hN hi hj hij hx hy p hw hs, fun Z F M σd σ H D Dv S R h P => ?_⟩
  refine l Z F M σd σ H _ D.ex _ S R h (fun xs H1 F1 M1 ds e1 S1 r1 q1 => ?_) (P.ex σ)
  match ds, q1 with
  | [d1, d2], q1 =>
    obtain ⟨v1, r, rfl, h1, h2⟩ := r1.cons_inv
    obtain ⟨v2, r', rfl, h3, h4⟩ := h2.cons_inv
    rw [h4.nil_inv]
    exact ⟨v1, v2, rfl, P.nx _ _ H1 F1 M1 e1 S1 (((R.mono e1).set h1 i).set h3 j) q1⟩
def tAugD (i : Nat) (te : TD) (r : R2D) : TSD := fun D σ M => match σ[i]? with
  | some (some x) => te σ M (fun y M1 => r x y M1 fun z M2 => D.nx (σ.set i (some z)) M2) D.ex
  | _ => False
theorem ds_aug (i : Nat) {x : Str} {op : Operator} {ti : TIp} {r : R2D} {pos' : Pos} (hN : X.N.Nodup) (he : DE X W e te) (ho : PIp X op ti) (hl : LiftR2 X.K ti r) (hi : X.N[i]? = some x := by rfl) (hx : Loc X.env.scope x := by first | exact Or.inl rfl | exact Or.inr rfl)
    (hf : X.fn x = true ∨ X.env.scope.names.lookup x = some .local := by first | exact .inl rfl | exact .inr rfl) : DS X W (.AugAssign (.Name x pos') op e pos) (tAugD i te r) := by
  obtain ⟨v, p, l⟩ := he
  refine ⟨_, ps_aug hN hi hx p ho hf, fun Z F M σd σ H D Dv S R h P => ?_⟩
  unfold tAugD at h
  split at h
  · rename_i d e
    obtain ⟨w, e', rw'⟩ := R.val i d e
    refine ⟨w, e', l Z F M σd σ H _ D.ex _ S R h (fun y H1 F1 M1 dy e1 S1 r1 q1 => ?_) (P.ex σ)⟩
    exact hl Z F1 M1 H1 w y d dy _ _ S1 (rw'.mono e1) r1 q1 fun z H2 F2 M2 dz e2 S2 r2 q2 => P.nx _ _ H2 F2 M2 (e1.trans e2) S2 ((R.mono (e1.trans e2)).set r2 i) q2
  · exact h.elim

/-! ## what is walked -/
abbrev TID := SD → HD → (List D → HD → Prop) → XD → Prop
/-- J walks the items xs, whatever else changes -/
structure ItR (K : PySem.W.Frag) (F : Hp) (J : It) (xs : List D) : Prop where
  stop : ∀ Z F2 M2 H2, Same F F2 → Sim Z K F2 M2 H2 → J.stop xs.length H2
  go : ∀ Z F2 M2 H2 i d, Same F F2 → Sim Z K F2 M2 H2 → xs[i]? = some d → J.go i H2
  yld : ∀ Z F2 M2 H2 i d v H3, Same F F2 → Sim Z K F2 M2 H2 → xs[i]? = some d → J.yld i H2 v H3 → ∃ F3, Same F2 F3 ∧ Sim Z K F3 M2 H3 ∧ Rp K F3 d v
theorem ItR.mono {K : PySem.W.Frag} {F F' : Hp} {J : It} {xs : List D} (e : Same F F') (h : ItR K F J xs) : ItR K F' J xs :=
  ⟨fun Z F2 M2 H2 e2 => h.stop Z F2 M2 H2 (e.trans e2), fun Z F2 M2 H2 i d e2 => h.go Z F2 M2 H2 i d (e.trans e2), fun Z F2 M2 H2 i d v H3 e2 => h.yld Z F2 M2 H2 i d v H3 (e.trans e2)⟩
def PostI (Z : Hp) (K : PySem.W.Frag) (F : Hp) (Q : List D → HD → Prop) (R : It → Hp → Prop) : Prop := ∀ J H' F' M' xs, Same F F' → Sim Z K F' M' H' → xs.length ≤ sizeLine → ItR K F' J xs → Q xs M' → R J H'
def LiftI (K : PySem.W.Frag) (W : WX) (tv : TI) (t : TID) : Prop := ∀ Z F M σd σ H Q E R, Sim Z K F M H → RelS K F σd σ → t σd M Q E → PostI Z K F Q R → PostX Z K W F σ E → tv σ H R
structure DI (X : Cx) (W : WX) (tg iter : Expr) (t : TID) : Prop where
  ex : ∃ tv, PI X tg iter tv ∧ LiftI X.K W tv t

/-! ## for -/
def forD (g : TGD) (tb : TSD) (D : EndsD) : List DL.D → SD → HD → Prop
  | [], σ, M => D.nx σ M
  | x :: xs, σ, M => g x σ M (fun σ2 M2 => tb { D with nx := forD g tb D xs, ct := forD g tb D xs, bk := D.nx } σ2 M2) D.ex
def tForD (ti : TID) (g : TGD) (tb : TSD) : TSD := fun D σ M => ti σ M (fun xs M1 => forD g tb D xs σ M1) D.ex
theorem ds_for {tg iter : Expr} {is : List Nat} {body : List Stmt} {ti : TID} {g : TGD} {tb : TSD} (hp : PassesOwn (model X.prog X.w) X.A X.env X.xe) (hc : X.calm = true) (hi : DI X W tg iter ti) (hg : DG X W tg is g) (hb : DSs X W body tb)
    (hs : ∀ x, foldedSetIterable iter X.env x = pure x := by intro _; rfl) : DS X W (.For tg iter body [] pos) (tForD ti g tb) := by
  obtain ⟨vi, pi, li⟩ := hi
  obtain ⟨vg, pg, lg⟩ := hg
  obtain ⟨vb, pb, lb⟩ := hb
  refine ⟨_, ps_for hp hc pi pg pb hs, fun Z F M σd σ H D Dv S R h P => ?_⟩
  refine li Z F M σd σ H _ D.ex _ S R h (fun J H1 F1 M1 xs e1 S1 _ IR q1 => ?_) (P.ex σ)
  refine ⟨fun i m σ2 H2 => m = xs.length - i ∧ i ≤ xs.length ∧ ∃ F2 M2 σd2, Same F1 F2 ∧ Sim Z X.K F2 M2 H2 ∧ RelS X.K F2 σd2 σ2 ∧ forD g tb D (xs.drop i) σd2 M2,
    ⟨xs.length, by simp, Nat.zero_le _, F1, M1, σd, Same.refl F1, S1, R.mono e1, by rw [List.drop_zero]; exact q1⟩, ?_⟩
  rintro i m σ2 H2 ⟨rfl, hle, F2, M2, σd2, e2, S2, R2, q2⟩
  by_cases hlt : i < xs.length
  · refine .inr ⟨IR.go Z F2 M2 H2 i xs[i] e2 S2 (by simp [hlt]), ?_⟩
    refine ⟨fun σ3 H3 => ∃ F3 M3 σd3, Same F1 F3 ∧ Sim Z X.K F3 M3 H3 ∧ RelS X.K F3 σd3 σ3 ∧ forD g tb D (xs.drop (i + 1)) σd3 M3, fun σ3 H3 h3 => ⟨xs.length - (i + 1), by omega, rfl, hlt, h3⟩, fun v H3 y => ?_⟩
    obtain ⟨F3, e3, S3, r3⟩ := IR.yld Z F2 M2 H2 i xs[i] v H3 e2 S2 (by simp [hlt]) y
    rw [List.drop_eq_getElem_cons hlt] at q2
    have PX : ∀ σ, PostX Z X.K W F3 σ D.ex := fun σ => (P.ex σ).mono ((e1.trans e2).trans e3)
    refine lg Z F3 M2 σd2 σ2 H3 xs[i] v _ D.ex _ S3 (R2.mono e3) r3 q2 (fun σd4 σ4 H4 F4 M4 e4 S4 R4 _ _ q4 => ?_) PX
    have e14 : Same F F4 := ((e1.trans e2).trans e3).trans e4
    refine lb Z F4 M4 σd4 σ4 H4 _ _ S4 R4 q4 ⟨?_, P.rt.mono e14, P.nx.mono e14, ?_, fun σ => (P.ex σ).mono e14⟩
    · exact fun σd5 σ5 H5 F5 M5 e5 S5 R5 q5 => ⟨F5, M5, σd5, ((e2.trans e3).trans e4).trans e5, S5, R5, q5⟩
    · exact fun σd5 σ5 H5 F5 M5 e5 S5 R5 q5 => ⟨F5, M5, σd5, ((e2.trans e3).trans e4).trans e5, S5, R5, q5⟩
  · have e : i = xs.length := by omega
    subst e
    rw [List.drop_length] at q2
    exact .inl ⟨IR.stop Z F2 M2 H2 e2 S2, P.nx σd2 σ2 H2 F2 M2 (e1.trans e2) S2 R2 q2⟩

/-! ## while -/
def tWhileD (c : TTD) (tb : TSD) : TSD := fun D σ M => ∃ V : Nat → SD → HD → Prop, (∃ m, V m σ M) ∧ ∀ m σ M, V m σ M → c σ M (fun b M1 => match b with
  | true => ∃ N : SD → HD → Prop, (∀ σ' M', N σ' M' → ∃ m', m' < m ∧ V m' σ' M') ∧ tb { D with nx := N, ct := N, bk := D.nx } σ M1
  | false => D.nx σ M1) D.ex
theorem ds_while {c : Expr} {body : List Stmt} {tc : TTD} {tb : TSD} (hp : PassesOwn (model X.prog X.w) X.A X.env X.xe) (hc : DT X W c tc) (hb : DSs X W body tb) : DS X W (.While c body [] pos) (tWhileD tc tb) := by
  obtain ⟨vc, pc, lc⟩ := hc
  obtain ⟨vb, pb, lb⟩ := hb
  refine ⟨_, ps_while hp pc pb, fun Z F M σd σ H D Dv S R h P => ?_⟩
  obtain ⟨V, ⟨m0, w0⟩, turn⟩ := h
  refine ⟨fun m σ2 H2 => ∃ F2 M2 σd2, Same F F2 ∧ Sim Z X.K F2 M2 H2 ∧ RelS X.K F2 σd2 σ2 ∧ V m σd2 M2, ⟨m0, F, M, σd, Same.refl F, S, R, w0⟩, ?_⟩
  rintro m σ2 H2 ⟨F2, M2, σd2, e2, S2, R2, w2⟩
  refine lc Z F2 M2 σd2 σ2 H2 _ D.ex _ S2 R2 (turn m σd2 M2 w2) (fun k H3 F3 M3 e3 S3 q3 => ?_) ((P.ex σ2).mono e2)
  have e23 := e2.trans e3
  cases k with
  | true =>
    rw [if_pos rfl]
    obtain ⟨N, hN, q3⟩ := q3
    refine ⟨fun σ4 H4 => ∃ F4 M4 σd4, Same F F4 ∧ Sim Z X.K F4 M4 H4 ∧ RelS X.K F4 σd4 σ4 ∧ N σd4 M4, fun σ4 H4 h4 => ?_, ?_⟩
    · obtain ⟨F4, M4, σd4, e4, S4, R4, n4⟩ := h4
      obtain ⟨m', hm, w4⟩ := hN σd4 M4 n4
      exact ⟨m', hm, F4, M4, σd4, e4, S4, R4, w4⟩
    · exact lb Z F3 M3 σd2 σ2 H3 _ _ S3 (R2.mono e3) q3 ⟨fun σd5 σ5 H5 F5 M5 e5 S5 R5 q5 => ⟨F5, M5, σd5, e23.trans e5, S5, R5, q5⟩, P.rt.mono e23, P.nx.mono e23, fun σd5 σ5 H5 F5 M5 e5 S5 R5 q5 => ⟨F5, M5, σd5, e23.trans e5, S5, R5, q5⟩, fun σ => (P.ex σ).mono e23⟩
  | false =>
    rw [if_neg Bool.false_ne_true]
    exact P.nx σd2 σ2 H3 F3 M3 e23 S3 (R2.mono e3) q3
end

/-! ## comprehensions -/
def X0 : XD := fun _ _ => False
def W0 : WX := fun _ _ _ _ => False
theorem postX0 {Z : Hp} {K : PySem.W.Frag} {W : WX} {F : Hp} {σ : L2.St} : PostX Z K W F σ X0 := fun _ _ _ _ _ _ _ _ _ h => h.elim
def lcD (g : TGD) (tt : TTD) (te : TD) (vs : List Nat) (σ : SD) (Q : List D → HD → Prop) : List D → List D → HD → Prop
  | [], acc, M => Q acc M
  | x :: xs, acc, M => g x (wipeD σ vs) M (fun σ2 M2 => tt σ2 M2 (fun b M3 => match b with
    | true => te σ2 M3 (fun y M4 => lcD g tt te vs σ Q xs (acc ++ [y]) M4) X0
    | false => lcD g tt te vs σ Q xs acc M3) X0) X0
/-- the new list does not change | may change -/
def tLcD (ti : TID) (g : TGD) (tt : TTD) (te : TD) (vs : List Nat) : TD := fun σ M Q E => ti σ M (fun xs M1 => lcD g tt te vs σ (fun ys M2 => Q (.lst ys) M2) xs [] M1) E
def tLcM (ti : TID) (g : TGD) (tt : TTD) (te : TD) (vs : List Nat) : TD := fun σ M Q E => ti σ M (fun xs M1 => lcD g tt te vs σ (fun ys M2 => ∀ a, M2 a = none → Q (.ref a) (updM M2 a (.lst ys))) xs [] M1) E
def tYesD : TTD := fun _ M Q _ => Q true M
structure DTs (X : Cx) (W : WX) (ifs : List Expr) (t : TTD) : Prop where
  ex : ∃ tv, PTs X ifs tv ∧ LiftT X.K W tv t
theorem dts_nil {X : Cx} {W : WX} : DTs X W [] tYesD := ⟨_, pts_nil, fun Z F M σd σ H Q E Qv S R h P _ => P true H F M (Same.refl F) S h⟩
theorem dts_one {X : Cx} {W : WX} {c : Expr} {t : TTD} (h : DT X W c t) : DTs X W [c] t := let ⟨_, p, l⟩ := h; ⟨_, pts_one p, l⟩
theorem DTs.canon {X : Cx} {W : WX} {ifs : List Expr} {t : TTD} (h : DTs X W ifs t) : PTs X ifs (canonT X.K W t) := by
  obtain ⟨v, p, l⟩ := h
  refine ⟨fun pins s σ H Q I hq => ?_⟩
  obtain ⟨Z, F, M, σd, Qd, E, S, R, q, P, PX⟩ := hq
  exact p.run pins s σ H Q I (l Z F M σd σ H Qd E Q S R q P PX)
theorem wipe_out' {σ : L2.St} {i : Nat} : ∀ {vs : List Nat}, i ∉ vs → (wipe σ vs)[i]? = σ[i]?
  | [], _ => rfl
  | v :: vs, h => by
    show ((wipe σ vs).set v none)[i]? = _
    rw [List.getElem?_set_ne (fun e => h (by simp [e]))]
    exact wipe_out' fun z => h (List.mem_cons_of_mem _ z)
theorem wipe_in {σ : L2.St} {i : Nat} : ∀ {vs : List Nat}, i ∈ vs → i < σ.length → (wipe σ vs)[i]? = some none
  | v :: vs, h, hl => by
    show ((wipe σ vs).set v none)[i]? = _
    by_cases e : v = i
    · subst e
      rw [List.getElem?_set_self (by rw [wipe_length]; exact hl)]
    · rw [List.getElem?_set_ne e]
      exact wipe_in ((List.mem_cons.mp h).resolve_left fun q => e q.symm) hl
theorem wipe_same {σ σ' : L2.St} {is vs : List Nat} (hl : σ'.length = σ.length) (hs : ∀ i ∈ is, i ∈ vs) (h : ∀ j, j ∉ is → σ'[j]? = σ[j]?) : wipe σ' vs = wipe σ vs := by
  apply List.ext_getElem?
  intro i
  by_cases hi : i ∈ vs
  · by_cases hlt : i < σ.length
    · rw [wipe_in hi (by rw [hl]; exact hlt), wipe_in hi hlt]
    · rw [List.getElem?_eq_none (by rw [wipe_length]; omega), List.getElem?_eq_none (by rw [wipe_length]; omega)]
  · rw [wipe_out' hi, wipe_out' hi]
    exact h i fun z => hi (hs i z)
theorem wipe_wipe {σ : L2.St} {vs : List Nat} : wipe (wipe σ vs) vs = wipe σ vs := wipe_same (is := vs) (wipe_length σ vs) (fun _ h => h) fun j hj => wipe_out' hj
section
variable {X : Cx} {W : WX} {pos : Pos}
/-- the common work: a new list at L grows; it is put aside while a turn runs -/
theorem lift_lc {K : PySem.W.Frag} {vi : TI} {ti : TID} {is vs : List Nat} {g : TGD} {tt : TTD} {te : TD} {Fin : List D → HD → VKD → Prop} (li : LiftI K W vi ti) (hsub : ∀ i ∈ is, i ∈ vs)
    (hfin : ∀ Z F M H L acc ys Q Qv, Sim Z K F M H → Z L = none → F L = none → M L = none → H L = some (.lst ys) → ys.length ≤ sizeLine → Rps K F acc ys → Fin acc M Q → PostE Z K F Q Qv → Qv (.ref L) H) :
    LiftE K W (tLc vi (canonG K W0 is g) (canonT K W0 tt) (canonE K W0 te) vs) (fun σ M Q E => ti σ M (fun xs M1 => lcD g tt te vs σ (fun ys M2 => Fin ys M2 Q) xs [] M1) E) := by
  intro Z F M σd σ H Q E Qv S R h P PX
  refine li Z F M σd σ H _ E _ S R h (fun J H1 F1 M1 xs e1 S1 hz IR q1 => ?_) PX
  intro L hL
  have S1' : Sim Z K F1 M1 (upd H1 L (.lst [])) := S1.more (same_upd hL)
  have l0 : F1 L = none := S1.freshF hL
  have m0 : M1 L = none := S1.freshM hL
  have z0 : Z L = none := by
    cases e : Z L with
    | none => rfl
    | some o => rw [(S1.res L o e).1] at hL; cases hL
  refine ⟨fun i m H2 => m = xs.length - i ∧ i ≤ xs.length ∧ ∃ F2 M2 acc ys, Same F1 F2 ∧ Sim Z K F2 M2 H2 ∧ F2 L = none ∧ M2 L = none ∧ H2 L = some (.lst ys) ∧ ys.length ≤ i ∧ Rps K F2 acc ys ∧ lcD g tt te vs σd (fun ys M2 => Fin ys M2 Q) (xs.drop i) acc M2,
    ⟨xs.length, by simp, Nat.zero_le _, F1, M1, [], [], Same.refl F1, S1', l0, m0, upd_same, Nat.le_refl _, Rps.nil, by rw [List.drop_zero]; exact q1⟩, ?_⟩
  rintro i m H2 ⟨rfl, hle, F2, M2, acc, ys, e2, S2, f2, m2, h2, z2, r2, q2⟩
  by_cases hlt : i < xs.length
  · have hi : xs[i]? = some xs[i] := by simp [hlt]
    refine .inr ⟨IR.go Z F2 M2 H2 i xs[i] e2 S2 hi, ?_⟩
    refine ⟨fun H3 => ∃ F3 M3 acc ys, Same F1 F3 ∧ Sim Z K F3 M3 H3 ∧ F3 L = none ∧ M3 L = none ∧ H3 L = some (.lst ys) ∧ ys.length ≤ i + 1 ∧ Rps K F3 acc ys ∧ lcD g tt te vs σd (fun ys M2 => Fin ys M2 Q) (xs.drop (i + 1)) acc M3, fun H3 h3 => ⟨xs.length - (i + 1), by omega, rfl, hlt, h3⟩, fun v H3 y => ?_⟩
    rw [List.drop_eq_getElem_cons hlt] at q2
    have S2' := S2.aside h2 f2 m2
    obtain ⟨F3, e3, S3, r3⟩ := IR.yld _ F2 M2 H2 i xs[i] v H3 e2 S2' hi y
    have e13 := e1.trans (e2.trans e3)
    refine ⟨_, F3, M2, wipeD σd vs, xs[i], _, X0, S3, (R.wipe vs).mono e13, r3, q2, fun σd4 σ4 H4 F4 M4 e4 S4 R4 hl4 hj4 q4 => ?_, fun _ => postX0⟩
    refine ⟨(wipe_same hl4 hsub hj4).trans wipe_wipe, ?_⟩
    refine ⟨_, F4, M4, σd4, _, X0, S4, R4, q4, fun b H5 F5 M5 e5 S5 q5 => ?_, postX0⟩
    cases b with
    | true =>
      rw [if_pos rfl]
      refine ⟨_, F5, M5, σd4, _, X0, S5, R4.mono e5, q5, fun w H6 F6 M6 d e6 S6 r6 q6 => ?_, postX0⟩
      obtain ⟨S7, f7, m7, h7⟩ := S6.back (u := .lst (ys ++ [w])) z0
      have e26 := ((e3.trans e4).trans e5).trans e6
      refine ⟨ys, h7, by omega, F6, M6, acc ++ [d], ys ++ [w], e2.trans e26, S7, f7, m7, upd_same, by rw [List.length_append, List.length_singleton]; omega, (r2.mono e26).append (Rps.cons r6 Rps.nil), q6⟩
    | false =>
      rw [if_neg Bool.false_ne_true]
      obtain ⟨S7, f7, m7, h7⟩ := S5.back (u := .lst ys) z0
      have hH : upd H5 L (.lst ys) = H5 := by
        funext a
        by_cases ha : a = L
        · subst ha; rw [upd_same, h7]
        · rw [upd_ne ha]
      rw [hH] at S7
      have e25 := (e3.trans e4).trans e5
      exact ⟨F5, M5, acc, ys, e2.trans e25, S7, f7, m7, h7, by omega, r2.mono e25, q5⟩
  · have e : i = xs.length := by omega
    subst e
    rw [List.drop_length] at q2
    exact .inl ⟨IR.stop Z F2 M2 H2 e2 S2, hfin Z F2 M2 H2 L acc ys Q Qv S2 z0 f2 m2 h2 (Nat.le_trans z2 hz) r2 q2 (P.mono (e1.trans e2))⟩
theorem fin_frz {K : PySem.W.Frag} : ∀ Z F M H L acc ys (Q : VKD) Qv, Sim Z K F M H → Z L = none → F L = none → M L = none → H L = some (.lst ys) → ys.length ≤ sizeLine → Rps K F acc ys → Q (.lst acc) M → PostE Z K F Q Qv → Qv (.ref L) H := by
  intro Z F M H L acc ys Q Qv S zl fl ml hl hz r q P
  have eF : Same F (upd F L (.lst ys)) := same_upd fl
  refine P _ H (upd F L (.lst ys)) M _ eF ⟨fun a u e => ?_, fun a m e => ?_, fun a u e => ?_⟩ (by simp only [Rp]; exact ⟨L, ys, rfl, upd_same, hz, r.mono eF⟩) q
  · by_cases ha : a = L
    · subst ha; rw [upd_same] at e; rw [← e]; exact hl
    · rw [upd_ne ha] at e; exact S.sub a u e
  · have ha : a ≠ L := fun q => by subst q; rw [ml] at e; cases e
    exact ⟨by rw [upd_ne ha]; exact (S.own a m e).1, (S.own a m e).2.go eF fun _ z => z⟩
  · have ha : a ≠ L := fun q => by subst q; rw [zl] at e; cases e
    rw [upd_ne ha]; exact S.res a u e
theorem fin_mut {K : PySem.W.Frag} : ∀ Z F M H L acc ys (Q : VKD) Qv, Sim Z K F M H → Z L = none → F L = none → M L = none → H L = some (.lst ys) → ys.length ≤ sizeLine → Rps K F acc ys → (∀ a, M a = none → Q (.ref a) (updM M a (.lst acc))) → PostE Z K F Q Qv → Qv (.ref L) H := by
  intro Z F M H L acc ys Q Qv S zl fl ml hl hz r q P
  refine P _ H F (updM M L (.lst acc)) _ (Same.refl F) ⟨S.sub, fun a m e => ?_, fun a u e => ?_⟩ (by simp only [Rp]) (q L ml)
  · by_cases ha : a = L
    · subst ha; rw [updM_same] at e; cases e; exact ⟨fl, ys, hl, hz, r⟩
    · rw [updM_ne ha] at e; exact S.own a m e
  · have ha : a ≠ L := fun q => by subst q; rw [zl] at e; cases e
    rw [updM_ne ha]; exact S.res a u e
variable {elt tg iter : Expr} {ifs : List Expr} {scope : Scope} {own : List (Str × Nat)} {is : List Nat} {ti : TID} {g : TGD} {tt : TTD} {te : TD}
theorem de_lc (hc : X.calm = true) (hN : X.N.Nodup) (hi : DI X W tg iter ti) (ok : BlkOk X.N X.env.scope scope own)
    (hg : ∀ (s : Shared) (H : Hp) (C : Addr) (cl : List (Str × Addr)) (fp : List Addr), DG (X.blk s H scope (compEnvC scope cl C X.env) fp) W0 tg is g) (ht : ∀ (s : Shared) (H : Hp) (C : Addr) (cl : List (Str × Addr)) (fp : List Addr), DTs (X.blk s H scope (compEnvC scope cl C X.env) fp) W0 ifs tt)
    (he : ∀ (s : Shared) (H : Hp) (C : Addr) (cl : List (Str × Addr)) (fp : List Addr), DE (X.blk s H scope (compEnvC scope cl C X.env) fp) W0 elt te) (hsub : ∀ i ∈ is, i ∈ own.map (·.2)) (hs : ∀ x, foldedSetIterable iter X.env x = pure x := by intro _; rfl) :
    DE X W (.ListComp elt [⟨tg, iter, ifs, 0⟩] scope pos) (tLcD ti g tt te (own.map (·.2))) := by
  obtain ⟨vi, pi, li⟩ := hi
  exact ⟨_, pe_lc (g := canonG X.K W0 is g) (tt := canonT X.K W0 tt) (te := canonE X.K W0 te) hc hN pi ok (fun s H C cl fp => (hg s H C cl fp).canon) (fun s H C cl fp => (ht s H C cl fp).canon) (fun s H C cl fp => (he s H C cl fp).canon) hs, lift_lc (Fin := fun ys M2 Q => Q (.lst ys) M2) li hsub fin_frz⟩
theorem de_lcM (hc : X.calm = true) (hN : X.N.Nodup) (hi : DI X W tg iter ti) (ok : BlkOk X.N X.env.scope scope own)
    (hg : ∀ (s : Shared) (H : Hp) (C : Addr) (cl : List (Str × Addr)) (fp : List Addr), DG (X.blk s H scope (compEnvC scope cl C X.env) fp) W0 tg is g) (ht : ∀ (s : Shared) (H : Hp) (C : Addr) (cl : List (Str × Addr)) (fp : List Addr), DTs (X.blk s H scope (compEnvC scope cl C X.env) fp) W0 ifs tt)
    (he : ∀ (s : Shared) (H : Hp) (C : Addr) (cl : List (Str × Addr)) (fp : List Addr), DE (X.blk s H scope (compEnvC scope cl C X.env) fp) W0 elt te) (hsub : ∀ i ∈ is, i ∈ own.map (·.2)) (hs : ∀ x, foldedSetIterable iter X.env x = pure x := by intro _; rfl) :
    DE X W (.ListComp elt [⟨tg, iter, ifs, 0⟩] scope pos) (tLcM ti g tt te (own.map (·.2))) := by
  obtain ⟨vi, pi, li⟩ := hi
  exact ⟨_, pe_lc (g := canonG X.K W0 is g) (tt := canonT X.K W0 tt) (te := canonE X.K W0 te) hc hN pi ok (fun s H C cl fp => (hg s H C cl fp).canon) (fun s H C cl fp => (ht s H C cl fp).canon) (fun s H C cl fp => (he s H C cl fp).canon) hs, lift_lc (Fin := fun ys M2 Q => ∀ a, M2 a = none → Q (.ref a) (updM M2 a (.lst ys))) li hsub fin_mut⟩
/-- y = [..] -/
theorem ds_setLc (i : Nat) {y : Str} {py spos : Pos} {fin : List D → HD → VKD → Prop} (hc : X.calm = true) (hN : X.N.Nodup) (hi : DI X W tg iter ti) (ok : BlkOk X.N X.env.scope scope own)
    (hg : ∀ (s : Shared) (H : Hp) (C : Addr) (cl : List (Str × Addr)) (fp : List Addr), DG (X.blk s H scope (compEnvC scope cl C X.env) fp) W0 tg is g) (ht : ∀ (s : Shared) (H : Hp) (C : Addr) (cl : List (Str × Addr)) (fp : List Addr), DTs (X.blk s H scope (compEnvC scope cl C X.env) fp) W0 ifs tt)
    (he : ∀ (s : Shared) (H : Hp) (C : Addr) (cl : List (Str × Addr)) (fp : List Addr), DE (X.blk s H scope (compEnvC scope cl C X.env) fp) W0 elt te) (hsub : ∀ i ∈ is, i ∈ own.map (·.2))
    (hsw : swapsWith (.ListComp elt [⟨tg, iter, ifs, 0⟩] scope pos) (some (.Name y py)) spos.line X.env = pure true)
    (hfin : ∀ Z F M H L acc ys Q Qv, Sim Z X.K F M H → Z L = none → F L = none → M L = none → H L = some (.lst ys) → ys.length ≤ sizeLine → Rps X.K F acc ys → fin acc M Q → PostE Z X.K F Q Qv → Qv (.ref L) H)
    (hy : X.N[i]? = some y := by rfl) (hyl : X.env.scope.names.lookup y = some .local := by rfl) (hs : ∀ x, foldedSetIterable iter X.env x = pure x := by intro _; rfl) :
    DS X W (.Assign [.Name y py] (.ListComp elt [⟨tg, iter, ifs, 0⟩] scope pos) spos) (tAsgD (fun σ M Q E => ti σ M (fun xs M1 => lcD g tt te (own.map (·.2)) σ (fun ys M2 => fin ys M2 Q) xs [] M1) E) (gNameD i)) := by
  obtain ⟨vi, pi, li⟩ := hi
  refine ⟨_, ps_setLc (g := canonG X.K W0 is g) (tt := canonT X.K W0 tt) (te := canonE X.K W0 te) hc hN hy hyl hsw pi ok (fun s H C cl fp => (hg s H C cl fp).canon) (fun s H C cl fp => (ht s H C cl fp).canon) (fun s H C cl fp => (he s H C cl fp).canon) hs, ?_⟩
  refine lift_asg (is := [i]) (lift_lc (Fin := fin) li hsub hfin) ?_
  exact fun Z F M σd σ H d v N E Nv S R rd h P _ => P _ _ H F M (Same.refl F) S (R.set rd i) (by rw [List.length_set]) (fun j hj => by rw [List.getElem?_set_ne (fun e => hj (by simp [e]))]) h
end
end DL

/-! ### DL4 -/
set_option Elab.async false
set_option linter.all false
set_option maxRecDepth 100000
set_option maxHeartbeats 4000000
namespace DL
open PySem L2 PyProof.Rows

/-! ## promises over trees -/
abbrev SpD := List D → HD → VKD → XD → Prop
/-- what is of no more use may be forgotten -/
def upQ (Q : VKD) : VKD := fun d M => ∃ M0, Sub M0 M ∧ Q d M0
def upX (E : XD) : XD := fun x M => ∃ M0, Sub M0 M ∧ E x M0
theorem upQ.mk {Q : VKD} {d : D} {M : HD} (h : Q d M) : upQ Q d M := ⟨M, Sub.refl M, h⟩
def upSpW (K : PySem.W.Frag) (W : WX) (sp : SpD) (vs : List V) (σ : L2.St) (H : Hp) (Q : VK) : Prop :=
  ∃ Z F M ds Qd Ed, Sim Z K F M H ∧ Rps K F ds vs ∧ sp ds M Qd Ed ∧ PostE Z K F Qd Q ∧ PostX Z K W F σ Ed
def upSp (K : PySem.W.Frag) (sp : SpD) : Sp := fun vs H Q E => upSpW K (fun c d _ H' => E c d H') sp vs [] H Q
/-- the def at f keeps the promise; gd: it wants to know that no repr runs -/
def FnD (gd : Bool) (P : Program) (w : World) (K : PySem.W.Frag) (mg : Str → Option Value) (base : Heap) (k : Nat) (f : Addr) (sp : SpD) : Prop :=
  ∀ (A : Around) (outer : List Env) (s : Shared) (H : Hp) (us : List Value) (vs : List V) (Q : VK) (E : XK), Room k A → (gd = true → A.guards = some []) → Env0 P w K mg base A outer s H → Vals vs us → upSp K sp vs H Q E →
    codeAny (model P w) A (.call (.ref f) ⟨us, []⟩) (CR (L2.CX P w) outer P w H s Q E) s
def startD (N : List Str) (ds : List D) : SD := ds.map some ++ List.replicate (N.length - ds.length) none
theorem relS_start {K : PySem.W.Frag} {F : Hp} {N : List Str} {ds : List D} {vs : List V} (r : Rps K F ds vs) : RelS K F (startD N ds) (L2.start N vs) := by
  have hl := r.len
  refine ⟨by unfold startD L2.start; rw [List.length_append, List.length_append, List.length_map, List.length_map, List.length_replicate, List.length_replicate, hl], fun i d e => ?_⟩
  unfold startD at e
  unfold L2.start
  by_cases hi : i < ds.length
  · rw [List.getElem?_append_left (by simpa using hi), List.getElem?_map] at e
    rw [List.getElem?_append_left (by simpa using (hl ▸ hi)), List.getElem?_map]
    cases q : ds[i]? with
    | none => rw [q] at e; cases e
    | some d' =>
      rw [q] at e
      cases e
      obtain ⟨v, e', r'⟩ := r.get q
      exact ⟨v, by rw [e']; rfl, r'⟩
  · rw [List.getElem?_append_right (by simpa using Nat.le_of_not_lt hi), List.getElem?_replicate] at e
    split at e <;> cases e
section
variable {gd : Bool} {P : Program} {w : World} {K : PySem.W.Frag} {mg : Str → Option Value} {base : Heap} {x qual : Str} {params : Arguments} {body : List Stmt} {scope : Scope} {dvs : List V} {kws : List (Str × V)} {k : Nat} {f : Addr} {fd : FuncData} {N ps : List Str} {sp sp' : SpD}
theorem FnD.mono {j : Nat} (F : FnD gd P w K mg base j f sp) (h : j ≤ k) : FnD gd P w K mg base k f sp := fun A outer s H us vs Q E hr => F A outer s H us vs Q E (hr.mono h)
theorem FnD.raw (F : FnD false P w K mg base k f sp) : FnR P w K mg base (L2.CX P w) k f (upSp K sp) := fun A outer s H us vs Q E hr e0 r h => F A outer s H us vs Q E hr (fun z => nomatch z) e0 r h
/-- how the ends of a def's body lie over those of its caller -/
theorem ends_body {W : WX} {Z F : Hp} {Q : VKD} {Qv : VK} {E : XD} {Ev : XK} (P : PostE Z K F Q Qv) (PX : PostX Z K (fun c d _ H' => Ev c d H') F [] E) :
    EndsR Z K (fun c d _ H' => Ev c d H') F { nx := fun _ M' => upQ Q .non M', rt := upQ Q, ex := upX E } { nx := fun _ H' => Qv .non H', rt := Qv } := by
  refine ⟨fun σd' σ' H' F' M' e S R q => ?_, fun v H' F' M' d e S r q => ?_, fun _ _ _ _ _ _ _ _ q => q.elim, fun _ _ _ _ _ _ _ _ q => q.elim, fun σ x cls d H' F' M' e S r q => ?_⟩
  · obtain ⟨M0, h0, q⟩ := q
    exact P .non H' F' M0 .non e (S.forget h0) (by simp only [Rp]) q
  · obtain ⟨M0, h0, q⟩ := q
    exact P v H' F' M0 d e (S.forget h0) r q
  · obtain ⟨M0, h0, q⟩ := q
    exact PX x cls d H' F' M0 e (S.forget h0) r q
abbrev BodyD (gd : Bool) (P : Program) (w : World) (K : PySem.W.Frag) (mg : Str → Option Value) (base : Heap) (k : Nat) (f : Addr) (N : List Str) (qual : Str) (scope : Scope) (body : List Stmt) (t : TSD) : Prop :=
  ∀ (cdv : Value) (A : Around) (outer : List Env) (s : Shared) (H : Hp) (E : XK), Room k (A.deeper (envOfC qual scope s.heap.objs.size f cdv)) → (gd = true → (A.deeper (envOfC qual scope s.heap.objs.size f cdv)).guards = some []) →
    DSs (cxOf (L2.CX P w) P w K mg base N qual scope f cdv A outer s H E) (fun c d _ H' => E c d H') body t
/-- THE RULE for a def: every parameter is given by place -/
theorem FnD.mk (F : FunD K x qual params body scope dvs kws f fd) (S : FnScope N ps scope) (hb : Binds K fd ps [])
    (h : ∃ t : TSD, BodyD gd P w K mg base k f N qual scope body t ∧
      ∀ ds M Q E, sp ds M Q E → ds.length = ps.length ∧ t { nx := fun _ M' => upQ Q .non M', rt := upQ Q, ex := upX E } (startD N ds) M) : FnD gd P w K mg base (k + 1) f sp := by
  obtain ⟨t, hd, hq⟩ := h
  intro A outer s H us vs Q E hr hg e0 r hsp
  obtain ⟨oc, od, dV, kV, doc, pm, an, cdv, ct, osl, rfl, lk, hcd, _, _⟩ := F.ex
  obtain ⟨Z, Fr, M, ds, Qd, Ed, S0, rd, h1, P1, PX1⟩ := hsp
  obtain ⟨hl, ht⟩ := hq ds M Qd Ed h1
  have hlv : vs.length = ps.length := by rw [← rd.len]; exact hl
  have KX : K.In s.heap := e0.mod.kin.keeps fun b o e => (e0.bs b o e).1
  refine StX.run_bnd (G := fun vs' H' => vs' = vs ∧ H' = H) lk hcd S hr e0 (fun A' Ex Q' hk => ?_) fun s2 H2 vs2 g hr2 => ?_
  · have hb' := hb s us KX (by rw [List.append_nil, ← r.length]; exact hlv)
    rw [List.append_nil] at hb'
    exact hb' _ _ _ _ (hk s H vs us e0 Un.refl rfl (fun _ _ z => z) r hlv ⟨rfl, rfl⟩)
  · obtain ⟨rfl, rfl⟩ := g
    obtain ⟨tv, p, l⟩ := hd cdv A outer s2 H2 E hr2 hg
    exact ⟨tv, p, l Z Fr M _ _ H2 _ _ S0 (relS_start rd) ht (ends_body (W := fun c d _ H' => E c d H') P1 PX1)⟩
/-- def f(a, .., *v) -/
theorem FnD.mkStar {pv : Str} (F : FunD K x qual params body scope [] kws f fd) (S : FnScope N (ps ++ [pv]) scope)
    (hb : ∀ (kV doc pm : Value) (an : Option Addr) (cdv ct : Value) (us rest : List Value), us.length = ps.length → bindArgs (PySem.W.fnOf x qual params body scope .none kV doc pm an cdv ct) ⟨us ++ rest, []⟩ = (newTuple rest >>= fun t => pure (ps.zip us ++ [(pv, t)])))
    (h : ∃ t : TSD, BodyD gd P w K mg base k f N qual scope body t ∧
      ∀ ds M Q E, sp ds M Q E → ps.length ≤ ds.length ∧ (ds.drop ps.length).length ≤ sizeLine ∧ t { nx := fun _ M' => upQ Q .non M', rt := upQ Q, ex := upX E } (startD N (ds.take ps.length ++ [.tup (ds.drop ps.length)])) M) : FnD gd P w K mg base (k + 1) f sp := by
  obtain ⟨t, hd, hq⟩ := h
  intro A outer s H us vs Q E hr hg e0 r hsp
  obtain ⟨oc, od, dV, kV, doc, pm, an, cdv, ct, osl, rfl, lk, hcd, hdv, _⟩ := F.ex
  obtain rfl : dV = .none := by
    rcases hdv with ⟨_, e⟩ | ⟨e, _⟩
    · exact e
    · exact absurd rfl e
  obtain ⟨Z, Fr, M, ds, Qd, Ed, S0, rd, h1, P1, PX1⟩ := hsp
  obtain ⟨hl, hz, ht⟩ := hq ds M Qd Ed h1
  have hlv : ps.length ≤ vs.length := by rw [← rd.len]; exact hl
  have hlu : ps.length ≤ us.length := by rw [← r.length]; exact hlv
  have hzv : (vs.drop ps.length).length ≤ sizeLine := by rw [List.length_drop, ← rd.len, ← List.length_drop]; exact hz
  have hzu : (us.drop ps.length).length ≤ sizeLine := by rw [List.length_drop, ← r.length, ← List.length_drop]; exact hzv
  have hn : H s.heap.objs.size = Option.none := e0.hok.fresh (Nat.le_refl _)
  have tk : (us.take ps.length).length = ps.length := by rw [List.length_take]; omega
  have tkv : (vs.take ps.length).length = ps.length := by rw [List.length_take]; omega
  refine StX.run_bnd (G := fun xs H2 => ∃ p, H p = Option.none ∧ xs = vs.take ps.length ++ [V.ref p] ∧ H2 = upd H p (.tup (vs.drop ps.length))) lk hcd S hr e0 (fun A' Ex Q' hk => ?_) fun s2 H2 vs2 g hr2 => ?_
  · have e1 : us = us.take ps.length ++ us.drop ps.length := (List.take_append_drop _ _).symm
    rw [e1, hb kV doc pm an cdv ct (us.take ps.length) (us.drop ps.length) tk]
    refine wpAny_bind (wpAny_newTuple (wpAny_pure ?_) hzu)
    have new : ObjOk P w (upd H s.heap.objs.size (.tup (vs.drop ps.length))) (s.heap.push ({ cls := .type "tuple", data := .seq (us.drop ps.length).toArray } : Obj)) s.heap.objs.size (.tup (vs.drop ps.length)) :=
      ⟨hzv, us.drop ps.length, Vals.drop _ r, ⟨_, Heap.get?_push_size _ rfl, rfl, _, rfl⟩⟩
    have un := StX.un_laid (fs := frs outer) (s := s) (o := ({ cls := .type "tuple", data := .seq (us.drop ps.length).toArray } : Obj)) (u := .tup (vs.drop ps.length)) hn
    have z := hk _ _ (vs.take ps.length ++ [V.ref s.heap.objs.size]) (us.take ps.length ++ [Value.ref s.heap.objs.size]) (StX.env0_laid e0 new) un rfl
      (fun e s' => StX.cxUp outer s H _ _ E e s' un (fun b o q => Heap.get?_push_of_some _ q) rfl) ((Vals.take _ r).append (.cons rfl .nil)) (by rw [List.length_append, List.length_append, tkv] <;> rfl) ⟨_, hn, rfl, rfl⟩
    rw [List.zip_append tk.symm] at z
    exact z
  · obtain ⟨p, hp, rfl, rfl⟩ := g
    obtain ⟨tv, pp, l⟩ := hd cdv A outer s2 _ E hr2 hg
    obtain ⟨e2, S2⟩ := S0.grow (o := .tup (vs.drop ps.length)) hp
    have rd2 : Rps K (upd Fr p (.tup (vs.drop ps.length))) (ds.take ps.length ++ [.tup (ds.drop ps.length)]) (vs.take ps.length ++ [V.ref p]) :=
      ((rd.mono e2).take _).append (Rps.cons (by simp only [Rp]; exact ⟨p, _, rfl, SqT.of upd_same, hzv, (rd.mono e2).drop _⟩) Rps.nil)
    exact ⟨tv, pp, l Z _ M _ _ _ _ _ S2 (relS_start rd2) ht (ends_body (W := fun c d _ H' => E c d H') (P1.mono e2) (PX1.mono e2))⟩
end

/-! ## calls -/
structure CalD (X : Cx) (W : WX) (u : Value) (sp : SpD) : Prop where
  kp : PySem.W.keepIn X.K u = true
  run : ∀ (pins : List (Addr × Obj)) (σ : L2.St) (H : Hp) (s : Shared) (us : List Value) (vs : List V) (Q : VK), Inv X pins σ H s → Vals vs us → upSpW X.K W sp vs σ H Q → wpAny (model X.prog X.w) X.A (call u us) (EP X pins σ Q) X.xe s
section
variable {X : Cx} {W : WX} {gd : Bool} {k : Nat} {f C : Addr} {sp : SpD}
theorem run_D {pins : List (Addr × Obj)} {σ : L2.St} {H : Hp} {s : Shared} {us : List Value} {vs : List V} {Q : VK} (F : FnD gd X.prog X.w X.K X.mg X.base k f sp) (hr : Room k X.A) (hg : gd = true → X.A.guards = some []) (tk : Takes X W)
    (I : Inv X pins σ H s) (r : Vals vs us) (h : upSpW X.K W sp vs σ H Q) : codeAny (model X.prog X.w) X.A (.call (.ref f) ⟨us, []⟩) (fun r s' => match r with | .ok (.ret v) => EP X pins σ Q v s' | .ok _ => False | .error e => X.xe e s') s := by
  obtain ⟨Z, F0, M, ds, Qd, Ed, S, rd, q, P, PX⟩ := h
  refine codeAny_mono (F X.A X.stack s H us vs Q (fun c d H' => W c d σ H') hr hg I.env0 r ⟨Z, F0, M, ds, Qd, Ed, S, rd, q, P, fun x cls d H' F' M' e1 S1 r1 q1 => PX x cls d H' F' M' e1 S1 r1 q1⟩) fun r s' hq => ?_
  cases r with
  | error e => exact tk e s' (XE.of_call I (fun cls d H' h => h) hq)
  | ok fl =>
    cases fl with
    | ret u => exact I.after hq
    | next => exact False.elim hq
    | brk => exact False.elim hq
    | cont => exact False.elim hq
theorem CalD.fn (F : FnD gd X.prog X.w X.K X.mg X.base k f sp) (hr : Room k X.A) (hg : gd = true → X.A.guards = some []) (kp : PySem.W.keepIn X.K (.ref f) = true) (tk : Takes X W) : CalD X W (.ref f) sp :=
  ⟨kp, fun pins σ H s us vs Q I r h => wpAny_call (run_D F hr hg tk I r h)⟩
/-- a new instance that does not change behind its __init__ | that may change -/
def spMk (C : Addr) (sp : SpD) : SpD := fun ds M Q E => ∀ a, M a = none → sp (.ref a :: ds) (updM M a (.ins C [] [])) (fun d M' => d = .non ∧ match M' a with
  | some (.ins C' ns xs) => C' = C ∧ Q (.ins C ns xs) (delM M' a)
  | _ => False) E
def spMkM (C : Addr) (sp : SpD) : SpD := fun ds M Q E => ∀ a, M a = none → sp (.ref a :: ds) (updM M a (.ins C [] [])) (fun d M' => d = .non ∧ Q (.ref a) M') E
theorem made_own {K : PySem.W.Frag} {Z F : Hp} {M : HD} {H : Hp} {a dx : Addr} (S : Sim Z K F M H) (h1 : H a = none) (h2 : H dx = none) (hne : dx ≠ a) : Sim Z K F (updM M a (.ins C [] [])) (upd (upd H dx (.own a)) a (.ins C dx [])) := by
  have S1 := S.more (same_upd (o := .own a) h2)
  exact S1.new (by rw [upd_ne (Ne.symm hne)]; exact h1) ⟨dx, [], upd_same, rfl, Rps.nil⟩
theorem CalD.of_make {fI : Addr} {sp' : SpD} (M : Mk X.K C fI) (F : FnD false X.prog X.w X.K X.mg X.base k fI sp) (hr : Room (k + 1) X.A) (tk : Takes X W)
    (hs : ∀ ds M Q E, sp' ds M Q E → ∀ a, M a = none → ∃ Q2 : VKD, sp (.ref a :: ds) (updM M a (.ins C [] [])) Q2 E ∧ ∀ Z F H' M' d v, Sim Z X.K F M' H' → Rp X.K F d v → Q2 d M' → d = .non ∧ ∃ F2 M2 d2, Same F F2 ∧ Sim Z X.K F2 M2 H' ∧ Rp X.K F2 d2 (.ref a) ∧ Q d2 M2) : CalD X W (.ref C) sp' := by
  refine ⟨M.kp, fun pins σ H s us vs Q I r h => ?_⟩
  obtain ⟨Z, F0, M0, ds, Qd, Ed, S, rd, q, P, PX⟩ := h
  have hA : H (s.heap.objs.size + 1) = Option.none := I.hok.fresh (Nat.le_succ _)
  have hD : H s.heap.objs.size = Option.none := I.hok.fresh (Nat.le_refl _)
  have J := Inv.made (C := C) I
  have S1 := made_own (C := C) S hA hD (Nat.ne_of_lt (Nat.lt_succ_self _))
  obtain ⟨Q2, q2, hQ⟩ := hs ds M0 Qd Ed q _ (S.freshM hA)
  have up : upSp X.K sp (V.ref (s.heap.objs.size + 1) :: vs) (upd (upd H s.heap.objs.size (.own (s.heap.objs.size + 1))) (s.heap.objs.size + 1) (.ins C s.heap.objs.size []))
      (fun v H2 => v = .non ∧ Q (.ref (s.heap.objs.size + 1)) H2) (fun c d H' => W c d σ H') := by
    refine ⟨Z, F0, _, .ref _ :: ds, Q2, Ed, S1, Rps.cons (by simp only [Rp]) rd, q2, fun v H' F' M' d e1 S2 r2 q3 => ?_, fun x cls d H' F' M' e1 S2 r2 q3 => PX x cls d H' F' M' e1 S2 r2 q3⟩
    obtain ⟨rfl, F2, M2, d2, e2, S3, r3, q4⟩ := hQ Z F' H' M' d v S2 r2 q3
    simp only [Rp] at r2
    exact ⟨r2, P _ H' F2 M2 d2 (e1.trans e2) S3 r3 q4⟩
  refine wpAny_call (make_map (f := fI) I.kIn M.makes M.init (beq_iff_eq.mp M.fn) (codeAny_mono (F _ X.stack _ _ (Value.ref (s.heap.objs.size + 1) :: us) (V.ref (s.heap.objs.size + 1) :: vs) _ _ (hr.make C us []) (fun z => nomatch z) (J.env0.make C us []) (.cons rfl r) up) fun res s' hq => ?_))
  match res, hq with
  | .error e, hq => exact tk e s' (XE.of_call J (fun cls d H' h => h) hq)
  | .ok (.ret u), hq =>
    obtain ⟨v, H', J3, rv, ev, q3⟩ := J.after hq
    subst ev
    exact ⟨rv, ⟨V.ref (s.heap.objs.size + 1), H', J3, rfl, q3⟩⟩
  | .ok .next, hq => exact False.elim hq
  | .ok .brk, hq => exact False.elim hq
  | .ok .cont, hq => exact False.elim hq
theorem CalD.mk_frz {fI : Addr} (M : Mk X.K C fI) (F : FnD false X.prog X.w X.K X.mg X.base k fI sp) (hr : Room (k + 1) X.A) (tk : Takes X W) : CalD X W (.ref C) (spMk C sp) :=
  CalD.of_make M F hr tk fun ds M0 Q E h a ha => ⟨_, h a ha, fun Z F0 H' M' d v S r q => by
    obtain ⟨rfl, q⟩ := q
    refine ⟨rfl, ?_⟩
    split at q
    · rename_i C' ns xs em
      obtain ⟨rfl, q⟩ := q
      obtain ⟨_, dx, vs, h1, h2, h3⟩ := S.own a _ em
      obtain ⟨e2, S2⟩ := S.frz em h1
      exact ⟨_, _, _, e2, S2, by simp only [Rp]; exact ⟨a, dx, vs, rfl, upd_same, h2, h3.mono e2⟩, q⟩
    · exact q.elim⟩
theorem CalD.mk_mut {fI : Addr} (M : Mk X.K C fI) (F : FnD false X.prog X.w X.K X.mg X.base k fI sp) (hr : Room (k + 1) X.A) (tk : Takes X W) : CalD X W (.ref C) (spMkM C sp) :=
  CalD.of_make M F hr tk fun ds M0 Q E h a ha => ⟨_, h a ha, fun Z F0 H' M' d v S r q => ⟨q.1, F0, M', _, Same.refl _, S, by simp only [Rp], q.2⟩⟩
end

/-! ## call expressions -/
def tCallD (sp : SpD) (t : TAD) : TD := fun σ M Q E => t σ M (fun ds M1 => sp ds M1 Q E) E
section
variable {X : Cx} {W : WX} {x m : Str} {p pos apos sp_ : Pos} {u : Value} {sp : SpD} {e o : Expr} {es : List Expr} {t : TAD} {te : TD}
theorem lift_call {K : PySem.W.Frag} {va : TA} (la : LiftA K W va t) : LiftE K W (fun σ H Q => va σ H fun vs H1 => upSpW K W sp vs σ H1 Q) (tCallD sp t) := by
  intro Z F M σd σ H Q E Qv S R h P PX
  refine la Z F M σd σ H _ E _ S R h (fun vs H1 F1 M1 ds e1 S1 r1 q1 => ?_) PX
  exact ⟨Z, F1, M1, ds, Q, E, S1, r1, q1, P.mono e1, PX.mono e1⟩
theorem de_call (c : CalD X W u sp) (hm : X.mg x = some u) (ha : DA X W (e :: es) t) (hg : Gl X x := by rfl) (hdb : (x == ("__debug__" : Str)) = false := by decide)
    (he : starEach (e :: es) X.env = (false, eval e X.env) :: starEach es X.env := by rfl) (hpl : (backTo pos (starEach es X.env)).any (·.1) = false := by rfl) : DE X W (.Call (.Name x p) (e :: es) [] pos) (tCallD sp t) := by
  obtain ⟨va, pa, la⟩ := ha
  refine ⟨_, ⟨fun pins s σ H Q I h => ?_⟩, lift_call la⟩
  refine wpAny_Call_Name_kw (ld_glob I hg hm ?_ hdb)
  exact PySem.W.callWith_K (h₀ := X.base) I.ok.mod.kin c.kp (thn (pa.run pos pins s σ H _ I h) fun us s1 ⟨vs, H1, I1, r, q⟩ => ⟨I1.kIn, c.run pins σ H1 s1 us vs Q I1 r q⟩) he hpl
theorem de_call0 (c : CalD X W u sp) (hm : X.mg x = some u) (hg : Gl X x := by rfl) (hdb : (x == ("__debug__" : Str)) = false := by decide) : DE X W (.Call (.Name x p) [] [] pos) (tCallD sp tNilD) := by
  refine ⟨fun σ H Q => upSpW X.K W sp [] σ H Q, ⟨fun pins s σ H Q I h => ?_⟩, fun Z F M σd σ H Q E Qv S R h P PX => ⟨Z, F, M, [], Q, E, S, Rps.nil, h, P, PX⟩⟩
  refine wpAny_Call_Name_kw (ld_glob I hg hm ?_ hdb)
  exact PySem.W.callWith_K0 I.kIn c.kp (c.run pins σ H s [] [] Q I .nil h)
/-- f(a, .., *b) -/
theorem de_callS2 (c : CalD X W u sp) (hm : X.mg x = some u) (ha : DA X W (e :: es) t) (hg : Gl X x := by rfl) (hdb : (x == ("__debug__" : Str)) = false := by decide)
    (he : starEach (e :: es) X.env = (false, eval e X.env) :: starEach es X.env := by rfl) (hst : (backTo pos (starEach es X.env)).any (·.1) = true := by rfl) : DE X W (.Call (.Name x p) (e :: es) [] pos) (tCallD sp t) := by
  obtain ⟨va, pa, la⟩ := ha
  refine ⟨_, ⟨fun pins s σ H Q I h => ?_⟩, lift_call la⟩
  refine wpAny_Call_Name_kw (ld_glob I hg hm ?_ hdb)
  exact PySem.W.callWith_S2 (h₀ := X.base) I.ok.mod.kin c.kp (thn (pa.run pos pins s σ H _ I h) fun us s1 ⟨vs, H1, I1, r, q⟩ => ⟨I1.kIn, c.run pins σ H1 s1 us vs Q I1 r q⟩) he hst
/-- f(*b) -/
theorem lift_star1 {K : PySem.W.Frag} {va : TE} (la : LiftE K W va te) : LiftE K W (fun σ H Q => va σ H fun y H1 => ∃ a xs, y = V.ref a ∧ (SqT K H1 a xs ∨ SqL K H1 a xs) ∧ upSpW K W sp xs σ H1 Q) (tCallD sp (tStarD te tNilD)) := by
  intro Z F M σd σ H Q E Qv S R h P PX
  refine la Z F M σd σ H _ E _ S R h (fun v H1 F1 M1 d e1 S1 r1 q1 => ?_) PX
  split at q1
  · rename_i xs ev
    obtain ⟨a, vs, ex, sq, _, rv⟩ := viewS_ok S1 r1 ev
    have q2 : sp (xs ++ []) M1 Q E := q1
    rw [List.append_nil] at q2
    exact ⟨a, vs, ex, sq.symm, Z, F1, M1, xs, Q, E, S1, rv, q2, P.mono e1, PX.mono e1⟩
  · exact q1.elim
theorem de_callS1 (c : CalD X W u sp) (hm : X.mg x = some u) (he : DE X W e te) (hg : Gl X x := by rfl) (hdb : (x == ("__debug__" : Str)) = false := by decide)
    (hst : starEach [.Starred e sp_] X.env = [(true, eval e X.env)] := by rfl) : DE X W (.Call (.Name x p) [.Starred e sp_] [] pos) (tCallD sp (tStarD te tNilD)) := by
  obtain ⟨va, pa, la⟩ := he
  refine ⟨_, ⟨fun pins s σ H Q I h => ?_⟩, lift_star1 la⟩
  refine wpAny_Call_Name_kw (ld_glob I hg hm ?_ hdb)
  refine PySem.W.callWith_S (h₀ := X.base) I.ok.mod.kin c.kp (thn (pa.run pins s σ H _ I h) fun v s1 ⟨y, H1, I1, ry, a, xs, ey, hxs, q⟩ => ?_) hst
  subst ey
  obtain rfl : v = Value.ref a := ry
  exact StX.star_any I1 hxs fun us s2 I2 rv => ⟨I2.kIn, c.run pins σ H1 s2 us xs Q I2 rv q⟩
/-- the same by a name of the def's own that holds the class (or def) at a -/
def tLocD (i : Nat) (a : Addr) (t : TD) : TD := fun σ M Q E => match σ[i]? with
  | some (some (.ref b)) => a = b ∧ t σ M Q E
  | _ => False
theorem ld_slot {i : Nat} {a : Addr} {pins : List (Addr × Obj)} {s : Shared} {σ : L2.St} {H : Hp} {Q : Value → Shared → Prop} (I : Inv X pins σ H s) (hs : σ[i]? = some (some (.ref a))) (hN : X.N[i]? = some x) (hv : Vis X.env.scope x)
    (h : ∀ s', Inv X pins σ H s' → Q (.ref a) s') (hd : (x == ("__debug__" : Str)) = false := by decide) (hcd : (x == ("__classdict__" : Str)) = false := by decide) : wpAny (model X.prog X.w) X.A (eval (.Name x pos) X.env) Q X.xe s := by
  refine thn ((pe_var (pos := pos) hN hv hd hcd).run pins s σ H (fun v H1 => v = .ref a ∧ H1 = H) I ⟨.ref a, hs, rfl, rfl⟩) fun u s1 ⟨v, H1, I1, r1, q1⟩ => ?_
  obtain ⟨rfl, rfl⟩ := q1
  cases r1
  exact h s1 I1
theorem lift_loc {K : PySem.W.Frag} {i : Nat} {a : Addr} {va : TE} (la : LiftE K W va te) : LiftE K W (fun σ H Q => σ[i]? = some (some (.ref a)) ∧ va σ H Q) (tLocD i a te) := by
  intro Z F M σd σ H Q E Qv S R h P PX
  unfold tLocD at h
  split at h
  · rename_i b e
    obtain ⟨rfl, h⟩ := h
    obtain ⟨v, e', r⟩ := R.val i _ e
    simp only [Rp] at r
    subst r
    exact ⟨e', la Z F M σd σ H Q E Qv S R h P PX⟩
  · exact h.elim
theorem de_callLS1 (i : Nat) {a : Addr} (c : CalD X W (.ref a) sp) (he : DE X W e te) (hN : X.N[i]? = some x := by rfl) (hv : Vis X.env.scope x := by first | exact Or.inl rfl | exact Or.inr (Or.inl rfl) | exact Or.inr (Or.inr rfl)) (hd : (x == ("__debug__" : Str)) = false := by decide) (hcd : (x == ("__classdict__" : Str)) = false := by decide)
    (hst : starEach [.Starred e sp_] X.env = [(true, eval e X.env)] := by rfl) : DE X W (.Call (.Name x p) [.Starred e sp_] [] pos) (tLocD i a (tCallD sp (tStarD te tNilD))) := by
  obtain ⟨va, pa, la⟩ := he
  refine ⟨_, ⟨fun pins s σ H Q I h => ?_⟩, lift_loc (lift_star1 la)⟩
  obtain ⟨hs, h⟩ := h
  refine wpAny_Call_Name_kw (ld_slot I hs hN hv (fun s' I' => ?_) hd hcd)
  refine PySem.W.callWith_S (h₀ := X.base) I.ok.mod.kin c.kp (thn (pa.run pins s' σ H _ I' h) fun v s1 ⟨y, H1, I1, ry, b, xs, ey, hxs, q⟩ => ?_) hst
  subst ey
  obtain rfl : v = Value.ref b := ry
  exact StX.star_any I1 hxs fun us s2 I2 rv => ⟨I2.kIn, c.run pins σ H1 s2 us xs Q I2 rv q⟩
theorem de_callLS2 (i : Nat) {a : Addr} (c : CalD X W (.ref a) sp) (ha : DA X W (e :: es) t) (hN : X.N[i]? = some x := by rfl) (hv : Vis X.env.scope x := by first | exact Or.inl rfl | exact Or.inr (Or.inl rfl) | exact Or.inr (Or.inr rfl)) (hd : (x == ("__debug__" : Str)) = false := by decide) (hcd : (x == ("__classdict__" : Str)) = false := by decide)
    (he : starEach (e :: es) X.env = (false, eval e X.env) :: starEach es X.env := by rfl) (hst : (backTo pos (starEach es X.env)).any (·.1) = true := by rfl) : DE X W (.Call (.Name x p) (e :: es) [] pos) (tLocD i a (tCallD sp t)) := by
  obtain ⟨va, pa, la⟩ := ha
  refine ⟨_, ⟨fun pins s σ H Q I h => ?_⟩, lift_loc (lift_call la)⟩
  obtain ⟨hs, h⟩ := h
  refine wpAny_Call_Name_kw (ld_slot I hs hN hv (fun s' I' => ?_) hd hcd)
  exact PySem.W.callWith_S2 (h₀ := X.base) I.ok.mod.kin c.kp (thn (pa.run pos pins s' σ H _ I' h) fun us s1 ⟨vs, H1, I1, r, q⟩ => ⟨I1.kIn, c.run pins σ H1 s1 us vs Q I1 r q⟩) he hst
theorem de_callL (i : Nat) {a : Addr} (c : CalD X W (.ref a) sp) (ha : DA X W (e :: es) t) (hN : X.N[i]? = some x := by rfl) (hv : Vis X.env.scope x := by first | exact Or.inl rfl | exact Or.inr (Or.inl rfl) | exact Or.inr (Or.inr rfl)) (hd : (x == ("__debug__" : Str)) = false := by decide) (hcd : (x == ("__classdict__" : Str)) = false := by decide)
    (he : starEach (e :: es) X.env = (false, eval e X.env) :: starEach es X.env := by rfl) (hpl : (backTo pos (starEach es X.env)).any (·.1) = false := by rfl) : DE X W (.Call (.Name x p) (e :: es) [] pos) (tLocD i a (tCallD sp t)) := by
  obtain ⟨va, pa, la⟩ := ha
  refine ⟨_, ⟨fun pins s σ H Q I h => ?_⟩, lift_loc (lift_call la)⟩
  obtain ⟨hs, h⟩ := h
  refine wpAny_Call_Name_kw (ld_slot I hs hN hv (fun s' I' => ?_) hd hcd)
  exact PySem.W.callWith_K (h₀ := X.base) I.ok.mod.kin c.kp (thn (pa.run pos pins s' σ H _ I' h) fun us s1 ⟨vs, H1, I1, r, q⟩ => ⟨I1.kIn, c.run pins σ H1 s1 us vs Q I1 r q⟩) he hpl
end
end DL

/-! ### DL5 -/
set_option Elab.async false
set_option linter.all false
set_option maxRecDepth 100000
set_option maxHeartbeats 4000000
namespace DL
open PySem L2 PyProof.Rows

section
variable {K : PySem.W.Frag} {F F' : Hp}
theorem rp_int {i : Int} {v : V} : Rp K F (.int i) v ↔ v = .int i := by simp only [Rp]
theorem rp_bl {i : Bool} {v : V} : Rp K F (.bl i) v ↔ v = .bl i := by simp only [Rp]
theorem rp_str {i : Str} {v : V} : Rp K F (.str i) v ↔ v = .str i := by simp only [Rp]
theorem rp_non {v : V} : Rp K F .non v ↔ v = .non := by simp only [Rp]
theorem rp_ref {a : Addr} {v : V} : Rp K F (.ref a) v ↔ v = .ref a := by simp only [Rp]
theorem rp_ty {n : String} {v : V} : Rp K F (.ty n) v ↔ v = .ty n := by simp only [Rp]
theorem rp_tup {ds : List D} {v : V} : Rp K F (.tup ds) v ↔ ∃ a vs, v = .ref a ∧ SqT K F a vs ∧ vs.length ≤ sizeLine ∧ Rps K F ds vs := by simp only [Rp]
theorem rp_lst {ds : List D} {v : V} : Rp K F (.lst ds) v ↔ ∃ a vs, v = .ref a ∧ F a = some (.lst vs) ∧ vs.length ≤ sizeLine ∧ Rps K F ds vs := by simp only [Rp]
theorem rp_scr {ds : List D} {v : V} : Rp K F (.scr ds) v ↔ ∃ a vs, v = .ref a ∧ SqL K F a vs ∧ vs.length ≤ sizeLine ∧ Rps K F ds vs := by simp only [Rp]
theorem rp_dct {ks : List Key} {ds : List D} {v : V} : Rp K F (.dct ks ds) v ↔ ∃ a vs, v = .ref a ∧ F a = some (.dK (ks.zip vs)) ∧ ks.length = vs.length ∧ Rps K F ds vs := by simp only [Rp]
theorem rp_ins {C : Addr} {ns : List Str} {ds : List D} {v : V} : Rp K F (.ins C ns ds) v ↔ ∃ a dx vs, v = .ref a ∧ F a = some (.ins C dx (ns.zip vs)) ∧ ns.length = vs.length ∧ Rps K F ds vs := by simp only [Rp]
end

/-! ## arithmetic -/
/-- a rule for two ints -/
theorem lift_I {K : PySem.W.Frag} {C : Int → Int → Prop} {g : Int → Int → V} {gd : Int → Int → D} (hg : ∀ i j F, Rp K F (gd i j) (g i j)) :
    LiftR2 K (rI C g) (fun x y M Q => match x with
      | .int i => (match y with
        | .int j => C i j ∧ Q (gd i j) M
        | _ => False)
      | _ => False) := by
  intro Z F M H x y dx dy Q Qv S rx ry h P
  cases dx with
  | int i =>
    cases dy with
    | int j => exact ⟨i, j, rp_int.mp rx, rp_int.mp ry, h.1, P _ H F M _ (Same.refl F) S (hg i j F) h.2⟩
    | _ => exact h.elim
  | _ => exact h.elim
theorem lift_I0 {K : PySem.W.Frag} {g : Int → Int → V} {gd : Int → Int → D} (hg : ∀ i j F, Rp K F (gd i j) (g i j)) :
    LiftR2 K (rI0 g) (fun x y M Q => match x with
      | .int i => (match y with
        | .int j => Q (gd i j) M
        | _ => False)
      | _ => False) := by
  intro Z F M H x y dx dy Q Qv S rx ry h P
  cases dx with
  | int i =>
    cases dy with
    | int j => exact ⟨i, j, rp_int.mp rx, rp_int.mp ry, P _ H F M _ (Same.refl F) S (hg i j F) h⟩
    | _ => exact h.elim
  | _ => exact h.elim
section
variable {X : Cx} {W : WX} {a b c : Expr} {ta tb tc : TD} {pos : Pos}
def rSubD : R2D := fun x y M Q => match x with
  | .int i => (match y with
    | .int j => Q (.int (i - j)) M
    | _ => False)
  | _ => False
def rModD : R2D := fun x y M Q => match x with
  | .int i => (match y with
    | .int j => 0 < j ∧ Q (.int (i % j)) M
    | _ => False)
  | _ => False
def rDivD : R2D := fun x y M Q => match x with
  | .int i => (match y with
    | .int j => (0 < j ∧ j.natAbs.log2 < 9000) ∧ Q (.int (i / j)) M
    | _ => False)
  | _ => False
def rPowD : R2D := fun x y M Q => match x with
  | .int i => (match y with
    | .int j => (0 ≤ j ∧ (Builtin.Int.intBits i : Int) * j ≤ 2 ^ 27) ∧ Q (.int (i ^ j.toNat)) M
    | _ => False)
  | _ => False
theorem de_sub (ha : DE X W a ta) (hb : DE X W b tb) : DE X W (.BinOp a .Sub b pos) (tOpD rSubD ta tb) := de_op op_sub (lift_I0 fun i j F => rp_int.mpr rfl) ha hb
theorem de_mod (ha : DE X W a ta) (hb : DE X W b tb) : DE X W (.BinOp a .Mod b pos) (tOpD rModD ta tb) := de_op op_mod (lift_I fun i j F => rp_int.mpr rfl) ha hb
theorem de_div (ha : DE X W a ta) (hb : DE X W b tb) : DE X W (.BinOp a .FloorDiv b pos) (tOpD rDivD ta tb) := de_op op_fdivW (lift_I fun i j F => rp_int.mpr rfl) ha hb
theorem op_powB : OpR X (binaryOp .Pow) (rI (fun i j => 0 ≤ j ∧ (Builtin.Int.intBits i : Int) * j ≤ 2 ^ 27) fun i j => .int (i ^ j.toNat)) := opI fun _ _ _ _ _ _ _ hc q => pow_int hc.1 hc.2 q
theorem de_pow (ha : DE X W a ta) (hb : DE X W b tb) : DE X W (.BinOp a .Pow b pos) (tOpD rPowD ta tb) := de_op op_powB (lift_I fun i j F => rp_int.mpr rfl) ha hb
/-- a + b: ints, texts, tuples, lists -/
def rAddD : R2D := fun x y M Q => match x with
  | .int i => (match y with
    | .int j => Q (.int (i + j)) M
    | _ => False)
  | .str i => (match y with
    | .str j => i.length + j.length ≤ sizeLine ∧ Q (.str (i ++ j)) M
    | _ => False)
  | .tup xs => (match y with
    | .tup ys => xs.length + ys.length ≤ sizeLine ∧ Q (.tup (xs ++ ys)) M
    | _ => False)
  | x => (match viewL M x with
    | some xs => (match viewL M y with
      | some ys => xs.length + ys.length ≤ sizeLine ∧ Q (.lst (xs ++ ys)) M
      | none => False)
    | none => False)
theorem op_addA : OpR X (binaryOp .Add) (fun x y H Q => rI0 (fun i j => .int (i + j)) x y H Q ∨ ((∃ i j, x = .str i ∧ y = .str j ∧ i.length + j.length ≤ sizeLine ∧ Q (.str (i ++ j)) H) ∨ (rCatA X.K x y H Q ∨ rCat x y H Q))) :=
  op_add.or (op_add_str.or (op_catA.or op_cat))
theorem lift_addL {K : PySem.W.Frag} {Z F : Hp} {M : HD} {H : Hp} {x y : V} {dx dy : D} {xs ys : List D} {Q : VKD} {Qv : VK} (S : Sim Z K F M H) (rx : Rp K F dx x) (ry : Rp K F dy y) (ex : viewL M dx = some xs) (ey : viewL M dy = some ys)
    (h : xs.length + ys.length ≤ sizeLine ∧ Q (.lst (xs ++ ys)) M) (P : PostE Z K F Q Qv) : rCat x y H Qv := by
  obtain ⟨a, vs, rfl, h1, h2, h3⟩ := viewL_ok S rx ex
  obtain ⟨b, ws, rfl, g1, g2, g3⟩ := viewL_ok S ry ey
  have hz : vs.length + ws.length ≤ sizeLine := by rw [← h3.len, ← g3.len]; exact h.1
  exact ⟨a, b, vs, ws, rfl, rfl, h1, g1, hz, fun p hp => fin_lst S (h3.append g3) (by rw [List.length_append]; exact hz) h.2 P hp⟩
theorem lift_add {K : PySem.W.Frag} : LiftR2 K (fun x y H Q => rI0 (fun i j => .int (i + j)) x y H Q ∨ ((∃ i j, x = .str i ∧ y = .str j ∧ i.length + j.length ≤ sizeLine ∧ Q (.str (i ++ j)) H) ∨ (rCatA K x y H Q ∨ rCat x y H Q))) rAddD := by
  intro Z F M H x y dx dy Q Qv S rx ry h P
  have lists : ∀ {xs ys}, viewL M dx = some xs → viewL M dy = some ys → (xs.length + ys.length ≤ sizeLine ∧ Q (.lst (xs ++ ys)) M) → rCat x y H Qv := fun ex ey q => lift_addL S rx ry ex ey q P
  cases dx with
  | int i =>
    cases dy with
    | int j => exact .inl ⟨i, j, rp_int.mp rx, rp_int.mp ry, P _ H F M _ (Same.refl F) S (rp_int.mpr rfl) h⟩
    | _ => exact h.elim
  | str i =>
    cases dy with
    | str j => exact .inr (.inl ⟨i, j, rp_str.mp rx, rp_str.mp ry, h.1, P _ H F M _ (Same.refl F) S (rp_str.mpr rfl) h.2⟩)
    | _ => exact h.elim
  | tup xs =>
    cases dy with
    | tup ys =>
      obtain ⟨a, vs, rfl, h1, h2, h3⟩ := rp_tup.mp rx
      obtain ⟨b, ws, rfl, g1, g2, g3⟩ := rp_tup.mp ry
      obtain ⟨hz, q⟩ := h
      have hz' : vs.length + ws.length ≤ sizeLine := by rw [← h3.len, ← g3.len]; exact hz
      refine .inr (.inr (.inl ⟨a, b, vs, ws, rfl, rfl, sqT_mono S.sub h1, sqT_mono S.sub g1, hz', fun e => ?_, fun e1 e2 => ?_, fun _ _ p hp => ?_⟩))
      · subst e
        have : xs = [] := List.eq_nil_of_length_eq_zero h3.len
        subst this
        exact P _ H F M _ (Same.refl F) S (rp_tup.mpr ⟨b, ws, rfl, g1, g2, g3⟩) q
      · subst e2
        have : ys = [] := List.eq_nil_of_length_eq_zero g3.len
        subst this
        rw [List.append_nil] at q
        exact P _ H F M _ (Same.refl F) S (rp_tup.mpr ⟨a, vs, rfl, h1, h2, h3⟩) q
      · exact fin_tup S (h3.append g3) (by rw [List.length_append]; exact hz') q P hp
    | _ => exact h.elim
  | lst xs =>
    dsimp only [rAddD] at h
    split at h
    · rename_i xs' ex
      split at h
      · rename_i ys' ey
        exact .inr (.inr (.inr (lists ex ey h)))
      · exact h.elim
    · exact h.elim
  | ref l =>
    dsimp only [rAddD] at h
    split at h
    · rename_i xs' ex
      split at h
      · rename_i ys' ey
        exact .inr (.inr (.inr (lists ex ey h)))
      · exact h.elim
    · exact h.elim
  | _ => exact h.elim
theorem de_add (ha : DE X W a ta) (hb : DE X W b tb) : DE X W (.BinOp a .Add b pos) (tOpD rAddD ta tb) := de_op op_addA lift_add ha hb
/-- a * b: ints; a list that is laid anew as often as b says -/
def rMulD : R2D := fun x y M Q => match y with
  | .int j => (match x with
    | .int i => i.natAbs.log2 + j.natAbs.log2 < 1000000 ∧ Q (.int (i * j)) M
    | x => (match viewL M x with
      | some xs => (-(2 ^ 63) ≤ j ∧ j < 2 ^ 63 ∧ xs.length * j.toNat ≤ sizeLine) ∧ Q (.lst (List.replicate j.toNat xs).flatten) M
      | none => False))
  | _ => False
theorem rep_len {α : Type} (xs : List α) : ∀ n : Nat, (List.replicate n xs).flatten.length = xs.length * n
  | 0 => by simp
  | n + 1 => by
    rw [List.replicate_succ, List.flatten_cons, List.length_append, rep_len xs n, Nat.mul_succ]
    omega
theorem rps_rep {K : PySem.W.Frag} {F : Hp} {ds : List D} {vs : List V} (h : Rps K F ds vs) : ∀ n : Nat, Rps K F (List.replicate n ds).flatten (List.replicate n vs).flatten
  | 0 => Rps.nil
  | n + 1 => by
    rw [List.replicate_succ, List.flatten_cons, List.replicate_succ, List.flatten_cons]
    exact h.append (rps_rep h n)
theorem lift_mulL {K : PySem.W.Frag} {Z F : Hp} {M : HD} {H : Hp} {x y : V} {dx : D} {j : Int} {xs : List D} {Q : VKD} {Qv : VK} (S : Sim Z K F M H) (rx : Rp K F dx x) (ry : Rp K F (.int j) y) (ex : viewL M dx = some xs)
    (h : (-(2 ^ 63) ≤ j ∧ j < 2 ^ 63 ∧ xs.length * j.toNat ≤ sizeLine) ∧ Q (.lst (List.replicate j.toNat xs).flatten) M) (P : PostE Z K F Q Qv) : rRep x y H Qv := by
  obtain ⟨a, vs, rfl, h1, h2, h3⟩ := viewL_ok S rx ex
  obtain ⟨⟨g1, g2, g3⟩, q⟩ := h
  rw [h3.len] at g3
  exact ⟨a, j, vs, rfl, rp_int.mp ry, h1, g1, g2, g3, fun p hp => fin_lst S (rps_rep h3 _) (by rw [rep_len]; exact g3) q P hp⟩
theorem lift_mul {K : PySem.W.Frag} : LiftR2 K (fun x y H Q => rI CMulW (fun i j => .int (i * j)) x y H Q ∨ rRep x y H Q) rMulD := by
  intro Z F M H x y dx dy Q Qv S rx ry h P
  cases dy with
  | int j =>
    cases dx with
    | int i => exact .inl ⟨i, j, rp_int.mp rx, rp_int.mp ry, h.1, P _ H F M _ (Same.refl F) S (rp_int.mpr rfl) h.2⟩
    | lst xs =>
      dsimp only [rMulD] at h
      split at h
      · rename_i xs' ex
        exact .inr (lift_mulL S rx ry ex h P)
      · exact h.elim
    | ref l =>
      dsimp only [rMulD] at h
      split at h
      · rename_i xs' ex
        exact .inr (lift_mulL S rx ry ex h P)
      · exact h.elim
    | _ => exact h.elim
  | _ => exact h.elim
theorem de_mul (ha : DE X W a ta) (hb : DE X W b tb) : DE X W (.BinOp a .Mult b pos) (tOpD rMulD ta tb) := de_op (op_mulW.or op_rep) lift_mul ha hb
end
end DL

/-! ### DL6 -/
set_option Elab.async false
set_option linter.all false
set_option maxRecDepth 100000
set_option maxHeartbeats 4000000
namespace DL
open PySem L2 PyProof.Rows

/-! ## trees as the library's data -/
mutual
def pyd : D → Option PyData
  | .non => some .none
  | .bl b => some (.bool b)
  | .int i => some (.int i)
  | .str s => some (.str s)
  | .tup xs => (pyds xs).map .tuple
  | .lst xs => (pyds xs).map .list
  | .scr xs => (pyds xs).map .list
  | .dct _ _ => none
  | .ins _ _ _ => none
  | .ref _ => none
  | .ty _ => none
def pyds : List D → Option (List PyData)
  | [] => some []
  | d :: ds => match pyd d, pyds ds with
    | some p, some ps => some (p :: ps)
    | _, _ => none
end
section
variable {Z : Hp} {K : PySem.W.Frag} {F : Hp} {M : HD} {H : Hp}
mutual
theorem dp_of (S : Same F H) : ∀ (d : D) (p : PyData) (v : V), pyd d = some p → Rp K F d v → Dp K H v p
  | .non, p, v, e, r => by simp only [pyd] at e; cases e; rw [rp_non.mp r]; exact .non
  | .bl b, p, v, e, r => by simp only [pyd] at e; cases e; rw [rp_bl.mp r]; exact .bl b
  | .int i, p, v, e, r => by simp only [pyd] at e; cases e; rw [rp_int.mp r]; exact .int i
  | .str s, p, v, e, r => by simp only [pyd] at e; cases e; rw [rp_str.mp r]; exact .str s
  | .tup xs, p, v, e, r => by
    simp only [pyd] at e
    obtain ⟨ps, e1, rfl⟩ := Option.map_eq_some_iff.mp e
    obtain ⟨a, vs, rfl, h1, _, h2⟩ := rp_tup.mp r
    exact .tup (sqT_mono S h1) (dps_of S xs ps vs e1 h2)
  | .lst xs, p, v, e, r => by
    simp only [pyd] at e
    obtain ⟨ps, e1, rfl⟩ := Option.map_eq_some_iff.mp e
    obtain ⟨a, vs, rfl, h1, _, h2⟩ := rp_lst.mp r
    exact .lst (SqL.of (S _ _ h1)) (dps_of S xs ps vs e1 h2)
  | .scr xs, p, v, e, r => by
    simp only [pyd] at e
    obtain ⟨ps, e1, rfl⟩ := Option.map_eq_some_iff.mp e
    obtain ⟨a, vs, rfl, h1, _, h2⟩ := rp_scr.mp r
    exact .lst (sqL_mono S h1) (dps_of S xs ps vs e1 h2)
  | .dct _ _, p, v, e, r => by simp only [pyd] at e; cases e
  | .ins _ _ _, p, v, e, r => by simp only [pyd] at e; cases e
  | .ref _, p, v, e, r => by simp only [pyd] at e; cases e
  | .ty _, p, v, e, r => by simp only [pyd] at e; cases e
theorem dps_of (S : Same F H) : ∀ (ds : List D) (ps : List PyData) (vs : List V), pyds ds = some ps → Rps K F ds vs → DpAll K H vs ps
  | [], ps, vs, e, r => by simp only [pyds] at e; cases e; rw [r.nil_inv]; exact .nil
  | d :: ds, ps, vs, e, r => by
    simp only [pyds] at e
    obtain ⟨v, vr, rfl, r1, r2⟩ := r.cons_inv
    split at e
    · rename_i p ps' e1 e2
      cases e
      exact .cons (dp_of S d p v e1 r1) (dps_of S ds ps' vr e2 r2)
    · cases e
end
end
/-! ## comparisons -/
def eqDeep (x y : D) (M : HD) (Q : VKD) : Prop := match pyd x, pyd y with
  | some p, some q => SeqAt.shaped p = true ∧ SeqAt.shaped q = true ∧ Q (.bl (PyData.eqv p q)) M
  | _, _ => False
def rEqD : R2D := fun x y M Q => match x with
  | .int i => (match y with
    | .int j => Q (.bl (i == j)) M
    | y => eqDeep (.int i) y M Q)
  | .str i => (match y with
    | .str j => Q (.bl (i == j)) M
    | y => eqDeep (.str i) y M Q)
  | x => eqDeep x y M Q
def rNeD : R2D := fun x y M Q => rEqD x y M (fun d M' => match d with
  | .bl b => Q (.bl (!b)) M'
  | _ => False)
theorem lift_eqDeep {K : PySem.W.Frag} {Z F : Hp} {M : HD} {H : Hp} {x y : V} {dx dy : D} {Q : VKD} {Qv : VK} (S : Sim Z K F M H) (rx : Rp K F dx x) (ry : Rp K F dy y) (h : eqDeep dx dy M Q) (P : PostE Z K F Q Qv) : L2.rEqD K x y H Qv := by
  unfold eqDeep at h
  split at h
  · rename_i p q e1 e2
    exact ⟨p, q, dp_of S.sub dx p x e1 rx, dp_of S.sub dy q y e2 ry, h.1, h.2.1, P _ H F M _ (Same.refl F) S (rp_bl.mpr rfl) h.2.2⟩
  · exact h.elim
theorem lift_eq {K : PySem.W.Frag} : LiftR2 K (fun x y H Q => rEq x y H Q ∨ L2.rEqD K x y H Q) rEqD := by
  intro Z F M H x y dx dy Q Qv S rx ry h P
  have deep : eqDeep dx dy M Q → (rEq x y H Qv ∨ L2.rEqD K x y H Qv) := fun q => .inr (lift_eqDeep S rx ry q P)
  cases dx with
  | int i =>
    cases dy with
    | int j =>
      have e1 := rp_int.mp rx
      have e2 := rp_int.mp ry
      subst e1 e2
      exact .inl ⟨rfl, by rw [dec_int]; exact P _ H F M _ (Same.refl F) S (rp_bl.mpr rfl) h⟩
    | _ => exact deep h
  | str i =>
    cases dy with
    | str j =>
      have e1 := rp_str.mp rx
      have e2 := rp_str.mp ry
      subst e1 e2
      exact .inl ⟨rfl, by rw [dec_str]; exact P _ H F M _ (Same.refl F) S (rp_bl.mpr rfl) h⟩
    | _ => exact deep h
  | _ => exact deep h
theorem lift_neDeep {K : PySem.W.Frag} {Z F : Hp} {M : HD} {H : Hp} {x y : V} {dx dy : D} {Q : VKD} {Qv : VK} (S : Sim Z K F M H) (rx : Rp K F dx x) (ry : Rp K F dy y) (h : eqDeep dx dy M (fun d M' => match d with
  | .bl b => Q (.bl (!b)) M'
  | _ => False)) (P : PostE Z K F Q Qv) : L2.rNeD K x y H Qv := by
  unfold eqDeep at h
  split at h
  · rename_i p q e1 e2
    exact ⟨p, q, dp_of S.sub dx p x e1 rx, dp_of S.sub dy q y e2 ry, h.1, h.2.1, P _ H F M _ (Same.refl F) S (rp_bl.mpr rfl) h.2.2⟩
  · exact h.elim
theorem lift_ne {K : PySem.W.Frag} : LiftR2 K (fun x y H Q => rNe x y H Q ∨ L2.rNeD K x y H Q) rNeD := by
  intro Z F M H x y dx dy Q Qv S rx ry h P
  cases dx with
  | int i =>
    cases dy with
    | int j =>
      have e1 := rp_int.mp rx
      have e2 := rp_int.mp ry
      subst e1 e2
      exact .inl ⟨rfl, by rw [dec_int]; exact P _ H F M _ (Same.refl F) S (rp_bl.mpr rfl) h⟩
    | _ => exact .inr (lift_neDeep S rx ry h P)
  | str i =>
    cases dy with
    | str j =>
      have e1 := rp_str.mp rx
      have e2 := rp_str.mp ry
      subst e1 e2
      exact .inl ⟨rfl, by rw [dec_str]; exact P _ H F M _ (Same.refl F) S (rp_bl.mpr rfl) h⟩
    | _ => exact .inr (lift_neDeep S rx ry h P)
  | _ => exact .inr (lift_neDeep S rx ry h P)
/-- x < y: ints, texts, tuples and lists place by place -/
def ltDeep (x y : D) (M : HD) (Q : VKD) : Prop := match pyd x, pyd y with
  | some p, some q => PySem.W.alike p q = true ∧ p ≠ .none ∧ p.depth ≤ 100 ∧ Q (.bl (PySem.W.dataLt p q)) M
  | _, _ => False
def rLtD : R2D := fun x y M Q => match x with
  | .int i => (match y with
    | .int j => Q (.bl (decide (i < j))) M
    | _ => False)
  | x => ltDeep x y M Q
def rLtA (K : PySem.W.Frag) : R2 := fun x y H Q => ∃ d e, Dp K H x d ∧ Dp K H y e ∧ PySem.W.alike d e = true ∧ d ≠ .none ∧ d.depth ≤ 100 ∧ Q (.bl (PySem.W.dataLt d e)) H
theorem op_ltA {X : Cx} (hu : X.A.units + 100 < cLine) : OpR X (compareOp .Lt) (rLtA X.K) := by
  intro pins s σ H x y v u Q I rx ry h
  obtain ⟨d, e, hd, he, ha, hn, hz, q⟩ := h
  obtain ⟨as, r1⟩ := Dp.reads I d x v hd rx
  obtain ⟨bs, r2⟩ := Dp.reads I e y u he ry
  exact PySem.W.rcLt_alike d e X.A s v u as bs r1 r2 ha hn (by have := Nat.min_le_left d.depth e.depth; omega) X.prog X.w _ _ ⟨.bl _, H, I, rfl, q⟩
theorem lift_lt {K : PySem.W.Frag} : LiftR2 K (fun x y H Q => rI0 (fun i j => .bl (decide (i < j))) x y H Q ∨ rLtA K x y H Q) rLtD := by
  intro Z F M H x y dx dy Q Qv S rx ry h P
  have deep : ltDeep dx dy M Q → rLtA K x y H Qv := fun h => by
    unfold ltDeep at h
    split at h
    · rename_i p q e1 e2
      exact ⟨p, q, dp_of S.sub dx p x e1 rx, dp_of S.sub dy q y e2 ry, h.1, h.2.1, h.2.2.1, P _ H F M _ (Same.refl F) S (rp_bl.mpr rfl) h.2.2.2⟩
    · exact h.elim
  cases dx with
  | int i =>
    cases dy with
    | int j => exact .inl ⟨i, j, rp_int.mp rx, rp_int.mp ry, P _ H F M _ (Same.refl F) S (rp_bl.mpr rfl) h⟩
    | _ => exact h.elim
  | _ => exact .inr (deep h)
def rCmpI (p : Int → Int → Bool) : R2D := fun x y M Q => match x with
  | .int i => (match y with
    | .int j => Q (.bl (p i j)) M
    | _ => False)
  | _ => False
theorem lift_cmpI {K : PySem.W.Frag} {p : Int → Int → Bool} : LiftR2 K (rI0 fun i j => .bl (p i j)) (rCmpI p) := lift_I0 (gd := fun i j => .bl (p i j)) fun i j F => rp_bl.mpr rfl
abbrev rLeD : R2D := rCmpI fun i j => decide (i ≤ j)
abbrev rGtD : R2D := rCmpI fun i j => decide (j < i)
abbrev rGeD : R2D := rCmpI fun i j => decide (j ≤ i)
def isNonD : D → Bool
  | .non => true
  | _ => false
theorem isNonD_ok {K : PySem.W.Frag} {F : Hp} {d : D} {v : V} (r : Rp K F d v) : decide (v = .non) = isNonD d := by
  cases d with
  | non => rw [rp_non.mp r] <;> rfl
  | bl b => rw [rp_bl.mp r] <;> rfl
  | int i => rw [rp_int.mp r] <;> rfl
  | str s => rw [rp_str.mp r] <;> rfl
  | ref a => rw [rp_ref.mp r] <;> rfl
  | ty n => rw [rp_ty.mp r] <;> rfl
  | tup xs => obtain ⟨a, _, e, _⟩ := rp_tup.mp r; rw [e] <;> rfl
  | lst xs => obtain ⟨a, _, e, _⟩ := rp_lst.mp r; rw [e] <;> rfl
  | scr xs => obtain ⟨a, _, e, _⟩ := rp_scr.mp r; rw [e] <;> rfl
  | dct ks xs => obtain ⟨a, _, e, _⟩ := rp_dct.mp r; rw [e] <;> rfl
  | ins C ns xs => obtain ⟨a, _, _, e, _⟩ := rp_ins.mp r; rw [e] <;> rfl
def rIsND : R2D := fun x y M Q => match y with
  | .non => Q (.bl (isNonD x)) M
  | _ => False
def rNotND : R2D := fun x y M Q => match y with
  | .non => Q (.bl (!isNonD x)) M
  | _ => False
theorem lift_isN {K : PySem.W.Frag} : LiftR2 K (fun x y H Q => y = .non ∧ Q (.bl (decide (x = .non))) H) rIsND := by
  intro Z F M H x y dx dy Q Qv S rx ry h P
  cases dy with
  | non => exact ⟨rp_non.mp ry, by rw [isNonD_ok rx]; exact P _ H F M _ (Same.refl F) S (rp_bl.mpr rfl) h⟩
  | _ => exact h.elim
theorem lift_notN {K : PySem.W.Frag} : LiftR2 K (fun x y H Q => y = .non ∧ Q (.bl (!decide (x = .non))) H) rNotND := by
  intro Z F M H x y dx dy Q Qv S rx ry h P
  cases dy with
  | non => exact ⟨rp_non.mp ry, by rw [isNonD_ok rx]; exact P _ H F M _ (Same.refl F) S (rp_bl.mpr rfl) h⟩
  | _ => exact h.elim
/-- a text in a text (as the model reckons it); a value among flat ones -/
def flatD : D → Bool
  | .non | .bl _ | .int _ | .str _ => true
  | _ => false
def eqFlat (x y : D) : Bool := match pyd x, pyd y with
  | some p, some q => PyData.eqv p q
  | _, _ => false
def rInSD : R2D := fun x y M Q => match x with
  | .str i => (match y with
    | .str j => Q (.bl (!(Builtin.Str.occurrences j i 0 j.length 1).isEmpty)) M
    | _ => False)
  | _ => False
theorem lift_inS {K : PySem.W.Frag} : LiftR2 K (fun x y H Q => ∃ i j, x = .str i ∧ y = .str j ∧ Q (.bl (!(Builtin.Str.occurrences j i 0 j.length 1).isEmpty)) H) rInSD := by
  intro Z F M H x y dx dy Q Qv S rx ry h P
  cases dx with
  | str i =>
    cases dy with
    | str j => exact ⟨i, j, rp_str.mp rx, rp_str.mp ry, P _ H F M _ (Same.refl F) S (rp_bl.mpr rfl) h⟩
    | _ => exact h.elim
  | _ => exact h.elim
/-- one sign in a text -/
def rInCD : R2D := fun x y M Q => match x with
  | .str i => (match y with
    | .str z => ∃ c : Nat, i = ⟨#[c]⟩ ∧ Q (.bl (decide (c ∈ z.cps.toList))) M
    | _ => False)
  | _ => False
theorem lift_inC {K : PySem.W.Frag} : LiftR2 K (fun x y H Q => ∃ (c : Nat) (z : Str), x = .str ⟨#[c]⟩ ∧ y = .str z ∧ Q (.bl (decide (c ∈ z.cps.toList))) H) rInCD := by
  intro Z F M H x y dx dy Q Qv S rx ry h P
  cases dx with
  | str i =>
    cases dy with
    | str z =>
      obtain ⟨c, rfl, h⟩ := h
      exact ⟨c, z, rp_str.mp rx, rp_str.mp ry, P _ H F M _ (Same.refl F) S (rp_bl.mpr rfl) h⟩
    | _ => exact h.elim
  | _ => exact h.elim
section
variable {X : Cx} {W : WX} {a b c : Expr} {ta tb tc : TD} {pos : Pos}
theorem de_eq (hu : X.A.units + 64 < cLine) (ha : DE X W a ta) (hb : DE X W b tb) : DE X W (.Compare a [.Eq] [b] pos) (tOpD rEqD ta tb) := de_cmp (op_eq.or (op_eqD hu)) lift_eq ha hb (nomark _)
theorem de_ne (hu : X.A.units + 64 < cLine) (ha : DE X W a ta) (hb : DE X W b tb) : DE X W (.Compare a [.NotEq] [b] pos) (tOpD rNeD ta tb) := de_cmp (op_ne.or (op_neD hu)) lift_ne ha hb (nomark _)
theorem de_lt (hu : X.A.units + 100 < cLine) (ha : DE X W a ta) (hb : DE X W b tb) : DE X W (.Compare a [.Lt] [b] pos) (tOpD rLtD ta tb) := de_cmp (op_lt.or (op_ltA hu)) lift_lt ha hb (nomark _)
theorem de_le (ha : DE X W a ta) (hb : DE X W b tb) : DE X W (.Compare a [.LtE] [b] pos) (tOpD rLeD ta tb) := de_cmp op_le lift_cmpI ha hb (nomark _)
theorem de_gt (ha : DE X W a ta) (hb : DE X W b tb) : DE X W (.Compare a [.Gt] [b] pos) (tOpD rGtD ta tb) := de_cmp op_gt lift_cmpI ha hb (nomark _)
theorem de_ge (ha : DE X W a ta) (hb : DE X W b tb) : DE X W (.Compare a [.GtE] [b] pos) (tOpD rGeD ta tb) := de_cmp op_ge lift_cmpI ha hb (nomark _)
theorem de_isN (ha : DE X W a ta) (hb : DE X W b tb) : DE X W (.Compare a [.Is] [b] pos) (tOpD rIsND ta tb) := de_cmp op_isN lift_isN ha hb (nomark _)
theorem de_notN (ha : DE X W a ta) (hb : DE X W b tb) : DE X W (.Compare a [.IsNot] [b] pos) (tOpD rNotND ta tb) := de_cmp op_notN lift_notN ha hb (nomark _)
theorem de_inC (ha : DE X W a ta) (hb : DE X W b tb) (hm : behindInMarks .In b = false := by rfl) : DE X W (.Compare a [.In] [b] pos) (tOpD rInCD ta tb) := de_cmp op_in_sign lift_inC ha hb hm
theorem dt_eq (hu : X.A.units + 64 < cLine) (ha : DE X W a ta) (hb : DE X W b tb) : DT X W (.Compare a [.Eq] [b] pos) (tTestD (tOpD rEqD ta tb)) := dt_cmp (op_eq.or (op_eqD hu)) lift_eq ha hb (nomark _)
theorem dt_ne (hu : X.A.units + 64 < cLine) (ha : DE X W a ta) (hb : DE X W b tb) : DT X W (.Compare a [.NotEq] [b] pos) (tTestD (tOpD rNeD ta tb)) := dt_cmp (op_ne.or (op_neD hu)) lift_ne ha hb (nomark _)
theorem dt_lt (hu : X.A.units + 100 < cLine) (ha : DE X W a ta) (hb : DE X W b tb) : DT X W (.Compare a [.Lt] [b] pos) (tTestD (tOpD rLtD ta tb)) := dt_cmp (op_lt.or (op_ltA hu)) lift_lt ha hb (nomark _)
theorem dt_le (ha : DE X W a ta) (hb : DE X W b tb) : DT X W (.Compare a [.LtE] [b] pos) (tTestD (tOpD rLeD ta tb)) := dt_cmp op_le lift_cmpI ha hb (nomark _)
theorem dt_gt (ha : DE X W a ta) (hb : DE X W b tb) : DT X W (.Compare a [.Gt] [b] pos) (tTestD (tOpD rGtD ta tb)) := dt_cmp op_gt lift_cmpI ha hb (nomark _)
theorem dt_ge (ha : DE X W a ta) (hb : DE X W b tb) : DT X W (.Compare a [.GtE] [b] pos) (tTestD (tOpD rGeD ta tb)) := dt_cmp op_ge lift_cmpI ha hb (nomark _)
theorem dt_isN (ha : DE X W a ta) (hb : DE X W b tb) : DT X W (.Compare a [.Is] [b] pos) (tTestD (tOpD rIsND ta tb)) := dt_cmp op_isN lift_isN ha hb (nomark _)
theorem dt_notN (ha : DE X W a ta) (hb : DE X W b tb) : DT X W (.Compare a [.IsNot] [b] pos) (tTestD (tOpD rNotND ta tb)) := dt_cmp op_notN lift_notN ha hb (nomark _)
/-- a <= b <= c on ints, and its kin -/
theorem de_chainI {op op' : CmpOp} {p p' : Int → Int → Bool} (ho : OpR X (compareOp op) (rI0 fun i j => .bl (p i j))) (ho' : OpR X (compareOp op') (rI0 fun i j => .bl (p' i j))) (ha : DE X W a ta) (hb : DE X W b tb) (hc : DE X W c tc)
    (hm : lastMarks [op, op'] [b, c] = false := by with_unfolding_all rfl) : DE X W (.Compare a [op, op'] [b, c] pos) (tChainD (rCmpI p) (rCmpI p') ta tb tc) := de_chain ho ho' lift_cmpI lift_cmpI ha hb hc hm
theorem dt_chainI {op op' : CmpOp} {p p' : Int → Int → Bool} (ho : OpR X (compareOp op) (rI0 fun i j => .bl (p i j))) (ho' : OpR X (compareOp op') (rI0 fun i j => .bl (p' i j))) (ha : DE X W a ta) (hb : DE X W b tb) (hc : DE X W c tc)
    (hm : lastMarks [op, op'] [b, c] = false := by with_unfolding_all rfl) : DT X W (.Compare a [op, op'] [b, c] pos) (tTestD (tChainD (rCmpI p) (rCmpI p') ta tb tc)) := dt_chain ho ho' lift_cmpI lift_cmpI ha hb hc hm
end

/-! ## subscripts -/
/-- xs[i] of a tuple or a list -/
def rIxD : R2D := fun x y M Q => match y with
  | .int i => (match viewS M x with
    | some xs => (match atI xs i with
      | some d => Q d M
      | none => False)
    | none => False)
  | _ => False
theorem atI_rps {K : PySem.W.Frag} {F : Hp} {ds : List D} {vs : List V} {i : Int} {d : D} (h : Rps K F ds vs) (e : atI ds i = some d) : ∃ v, atI vs i = some v ∧ Rp K F d v := by
  unfold atI at e ⊢
  rw [← h.len]
  cases q : ixN ds.length i with
  | none => rw [q] at e; cases e
  | some j =>
    rw [q] at e
    exact h.get e
theorem lift_ix {K : PySem.W.Frag} : LiftR2 K (fun x y H Q => rIxL K x y H Q ∨ rIxT K x y H Q) rIxD := by
  intro Z F M H x y dx dy Q Qv S rx ry h P
  unfold rIxD at h
  cases dy with
  | int i =>
    dsimp only at h
    split at h
    · rename_i xs ex
      split at h
      · rename_i d ed
        obtain ⟨a, vs, rfl, sq, _, rv⟩ := viewS_ok S rx ex
        obtain ⟨v, ev, r⟩ := atI_rps rv ed
        have fin := P v H F M d (Same.refl F) S r h
        rcases sq with sq | sq
        · exact .inl ⟨a, vs, i, v, rfl, rp_int.mp ry, sq, ev, fin⟩
        · exact .inr ⟨a, vs, i, v, rfl, rp_int.mp ry, sq, ev, fin⟩
      · exact h.elim
    · exact h.elim
  | _ => exact h.elim
section
variable {X : Cx} {W : WX} {a b c : Expr} {ta tb tc : TD} {pos p2 : Pos}
theorem de_ix (ha : DE X W a ta) (hb : DE X W b tb) (hs : PlainIx b := by exact fun _ _ => rfl) : DE X W (.Subscript a b pos) (tOpD rIxD ta tb) := by
  obtain ⟨va, pa, la⟩ := ha
  obtain ⟨vb, pb, lb⟩ := hb
  exact ⟨_, pe_ix (ix_list.or ix_tup) pa pb hs, lift_op lift_ix la lb⟩
/-- one sign of a text -/
def rIxSD : R2D := fun x y M Q => match x with
  | .str z => (match y with
    | .int i => z.length ≤ sizeLine ∧ (match atI z.cps.toList i with
      | some c => Q (.str ⟨#[c]⟩) M
      | none => False)
    | _ => False)
  | _ => False
theorem lift_ixS {K : PySem.W.Frag} : LiftR2 K rIxS rIxSD := by
  intro Z F M H x y dx dy Q Qv S rx ry h P
  cases dx with
  | str z =>
    cases dy with
    | int i =>
      obtain ⟨hz, h⟩ := h
      split at h
      · rename_i c ec
        exact ⟨z, i, c, rp_str.mp rx, rp_int.mp ry, hz, ec, P _ H F M _ (Same.refl F) S (rp_str.mpr rfl) h⟩
      · exact h.elim
    | _ => exact h.elim
  | _ => exact h.elim
theorem de_ixS (ha : DE X W a ta) (hb : DE X W b tb) (hs : PlainIx b := by exact fun _ _ => rfl) : DE X W (.Subscript a b pos) (tOpD rIxSD ta tb) := by
  obtain ⟨va, pa, la⟩ := ha
  obtain ⟨vb, pb, lb⟩ := hb
  exact ⟨_, pe_ix ix_str pa pb hs, lift_op lift_ixS la lb⟩
/-- l[i] = v -/
def rSetD : TSetD := fun o i v M N => match o with
  | .ref l => (match i with
    | .int k => (match M l with
      | some (.lst xs) => (match ixN xs.length k with
        | some j => N (updM M l (.lst (xs.set j v)))
        | none => False)
      | _ => False)
    | _ => False)
  | _ => False
theorem lift_set {K : PySem.W.Frag} : LiftSet K rSetL rSetD := by
  intro Z F M H o i v od idd vd N Nv S ro ri rv h P
  unfold rSetD at h
  cases od with
  | ref l =>
    cases idd with
    | int k =>
      dsimp only at h
      split at h
      · rename_i xs em
        split at h
        · rename_i j ej
          obtain ⟨_, vs, h1, h2, h3⟩ := S.own l _ em
          refine ⟨l, vs, k, j, rp_ref.mp ro, rp_int.mp ri, h1, by rw [← h3.len]; exact ej, P _ _ (S.put (m' := .lst (xs.set j vd)) em ⟨vs.set j v, upd_same, by rw [List.length_set]; exact h2, Rps.set rv j h3⟩) h⟩
        · exact h.elim
      · exact h.elim
    | _ => exact h.elim
  | _ => exact h.elim

/-! ## slices -/
abbrev TOD := SD → HD → (Option Int → HD → Prop) → XD → Prop
def LiftO (K : PySem.W.Frag) (W : WX) (tv : TO) (t : TOD) : Prop := ∀ Z F M σd σ H Q E Qv, Sim Z K F M H → RelS K F σd σ → t σd M Q E → (∀ o H' F' M', Same F F' → Sim Z K F' M' H' → Q o M' → Qv o H') → PostX Z K W F σ E → tv σ H Qv
structure DO (X : Cx) (W : WX) (e : Option Expr) (t : TOD) : Prop where
  ex : ∃ tv, PO X e tv ∧ LiftO X.K W tv t
def tNoPartD : TOD := fun _ M Q _ => Q none M
def tPartD (te : TD) : TOD := fun σ M Q E => te σ M (fun d M1 => match d with
  | .int i => Q (some i) M1
  | _ => False) E
theorem do_none : DO X W none tNoPartD := ⟨_, po_none, fun Z F M σd σ H Q E Qv S R h P _ => P none H F M (Same.refl F) S h⟩
theorem do_some (ha : DE X W a ta) : DO X W (some a) (tPartD ta) := by
  obtain ⟨va, pa, la⟩ := ha
  refine ⟨_, po_some pa, fun Z F M σd σ H Q E Qv S R h P PX => ?_⟩
  refine la Z F M σd σ H _ E _ S R h (fun x H1 F1 M1 d e1 S1 r1 q1 => ?_) PX
  cases d with
  | int i => exact ⟨i, rp_int.mp r1, P _ H1 F1 M1 e1 S1 q1⟩
  | _ => exact q1.elim
def cutD (xs : List D) (lo hi : Option Int) : List D := (xs.drop (HT.sIx xs.length 0 lo)).take (HT.sIx xs.length xs.length hi - HT.sIx xs.length 0 lo)
theorem rps_cut {K : PySem.W.Frag} {F : Hp} {ds : List D} {vs : List V} (h : Rps K F ds vs) (lo hi : Option Int) : Rps K F (cutD ds lo hi) (cutV vs lo hi) := by
  unfold cutD cutV
  rw [← h.len]
  exact Rps.take _ (Rps.drop _ h)
/-- x[lo:hi]: a tuple's is a tuple, a list's a new list that does not change, a text's a text -/
def slD (x : D) (lo hi : Option Int) (M : HD) (Q : VKD) : Prop := match x with
  | .tup xs => Q (.tup (cutD xs lo hi)) M
  | .str z => z.length ≤ sizeLine ∧ Q (.str (cutS z lo hi)) M
  | x => (match viewS M x with
    | some xs => Q (.lst (cutD xs lo hi)) M
    | none => False)
def tSlD (te : TD) (tl th : TOD) : TD := fun σ M Q E => te σ M (fun x M1 => tl σ M1 (fun lo M2 => th σ M2 (fun hi M3 => slD x lo hi M3 Q) E) E) E
theorem cut_whole {xs : List D} {lo hi : Option Int} (h : HT.sIx xs.length 0 lo = 0 ∧ HT.sIx xs.length xs.length hi = xs.length) : cutD xs lo hi = xs := by
  unfold cutD
  rw [h.1, h.2]
  simp
theorem lift_sl {K : PySem.W.Frag} {Z F : Hp} {M : HD} {H : Hp} {x : V} {dx : D} {lo hi : Option Int} {Q : VKD} {Qv : VK} (S : Sim Z K F M H) (rx : Rp K F dx x) (h : slD dx lo hi M Q) (P : PostE Z K F Q Qv) :
    rSlA K x lo hi H Qv ∨ (rSlL K x lo hi H Qv ∨ rSlS x lo hi H Qv) := by
  have lists : ∀ {xs : List D} {a : Addr} {vs : List V}, x = .ref a → SqL K H a vs → vs.length ≤ sizeLine → Rps K F xs vs → Q (.lst (cutD xs lo hi)) M → rSlL K x lo hi H Qv := fun {xs a vs} e1 e2 e3 e4 q =>
    ⟨a, vs, e1, e2, fun p hp => fin_lst S (rps_cut e4 lo hi) (Nat.le_trans (cutV_length _ _ _) e3) q P hp⟩
  cases dx with
  | tup xs =>
    obtain ⟨a, vs, rfl, h1, h2, h3⟩ := rp_tup.mp rx
    refine .inl ⟨a, vs, rfl, sqT_mono S.sub h1, fun hw => ?_, fun _ p hp => fin_tup S (rps_cut h3 lo hi) (Nat.le_trans (cutV_length _ _ _) h2) h P hp⟩
    rw [← h3.len] at hw
    have h' : Q (.tup (cutD xs lo hi)) M := h
    rw [cut_whole hw] at h'
    exact P _ H F M _ (Same.refl F) S (rp_tup.mpr ⟨a, vs, rfl, h1, h2, h3⟩) h'
  | str z => exact .inr (.inr ⟨z, rp_str.mp rx, h.1, P _ H F M _ (Same.refl F) S (rp_str.mpr rfl) h.2⟩)
  | lst xs =>
    obtain ⟨a, vs, e1, e2, e3, e4⟩ := rp_lst.mp rx
    exact .inr (.inl (lists e1 (SqL.of (S.sub _ _ e2)) e3 e4 h))
  | scr xs =>
    obtain ⟨a, vs, e1, e2, e3, e4⟩ := scr_ok S rx
    exact .inr (.inl (lists e1 e2 e3 e4 h))
  | ref l =>
    dsimp only [slD] at h
    split at h
    · rename_i xs ev
      obtain ⟨a, vs, e1, e2, e3, e4⟩ := viewL_ok S rx (ds := xs) ev
      exact .inr (.inl (lists e1 (SqL.of e2) e3 e4 h))
    · exact h.elim
  | _ => exact h.elim
theorem de_slice {lo hi : Option Expr} {tl th : TOD} (ha : DE X W a ta) (hl : DO X W lo tl) (hh : DO X W hi th) : DE X W (.Subscript a (.Slice lo hi none p2) pos) (tSlD ta tl th) := by
  obtain ⟨va, pa, la⟩ := ha
  obtain ⟨vl, pl, ll⟩ := hl
  obtain ⟨vh, ph, lh⟩ := hh
  refine ⟨_, pe_slice (sl_tupA.or (sl_list.or sl_str)) pa pl ph, fun Z F M σd σ H Q E Qv S R h P PX => ?_⟩
  refine la Z F M σd σ H _ E _ S R h (fun x H1 F1 M1 d e1 S1 r1 q1 => ?_) PX
  refine ll Z F1 M1 σd σ H1 _ E _ S1 (R.mono e1) q1 (fun o H2 F2 M2 e2 S2 q2 => ?_) (PX.mono e1)
  refine lh Z F2 M2 σd σ H2 _ E _ S2 (R.mono (e1.trans e2)) q2 (fun o2 H3 F3 M3 e3 S3 q3 => ?_) (PX.mono (e1.trans e2))
  exact lift_sl S3 (r1.mono (e2.trans e3)) q3 (P.mono ((e1.trans e2).trans e3))

/-! ## attributes -/
def lookD : List Str → List D → Str → Option D
  | n :: ns, d :: ds, f => if f = n then some d else lookD ns ds f
  | _, _, _ => none
theorem lookD_rps {K : PySem.W.Frag} {F : Hp} {f : Str} : ∀ {ns : List Str} {ds : List D} {vs : List V} {d : D}, Rps K F ds vs → lookD ns ds f = some d → ∃ v, (ns.zip vs).lookup f = some v ∧ Rp K F d v
  | [], _, _, _, _, e => by simp [lookD] at e
  | _ :: _, [], _, _, _, e => by simp [lookD] at e
  | n :: ns, d :: ds, vs, d', r, e => by
    obtain ⟨v, vr, rfl, r1, r2⟩ := r.cons_inv
    by_cases h : f = n
    · subst h
      simp only [lookD, if_pos] at e
      cases e
      exact ⟨v, by simp [List.zip_cons_cons, List.lookup_cons], r1⟩
    · simp only [lookD, if_neg h] at e
      obtain ⟨v', e1, e2⟩ := lookD_rps r2 e
      refine ⟨v', ?_, e2⟩
      rw [List.zip_cons_cons, List.lookup_cons]
      have : (f == n) = false := by simpa using h
      rw [this]
      exact e1
theorem lookD_none {f : Str} : ∀ {ns : List Str} {ds : List D} {vs : List V}, ds.length = vs.length → lookD ns ds f = none → (ns.zip vs).lookup f = none
  | [], _, _, _, _ => by simp
  | _ :: _, [], vs, h, _ => by
    have : vs = [] := List.eq_nil_of_length_eq_zero h.symm
    subst this; simp
  | n :: ns, d :: ds, [], h, _ => by simp at h
  | n :: ns, d :: ds, v :: vs, h, e => by
    by_cases q : f = n
    · simp only [lookD, if_pos q] at e; cases e
    · simp only [lookD, if_neg q] at e
      rw [List.zip_cons_cons, List.lookup_cons]
      have : (f == n) = false := by simpa using q
      rw [this]
      exact lookD_none (by simpa using h) e
/-- an instance, whether it may change or not -/
def viewI (M : HD) : D → Option (Addr × List Str × List D)
  | .ins C ns xs => some (C, ns, xs)
  | .ref a => match M a with
    | some (.ins C ns xs) => some (C, ns, xs)
    | _ => none
  | _ => none
theorem viewI_ok {Z : Hp} {K : PySem.W.Frag} {F : Hp} {M : HD} {H : Hp} {d : D} {v : V} {C : Addr} {ns : List Str} {xs : List D} (S : Sim Z K F M H) (r : Rp K F d v) (h : viewI M d = some (C, ns, xs)) :
    ∃ a dx vs, v = .ref a ∧ H a = some (.ins C dx (ns.zip vs)) ∧ ns.length = vs.length ∧ Rps K F xs vs := by
  cases d with
  | ins C' ns' xs' =>
    cases h
    obtain ⟨a, dx, vs, h1, h2, h3, h4⟩ := rp_ins.mp r
    exact ⟨a, dx, vs, h1, S.sub _ _ h2, h3, h4⟩
  | ref a =>
    simp only [viewI] at h
    split at h
    · rename_i C' ns' xs' e
      cases h
      obtain ⟨_, dx, vs, h1, h2, h3⟩ := S.own a _ e
      exact ⟨a, dx, vs, rp_ref.mp r, h1, h2, h3⟩
    · cases h
  | _ => cases h
def FldOk (K : PySem.W.Frag) (C : Addr) (f : Str) : Prop := Cls K C ∧ NoAttr K C f
def tFldD (K : PySem.W.Frag) (f : Str) (te : TD) : TD := fun σ M Q E => te σ M (fun d M1 => match viewI M1 d with
  | some (C, ns, xs) => FldOk K C f ∧ (match lookD ns xs f with
    | some x => Q x M1
    | none => False)
  | none => False) E
theorem de_fld {f : Str} (ha : DE X W a ta) (hb : attributeBase a f X.env (eval a X.env) = eval a X.env := by rfl) : DE X W (.Attribute a f pos) (tFldD X.K f ta) := by
  obtain ⟨va, pa, la⟩ := ha
  refine ⟨_, pe_fld pa hb, fun Z F M σd σ H Q E Qv S R h P PX => ?_⟩
  refine la Z F M σd σ H _ E _ S R h (fun x H1 F1 M1 d e1 S1 r1 q1 => ?_) PX
  split at q1
  · rename_i C ns xs ev
    obtain ⟨hc, q1⟩ := q1
    split at q1
    · rename_i x' el
      obtain ⟨b, dx, vs, rfl, h1, h2, h3⟩ := viewI_ok S1 r1 ev
      obtain ⟨v, e2, r2⟩ := lookD_rps h3 el
      exact ⟨b, C, dx, _, v, rfl, h1, hc.1, hc.2, e2, P v H1 F1 M1 x' e1 S1 r2 q1⟩
    · exact q1.elim
  · exact q1.elim
/-- the same with the written part named (in a comprehension's block) -/
theorem de_fldK {f : Str} {K : PySem.W.Frag} (hK : X.K = K) (ha : DE X W a ta) (hb : attributeBase a f X.env (eval a X.env) = eval a X.env := by rfl) : DE X W (.Attribute a f pos) (tFldD K f ta) := hK ▸ de_fld ha hb
/-- o.f = e, o an instance that may change -/
def putD : List Str → List D → Str → D → List Str × List D
  | n :: ns, d :: ds, f, x => if f = n then (n :: ns, x :: ds) else ((n :: (putD ns ds f x).1), (d :: (putD ns ds f x).2))
  | _, _, f, x => ([f], [x])
theorem putD_rps {K : PySem.W.Frag} {F : Hp} {f : Str} {x : D} {v : V} (hv : Rp K F x v) : ∀ {ns : List Str} {ds : List D} {vs : List V}, ns.length = vs.length → Rps K F ds vs →
    ∃ ws, putF f v (ns.zip vs) = (putD ns ds f x).1.zip ws ∧ (putD ns ds f x).1.length = ws.length ∧ Rps K F (putD ns ds f x).2 ws
  | [], ds, vs, hl, r => by
    have : vs = [] := List.eq_nil_of_length_eq_zero hl.symm
    subst this
    have : ds = [] := List.eq_nil_of_length_eq_zero r.len
    subst this
    exact ⟨[v], by simp [putD, putF], by simp [putD], by simp only [putD]; exact Rps.cons hv Rps.nil⟩
  | n :: ns, ds, [], hl, r => by simp at hl
  | n :: ns, [], v' :: vs, hl, r => by have := r.nil_inv; simp at this
  | n :: ns, d :: ds, v' :: vs, hl, r => by
    obtain ⟨w, wr, e, r1, r2⟩ := r.cons_inv
    obtain ⟨rfl, rfl⟩ : v' = w ∧ vs = wr := by simpa using e
    by_cases h : f = n
    · subst h
      refine ⟨v :: vs, ?_, ?_, ?_⟩
      · simp [putD, putF, List.zip_cons_cons]
      · simp only [putD, if_pos]; simpa using hl
      · simp only [putD, if_pos]; exact Rps.cons hv r2
    · obtain ⟨ws, e1, e2, e3⟩ := putD_rps hv (ns := ns) (by simpa using hl) r2
      refine ⟨v' :: ws, ?_, ?_, ?_⟩
      · have h' : ¬ n = f := fun q => h q.symm
        simp only [putD, if_neg h, List.zip_cons_cons, putF, h, h', if_false]
        rw [← e1]
      · simp only [putD, if_neg h, List.length_cons, e2]
      · simp only [putD, if_neg h]; exact Rps.cons r1 e3
end
end DL

/-! ### DL7 -/
set_option Elab.async false
set_option linter.all false
set_option maxRecDepth 100000
set_option maxHeartbeats 4000000
namespace DL
open PySem L2 PyProof.Rows

/-! ## calls of what is built in -/
abbrev RcD := List D → HD → VKD → Prop
def LiftC (K : PySem.W.Frag) (rv : List V → Hp → VK → Prop) (r : RcD) : Prop := ∀ Z F M H xs ds Q Qv, Sim Z K F M H → Rps K F ds xs → r ds M Q → PostE Z K F Q Qv → rv xs H Qv
def tCBD (r : RcD) (t : TAD) : TD := fun σ M Q E => t σ M (fun ds M1 => r ds M1 Q) E
section
variable {X : Cx} {W : WX} {x : Str} {p pos : Pos} {e : Expr} {es : List Expr} {t : TAD} {id T : String} {rv rv' : List V → Hp → VK → Prop} {r r' : RcD}
theorem lift_cb {K : PySem.W.Frag} {va : TA} (hl : LiftC K rv r) (la : LiftA K W va t) : LiftE K W (tCB rv va) (tCBD r t) := by
  intro Z F M σd σ H Q E Qv S R h P PX
  refine la Z F M σd σ H _ E _ S R h (fun xs H1 F1 M1 ds e1 S1 r1 q1 => ?_) PX
  exact hl Z F1 M1 H1 xs ds Q Qv S1 r1 q1 (P.mono e1)
theorem de_callB (hc : CallR X (.builtin id) rv) (hl : LiftC X.K rv r) (hm : X.mg x = none) (hv : bootBuiltins x = some (.builtin id)) (ha : DA X W (e :: es) t) (hg : Gl X x := by rfl) (hn : x ≠ "__name__" := by decide) (hdb : (x == ("__debug__" : Str)) = false := by decide)
    (he : starEach (e :: es) X.env = (false, eval e X.env) :: starEach es X.env := by rfl) (hpl : (backTo pos (starEach es X.env)).any (·.1) = false := by rfl) : DE X W (.Call (.Name x p) (e :: es) [] pos) (tCBD r t) := by
  obtain ⟨va, pa, la⟩ := ha
  exact ⟨_, pe_callB hc hg hm hv pa hn hdb he hpl, lift_cb hl la⟩
theorem de_callTy (hc : CallR X (.type T) rv) (hl : LiftC X.K rv r) (hm : X.mg x = none) (hv : bootBuiltins x = some (.type T)) (ha : DA X W (e :: es) t) (hg : Gl X x := by rfl) (hn : x ≠ "__name__" := by decide) (hdb : (x == ("__debug__" : Str)) = false := by decide)
    (he : starEach (e :: es) X.env = (false, eval e X.env) :: starEach es X.env := by rfl) (hpl : (backTo pos (starEach es X.env)).any (·.1) = false := by rfl) : DE X W (.Call (.Name x p) (e :: es) [] pos) (tCBD r t) := by
  obtain ⟨va, pa, la⟩ := ha
  exact ⟨_, pe_callTy hc hg hm hv pa hn hdb he hpl, lift_cb hl la⟩
end
section
variable {K : PySem.W.Frag}
/-- a rule that takes what the trees say and leaves the store as it is -/
theorem liftC_of {rv : List V → Hp → VK → Prop} {r : RcD} (h : ∀ Z F M H xs ds Q Qv, Sim Z K F M H → Rps K F ds xs → r ds M Q → PostE Z K F Q Qv → rv xs H Qv) : LiftC K rv r := h
theorem rps1 {F : Hp} {d : D} {xs : List V} (h : Rps K F [d] xs) : ∃ v, xs = [v] ∧ Rp K F d v := by
  obtain ⟨v, r, rfl, h1, h2⟩ := h.cons_inv
  rw [h2.nil_inv]
  exact ⟨v, rfl, h1⟩
theorem rps2 {F : Hp} {d e : D} {xs : List V} (h : Rps K F [d, e] xs) : ∃ v u, xs = [v, u] ∧ Rp K F d v ∧ Rp K F e u := by
  obtain ⟨v, r, rfl, h1, h2⟩ := h.cons_inv
  obtain ⟨u, rfl, h3⟩ := rps1 h2
  exact ⟨v, u, rfl, h1, h3⟩
def viewDc (M : HD) : D → Option (List Key × List D)
  | .dct ks xs => some (ks, xs)
  | .ref a => match M a with
    | some (.dct ks xs) => some (ks, xs)
    | _ => none
  | _ => none
theorem viewDc_ok {Z F : Hp} {M : HD} {H : Hp} {d : D} {v : V} {ks : List Key} {ds : List D} (S : Sim Z K F M H) (r : Rp K F d v) (h : viewDc M d = some (ks, ds)) : ∃ a vs, v = .ref a ∧ H a = some (.dK (ks.zip vs)) ∧ ks.length = vs.length ∧ Rps K F ds vs := by
  cases d with
  | dct ks' xs =>
    cases h
    obtain ⟨a, vs, h1, h2, h3, h4⟩ := rp_dct.mp r
    exact ⟨a, vs, h1, S.sub _ _ h2, h3, h4⟩
  | ref a =>
    simp only [viewDc] at h
    split at h
    · rename_i ks' xs' e
      cases h
      obtain ⟨_, vs, h1, h2, h3⟩ := S.own a _ e
      exact ⟨a, vs, rp_ref.mp r, h1, h2, h3⟩
    · cases h
  | _ => cases h
/-- len: a text, a tuple, a list -/
def rLenD : RcD := fun ds M Q => match ds with
  | [.str z] => z.length ≤ sizeLine ∧ Q (.int z.length) M
  | [d] => (match viewS M d with
    | some xs => Q (.int xs.length) M
    | none => False)
  | _ => False
theorem lift_len : LiftC K (fun xs H Q => ∃ x n, xs = [x] ∧ LenV K x H n ∧ Q (.int n) H) rLenD := by
  intro Z F M H xs ds Q Qv S rs h P
  match ds, rs, h with
  | [], _, h => exact h.elim
  | a :: b :: r, _, h => first | exact h.elim | (cases a <;> exact h.elim)
  | [d], rs, h =>
    obtain ⟨v, rfl, r⟩ := rps1 rs
    have seq : ∀ {ys}, viewS M d = some ys → Q (.int ys.length) M → ∃ x n, [v] = [x] ∧ LenV K x H n ∧ Qv (.int n) H := fun {ys} ev q => by
      obtain ⟨a, vs, rfl, sq, _, rv⟩ := viewS_ok S r ev
      refine ⟨_, vs.length, rfl, ?_, by rw [← rv.len]; exact P _ H F M _ (Same.refl F) S (rp_int.mpr rfl) q⟩
      rcases sq with sq | sq
      · exact .inl ⟨vs, sq, rfl⟩
      · exact .inr ⟨vs, sq, rfl⟩
    cases d with
    | str z =>
      have e := rp_str.mp r
      subst e
      exact ⟨_, z.length, rfl, ⟨h.1, rfl⟩, P _ H F M _ (Same.refl F) S (rp_int.mpr rfl) h.2⟩
    | tup ys => exact seq rfl h
    | lst ys => exact seq rfl h
    | scr ys => exact seq rfl h
    | ref a =>
      dsimp only [rLenD] at h
      split at h
      · rename_i ys ev
        exact seq ev h
      · exact h.elim
    | _ => exact h.elim
/-- int: an int, True or False, a text -/
def rIntD : RcD := fun ds M Q => match ds with
  | [.int i] => Q (.int i) M
  | [.bl k] => Q (.int (if k then 1 else 0)) M
  | _ => False
theorem lift_int : LiftC K (fun xs H Q => (∃ i, xs = [.int i] ∧ Q (.int i) H) ∨ ∃ k, xs = [.bl k] ∧ Q (.int (if k then 1 else 0)) H) rIntD := by
  intro Z F M H xs ds Q Qv S rs h P
  match ds, rs, h with
  | [], _, h => exact h.elim
  | a :: b :: r, _, h => first | exact h.elim | (cases a <;> exact h.elim)
  | [d], rs, h =>
    obtain ⟨v, rfl, r⟩ := rps1 rs
    cases d with
    | int i =>
      have e := rp_int.mp r
      subst e
      exact .inl ⟨i, rfl, P _ H F M _ (Same.refl F) S (rp_int.mpr rfl) h⟩
    | bl k =>
      have e := rp_bl.mp r
      subst e
      exact .inr ⟨k, rfl, P _ H F M _ (Same.refl F) S (rp_int.mpr rfl) h⟩
    | _ => exact h.elim
def rIntSD : RcD := fun ds M Q => match ds with
  | [.str a] => ∃ n, PySem.intText? a = some n ∧ a.length ≤ 640 ∧ Q (.int n) M
  | _ => False
theorem lift_intS : LiftC K (fun xs H Q => ∃ a n, xs = [.str a] ∧ PySem.intText? a = some n ∧ a.length ≤ 640 ∧ Q (.int n) H) rIntSD := by
  intro Z F M H xs ds Q Qv S rs h P
  match ds, rs, h with
  | [], _, h => exact h.elim
  | a :: b :: r, _, h => first | exact h.elim | (cases a <;> exact h.elim)
  | [d], rs, h =>
    obtain ⟨v, rfl, r⟩ := rps1 rs
    cases d with
    | str a =>
      obtain ⟨n, h1, h2, q⟩ := h
      have e := rp_str.mp r
      subst e
      exact ⟨a, n, rfl, h1, h2, P _ H F M _ (Same.refl F) S (rp_int.mpr rfl) q⟩
    | _ => exact h.elim
def rStrID : RcD := fun ds M Q => match ds with
  | [.int i] => i.natAbs.log2 < 1920 ∧ Q (.str (toString i)) M
  | _ => False
theorem lift_strI : LiftC K (fun xs H Q => ∃ i, xs = [.int i] ∧ i.natAbs.log2 < 1920 ∧ Q (.str (toString i)) H) rStrID := by
  intro Z F M H xs ds Q Qv S rs h P
  match ds, rs, h with
  | [], _, h => exact h.elim
  | a :: b :: r, _, h => first | exact h.elim | (cases a <;> exact h.elim)
  | [d], rs, h =>
    obtain ⟨v, rfl, r⟩ := rps1 rs
    cases d with
    | int i =>
      have e := rp_int.mp r
      subst e
      exact ⟨i, rfl, h.1, P _ H F M _ (Same.refl F) S (rp_str.mpr rfl) h.2⟩
    | _ => exact h.elim
def rAbsD : RcD := fun ds M Q => match ds with
  | [.int i] => Q (.int (if i < 0 then -i else i)) M
  | _ => False
theorem lift_abs : LiftC K (fun xs H Q => ∃ i, xs = [.int i] ∧ Q (.int (if i < 0 then -i else i)) H) rAbsD := by
  intro Z F M H xs ds Q Qv S rs h P
  match ds, rs, h with
  | [], _, h => exact h.elim
  | a :: b :: r, _, h => first | exact h.elim | (cases a <;> exact h.elim)
  | [d], rs, h =>
    obtain ⟨v, rfl, r⟩ := rps1 rs
    cases d with
    | int i =>
      have e := rp_int.mp r
      subst e
      exact ⟨i, rfl, P _ H F M _ (Same.refl F) S (rp_int.mpr rfl) h⟩
    | _ => exact h.elim
def rMax2D : RcD := fun ds M Q => match ds with
  | [.int i, .int j] => Q (.int (if j > i then j else i)) M
  | _ => False
theorem lift_max2 : LiftC K (fun xs H Q => ∃ i j, xs = [.int i, .int j] ∧ Q (.int (if j > i then j else i)) H) rMax2D := by
  intro Z F M H xs ds Q Qv S rs h P
  match ds, rs, h with
  | [], _, h => exact h.elim
  | [a], _, h => first | exact h.elim | (cases a <;> exact h.elim)
  | a :: b :: c :: r, _, h => first | exact h.elim | (cases a <;> first | exact h.elim | (cases b <;> exact h.elim))
  | [d, d2], rs, h =>
    obtain ⟨v, u, rfl, r, r2⟩ := rps2 rs
    cases d with
    | int i =>
      cases d2 with
      | int j =>
        have e := rp_int.mp r
        have e2 := rp_int.mp r2
        subst e e2
        exact ⟨i, j, rfl, P _ H F M _ (Same.refl F) S (rp_int.mpr rfl) h⟩
      | _ => exact h.elim
    | _ => exact h.elim
def rMin2D : RcD := fun ds M Q => match ds with
  | [.int i, .int j] => Q (.int (if j < i then j else i)) M
  | _ => False
theorem lift_min2 : LiftC K (fun xs H Q => ∃ i j, xs = [.int i, .int j] ∧ Q (.int (if j < i then j else i)) H) rMin2D := by
  intro Z F M H xs ds Q Qv S rs h P
  match ds, rs, h with
  | [], _, h => exact h.elim
  | [a], _, h => first | exact h.elim | (cases a <;> exact h.elim)
  | a :: b :: c :: r, _, h => first | exact h.elim | (cases a <;> first | exact h.elim | (cases b <;> exact h.elim))
  | [d, d2], rs, h =>
    obtain ⟨v, u, rfl, r, r2⟩ := rps2 rs
    cases d with
    | int i =>
      cases d2 with
      | int j =>
        have e := rp_int.mp r
        have e2 := rp_int.mp r2
        subst e e2
        exact ⟨i, j, rfl, P _ H F M _ (Same.refl F) S (rp_int.mpr rfl) h⟩
      | _ => exact h.elim
    | _ => exact h.elim
/-- all and any of a list of True and False -/
def blsD : List D → Option (List Bool)
  | [] => some []
  | .bl b :: r => (blsD r).map (b :: ·)
  | _ => none
theorem blsD_ok {F : Hp} : ∀ {ds : List D} {bs : List Bool} {vs : List V}, blsD ds = some bs → Rps K F ds vs → vs = bs.map V.bl
  | [], bs, vs, e, r => by cases e; rw [r.nil_inv]; rfl
  | d :: ds, bs, vs, e, r => by
    obtain ⟨v, vr, rfl, r1, r2⟩ := r.cons_inv
    cases d with
    | bl b =>
      simp only [blsD, Option.map_eq_some_iff] at e
      obtain ⟨br, e1, rfl⟩ := e
      rw [blsD_ok e1 r2, rp_bl.mp r1]
      rfl
    | _ => cases e
def viewQ (M : HD) : D → Option (List D)
  | .lst xs => some xs
  | .scr xs => some xs
  | .ref a => match M a with
    | some (.lst xs) => some xs
    | _ => none
  | _ => none
theorem viewQ_ok {Z F : Hp} {M : HD} {H : Hp} {d : D} {v : V} {ds : List D} (S : Sim Z K F M H) (r : Rp K F d v) (h : viewQ M d = some ds) : ∃ a vs, v = .ref a ∧ SqL K H a vs ∧ vs.length ≤ sizeLine ∧ Rps K F ds vs := by
  cases d with
  | scr xs => cases h; exact scr_ok S r
  | lst xs =>
    obtain ⟨a, vs, h1, h2, h3, h4⟩ := viewL_ok S r (ds := ds) h
    exact ⟨a, vs, h1, SqL.of h2, h3, h4⟩
  | ref a =>
    obtain ⟨a, vs, h1, h2, h3, h4⟩ := viewL_ok S r (ds := ds) h
    exact ⟨a, vs, h1, SqL.of h2, h3, h4⟩
  | _ => cases h
def rAllD (f : List Bool → Bool) : RcD := fun ds M Q => match ds with
  | [d] => (match viewQ M d with
    | some xs => (match blsD xs with
      | some bs => Q (.bl (f bs)) M
      | none => False)
    | none => False)
  | _ => False
theorem lift_allF {f : List Bool → Bool} : LiftC K (fun vs H Q => ∃ (a : Addr) (bs : List Bool), vs = [V.ref a] ∧ SqL K H a (bs.map V.bl) ∧ Q (.bl (f bs)) H) (rAllD f) := by
  intro Z F M H xs ds Q Qv S rs h P
  match ds, rs, h with
  | [], _, h => exact h.elim
  | a :: b :: r, _, h => first | exact h.elim | (cases a <;> exact h.elim)
  | [d], rs, h =>
    obtain ⟨v, rfl, r⟩ := rps1 rs
    dsimp only [rAllD] at h
    split at h
    · rename_i ys ev
      split at h
      · rename_i bs eb
        obtain ⟨a, vs, rfl, sq, _, rv⟩ := viewQ_ok S r ev
        rw [blsD_ok eb rv] at sq
        exact ⟨a, bs, rfl, sq, P _ H F M _ (Same.refl F) S (rp_bl.mpr rfl) h⟩
      · exact h.elim
    · exact h.elim
/-- list(xs): a new list that may change; tuple(xs) -/
def rListM : RcD := fun ds M Q => match ds with
  | [d] => (match viewS M d with
    | some xs => ∀ a, M a = none → Q (.ref a) (updM M a (.lst xs))
    | none => False)
  | _ => False
theorem lift_listM : LiftC K (fun xs H Q => ∃ p ys, xs = [.ref p] ∧ (SqL K H p ys ∨ SqT K H p ys) ∧ ∀ l, H l = none → Q (.ref l) (upd H l (.lst ys))) rListM := by
  intro Z F M H xs ds Q Qv S rs h P
  match ds, rs, h with
  | [], _, h => exact h.elim
  | a :: b :: r, _, h => first | exact h.elim | (cases a <;> exact h.elim)
  | [d], rs, h =>
    obtain ⟨v, rfl, r⟩ := rps1 rs
    dsimp only [rListM] at h
    split at h
    · rename_i ys ev
      obtain ⟨a, vs, rfl, sq, hz, rv⟩ := viewS_ok S r ev
      exact ⟨a, vs, rfl, sq, fun l hl => fin_lstM S rv hz h P hl⟩
    · exact h.elim
def rTupD : RcD := fun ds M Q => match ds with
  | [d] => (match viewS M d with
    | some xs => Q (.tup xs) M
    | none => False)
  | _ => False
theorem lift_tupC : LiftC K (fun xs H Q => ∃ p ys, xs = [.ref p] ∧ ((SqL K H p ys ∧ ∀ l, H l = none → Q (.ref l) (upd H l (.tup ys))) ∨ (SqT K H p ys ∧ Q (.ref p) H))) rTupD := by
  intro Z F M H xs ds Q Qv S rs h P
  match ds, rs, h with
  | [], _, h => exact h.elim
  | a :: b :: r, _, h => first | exact h.elim | (cases a <;> exact h.elim)
  | [d], rs, h =>
    obtain ⟨v, rfl, r⟩ := rps1 rs
    dsimp only [rTupD] at h
    have seq : ∀ {ys}, viewQ M d = some ys → Q (.tup ys) M → _ := fun {ys} ev q => viewQ_ok S r ev
    cases d with
    | tup ys =>
      obtain ⟨a, vs, rfl, h1, h2, h3⟩ := rp_tup.mp r
      exact ⟨a, vs, rfl, .inr ⟨sqT_mono S.sub h1, P _ H F M _ (Same.refl F) S (rp_tup.mpr ⟨a, vs, rfl, h1, h2, h3⟩) h⟩⟩
    | lst ys =>
      obtain ⟨a, vs, rfl, sq, hz, rv⟩ := viewQ_ok S r (ds := ys) rfl
      exact ⟨a, vs, rfl, .inl ⟨sq, fun l hl => fin_tup S rv hz h P hl⟩⟩
    | scr ys =>
      obtain ⟨a, vs, rfl, sq, hz, rv⟩ := viewQ_ok S r (ds := ys) rfl
      exact ⟨a, vs, rfl, .inl ⟨sq, fun l hl => fin_tup S rv hz h P hl⟩⟩
    | ref b =>
      split at h
      · rename_i ys ev
        obtain ⟨a, vs, rfl, sq, hz, rv⟩ := viewQ_ok S r (ds := ys) ev
        exact ⟨a, vs, rfl, .inl ⟨sq, fun l hl => fin_tup S rv hz h P hl⟩⟩
      · exact h.elim
    | _ => exact h.elim
/-- a key as a tree -/
def kD : Key → D
  | .inl i => .int i
  | .inr s => .str s
theorem rp_kD {F : Hp} (k : Key) : Rp K F (kD k) (kV k) := by
  cases k with
  | inl i => exact rp_int.mpr rfl
  | inr s => exact rp_str.mpr rfl
theorem rps_kD {F : Hp} : ∀ ks : List Key, Rps K F (ks.map kD) (ks.map kV)
  | [] => Rps.nil
  | k :: ks => Rps.cons (rp_kD k) (rps_kD ks)
theorem zip_keys : ∀ {ks : List Key} {vs : List V}, ks.length = vs.length → (ks.zip vs).map (fun kv => kV kv.1) = ks.map kV
  | [], vs, h => by simp
  | k :: ks, [], h => by simp at h
  | k :: ks, v :: vs, h => by
    rw [List.zip_cons_cons, List.map_cons, List.map_cons, zip_keys (by simpa using h)]
/-- list(d): its keys -/
def rListDD : RcD := fun ds M Q => match ds with
  | [d] => (match viewDc M d with
    | some (ks, _) => ks.length ≤ sizeLine ∧ Q (.lst (ks.map kD)) M
    | none => False)
  | _ => False
theorem lift_listDD : LiftC K (fun xs H Q => ∃ (a : Addr) (kvs : List (Key × V)), xs = [.ref a] ∧ Rd H a (.dK kvs) ∧ ∀ p, H p = none → Q (.ref p) (upd H p (.lst (kvs.map fun kv => kV kv.1)))) rListDD := by
  intro Z F M H xs ds Q Qv S rs h P
  match ds, rs, h with
  | [], _, h => exact h.elim
  | a :: b :: r, _, h => first | exact h.elim | (cases a <;> exact h.elim)
  | [d], rs, h =>
    obtain ⟨v, rfl, r⟩ := rps1 rs
    dsimp only [rListDD] at h
    split at h
    · rename_i ks xs ev
      obtain ⟨a, vs, rfl, h1, h2, h3⟩ := viewDc_ok S r ev
      refine ⟨a, _, rfl, .inl h1, fun p hp => ?_⟩
      rw [zip_keys h2]
      exact fin_lst S (rps_kD ks) (by rw [List.length_map]; exact h.1) h.2 P hp
    · exact h.elim
/-- dict(d): a copy that does not change -/
def rDictDD : RcD := fun ds M Q => match ds with
  | [d] => (match viewDc M d with
    | some (ks, xs) => Q (.dct ks xs) M
    | none => False)
  | _ => False
theorem lift_dictDD : LiftC K (fun xs H Q => ∃ (a : Addr) (kvs : List (Key × V)), xs = [.ref a] ∧ Rd H a (.dK kvs) ∧ ∀ p, H p = none → Q (.ref p) (upd H p (.dK kvs))) rDictDD := by
  intro Z F M H xs ds Q Qv S rs h P
  match ds, rs, h with
  | [], _, h => exact h.elim
  | a :: b :: r, _, h => first | exact h.elim | (cases a <;> exact h.elim)
  | [d], rs, h =>
    obtain ⟨v, rfl, r⟩ := rps1 rs
    dsimp only [rDictDD] at h
    split at h
    · rename_i ks xs ev
      obtain ⟨a, vs, rfl, h1, h2, h3⟩ := viewDc_ok S r ev
      refine ⟨a, _, rfl, .inl h1, fun p hp => ?_⟩
      obtain ⟨e, S'⟩ := S.grow (o := .dK (ks.zip vs)) hp
      exact P _ _ _ M _ e S' (rp_dct.mpr ⟨p, vs, rfl, upd_same, h2, h3.mono e⟩) h
    · exact h.elim
end

/-! ### isinstance -/
/-- the class of a tree as the model names it -/
inductive TyD (K : PySem.W.Frag) (M : HD) : D → Value → Prop where
  | non : TyD K M .non (.type "NoneType")
  | bl (b : Bool) : TyD K M (.bl b) (.type "bool")
  | int (i : Int) : TyD K M (.int i) (.type "int")
  | str (s : Str) : TyD K M (.str s) (.type "str")
  | tup (xs : List D) : TyD K M (.tup xs) (.type "tuple")
  | lst (xs : List D) : TyD K M (.lst xs) (.type "list")
  | dct (ks : List Key) (xs : List D) : TyD K M (.dct ks xs) (.type "dict")
  | ins {d : D} {C : Addr} {ns : List Str} {xs : List D} (e : viewI M d = some (C, ns, xs)) (cl : Cls K C) (ha : PySem.W.findIn K (.ref C) "__class__" = some (some (.builtin "object.__class__")))
      (hn : PySem.W.specialIn K (.builtin "object.__class__") "__get__" = some (some (.builtin "getset_descriptor.__get__"))) (htk : PySem.W.takesIn K (.builtin "object.__class__") = some true)
      (hm : PySem.W.mroIn K C (.type "object") = some true) : TyD K M d (.ref C)
theorem tyd_ok {Z : Hp} {K : PySem.W.Frag} {F : Hp} {M : HD} {H : Hp} {d : D} {v : V} {t : Value} (S : Sim Z K F M H) (r : Rp K F d v) (h : TyD K M d t) : TyX K H v t := by
  cases h with
  | non => rw [rp_non.mp r]; exact .base .non
  | bl b => rw [rp_bl.mp r]; exact .base (.bl b)
  | int i => rw [rp_int.mp r]; exact .base (.int i)
  | str s => rw [rp_str.mp r]; exact .base (.str s)
  | tup xs =>
    obtain ⟨a, vs, rfl, h1, _, _⟩ := rp_tup.mp r
    rcases sqT_mono S.sub h1 with (h1 | ⟨o, h1⟩) | h1
    · exact .base (.tup h1)
    · exact .fTuple h1
    · obtain ⟨o, its, n, h1, h2, _⟩ := h1
      exact .kTuple h1 h2
  | lst xs =>
    obtain ⟨a, vs, rfl, h1, _, _⟩ := rp_lst.mp r
    exact .base (.lst (S.sub _ _ h1))
  | dct ks xs =>
    obtain ⟨a, vs, rfl, h1, _, _⟩ := rp_dct.mp r
    exact .base (.dK (S.sub _ _ h1))
  | ins e cl ha hn htk hm =>
    obtain ⟨a, dx, vs, rfl, h1, _, _⟩ := viewI_ok S r e
    exact .base (.ins h1 cl ha hn htk hm)
inductive ClD : D → Value → Prop where
  | ty (n : String) : ClD (.ty n) (.type n)
  | own (C : Addr) : ClD (.ref C) (.ref C)
def rIsiD (K : PySem.W.Frag) : RcD := fun ds M Q => match ds with
  | [d, c] => ∃ t u b, ClD c u ∧ TyD K M d t ∧ PySem.W.kitOne K t u = some b ∧ Q (.bl b) M
  | _ => False
theorem lift_isi {K : PySem.W.Frag} : LiftC K (rIsi K) (rIsiD K) := by
  intro Z F M H xs ds Q Qv S rs h P
  match ds, rs, h with
  | [], _, h => exact h.elim
  | [a], _, h => exact h.elim
  | a :: b :: c :: r, _, h => exact h.elim
  | [d, c], rs, h =>
    obtain ⟨v, u, rfl, r, r2⟩ := rps2 rs
    obtain ⟨t, w, b, hc, ht, hk, q⟩ := h
    have fin := P _ H F M _ (Same.refl F) S (rp_bl.mpr rfl) q
    cases hc with
    | ty n =>
      have e := rp_ty.mp r2
      subst e
      exact ⟨v, _, t, _, b, rfl, .ty n, tyd_ok S r ht, hk, fin⟩
    | own C =>
      have e := rp_ref.mp r2
      subst e
      exact ⟨v, _, t, _, b, rfl, .own C, tyd_ok S r ht, hk, fin⟩

/-! ### repr of data -/
def rReprV (K : PySem.W.Frag) : List V → Hp → VK → Prop := fun xs H Q => ∃ a d, xs = [.ref a] ∧ Dp K H (.ref a) d ∧ d.showable = true ∧ d.hasDict = false ∧ d.depth ≤ 100 ∧ d.shown.length ≤ sizeLine ∧ Q (.str d.shown) H
theorem call_reprV {X : Cx} (hg : X.A.guards = some []) (hu : X.A.units + 102 < cLine) : CallR X (.builtin "repr") (rReprV X.K) := by
  intro pins s σ H xs us Q I r h
  obtain ⟨a, d, rfl, hd, h1, h2, h3, h4, q⟩ := h
  obtain ⟨u, rfl, rx⟩ := vals1 r
  cases rx
  obtain ⟨as, rd⟩ := Dp.reads I d _ _ hd rfl
  exact repr_of_reads' rd h1 (fun z => by rw [h2] at z; cases z) hg (by omega) (fun _ _ z => z) (fun h' u tk hk => ⟨.str _, H, I.kept (t' := tk) hk, ⟨_, rfl⟩, q⟩) h4
def rReprD : RcD := fun ds M Q => match ds with
  | [.tup xs] => ∃ d, pyd (.tup xs) = some d ∧ d.showable = true ∧ d.hasDict = false ∧ d.depth ≤ 100 ∧ d.shown.length ≤ sizeLine ∧ Q (.str d.shown) M
  | [.lst xs] => ∃ d, pyd (.lst xs) = some d ∧ d.showable = true ∧ d.hasDict = false ∧ d.depth ≤ 100 ∧ d.shown.length ≤ sizeLine ∧ Q (.str d.shown) M
  | _ => False
theorem lift_repr {K : PySem.W.Frag} : LiftC K (rReprV K) rReprD := by
  intro Z F M H xs ds Q Qv S rs h P
  match ds, rs, h with
  | [], _, h => exact h.elim
  | a :: b :: r, _, h => first | exact h.elim | (cases a <;> exact h.elim)
  | [d], rs, h =>
    obtain ⟨v, rfl, r⟩ := rps1 rs
    cases d with
    | tup ys =>
      obtain ⟨d, e, h1, h2, h3, h4, q⟩ := h
      obtain ⟨a, vs, rfl, _, _, _⟩ := rp_tup.mp r
      exact ⟨a, d, rfl, dp_of S.sub _ d _ e r, h1, h2, h3, h4, P _ H F M _ (Same.refl F) S (rp_str.mpr rfl) q⟩
    | lst ys =>
      obtain ⟨d, e, h1, h2, h3, h4, q⟩ := h
      obtain ⟨a, vs, rfl, _, _, _⟩ := rp_lst.mp r
      exact ⟨a, d, rfl, dp_of S.sub _ d _ e r, h1, h2, h3, h4, P _ H F M _ (Same.refl F) S (rp_str.mpr rfl) q⟩
    | _ => exact h.elim
end DL

/-! ### DL8 -/
set_option Elab.async false
set_option linter.all false
set_option maxRecDepth 100000
set_option maxHeartbeats 4000000
namespace DL
open PySem L2 PyProof.Rows

/-! ## sorted, of alike data -/
def encD (d : D) : PyData := (pyd d).getD .none
def leD (a b : D) : Bool := PySem.W.dataLe false encD a b
section
variable {K : PySem.W.Frag} {F : Hp}
theorem rps_zip : ∀ {zs : List (D × V)}, (∀ z ∈ zs, Rp K F z.1 z.2) → Rps K F (zs.map Prod.fst) (zs.map Prod.snd)
  | [], _ => Rps.nil
  | z :: zs, h => Rps.cons (h z List.mem_cons_self) (rps_zip fun y hy => h y (List.mem_cons_of_mem _ hy))
theorem zip_all : ∀ {ds : List D} {vs : List V}, Rps K F ds vs → (∀ z ∈ ds.zip vs, Rp K F z.1 z.2) ∧ (ds.zip vs).map Prod.fst = ds ∧ (ds.zip vs).map Prod.snd = vs
  | [], vs, h => by rw [h.nil_inv]; exact ⟨fun z hz => (nomatch hz), rfl, rfl⟩
  | d :: ds, vs, h => by
    obtain ⟨v, r, rfl, h1, h2⟩ := h.cons_inv
    obtain ⟨g1, g2, g3⟩ := zip_all h2
    rw [List.zip_cons_cons]
    refine ⟨fun z hz => ?_, by rw [List.map_cons, g2], by rw [List.map_cons, g3]⟩
    rcases List.mem_cons.mp hz with e | e
    · rw [e]; exact h1
    · exact g1 z e
theorem enc_pyds : ∀ {ds : List D} {ps : List PyData}, pyds ds = some ps → ds.map encD = ps
  | [], ps, e => by simp only [pyds] at e; cases e; rfl
  | d :: ds, ps, e => by
    simp only [pyds] at e
    split at e
    · rename_i p q e1 e2
      cases e
      rw [List.map_cons, enc_pyds e2]
      unfold encD
      rw [e1]
      rfl
    · cases e
end
def rSortV (K : PySem.W.Frag) : List V → Hp → VK → Prop := fun xs H Q => ∃ a ws ps, xs = [.ref a] ∧ SqL K H a ws ∧ DpAll K H ws ps ∧ PySem.W.AllAlike ps ∧ PySem.W.Sortable ps ∧ (∀ p ∈ ps, p.depth ≤ 100) ∧
  ∀ q, H q = none → Q (.ref q) (upd H q (.lst (((ws.zip ps).mergeSort (PySem.W.dataLe false Prod.snd)).map Prod.fst)))
theorem dpall_len {K : PySem.W.Frag} {H : Hp} : ∀ {ws : List V} {ps : List PyData}, DpAll K H ws ps → ws.length = ps.length
  | _, _, .nil => rfl
  | _, _, .cons _ t => by rw [List.length_cons, List.length_cons, dpall_len t]
theorem zip_snd : ∀ {ws : List V} {ps : List PyData}, ws.length = ps.length → (ws.zip ps).map Prod.snd = ps
  | [], [], _ => rfl
  | [], p :: ps, h => by simp at h
  | w :: ws, [], h => by simp at h
  | w :: ws, p :: ps, h => by rw [List.zip_cons_cons, List.map_cons, zip_snd (by simpa using h)]
theorem each_rel {X : Cx} {pins : List (Addr × Obj)} {σ : L2.St} {H : Hp} {s : Shared} (I : Inv X pins σ H s) : ∀ {ws : List V} {us : List Value} {ps : List PyData}, Vals ws us → DpAll X.K H ws ps →
    PySem.W.EachIs (fun (v : Value) (b : V × PyData) => RelV b.1 v) us (ws.zip ps) ∧ PySem.W.EachIs (fun (v : Value) (b : V × PyData) => ∃ as, Reads s.heap v b.2 as) us (ws.zip ps)
  | _, _, _, .nil, .nil => ⟨.nil, .nil⟩
  | _, _, _, .cons r rs, .cons d ds => by
    obtain ⟨g1, g2⟩ := each_rel I rs ds
    exact ⟨.cons r g1, .cons (Dp.reads I _ _ _ d r) g2⟩
theorem vals_each : ∀ {out : List Value} {bs : List (V × PyData)}, PySem.W.EachIs (fun (v : Value) (b : V × PyData) => RelV b.1 v) out bs → Vals (bs.map Prod.fst) out
  | _, _, .nil => .nil
  | _, _, .cons h t => .cons h (vals_each t)
theorem call_sortV {X : Cx} (hu : X.A.units + 102 < cLine) : CallR X (.builtin "sorted") (rSortV X.K) := by
  intro pins s σ H xs us Q I r h
  obtain ⟨a, ws, ps, rfl, hs, hd, h1, h2, h3, q⟩ := h
  obtain ⟨its, rv, hl, hz⟩ := I.list hs
  obtain ⟨u, rfl, ru⟩ := vals1 r
  obtain rfl : u = Value.ref a := ru
  obtain ⟨e1, e2⟩ := each_rel I rv hd
  have hlen := dpall_len hd
  have hsn := zip_snd hlen
  have hL : (ws.zip ps).length ≤ sizeLine := by
    rw [List.length_zip, ← hlen, Nat.min_self]
    exact hz
  refine PySem.W.sorted_data (enc := Prod.snd) hl.isList e1 e2 (by rw [hsn]; exact h1) (by rw [hsn]; exact h2) hL (fun b hb => ?_) fun out ho eo => ?_
  · have hm : b.2 ∈ ps := by rw [← hsn]; exact List.mem_map.mpr ⟨b, hb, rfl⟩
    have := h3 _ hm
    omega
  · obtain ⟨ep, he'⟩ := PyProof.Rows.sortedAll_at s.heap its (List.toArray out)
    have hv := vals_each eo
    have hn : (((ws.zip ps).mergeSort (PySem.W.dataLe false Prod.snd)).map Prod.fst).length ≤ sizeLine := by
      rw [List.length_map, (List.mergeSort_perm _ _).length_eq]
      exact hL
    refine ⟨.ref _, upd H (s.heap.objs.size + 1) _, I.laid (t' := s.toks) (fun _ _ => PyProof.Rows.sortedAll_old) (Nat.le_succ _) (o := .lst _) ⟨hn, out, ep, hv, he'⟩, rfl, q _ (I.hok.fresh (Nat.le_succ _))⟩
def rSortD : RcD := fun ds M Q => match ds with
  | [d] => (match viewQ M d with
    | some xs => (match pyds xs with
      | some ps => PySem.W.AllAlike ps ∧ PySem.W.Sortable ps ∧ (∀ p ∈ ps, p.depth ≤ 100) ∧ Q (.lst (xs.mergeSort leD)) M
      | none => False)
    | none => False)
  | _ => False
theorem zip_enc {K : PySem.W.Frag} {F : Hp} : ∀ {ds : List D} {vs : List V} {ps : List PyData}, Rps K F ds vs → pyds ds = some ps → vs.zip ps = (ds.zip vs).map fun z => (z.2, encD z.1)
  | [], vs, ps, h, e => by rw [h.nil_inv]; rfl
  | d :: ds, vs, ps, h, e => by
    obtain ⟨v, r, rfl, h1, h2⟩ := h.cons_inv
    simp only [pyds] at e
    split at e
    · rename_i p q e1 e2
      cases e
      rw [List.zip_cons_cons, List.zip_cons_cons, List.map_cons, zip_enc h2 e2]
      have : encD d = p := by unfold encD; rw [e1]; rfl
      rw [this]
    · cases e
theorem lift_sort {K : PySem.W.Frag} : LiftC K (rSortV K) rSortD := by
  intro Z F M H xs ds Q Qv S rs h P
  match ds, rs, h with
  | [], _, h => exact h.elim
  | a :: b :: r, _, h => exact h.elim
  | [d], rs, h =>
    obtain ⟨v, rfl, r⟩ := rps1 rs
    dsimp only [rSortD] at h
    split at h
    · rename_i ys ev
      split at h
      · rename_i ps ep
        obtain ⟨a, vs, rfl, sq, hz, rv⟩ := viewQ_ok S r ev
        refine ⟨a, vs, ps, rfl, sq, dps_of S.sub ys ps vs ep rv, h.1, h.2.1, h.2.2.1, fun q hq => ?_⟩
        obtain ⟨z1, z2, z3⟩ := zip_all rv
        have e1 : ((vs.zip ps).mergeSort (PySem.W.dataLe false Prod.snd)).map Prod.fst = ((ys.zip vs).mergeSort fun a b => leD a.1 b.1).map Prod.snd := by
          have g : (((ys.zip vs).mergeSort fun a b => leD a.1 b.1).map fun z => (z.2, encD z.1)) = ((ys.zip vs).map fun z => (z.2, encD z.1)).mergeSort (PySem.W.dataLe false Prod.snd) := List.map_mergeSort (fun a _ b _ => rfl)
          rw [zip_enc rv ep, ← g, List.map_map]
          rfl
        have e2 : ys.mergeSort leD = ((ys.zip vs).mergeSort fun a b => leD a.1 b.1).map Prod.fst := by
          rw [List.map_mergeSort (s := leD) (fun a _ b _ => rfl), z2]
        have rr : Rps K F (ys.mergeSort leD) (((vs.zip ps).mergeSort (PySem.W.dataLe false Prod.snd)).map Prod.fst) := by
          rw [e1, e2]
          exact rps_zip fun z hm => z1 z ((List.mergeSort_perm _ _).mem_iff.mp hm)
        refine fin_lst S rr ?_ h.2.2.2 P hq
        rw [← rr.len, (List.mergeSort_perm _ _).length_eq, rv.len]
        exact hz
      · exact h.elim
    · exact h.elim

/-! ## what a for walks -/
section
variable {K : PySem.W.Frag} {F : Hp} {J : It} {n : Nat} {G : Hp → Prop} {Y : Nat → Hp → V → Hp → Prop}
theorem itr_at {xs : List D} {vs : List V} (w : Walk J vs.length G (YAt vs)) (hG : ∀ Z F2 M2 H2, Same F F2 → Sim Z K F2 M2 H2 → G H2) (rv : Rps K F xs vs) : ItR K F J xs := by
  have hl := rv.len
  refine ⟨fun Z F2 M2 H2 e S => by rw [hl]; exact w.stops H2 (hG Z F2 M2 H2 e S), fun Z F2 M2 H2 i d e S hd => ?_, fun Z F2 M2 H2 i d v H3 e S hd y => ?_⟩
  · exact w.goes i H2 (by rw [← hl]; exact (List.getElem?_eq_some_iff.mp hd).1) (hG Z F2 M2 H2 e S)
  · obtain ⟨rfl, hv⟩ := w.yields i H2 v H3 (by rw [← hl]; exact (List.getElem?_eq_some_iff.mp hd).1) (hG Z F2 M2 H2 e S) y
    obtain ⟨v', e', r⟩ := rv.get hd
    rw [hv] at e'
    cases e'
    exact ⟨F2, Same.refl F2, S, r.mono e⟩
theorem itr_pair {xs : List D} {f g : Nat → Option V} (w : Walk J xs.length G (YPair f g)) (hG : ∀ Z F2 M2 H2, Same F F2 → Sim Z K F2 M2 H2 → G H2)
    (hx : ∀ i d, xs[i]? = some d → ∃ x y dx dy, d = .tup [dx, dy] ∧ f i = some x ∧ g i = some y ∧ Rp K F dx x ∧ Rp K F dy y) : ItR K F J xs := by
  refine ⟨fun Z F2 M2 H2 e S => w.stops H2 (hG Z F2 M2 H2 e S), fun Z F2 M2 H2 i d e S hd => ?_, fun Z F2 M2 H2 i d v H3 e S hd yy => ?_⟩
  · exact w.goes i H2 (List.getElem?_eq_some_iff.mp hd).1 (hG Z F2 M2 H2 e S)
  · obtain ⟨T, x, y, rfl, hT, rfl, hf, hg⟩ := w.yields i H2 v H3 (List.getElem?_eq_some_iff.mp hd).1 (hG Z F2 M2 H2 e S) yy
    obtain ⟨x', y', dx, dy, rfl, h1, h2, r1, r2⟩ := hx i d hd
    rw [hf] at h1
    rw [hg] at h2
    cases h1
    cases h2
    obtain ⟨e2, S2⟩ := S.grow (o := .tup [x, y]) hT
    exact ⟨_, e2, S2, rp_tup.mpr ⟨T, [x, y], rfl, SqT.of upd_same, by show 2 ≤ sizeLine; decide, Rps.cons (r1.mono (e.trans e2)) (Rps.cons (r2.mono (e.trans e2)) Rps.nil)⟩⟩
end
/-- the items of what does not change -/
def itemsD : D → Option (List D)
  | .tup xs => some xs
  | .lst xs => some xs
  | .scr xs => some xs
  | .str z => some (z.cps.toList.map fun c => .str ⟨#[c]⟩)
  | _ => none
def seqD : D → Option (Bool × List D)
  | .tup xs => some (true, xs)
  | .lst xs => some (false, xs)
  | .scr xs => some (false, xs)
  | _ => none
theorem seqD_ok {K : PySem.W.Frag} {F : Hp} {d : D} {v : V} {k : Bool} {xs : List D} (r : Rp K F d v) (h : seqD d = some (k, xs)) : ∃ a vs, v = .ref a ∧ (∀ H, Same F H → if k then SqT K H a vs else SqL K H a vs) ∧ vs.length ≤ sizeLine ∧ Rps K F xs vs := by
  cases d with
  | tup ys =>
    cases h
    obtain ⟨a, vs, e, h1, h2, h3⟩ := rp_tup.mp r
    exact ⟨a, vs, e, fun H s => sqT_mono s h1, h2, h3⟩
  | lst ys =>
    cases h
    obtain ⟨a, vs, e, h1, h2, h3⟩ := rp_lst.mp r
    exact ⟨a, vs, e, fun H s => SqL.of (s _ _ h1), h2, h3⟩
  | scr ys =>
    cases h
    obtain ⟨a, vs, e, h1, h2, h3⟩ := rp_scr.mp r
    exact ⟨a, vs, e, fun H s => sqL_mono s h1, h2, h3⟩
  | _ => cases h
def iSeqV (K : PySem.W.Frag) (te : TE) : TI := fun σ H R => te σ H fun x H1 => (∃ a, x = .ref a ∧ (∃ ws, SqL K H1 a ws) ∧ R (Itl K a) H1) ∨ ((∃ a, x = .ref a ∧ (∃ ws, SqT K H1 a ws) ∧ R (Itt K a) H1) ∨ ∃ z, x = .str z ∧ R (Its z) H1)
theorem pi_seqV {X : Cx} {tg l : Expr} {tl : TE} (hl : PE X l tl) : PI X tg l (iSeqV X.K tl) := by
  constructor
  intro pins s σ H R I h
  refine thn (hl.run pins s σ H _ I h) ?_
  rintro v t ⟨x, H1, J1, rx, c⟩
  rcases c with ⟨a, rfl, ⟨ws, hw⟩, g⟩ | ⟨a, rfl, ⟨ws, hw⟩, g⟩ | ⟨z, rfl, g⟩
  · cases rx
    obtain ⟨its, _, p, _⟩ := J1.list hw
    exact wpAny_pyIter_list p.isList (pi_one (tk := t.toks) J1 _ (turn_list a _) ⟨_, Heap.get?_push_size _ rfl, rfl, rfl⟩ g)
  · cases rx
    obtain ⟨its, _, p, _⟩ := J1.tuple hw
    exact wpAny_pyIter_tuple (show t.heap.IsTuple a its.toArray from p) (pi_one (tk := t.toks) J1 _ (turn_tuple a _) ⟨_, Heap.get?_push_size _ rfl, rfl, rfl⟩ g)
  · obtain ⟨k, rfl⟩ := rx
    cases wide : z.cps.all (· < 128) with
    | false => exact wpAny_pyIter_wide wide (pi_one (tk := t.toks) J1 _ (turn_str _ z k "str_iterator" (.inr rfl)) ⟨_, Heap.get?_push_size _ rfl, rfl, rfl⟩ g)
    | true => exact wpAny_pyIter_ascii wide (pi_one (tk := t.toks) J1 _ (turn_str _ z k "str_ascii_iterator" (.inl rfl)) ⟨_, Heap.get?_push_size _ rfl, rfl, rfl⟩ g)
def tSeqI (te : TD) : TID := fun σ M Q E => te σ M (fun d M1 => match itemsD d with
  | some xs => xs.length ≤ sizeLine ∧ Q xs M1
  | none => False) E
section
variable {X : Cx} {W : WX} {tg e e2 : Expr} {te : TD} {ta : TAD} {p pos tpos : Pos} {elts : List Expr} {kk : Nat}
theorem lift_seqI {K : PySem.W.Frag} {va : TE} (la : LiftE K W va te) : LiftI K W (iSeqV K va) (tSeqI te) := by
  intro Z F M σd σ H Q E R S RS h P PX
  refine la Z F M σd σ H _ E _ S RS h (fun v H1 F1 M1 d e1 S1 r1 q1 => ?_) PX
  split at q1
  · rename_i xs ei
    obtain ⟨hz, q1⟩ := q1
    have sq : ∀ {k}, seqD d = some (k, xs) → ∃ a vs, v = .ref a ∧ (∀ H, Same F1 H → if k = true then SqT K H a vs else SqL K H a vs) ∧ vs.length ≤ sizeLine ∧ Rps K F1 xs vs := fun h => seqD_ok r1 h
    cases d with
    | tup ys =>
      cases ei
      obtain ⟨a, vs, rfl, h1, h2, h3⟩ := sq rfl
      refine .inr (.inl ⟨a, rfl, ⟨vs, h1 H1 S1.sub⟩, P _ H1 F1 M1 _ e1 S1 hz (itr_at walk_tup (fun Z F2 M2 H2 e S => h1 H2 (e.trans S.sub)) h3) q1⟩)
    | lst ys =>
      cases ei
      obtain ⟨a, vs, rfl, h1, h2, h3⟩ := sq rfl
      refine .inl ⟨a, rfl, ⟨vs, h1 H1 S1.sub⟩, P _ H1 F1 M1 _ e1 S1 hz (itr_at walk_list (fun Z F2 M2 H2 e S => h1 H2 (e.trans S.sub)) h3) q1⟩
    | scr ys =>
      cases ei
      obtain ⟨a, vs, rfl, h1, h2, h3⟩ := sq rfl
      refine .inl ⟨a, rfl, ⟨vs, h1 H1 S1.sub⟩, P _ H1 F1 M1 _ e1 S1 hz (itr_at walk_list (fun Z F2 M2 H2 e S => h1 H2 (e.trans S.sub)) h3) q1⟩
    | str z =>
      cases ei
      refine .inr (.inr ⟨z, rp_str.mp r1, P _ H1 F1 M1 _ e1 S1 hz ⟨fun Z F2 M2 H2 e S => ?_, fun Z F2 M2 H2 i d e S hd => ?_, fun Z F2 M2 H2 i d v H3 e S hd y => ?_⟩ q1⟩)
      · show z.cps.size ≤ _
        rw [List.length_map]
        simp
      · show i < z.cps.size
        have := (List.getElem?_eq_some_iff.mp hd).1
        rw [List.length_map] at this
        simpa using this
      · obtain ⟨rfl, c, hc, rfl⟩ := y
        rw [List.getElem?_map, Array.getElem?_toList, hc] at hd
        cases hd
        exact ⟨F2, Same.refl F2, S, rp_str.mpr rfl⟩
    | _ => cases ei
  · exact q1.elim
theorem di_seq (he : DE X W e te) : DI X W tg e (tSeqI te) := by
  obtain ⟨va, pa, la⟩ := he
  exact ⟨_, pi_seqV pa, lift_seqI la⟩
/-- range(j), range(i, j) -/
def rngD (i : Int) (n : Nat) : List D := (List.range n).map fun k => .int (i + (k : Nat))
theorem itr_range {K : PySem.W.Frag} {F : Hp} {i : Int} {n : Nat} : ItR K F (Itr i n) (rngD i n) := by
  refine ⟨fun Z F2 M2 H2 e S => ?_, fun Z F2 M2 H2 k d e S hd => ?_, fun Z F2 M2 H2 k d v H3 e S hd y => ?_⟩
  · show n ≤ _
    unfold rngD
    rw [List.length_map, List.length_range]
    exact Nat.le_refl n
  · have := (List.getElem?_eq_some_iff.mp hd).1
    unfold rngD at this
    rw [List.length_map, List.length_range] at this
    exact this
  · obtain ⟨rfl, rfl⟩ := y
    unfold rngD at hd
    rw [List.getElem?_map] at hd
    have hk : k < n := by
      cases q : (List.range n)[k]? with
      | none => rw [q] at hd; cases hd
      | some z => have := (List.getElem?_eq_some_iff.mp q).1; rwa [List.length_range] at this
    rw [List.getElem?_range hk] at hd
    cases hd
    exact ⟨F2, Same.refl F2, S, rp_int.mpr rfl⟩
def tRng1D (ta : TAD) : TID := fun σ M Q E => ta σ M (fun ds M1 => match ds with
  | [.int j] => j ≤ sizeLine ∧ -(2 ^ 62) ≤ j ∧ Q (rngD 0 j.toNat) M1
  | _ => False) E
def tRng2D (ta : TAD) : TID := fun σ M Q E => ta σ M (fun ds M1 => match ds with
  | [.int i, .int j] => (-(2 ^ 62) ≤ i ∧ i < 2 ^ 62 ∧ -(2 ^ 62) ≤ j ∧ j < 2 ^ 62 ∧ j - i ≤ sizeLine) ∧ Q (rngD i (j - i).toNat) M1
  | _ => False) E
theorem rng_len {i : Int} {n : Nat} : (rngD i n).length = n := by unfold rngD; rw [List.length_map, List.length_range]
theorem di_range1 (hm : X.mg "range" = none) (ha : DA X W [e] ta) (hg : Gl X "range" := by rfl) (hs : starEach [e] X.env = [(false, eval e X.env)] := by rfl) : DI X W tg (.Call (.Name "range" p) [e] [] pos) (tRng1D ta) := by
  obtain ⟨va, pa, la⟩ := ha
  refine ⟨_, pi_range1 hg hm pa hs, fun Z F M σd σ H Q E R S RS h P PX => ?_⟩
  refine la Z F M σd σ H _ E _ S RS h (fun vs H1 F1 M1 ds e1 S1 r1 q1 => ?_) PX
  split at q1
  · rename_i j
    obtain ⟨v, rfl, r⟩ := rps1 r1
    have e := rp_int.mp r
    subst e
    obtain ⟨h1, h2, q⟩ := q1
    rw [sizeLine_eq] at h1
    exact ⟨j, rfl, h2, by omega, P _ H1 F1 M1 _ e1 S1 (by rw [rng_len, sizeLine_eq]; omega) itr_range q⟩
  · exact q1.elim
theorem di_range2 {b : Expr} (hm : X.mg "range" = none) (ha : DA X W [e, b] ta) (hg : Gl X "range" := by rfl) (hs : starEach [e, b] X.env = [(false, eval e X.env), (false, eval b X.env)] := by rfl) (hs2 : starEach [b] X.env = [(false, eval b X.env)] := by rfl) : DI X W tg (.Call (.Name "range" p) [e, b] [] pos) (tRng2D ta) := by
  obtain ⟨va, pa, la⟩ := ha
  refine ⟨_, pi_range2 hg hm pa hs hs2, fun Z F M σd σ H Q E R S RS h P PX => ?_⟩
  refine la Z F M σd σ H _ E _ S RS h (fun vs H1 F1 M1 ds e1 S1 r1 q1 => ?_) PX
  split at q1
  · rename_i i j
    obtain ⟨v, u, rfl, r, r2⟩ := rps2 r1
    have e := rp_int.mp r
    have e' := rp_int.mp r2
    subst e e'
    obtain ⟨⟨h1, h2, h3, h4, h5⟩, q⟩ := q1
    rw [sizeLine_eq] at h5
    exact ⟨i, j, rfl, ⟨h1, h2, h3, h4⟩, P _ H1 F1 M1 _ e1 S1 (by rw [rng_len, sizeLine_eq]; omega) itr_range q⟩
  · exact q1.elim

/-! ### enumerate of a tuple -/
def IteT (K : PySem.W.Frag) (a : Addr) : It :=
  ⟨fun i H => ∃ ws x, SqT K H a ws ∧ ws[i]? = some x, fun i H v H' => ∃ T x, v = .ref T ∧ H T = none ∧ H' = upd H T (.tup [.int (i : Nat), x]) ∧ ∀ ws, SqT K H a ws → ws[i]? = some x, fun i H => ∃ ws : List V, SqT K H a ws ∧ ws.length ≤ i⟩
theorem walk_enumT {K : PySem.W.Frag} {a : Addr} {ws : List V} : Walk (IteT K a) ws.length (fun H => SqT K H a ws) (YPair (fun i => some (.int (i : Nat))) (fun i => ws[i]?)) := by
  constructor
  · intro i H hi g
    exact ⟨ws, ws[i], g, by simp [hi]⟩
  · exact fun H g => ⟨ws, g, Nat.le_refl _⟩
  · rintro i H v H' _ g ⟨T, x, h1, h2, h3, h4⟩
    exact ⟨T, .int (i : Nat), x, h1, h2, h3, rfl, h4 ws g⟩
theorem turn_enumT {P : Program} {w : World} {K : PySem.W.Frag} (a e it : Addr) :
    Turn P w K (.Tuple elts kk tpos) (IteT K a) [e, it] e (fun i h => (∃ old, IsEnum h e it ((i : Nat) : Int) old) ∧ h.IsTupleIter it a i ∧ e ≠ it ∧ it ≠ a ∧ e ≠ a) where
  mem := List.mem_cons_self
  obj := by
    rintro i h ⟨⟨old, he⟩, ⟨o, ho, hc, hd⟩, _⟩ b hb
    rcases List.mem_cons.mp hb with z | hb
    · exact z ▸ ⟨_, he, fun v q => nomatch q⟩
    · rw [List.mem_singleton.mp hb]
      exact ⟨o, ho, fun v q => by rw [hd] at q; cases q⟩
  keep := by
    rintro i h h' ⟨⟨old, he⟩, hi, rest⟩ k
    exact ⟨⟨old, k e List.mem_cons_self _ he⟩, hi.at fun o q => k it (by simp) o q, rest⟩
  item := by
    intro X hP hw hK hc i pins s σ H E I hf st hg
    subst hP hw hK
    obtain ⟨⟨old, he⟩, hit, hne, hia, hea⟩ := st
    obtain ⟨ws, x, hq, hx⟩ := hg
    obtain ⟨its, rv, pl, hz⟩ := I.tuple hq
    obtain ⟨u, hu, ru⟩ := rv.get hx
    have hel : e < s.heap.objs.size := Heap.lt_size he
    have hil : it < s.heap.objs.size := by obtain ⟨_, q, _⟩ := hit; exact Heap.lt_size q
    have tpl : s.heap.IsTuple a its.toArray := pl
    have hn : i < its.toArray.size := by
      have := (List.getElem?_eq_some_iff.mp hu).1
      simpa using this
    have Dr := Draws.tuple (prog := X.prog) (w := X.w) (A := X.A.in1) (I.ok.hd hc) it a (Ne.symm hia) its.toArray
    refine wpAny_pyNext_enum_itemD Dr he ⟨hit, tpl⟩ hn hne (by simp [hne, hea]) ?_
    intro y h' tk hy ho hst' hT hsz hk
    have ey : y = u := by
      have e1 : its.toArray[i]? = some u := by simpa using hu
      rw [e1] at hy
      exact (Option.some.inj hy).symm
    subst ey
    refine ⟨_, rfl, wpAny_letOwnedTupleGo_enum (s := { s with heap := h', toks := tk + 1 }) ho ?_⟩
    intro h2 he2 sb
    have hT2 : h2.get? s.heap.objs.size = some { cls := .type "tuple", data := .seq #[.int i tk, y] } := (sb.2 _ (Nat.ne_of_gt hel)).trans hT
    have new : ObjOk X.prog X.w (upd H s.heap.objs.size (.tup [.int (i : Nat), x])) h2 s.heap.objs.size (.tup [.int (i : Nat), x]) :=
      ⟨by show 2 ≤ sizeLine; decide, [.int i tk, y], .cons ⟨_, rfl⟩ (.cons ru .nil), ⟨_, hT2, rfl, _, rfl⟩⟩
    have I1 : Inv X pins σ (upd H s.heap.objs.size (.tup [.int (i : Nat), x])) { s with heap := h2, toks := tk + 1 } := by
      refine I.turnedNew (ch := [e, it]) (fun b ob hb q => ?_) hf (Nat.le_refl _) new
      exact (sb.2 b fun z => hb (by simp [z])).trans (hk b ob (fun z => hb (by simp [z])) (fun z => hb (by simp [z])) q)
    refine ⟨.ref s.heap.objs.size, _, I1, rfl, ⟨_, x, rfl, I.hok.fresh (Nat.le_refl _), rfl, fun zs hzs => ?_⟩, ⟨⟨y, ?_⟩, hst'.1.at fun o q => (sb.2 it (Ne.symm hne)).trans q, hne, hia, hea⟩, fun b hb => ?_⟩
    · rw [I.tuple_inj hzs hq]
      exact hx
    · rw [show ((i + 1 : Nat) : Int) = (i : Int) + 1 by omega]
      exact he2
    · have hb' : b < s.heap.objs.size := by
        rcases List.mem_cons.mp hb with z | hb
        · exact z ▸ hel
        · rw [List.mem_singleton.mp hb]
          exact hil
      rw [upd_ne (Nat.ne_of_lt hb')]
      exact (hf b hb).1
  done := by
    intro X hP hw hK hc i pins s σ H E I hf st hg
    subst hP hw hK
    obtain ⟨⟨old, he⟩, hit, hne, hia, hea⟩ := st
    obtain ⟨ws, hq, hx⟩ := hg
    obtain ⟨its, rv, pl, hz⟩ := I.tuple hq
    obtain ⟨f0, f1, f2, f3, f4, f5⟩ := hf it (List.mem_cons_of_mem _ List.mem_cons_self)
    have hl := rv.length
    have tpl : s.heap.IsTuple a its.toArray := pl
    have hT : s.TypeIs (.ref e) "enumerate" := ⟨_, he, rfl⟩
    unfold pyNext
    refine wpAny_bind (wpAny_attempt (wpAny_callSpecial?_slot (name := Str.ofString "__next__") hT F.slot_enumerate_next (wpAny_call_entry F.slot_enumerate_next hT F.entry_enumerate_next ?_ (F.args_enumerate_next_1 _))))
    show wpAny _ _ (field (.ref e) 2 >>= _) _ _ _
    refine wpAny_bind (wpAny_field he rfl (x := .ref it) rfl ?_)
    refine wpAny_bind (wpAny_nextOf_tuple_end (I.ok.hd hc) hit tpl (by simp; omega) fun h' x eb hx' => ?_)
    obtain ⟨o, ho, hcs⟩ := hx'
    refine wpAny_bind (wpAny_isInstance (T := "StopIteration") (b := true) ⟨o, ho, hcs⟩ isSubtype_stop ?_)
    exact wpAny_pure ⟨rfl, I.turned (t' := s.toks) (fun b o hb q => eb b o hb q) f0 f1 f3 f4 f5⟩
  self := fun A i s Q E st h => let ⟨⟨_, he⟩, _⟩ := st; wpAny_pyIter_enum he h
end
set_option maxHeartbeats 1000000 in
theorem meets_enumT {v : Value} {o : Obj} {H : Heap → Prop} (B : Begins v o H) :
    Meets (Builtin.«enumerate.__new__» ⟨[.type "enumerate", v], []⟩) (fun _ R s => H s.heap ∧
      R (.ok (.ret (.ref (s.heap.push o).objs.size))) { s with heap := (s.heap.push o).push { cls := .type "enumerate", data := .fields #[.none, .bool false, .ref s.heap.objs.size, rawInt 0, .none, .none] } }) := by
  refine .of_wp fun prog w A R st hh => ?_
  obtain ⟨hp, g, d, tk, os⟩ := st
  obtain ⟨h1, hh⟩ := hh
  have hsub := sub_enumerate
  have iter : ∀ {A' : Around} {E : Value → Shared → Prop} {Q : Value → Shared → Prop}, Q (.ref hp.objs.size) ⟨hp.push o, g, d, tk, os⟩ → wpAny (model prog w) A' (pyIter v) Q E ⟨hp, g, d, tk, os⟩ := by
    intro A' E Q q
    exact B.iter prog w _ _ ⟨hp, g, d, tk, os⟩ _ h1 q
  wp_walk using iter
  refine wpAny_stack_any fun stk => wpAny_pure ?_
  split
  · rename_i c _ _ _ _ _
    cases (c == Value.type "enumerate") <;> (wp_walk using iter; exact ⟨_, rfl, hh⟩)
  · wp_walk using iter
    exact ⟨_, rfl, hh⟩
theorem call_enumT {prog : Program} {w : World} {A : Around} {E : Value → Shared → Prop} {s : Shared} {v : Value} {o : Obj} {H : Heap → Prop} {Q : Value → Shared → Prop} (B : Begins v o H) (h1 : H s.heap)
    (h : ∀ h', IsEnum h' (s.heap.objs.size + 1) s.heap.objs.size 0 .none → h'.get? s.heap.objs.size = some o → (∀ b u, s.heap.get? b = some u → h'.get? b = some u) → Q (.ref (s.heap.objs.size + 1)) { s with heap := h' }) :
    wpAny (model prog w) A (call (.type "enumerate") [v]) Q E s := by
  have sz : (s.heap.push o).objs.size = s.heap.objs.size + 1 := Heap.size_push ..
  have two := Heap.get?_push_size (s.heap.push o) (o := { cls := .type "enumerate", data := .fields #[.none, .bool false, .ref s.heap.objs.size, rawInt 0, .none, .none] }) rfl
  refine callType_new F.called_enumerate (by decide) (F.typeCall_enumerate_1 _) (F.newCall_enumerate_1 _) (fun obj => F.args_object_init_2 obj _) F.entry_enumerate_new (meets_enumT B) ⟨h1, ?_⟩
  show _ ∧ _
  rw [sz] at two ⊢
  exact ⟨⟨_, two, rfl⟩, h _ two (Heap.get?_push_of_some _ (Heap.get?_push_size _ B.free)) fun b u x => Heap.get?_push_of_some _ (Heap.get?_push_of_some _ x)⟩
def iEnumA (K : PySem.W.Frag) (ta : TA) : TI := fun σ H R => ta σ H fun vs H1 => ∃ a ws, vs = [.ref a] ∧ ((SqL K H1 a ws ∧ R (Ite K a) H1) ∨ (SqT K H1 a ws ∧ R (IteT K a) H1))
section
variable {X : Cx} {W : WX} {tg e e2 : Expr} {te : TD} {ta : TAD} {p pos tpos : Pos} {elts : List Expr} {kk : Nat}
theorem pi_enumA {va : TA} (hg : Gl X "enumerate") (hm : X.mg "enumerate" = none) (ha : PA X [e] va) (hs : starEach [e] X.env = [(false, eval e X.env)]) : PI X (.Tuple elts kk tpos) (.Call (.Name "enumerate" p) [e] [] pos) (iEnumA X.K va) := by
  constructor
  intro pins s σ H R I h
  refine Call_ (ld_blt I hg hm boot_enumerate (PyProof.Rows.callWith_type1 (thn (ha.run pos pins s σ H _ I h) ?_) hs rfl))
  rintro us t ⟨vs, H1, J1, rv, a, ws, rfl, c⟩
  obtain ⟨u, rfl, ru⟩ := vals1 rv
  obtain rfl : u = Value.ref a := ru
  have apart : ∀ b, b ∈ [t.heap.objs.size + 1, t.heap.objs.size] → FpOk X pins H1 b := by
    intro b hb
    have hle : t.heap.objs.size ≤ b := by
      rcases List.mem_cons.mp hb with z | hb
      · omega
      · have := List.mem_singleton.mp hb
        omega
    exact J1.fpOk hle (J1.hok.fresh hle)
  rcases c with ⟨hw, g⟩ | ⟨hw, g⟩
  · obtain ⟨its, _, pl, _⟩ := J1.list hw
    refine call_enumT (begins_list a its.toArray) pl.isList fun h' he ho hk => wpAny_pyIter_enum he ?_
    exact ⟨_, [t.heap.objs.size + 1, t.heap.objs.size], _, _, H1, rfl, J1.kept (t' := t.toks) hk, turn_enum a _ t.heap.objs.size, ⟨⟨.none, he⟩, ⟨_, ho, rfl, rfl⟩, Nat.succ_ne_self _⟩, apart, g⟩
  · obtain ⟨its, _, pl, _⟩ := J1.tuple hw
    have tpl : t.heap.IsTuple a its.toArray := pl
    have hlt : a < t.heap.objs.size := by obtain ⟨_, q, _⟩ := tpl; exact Heap.lt_size q
    refine call_enumT (begins_tuple a its.toArray) tpl fun h' he ho hk => wpAny_pyIter_enum he ?_
    exact ⟨_, [t.heap.objs.size + 1, t.heap.objs.size], _, _, H1, rfl, J1.kept (t' := t.toks) hk, turn_enumT a _ t.heap.objs.size, ⟨⟨.none, he⟩, ⟨_, ho, rfl, rfl⟩, Nat.succ_ne_self _, Nat.ne_of_gt hlt, Nat.ne_of_gt (Nat.lt_succ_of_lt hlt)⟩, apart, g⟩
def enumD (xs : List D) : List D := xs.mapIdx fun i d => .tup [.int (i : Nat), d]
theorem enumD_get {xs : List D} {i : Nat} {d : D} (h : (enumD xs)[i]? = some d) : ∃ y, xs[i]? = some y ∧ d = .tup [.int (i : Nat), y] := by
  unfold enumD at h
  rw [List.getElem?_mapIdx] at h
  cases q : xs[i]? with
  | none => rw [q] at h; cases h
  | some y => rw [q] at h; cases h; exact ⟨y, rfl, rfl⟩
def tEnumD (ta : TAD) : TID := fun σ M Q E => ta σ M (fun ds M1 => match ds with
  | [d] => (match seqD d with
    | some (_, xs) => Q (enumD xs) M1
    | none => False)
  | _ => False) E
theorem di_enum (hm : X.mg "enumerate" = none) (ha : DA X W [e] ta) (hg : Gl X "enumerate" := by rfl) (hs : starEach [e] X.env = [(false, eval e X.env)] := by rfl) : DI X W (.Tuple elts kk tpos) (.Call (.Name "enumerate" p) [e] [] pos) (tEnumD ta) := by
  obtain ⟨va, pa, la⟩ := ha
  refine ⟨_, pi_enumA hg hm pa hs, fun Z F M σd σ H Q E R S RS h P PX => ?_⟩
  refine la Z F M σd σ H _ E _ S RS h (fun vs H1 F1 M1 ds e1 S1 r1 q1 => ?_) PX
  split at q1
  · rename_i d
    split at q1
    · rename_i k xs es
      obtain ⟨v, rfl, r⟩ := rps1 r1
      obtain ⟨a, ws, rfl, h1, h2, h3⟩ := seqD_ok r es
      have hz : (enumD xs).length ≤ sizeLine := by unfold enumD; rw [List.length_mapIdx, h3.len]; exact h2
      have le : (enumD xs).length = ws.length := by unfold enumD; rw [List.length_mapIdx, h3.len]
      have each : ∀ i d, (enumD xs)[i]? = some d → ∃ (x y : V) (dx dy : D), d = .tup [dx, dy] ∧ some (V.int (i : Nat)) = some x ∧ ws[i]? = some y ∧ Rp X.K F1 dx x ∧ Rp X.K F1 dy y := by
        intro i d hd
        obtain ⟨y, hy, rfl⟩ := enumD_get hd
        obtain ⟨w, hw, rw'⟩ := h3.get hy
        exact ⟨_, w, _, y, rfl, rfl, hw, rp_int.mpr rfl, rw'⟩
      cases k with
      | true => exact ⟨a, ws, rfl, .inr ⟨h1 H1 S1.sub, P _ H1 F1 M1 _ e1 S1 hz (itr_pair (by rw [le]; exact walk_enumT) (fun Z F2 M2 H2 e S => h1 H2 (e.trans S.sub)) each) q1⟩⟩
      | false => exact ⟨a, ws, rfl, .inl ⟨h1 H1 S1.sub, P _ H1 F1 M1 _ e1 S1 hz (itr_pair (by rw [le]; exact walk_enum) (fun Z F2 M2 H2 e S => h1 H2 (e.trans S.sub)) each) q1⟩⟩
    · exact q1.elim
  · exact q1.elim
/-- zip of two tuples, of two lists -/
theorem walk_zipT {K : PySem.W.Frag} {a b : Addr} {xs ys : List V} {n : Nat} (hn : n = min xs.length ys.length) : Walk (RZ.ItzT K a b) n (fun H => SqT K H a xs ∧ SqT K H b ys) (YPair (fun i => xs[i]?) (fun i => ys[i]?)) := by
  constructor
  · intro i H hi g
    have h1 : i < xs.length := by omega
    have h2 : i < ys.length := by omega
    exact ⟨xs, ys, xs[i], ys[i], g.1, g.2, by simp [h1], by simp [h2]⟩
  · exact fun H g => ⟨xs, ys, g.1, g.2, by omega⟩
  · rintro i H v H' _ g ⟨T, x, z, h1, h2, h3, h4, h5⟩
    exact ⟨T, x, z, h1, h2, h3, h4 xs g.1, h5 ys g.2⟩
def zipD (xs ys : List D) : List D := List.zipWith (fun a b => D.tup [a, b]) xs ys
def tZipD (ta : TAD) : TID := fun σ M Q E => ta σ M (fun ds M1 => match ds with
  | [d1, d2] => (match seqD d1, seqD d2 with
    | some (k1, xs), some (k2, ys) => k1 = k2 ∧ Q (zipD xs ys) M1
    | _, _ => False)
  | _ => False) E
theorem di_zip (hm : X.mg "zip" = none) (ha : DA X W [e, e2] ta) (hg : Gl X "zip" := by rfl) (hs : starEach [e, e2] X.env = (false, eval e X.env) :: starEach [e2] X.env := by rfl) (hpl : (backTo pos (starEach [e2] X.env)).any (·.1) = false := by rfl) :
    DI X W (.Tuple elts kk tpos) (.Call (.Name "zip" p) [e, e2] [] pos) (tZipD ta) := by
  obtain ⟨va, pa, la⟩ := ha
  refine ⟨_, RZ.pi_zipA hg hm pa hs hpl, fun Z F M σd σ H Q E R S RS h P PX => ?_⟩
  refine la Z F M σd σ H _ E _ S RS h (fun vs H1 F1 M1 ds e1 S1 r1 q1 => ?_) PX
  split at q1
  · rename_i d1 d2
    split at q1
    · rename_i k1 xs k2 ys s1 s2
      obtain ⟨v, u, rfl, r, r2⟩ := rps2 r1
      obtain ⟨rfl, q1⟩ := q1
      obtain ⟨a, ws, rfl, h1, h2, h3⟩ := seqD_ok r s1
      obtain ⟨b, us, rfl, g1, g2, g3⟩ := seqD_ok r2 s2
      have le : (zipD xs ys).length = min ws.length us.length := by unfold zipD; rw [List.length_zipWith, h3.len, g3.len]
      have hz : (zipD xs ys).length ≤ sizeLine := by rw [le]; omega
      have each : ∀ (i : Nat) (d : D), (zipD xs ys)[i]? = some d → ∃ (x y : V) (dx dy : D), d = D.tup [dx, dy] ∧ ws[i]? = some x ∧ us[i]? = some y ∧ Rp X.K F1 dx x ∧ Rp X.K F1 dy y := by
        intro i d hd
        unfold zipD at hd
        rw [List.getElem?_zipWith] at hd
        cases q : xs[i]? with
        | none => rw [q] at hd; cases hd
        | some x =>
          rw [q] at hd
          cases q2 : ys[i]? with
          | none => rw [q2] at hd; cases hd
          | some y =>
            rw [q2] at hd
            cases hd
            obtain ⟨w1, hw1, rw1⟩ := h3.get q
            obtain ⟨w2, hw2, rw2⟩ := g3.get q2
            exact ⟨w1, w2, x, y, rfl, hw1, hw2, rw1, rw2⟩
      cases k1 with
      | true => exact ⟨a, b, ws, us, rfl, .inr ⟨h1 H1 S1.sub, g1 H1 S1.sub, P _ H1 F1 M1 _ e1 S1 hz (itr_pair (walk_zipT le) (fun Z F2 M2 H2 e S => ⟨h1 H2 (e.trans S.sub), g1 H2 (e.trans S.sub)⟩) each) q1⟩⟩
      | false => exact ⟨a, b, ws, us, rfl, .inl ⟨h1 H1 S1.sub, g1 H1 S1.sub, P _ H1 F1 M1 _ e1 S1 hz (itr_pair (walk_zip le) (fun Z F2 M2 H2 e S => ⟨h1 H2 (e.trans S.sub), g1 H2 (e.trans S.sub)⟩) each) q1⟩⟩
    · exact q1.elim
  · exact q1.elim
end
end DL

/-! ### DL9 -/
set_option Elab.async false
set_option linter.all false
set_option maxRecDepth 100000
set_option maxHeartbeats 4000000
namespace DL
open PySem L2 PyProof.Rows

/-! ## methods of texts -/
abbrev RmD := D → List D → HD → VKD → Prop
def LiftM (K : PySem.W.Frag) (rv : V → List V → Hp → VK → Prop) (r : RmD) : Prop := ∀ Z F M H x d xs ds Q Qv, Sim Z K F M H → Rp K F d x → Rps K F ds xs → r d ds M Q → PostE Z K F Q Qv → rv x xs H Qv
def isStrD : D → Prop
  | .str _ => True
  | _ => False
theorem isStrD_ok {K : PySem.W.Frag} {F : Hp} {d : D} {v : V} (r : Rp K F d v) (h : isStrD d) : ∃ a, v = .str a := by
  cases d with
  | str z => exact ⟨z, rp_str.mp r⟩
  | _ => exact h.elim
def tM0D (r : RmD) (to : TD) : TD := fun σ M Q E => to σ M (fun x M1 => isStrD x ∧ r x [] M1 Q) E
def tM1D (r : RmD) (to te : TD) : TD := fun σ M Q E => to σ M (fun x M1 => isStrD x ∧ te σ M1 (fun y M2 => r x [y] M2 Q) E) E
section
variable {X : Cx} {W : WX} {o e : Expr} {es : List Expr} {to te : TD} {t : TAD} {id T : String} {name : Str} {apos pos cpos : Pos} {rv : V → List V → Hp → VK → Prop} {r : RmD}
theorem de_m1 (slot : Slot "str" name id) (ty : typeOf (.builtin id) = pure (.type "method_descriptor")) (rule : MtR X id rv) (hl : LiftM X.K rv r) (ho : DE X W o to) (he : DE X W e te)
    (hs : starEach [e] X.env = [(false, eval e X.env)] := by rfl) (hbase : attributeBase o name X.env (eval o X.env) = eval o X.env := by rfl) (hline : (apos.endLine == pos.line) = true := by rfl) : DE X W (.Call (.Attribute o name apos) [e] [] pos) (tM1D r to te) := by
  obtain ⟨vo, po, lo⟩ := ho
  obtain ⟨ve, pe, le⟩ := he
  refine ⟨_, pe_m1 slot ty rule po pe hs hbase hline, fun Z F M σd σ H Q E Qv S R h P PX => ?_⟩
  refine lo Z F M σd σ H _ E _ S R h (fun x H1 F1 M1 d e1 S1 r1 q1 => ⟨isStrD_ok r1 q1.1, ?_⟩) PX
  refine le Z F1 M1 σd σ H1 _ E _ S1 (R.mono e1) q1.2 (fun y H2 F2 M2 dy e2 S2 r2 q2 => ?_) (PX.mono e1)
  exact hl Z F2 M2 H2 x d [y] [dy] Q Qv S2 (r1.mono e2) (Rps.cons r2 Rps.nil) q2 (P.mono (e1.trans e2))
theorem de_m0 (slot : Slot "str" name id) (ty : typeOf (.builtin id) = pure (.type "method_descriptor")) (rule : MtR X id rv) (hl : LiftM X.K rv r) (ho : DE X W o to)
    (hbase : attributeBase o name X.env (eval o X.env) = eval o X.env := by rfl) (hline : (apos.endLine == pos.line) = true := by rfl) : DE X W (.Call (.Attribute o name apos) [] [] pos) (tM0D r to) := by
  obtain ⟨vo, po, lo⟩ := ho
  refine ⟨_, pe_m0 slot ty rule po hbase hline, fun Z F M σd σ H Q E Qv S R h P PX => ?_⟩
  refine lo Z F M σd σ H _ E _ S R h (fun x H1 F1 M1 d e1 S1 r1 q1 => ⟨isStrD_ok r1 q1.1, ?_⟩) PX
  exact hl Z F1 M1 H1 x d [] [] Q Qv S1 r1 Rps.nil q1.2 (P.mono e1)
end
section
variable {K : PySem.W.Frag}
theorem rps_strs {F : Hp} : ∀ ys : List Str, Rps K F (ys.map D.str) (ys.map V.str)
  | [] => Rps.nil
  | y :: ys => Rps.cons (rp_str.mpr rfl) (rps_strs ys)
def strsD : List D → Option (List Str)
  | [] => some []
  | .str z :: r => (strsD r).map (z :: ·)
  | _ => none
theorem strsD_ok {F : Hp} : ∀ {ds : List D} {zs : List Str} {vs : List V}, strsD ds = some zs → Rps K F ds vs → vs = zs.map V.str
  | [], zs, vs, e, r => by cases e; rw [r.nil_inv]; rfl
  | d :: ds, zs, vs, e, r => by
    obtain ⟨v, vr, rfl, r1, r2⟩ := r.cons_inv
    cases d with
    | str b =>
      simp only [strsD, Option.map_eq_some_iff] at e
      obtain ⟨br, e1, rfl⟩ := e
      rw [strsD_ok e1 r2, rp_str.mp r1]
      rfl
    | _ => cases e
def rSplitD : RmD := fun x ds M Q => match x with
  | .str a => (match ds with
    | [.str b] => ((b.length == 0) = false ∧ a.length + 2 ≤ sizeLine ∧ (Txt.split a b).length ≤ sizeLine) ∧ Q (.lst ((Txt.split a b).map D.str)) M
    | _ => False)
  | _ => False
theorem lift_split : LiftM K (fun x xs H Q => ∃ a b, x = .str a ∧ xs = [.str b] ∧ (b.length == 0) = false ∧ a.length + 2 ≤ sizeLine ∧ rNewStrs (Txt.split a b) H Q) rSplitD := by
  intro Z F M H x d xs ds Q Qv S r rs h P
  unfold rSplitD at h
  split at h
  · rename_i a
    split at h
    · rename_i b
      obtain ⟨v, rfl, r2⟩ := rps1 rs
      refine ⟨a, b, rp_str.mp r, by rw [rp_str.mp r2], h.1.1, h.1.2.1, fun p hp => ?_⟩
      exact fin_lst S (rps_strs _) (by rw [List.length_map]; exact h.1.2.2) h.2 P hp
    · exact h.elim
  · exact h.elim
theorem rps3 {F : Hp} {a b c : Str} : Rps K F [.str a, .str b, .str c] [.str a, .str b, .str c] := rps_strs [a, b, c]
def rPartD (f : Str → Str → Str × Str × Str) : RmD := fun x ds M Q => match x with
  | .str a => (match ds with
    | [.str b] => ((b.length == 0) = false ∧ a.length ≤ sizeLine) ∧ Q (.tup [.str (f a b).1, .str (f a b).2.1, .str (f a b).2.2]) M
    | _ => False)
  | _ => False
theorem lift_part {f : Str → Str → Str × Str × Str} : LiftM K (fun x xs H Q => ∃ a b, x = .str a ∧ xs = [.str b] ∧ (b.length == 0) = false ∧ a.length ≤ sizeLine ∧ ∀ p, H p = none → Q (.ref p) (upd H p (.tup [.str (f a b).1, .str (f a b).2.1, .str (f a b).2.2]))) (rPartD f) := by
  intro Z F M H x d xs ds Q Qv S r rs h P
  unfold rPartD at h
  split at h
  · rename_i a
    split at h
    · rename_i b
      obtain ⟨v, rfl, r2⟩ := rps1 rs
      refine ⟨a, b, rp_str.mp r, by rw [rp_str.mp r2], h.1.1, h.1.2, fun p hp => ?_⟩
      exact fin_tup S rps3 (by show 3 ≤ sizeLine; decide) h.2 P hp
    · exact h.elim
  · exact h.elim
theorem mt_rpart {X : Cx} : MtR X "str.rpartition" (fun x xs H Q => ∃ a b, x = .str a ∧ xs = [.str b] ∧ (b.length == 0) = false ∧ a.length ≤ sizeLine ∧ ∀ p, H p = none → Q (.ref p) (upd H p (.tup [.str (Txt.rpartition a b).1, .str (Txt.rpartition a b).2.1, .str (Txt.rpartition a b).2.2]))) := by
  rintro pins s σ H x xs v us Q I rx rs ⟨a, b, rfl, rfl, hb, hz, hq⟩
  obtain ⟨t, rfl⟩ := rx
  obtain ⟨u, rfl, k, rfl⟩ := vals1 rs
  refine call_meets F.slot_str_rpartition (typeIs_str _ _ _) F.entry_str_rpartition (F.args_str_rpartition_2 _ _) (meets_str_rpartition a b t k hb hz) ?_
  unfold Txt.rpartition at hq
  revert hq
  cases Builtin.Str.lastOccurrence a b 0 a.length with
  | none => exact fun hq => laid_parts I hq
  | some i => exact fun hq => laid_parts I hq
def rJoinD : RmD := fun x ds M Q => match x with
  | .str a => (match ds with
    | [d] => (match viewS M d with
      | some xs => (match strsD xs with
        | some ys => (ys.map (·.length)).sum + ys.length * a.length ≤ 16777216 ∧ Q (.str (Txt.join a ys)) M
        | none => False)
      | none => False)
    | _ => False)
  | _ => False
theorem lift_join : LiftM K (fun x xs H Q => ∃ a p, ∃ ys : List Str, x = .str a ∧ xs = [.ref p] ∧ (SqL K H p (ys.map V.str) ∨ SqT K H p (ys.map V.str)) ∧ (ys.map (·.length)).sum + ys.length * a.length ≤ 16777216 ∧ Q (.str (Txt.join a ys)) H) rJoinD := by
  intro Z F M H x d xs ds Q Qv S r rs h P
  unfold rJoinD at h
  split at h
  · rename_i a
    split at h
    · rename_i dl
      split at h
      · rename_i zs ev
        split at h
        · rename_i ys es
          obtain ⟨v, rfl, r2⟩ := rps1 rs
          obtain ⟨p, vs, rfl, sq, _, rv⟩ := viewS_ok S r2 ev
          rw [strsD_ok es rv] at sq
          exact ⟨a, p, ys, rp_str.mp r, rfl, sq, h.1, P _ H F M _ (Same.refl F) S (rp_str.mpr rfl) h.2⟩
        · exact h.elim
      · exact h.elim
    · exact h.elim
  · exact h.elim
end

/-! ## methods of lists that may change -/
def tBMD (r : RmD) (to : TD) (t : TAD) : TD := fun σ M Q E => to σ M (fun x M1 => (∃ l xs, x = .ref l ∧ M1 l = some (.lst xs)) ∧ t σ M1 (fun ds M2 => r x ds M2 Q) E) E
section
variable {X : Cx} {W : WX} {o e : Expr} {es : List Expr} {to te : TD} {t : TAD} {id T : String} {name : Str} {apos pos cpos : Pos} {rv : V → List V → Hp → VK → Prop} {r : RmD}
theorem de_bm (slot : Slot "list" name id) (hty : typeOf (.builtin id) = pure (.type "method_descriptor")) (hm : MtR X id rv) (hl : LiftM X.K rv r) (ho : DE X W o to) (ha : DA X W (e :: es) t)
    (hbase : attributeBase o name X.env (eval o X.env) = eval o X.env := by rfl)
    (hfew : ((backTo cpos (starEach (e :: es) X.env)).all (fun x => !x.1) && (backToKw cpos (keywordEach [] X.env)).all (fun x => x.1.isSome) && decide ((e :: es).length + ([] : List Keyword).length + (if ([] : List Keyword).isEmpty then 0 else 1) < 30)) = true := by rfl)
    (hline : (apos.endLine == cpos.line) = true := by rfl) (hs : starEach (e :: es) X.env = (false, eval e X.env) :: starEach es X.env := by rfl) (hplain : (backTo cpos (starEach es X.env)).any (·.1) = false := by rfl) :
    DE X W (.Call (.Attribute o name apos) (e :: es) [] cpos) (tBMD r to t) := by
  obtain ⟨vo, po, lo⟩ := ho
  obtain ⟨va, pa, la⟩ := ha
  refine ⟨_, pe_bm F.plainAttrs_list slot hty hm po pa hbase hfew hline hs hplain, fun Z F M σd σ H Q E Qv S R h P PX => ?_⟩
  refine lo Z F M σd σ H _ E _ S R h (fun x H1 F1 M1 d e1 S1 r1 q1 => ?_) PX
  obtain ⟨⟨l, xs, rfl, hl1⟩, q1⟩ := q1
  obtain ⟨_, vs, g1, _, _⟩ := S1.own l _ hl1
  have ex := rp_ref.mp r1
  subst ex
  refine ⟨.inl ⟨rfl, vs, SqL.of g1⟩, ?_⟩
  refine la Z F1 M1 σd σ H1 _ E _ S1 (R.mono e1) q1 (fun ys H2 F2 M2 ds e2 S2 r2 q2 => ?_) (PX.mono e1)
  exact hl Z F2 M2 H2 _ _ ys ds Q Qv S2 (rp_ref.mpr rfl) r2 q2 (P.mono (e1.trans e2))
end
section
variable {K : PySem.W.Frag}
def rAppD : RmD := fun x ds M Q => match x with
  | .ref l => (match ds with
    | [d] => (match M l with
      | some (.lst xs) => xs.length < sizeLine ∧ Q .non (updM M l (.lst (xs ++ [d])))
      | _ => False)
    | _ => False)
  | _ => False
theorem lift_app : LiftM K rAppend rAppD := by
  intro Z F M H x d xs ds Q Qv S r rs h P
  unfold rAppD at h
  split at h
  · rename_i l
    split at h
    · rename_i dn
      split at h
      · rename_i ys em
        obtain ⟨v, rfl, r2⟩ := rps1 rs
        obtain ⟨_, vs, h1, h2, h3⟩ := S.own l _ em
        have hz : vs.length < sizeLine := by rw [← h3.len]; exact h.1
        refine ⟨l, vs, v, rp_ref.mp r, rfl, h1, hz, P _ _ F _ _ (Same.refl F) (S.put (m' := .lst (ys ++ [dn])) em ⟨vs ++ [v], upd_same, by rw [List.length_append, List.length_singleton]; omega, h3.append (Rps.cons r2 Rps.nil)⟩) (rp_non.mpr rfl) h.2⟩
      · exact h.elim
    · exact h.elim
  · exact h.elim
def rExtD : RmD := fun x ds M Q => match x with
  | .ref l => (match ds with
    | [d] => (match M l with
      | some (.lst xs) => (match viewL M d with
        | some ys => xs.length + ys.length ≤ sizeLine ∧ Q .non (updM M l (.lst (xs ++ ys)))
        | none => False)
      | _ => False)
    | _ => False)
  | _ => False
theorem lift_ext : LiftM K rExtend rExtD := by
  intro Z F M H x d xs ds Q Qv S r rs h P
  unfold rExtD at h
  split at h
  · rename_i l
    split at h
    · rename_i dn
      split at h
      · rename_i ys em
        split at h
        · rename_i zs ev
          obtain ⟨v, rfl, r2⟩ := rps1 rs
          obtain ⟨_, vs, h1, h2, h3⟩ := S.own l _ em
          obtain ⟨b, ws, rfl, g1, g2, g3⟩ := viewL_ok S r2 ev
          have hz : vs.length + ws.length ≤ sizeLine := by rw [← h3.len, ← g3.len]; exact h.1
          refine ⟨l, b, vs, ws, rp_ref.mp r, rfl, h1, g1, hz, P _ _ F _ _ (Same.refl F) (S.put (m' := .lst (ys ++ zs)) em ⟨vs ++ ws, upd_same, by rw [List.length_append]; exact hz, h3.append g3⟩) (rp_non.mpr rfl) h.2⟩
        · exact h.elim
      · exact h.elim
    · exact h.elim
  · exact h.elim
def rPopAtD : RmD := fun x ds M Q => match x with
  | .ref l => (match ds with
    | [.int i] => (match M l with
      | some (.lst xs) => (0 ≤ i ∧ i < xs.length) ∧ (match xs[i.toNat]? with
        | some d => Q d (updM M l (.lst (xs.eraseIdx i.toNat)))
        | none => False)
      | _ => False)
    | _ => False)
  | _ => False
theorem lift_popAt : LiftM K rPopAt rPopAtD := by
  intro Z F M H x d xs ds Q Qv S r rs h P
  unfold rPopAtD at h
  split at h
  · rename_i l
    split at h
    · rename_i i
      split at h
      · rename_i ys em
        obtain ⟨⟨i0, i1⟩, h⟩ := h
        split at h
        · rename_i dn ed
          obtain ⟨v, rfl, r2⟩ := rps1 rs
          obtain ⟨_, vs, h1, h2, h3⟩ := S.own l _ em
          obtain ⟨w, ew, rw'⟩ := h3.get ed
          have hlv := h3.len
          have hs : sizeLine = 16777216 := sizeLine_eq
          have hix : seqIndex? i vs.length = some i.toNat := by
            unfold seqIndex?
            first
              | (simp; omega)
              | (rw [if_neg (by omega), if_pos (by omega)])
              | (split <;> simp_all <;> omega)
          refine ⟨l, vs, i, i.toNat, w, rp_ref.mp r, by rw [rp_int.mp r2], h1, by omega, by omega, hix, ew, P _ _ F _ _ (Same.refl F) (S.put (m' := .lst (ys.eraseIdx i.toNat)) em ⟨vs.eraseIdx i.toNat, upd_same, Nat.le_trans (List.length_eraseIdx_le _ _) h2, h3.erase _⟩) rw' h⟩
        · exact h.elim
      · exact h.elim
    · exact h.elim
  · exact h.elim
end

/-! ## f'..' -/
def tFmtD (te : TD) : TD := fun σ M Q E => te σ M (fun d M1 => match d with
  | .str y => y.length ≤ sizeLine ∧ Q (.str y) M1
  | .int i => i.natAbs.log2 < 1920 ∧ Q (.str (toString i)) M1
  | _ => False) E
def tJsD : List TD → Str → SD → HD → (Str → HD → Prop) → XD → Prop
  | [], acc, _, M, Q, _ => Q acc M
  | t :: ts, acc, σ, M, Q, E => t σ M (fun x M1 => match x with
    | .str y => (acc ++ y).length ≤ sizeLine ∧ tJsD ts (acc ++ y) σ M1 Q E
    | _ => False) E
inductive DJ (X : Cx) (W : WX) : List Expr → List TD → Prop where
  | nil : DJ X W [] []
  | cons {e : Expr} {t : TD} {es : List Expr} {ts : List TD} (h : DE X W e t) (r : DJ X W es ts) : DJ X W (e :: es) (t :: ts)
section
variable {X : Cx} {W : WX} {e : Expr} {te : TD} {pos : Pos}
theorem de_fmt (he : DE X W e te) : DE X W (.FormattedValue e (-1) none pos) (tFmtD te) := by
  obtain ⟨ve, pe, le⟩ := he
  refine ⟨_, pe_fmt pe, fun Z F M σd σ H Q E Qv S R h P PX => ?_⟩
  refine le Z F M σd σ H _ E _ S R h (fun x H1 F1 M1 d e1 S1 r1 q1 => ?_) PX
  cases d with
  | str y => exact .inl ⟨y, rp_str.mp r1, q1.1, P _ H1 F1 M1 _ e1 S1 (rp_str.mpr rfl) q1.2⟩
  | int i => exact .inr ⟨i, rp_int.mp r1, q1.1, P _ H1 F1 M1 _ e1 S1 (rp_str.mpr rfl) q1.2⟩
  | _ => exact q1.elim
theorem dj_ex {es : List Expr} {ts : List TD} (h : DJ X W es ts) : ∃ vs : List TE, PJ X es vs ∧ ∀ acc Z F M σd σ H Q E (Qv : Str → Hp → Prop), Sim Z X.K F M H → RelS X.K F σd σ → tJsD ts acc σd M Q E →
    (∀ out H' F' M', Same F F' → Sim Z X.K F' M' H' → Q out M' → Qv out H') → PostX Z X.K W F σ E → tJs vs acc σ H Qv := by
  induction h with
  | nil => exact ⟨[], .nil, fun acc Z F M σd σ H Q E Qv S R h P PX => P acc H F M (Same.refl F) S h⟩
  | cons he hr ih =>
    obtain ⟨ve, pe, le⟩ := he
    obtain ⟨vs, pj, lj⟩ := ih
    refine ⟨ve :: vs, .cons pe pj, fun acc Z F M σd σ H Q E Qv S R h P PX => ?_⟩
    refine le Z F M σd σ H _ E _ S R h (fun x H1 F1 M1 d e1 S1 r1 q1 => ?_) PX
    cases d with
    | str y => exact ⟨y, rp_str.mp r1, q1.1, lj _ Z F1 M1 σd σ H1 Q E Qv S1 (R.mono e1) q1.2 (fun out H' F' M' e2 => P out H' F' M' (e1.trans e2)) (PX.mono e1)⟩
    | _ => exact q1.elim
theorem de_joined {v1 v2 : Expr} {rest : List Expr} {ts : List TD} (h : DJ X W (v1 :: v2 :: rest) ts) : DE X W (.JoinedStr (v1 :: v2 :: rest) pos) (fun σ M Q E => tJsD ts Str.empty σ M (fun out M1 => Q (.str out) M1) E) := by
  obtain ⟨vs, pj, lj⟩ := dj_ex h
  exact ⟨_, pe_joined pj, fun Z F M σd σ H Q E Qv S R h P PX => lj Str.empty Z F M σd σ H _ E _ S R h (fun out H' F' M' e S' q => P _ H' F' M' _ e S' (rp_str.mpr rfl) q) PX⟩
theorem de_joined1 (he : DE X W e te) : DE X W (.JoinedStr [e] pos) te := let ⟨_, p, l⟩ := he; ⟨_, pe_joined1 p, l⟩

/-! ## o.f = e -/
def tFldSet (K : PySem.W.Frag) (f : Str) (to te : TD) : TSD := fun D σ M => te σ M (fun x M1 => to σ M1 (fun o M2 => match o with
  | .ref a => (match M2 a with
    | some (.ins C ns xs) => FldOk K C f ∧ ns.length < 1000 ∧ D.nx σ (updM M2 a (.ins C (putD ns xs f x).1 (putD ns xs f x).2))
    | _ => False)
  | _ => False) D.ex) D.ex
theorem ds_fld {o : Expr} {to : TD} {f : Str} {pos' : Pos} (ho : DE X W o to) (he : DE X W e te) (hs : swapsWith e (some (.Attribute o f pos')) pos.line X.env = pure false := by rfl) : DS X W (.Assign [.Attribute o f pos'] e pos) (tFldSet X.K f to te) := by
  obtain ⟨vo, po, lo⟩ := ho
  obtain ⟨ve, pe, le⟩ := he
  refine ⟨_, ps_fld po pe hs, fun Z F M σd σ H D Dv S R h P => ?_⟩
  refine le Z F M σd σ H _ D.ex _ S R h (fun x H1 F1 M1 d e1 S1 r1 q1 => ?_) (P.ex σ)
  refine lo Z F1 M1 σd σ H1 _ D.ex _ S1 (R.mono e1) q1 (fun y H2 F2 M2 dy e2 S2 r2 q2 => ?_) ((P.ex σ).mono e1)
  split at q2
  · rename_i a
    split at q2
    · rename_i C ns xs em
      obtain ⟨_, dx, vs, h1, h2, h3⟩ := S2.own a _ em
      obtain ⟨ws, g1, g2, g3⟩ := putD_rps (f := f) (r1.mono e2) h2 h3
      refine ⟨a, C, dx, _, rp_ref.mp r2, h1, q2.1.1, q2.1.2, ?_, ?_⟩
      · rw [List.length_zip, ← h2, Nat.min_self]
        exact q2.2.1
      · exact P.nx σd σ _ F2 _ (e1.trans e2) (S2.put (m' := .ins C (putD ns xs f d).1 (putD ns xs f d).2) em ⟨dx, ws, by rw [upd_same, g1], g2, g3⟩) (R.mono (e1.trans e2)) q2.2.2
    · exact q2.elim
  · exact q2.elim

/-! ## a, b = a list -/
def gLstD (n : Nat) (t : TGsD) : TGD := fun d σ M N E => match viewQ M d with
  | some xs => xs.length = n ∧ t xs σ M N E
  | none => False
theorem dg_lst {es : List Expr} {k : Nat} {is : List Nat} {t : TGsD} {n : Nat} (hc : X.calm = true) (h : DGs X W es is t)
    (hn : (assignEach es X.env).length = n := by rfl) (hst : (assignEach es X.env).findIdx? (·.1) = none := by rfl) : DG X W (.Tuple es k pos) is (gLstD n t) := by
  obtain ⟨v1, p1, l1⟩ := h
  refine ⟨_, pg_lst hc p1 hn hst, fun Z F M σd σ H d v N E Nv S R rd h P PX => ?_⟩
  unfold gLstD at h
  split at h
  · rename_i xs ev
    obtain ⟨a, vs, e1, e2, e3, e4⟩ := viewQ_ok S rd ev
    exact ⟨a, vs, e1, e2, by rw [← e4.len]; exact h.1, l1 Z F M σd σ H xs vs N E Nv S R e4 h.2 P PX⟩
  · exact h.elim
end
end DL

/-! ### DL10 -/
set_option Elab.async false
set_option linter.all false
set_option maxRecDepth 100000
set_option maxHeartbeats 4000000
namespace DL
open PySem L2 PyProof.Rows

/-! ## dicts -/
def getK : List Key → List D → Key → Option D
  | k' :: ks, x :: xs, k => if k' = k then some x else getK ks xs k
  | _, _, _ => none
def updK (ks : List Key) (xs : List D) (k : Key) (d : D) : List D := List.zipWith (fun k' x => if k' = k then d else x) ks xs
def hasK (ks : List Key) (k : Key) : Bool := ks.any fun k' => decide (k' = k)
def putDk (ks : List Key) (xs : List D) (k : Key) (d : D) : List Key × List D := if hasK ks k = true then (ks, updK ks xs k d) else (ks ++ [k], xs ++ [d])
def keyD : D → Option Key
  | .int i => some (.inl i)
  | .str s => some (.inr s)
  | _ => none
section
variable {K : PySem.W.Frag} {F : Hp}
theorem keyD_ok {d : D} {k : Key} {v : V} (h : keyD d = some k) (r : Rp K F d v) : v = kV k := by
  cases d with
  | int i => cases h; exact rp_int.mp r
  | str s => cases h; exact rp_str.mp r
  | _ => cases h
theorem getK_rps {k : Key} : ∀ {ks : List Key} {ds : List D} {vs : List V}, Rps K F ds vs → match getK ks ds k with
    | some d => ∃ v, valV (ks.zip vs) k = some v ∧ Rp K F d v
    | none => valV (ks.zip vs) k = none
  | [], ds, vs, r => by simp [getK, valV]
  | k' :: ks, [], vs, r => by rw [r.nil_inv]; simp [getK, valV]
  | k' :: ks, d :: ds, vs, r => by
    obtain ⟨v, vr, rfl, r1, r2⟩ := r.cons_inv
    rw [List.zip_cons_cons]
    by_cases e : k' = k
    · simp only [getK, if_pos e]
      exact ⟨v, valV_pos (p := (k', v)) e, r1⟩
    · simp only [getK, if_neg e]
      have := getK_rps (k := k) (ks := ks) r2
      revert this
      cases getK ks ds k with
      | some d' => exact fun ⟨w, h1, h2⟩ => ⟨w, by rw [valV_neg (p := (k', v)) e]; exact h1, h2⟩
      | none => exact fun h => by rw [valV_neg (p := (k', v)) e]; exact h
theorem any_keys {k : Key} : ∀ {ks : List Key} {vs : List V}, ks.length = vs.length → ((ks.zip vs).any fun kv => decide (kv.1 = k)) = hasK ks k
  | [], vs, _ => rfl
  | k' :: ks, [], h => by simp at h
  | k' :: ks, v :: vs, h => by
    rw [List.zip_cons_cons, List.any_cons, any_keys (by simpa using h)]
    rfl
theorem map_zip {k : Key} {v : V} : ∀ {ks : List Key} {vs : List V}, (ks.zip vs).map (fun kv => if kv.1 = k then (kv.1, v) else kv) = ks.zip (List.zipWith (fun k' x => if k' = k then v else x) ks vs)
  | [], vs => by simp
  | k' :: ks, [] => by simp
  | k' :: ks, w :: vs => by
    rw [List.zip_cons_cons, List.map_cons, List.zipWith_cons_cons, List.zip_cons_cons, map_zip]
    by_cases e : k' = k
    · simp [e]
    · simp [e]
theorem rps_updK {k : Key} {d : D} {v : V} (hv : Rp K F d v) : ∀ {ks : List Key} {ds : List D} {vs : List V}, Rps K F ds vs → Rps K F (updK ks ds k d) (List.zipWith (fun k' x => if k' = k then v else x) ks vs)
  | [], ds, vs, r => by simp only [updK, List.zipWith_nil_left]; exact Rps.nil
  | k' :: ks, [], vs, r => by rw [r.nil_inv]; simp only [updK, List.zipWith_nil_right]; exact Rps.nil
  | k' :: ks, d' :: ds, vs, r => by
    obtain ⟨w, vr, rfl, r1, r2⟩ := r.cons_inv
    have ih := rps_updK (k := k) hv (ks := ks) r2
    simp only [updK, List.zipWith_cons_cons] at ih ⊢
    by_cases e : k' = k
    · rw [if_pos e, if_pos e]; exact Rps.cons hv ih
    · rw [if_neg e, if_neg e]; exact Rps.cons r1 ih
theorem putDk_rps {ks : List Key} {ds : List D} {vs : List V} {k : Key} {d : D} {v : V} (hl : ks.length = vs.length) (r : Rps K F ds vs) (hv : Rp K F d v) :
    ∃ ws, putK (ks.zip vs) k v = (putDk ks ds k d).1.zip ws ∧ (putDk ks ds k d).1.length = ws.length ∧ Rps K F (putDk ks ds k d).2 ws := by
  unfold putK putDk
  rw [any_keys hl]
  by_cases e : hasK ks k = true
  · rw [if_pos e, if_pos e]
    refine ⟨_, map_zip, ?_, rps_updK hv r⟩
    rw [List.length_zipWith, ← hl, Nat.min_self]
  · rw [if_neg e, if_neg e]
    refine ⟨vs ++ [v], ?_, by rw [List.length_append, List.length_append, hl]; rfl, r.append (Rps.cons hv Rps.nil)⟩
    rw [List.zip_append hl]
    rfl
theorem len_putDk {ks : List Key} {ds : List D} {k : Key} {d : D} : (putDk ks ds k d).1.length ≤ ks.length + 1 := by
  unfold putDk
  split
  · simp
  · simp
end
/-- {} -/
def tDNewD : TD := fun _ M Q _ => ∀ a, M a = none → Q (.ref a) (updM M a (.dct [] []))
/-- x[k] of a dict -/
def rIxKD : R2D := fun x y M Q => match viewDc M x with
  | some (ks, xs) => (match keyD y with
    | some k => (match getK ks xs k with
      | some d => Q d M
      | none => False)
    | none => False)
  | none => False
def rIxKV : R2 := fun x y H Q => ∃ a v, x = .ref a ∧ DGet H a y (some v) ∧ Q v H
/-- k in d -/
def rInKD (f : Bool → Bool) : R2D := fun x y M Q => match viewDc M y with
  | some (ks, xs) => (match keyD x with
    | some k => Q (.bl (f (getK ks xs k).isSome)) M
    | none => False)
  | none => False
def rInKV (f : Bool → Bool) : R2 := fun x y H Q => ∃ a o, y = .ref a ∧ DGet H a x o ∧ Q (.bl (f o.isSome)) H
section
variable {X : Cx} {W : WX} {a b : Expr} {ta tb : TD} {pos : Pos}
theorem de_dnew : DE X W (.Dict [] [] pos) tDNewD := by
  refine ⟨_, pe_dnewK, fun Z F M σd σ H Q E Qv S R h P PX p hp => ?_⟩
  exact P _ _ F _ _ (Same.refl F) (S.new (m := .dct [] []) hp ⟨[], upd_same, rfl, Rps.nil⟩) (rp_ref.mpr rfl) (h p (S.freshM hp))
theorem ix_dct (hu : X.A.units + 1 < cLine) : IxR X rIxKV := by
  rintro value slice pins s σ H x y v u Q I rx ry ⟨d, z, rfl, hg, hq⟩ hs
  obtain rfl : v = Value.ref d := rx
  have ty := dict_typeIs I hg
  have gi : wpAny (model X.prog X.w) X.A (getItem (.ref d) u) (EP X pins σ Q) X.xe s := d_getItem hu I hg ry fun w' s' J rw' => ⟨z, H, J, rw', hq⟩
  unfold subscriptTail
  refine wpAny_bind ?_
  rw [getitemInPython_of_ne ty.not_modules]
  refine wpAny_bind (wpAny_specialOf ty PySem.F.slot_dict_getitem.lookup ?_)
  have tail : wpAny (model X.prog X.w) X.A (subscripted slice false (.ref d) u) (fun r s₃ => wpAny (model X.prog X.w) X.A (letTemporaryGo value (.ref d) r >>= fun _ => pure r) (EP X pins σ Q) X.xe s₃) X.xe s := by
    rw [hs]
    exact wpAny_operating (wpAny_mono gi (fun r s' hr => wpAny_bind (wpAny_letTemporaryGo (wpAny_pure hr))) fun _ _ z => z)
  first
    | exact wpAny_pure (wpAny_bind tail)
    | exact wpAny_bind (wpAny_pure (wpAny_bind tail))
    | exact wpAny_bind tail
theorem op_inK (hu : X.A.units + 1 < cLine) : OpR X (compareOp .In) (rInKV fun z => z) := by
  rintro pins s σ H x y v u Q I rx ry ⟨d, o, rfl, hg, hq⟩
  obtain rfl : u = Value.ref d := ry
  exact d_in hu I hg rx fun s' J => ⟨.bl o.isSome, H, J, rfl, hq⟩
theorem op_notK (hu : X.A.units + 1 < cLine) : OpR X (compareOp .NotIn) (rInKV fun z => !z) := by
  rintro pins s σ H x y v u Q I rx ry ⟨d, o, rfl, hg, hq⟩
  obtain rfl : u = Value.ref d := ry
  exact d_notIn hu I hg rx fun s' J => ⟨.bl (!o.isSome), H, J, rfl, hq⟩
def rPutV : TSet := fun o i v H N => ∃ a H', o = .ref a ∧ DPut H a i v H' ∧ N H'
theorem set_dct (hu : X.A.units + 1 < cLine) : PSet X rPutV := by
  rintro pins s σ H o i v ov iv u Q I ro ri rv ⟨d, H', rfl, hp, hq⟩
  obtain rfl : ov = Value.ref d := ro
  exact d_setItem hu I hp ri rv fun s' J => ⟨H', J, hq⟩
theorem lift_ixK {K : PySem.W.Frag} : LiftR2 K rIxKV rIxKD := by
  intro Z F M H x y dx dy Q Qv S rx ry h P
  unfold rIxKD at h
  split at h
  · rename_i ks xs ev
    split at h
    · rename_i k ek
      obtain ⟨d, vs, rfl, h1, h2, h3⟩ := viewDc_ok S rx ev
      have := getK_rps (k := k) (ks := ks) h3
      split at h
      · rename_i dd ed
        rw [ed] at this
        obtain ⟨v, e1, r1⟩ := this
        exact ⟨d, v, rfl, .inl ⟨_, k, .inl h1, keyD_ok ek ry, e1.symm⟩, P v H F M dd (Same.refl F) S r1 h⟩
      · exact h.elim
    · exact h.elim
  · exact h.elim
theorem lift_inK {K : PySem.W.Frag} {f : Bool → Bool} : LiftR2 K (rInKV f) (rInKD f) := by
  intro Z F M H x y dx dy Q Qv S rx ry h P
  unfold rInKD at h
  split at h
  · rename_i ks xs ev
    split at h
    · rename_i k ek
      obtain ⟨d, vs, rfl, h1, h2, h3⟩ := viewDc_ok S ry ev
      have := getK_rps (k := k) (ks := ks) h3
      refine ⟨d, _, rfl, .inl ⟨_, k, .inl h1, keyD_ok ek rx, rfl⟩, ?_⟩
      have es : (valV (ks.zip vs) k).isSome = (getK ks xs k).isSome := by
        revert this
        cases getK ks xs k with
        | some dd => exact fun ⟨v, e1, _⟩ => by rw [e1]; rfl
        | none => exact fun e1 => by rw [e1]; rfl
      rw [es]
      exact P _ H F M _ (Same.refl F) S (rp_bl.mpr rfl) h
    · exact h.elim
  · exact h.elim
/-- l[i] = v of a list; d[k] = v of a dict -/
def rPutD : TSetD := fun o i v M N => match o with
  | .ref l => (match M l with
    | some (.lst xs) => (match i with
      | .int k => (match ixN xs.length k with
        | some j => N (updM M l (.lst (xs.set j v)))
        | none => False)
      | _ => False)
    | some (.dct ks xs) => (match keyD i with
      | some k => ks.length < sizeLine ∧ N (updM M l (.dct (putDk ks xs k v).1 (putDk ks xs k v).2))
      | none => False)
    | _ => False)
  | _ => False
theorem set_or {t t' : TSet} (h : PSet X t) (h' : PSet X t') : PSet X (fun o i v H N => t o i v H N ∨ t' o i v H N) := by
  intro pins s σ H o i v ov iv u Q I ro ri rv q
  rcases q with q | q
  · exact h pins s σ H o i v ov iv u Q I ro ri rv q
  · exact h' pins s σ H o i v ov iv u Q I ro ri rv q
theorem lift_put {K : PySem.W.Frag} : LiftSet K (fun o i v H N => rSetL o i v H N ∨ rPutV o i v H N) rPutD := by
  intro Z F M H o i v od idd vd N Nv S ro ri rv h P
  unfold rPutD at h
  split at h
  · rename_i l
    split at h
    · rename_i xs em
      split at h
      · rename_i k
        split at h
        · rename_i j ej
          obtain ⟨_, vs, h1, h2, h3⟩ := S.own l _ em
          exact .inl ⟨l, vs, k, j, rp_ref.mp ro, rp_int.mp ri, h1, by rw [← h3.len]; exact ej, P _ _ (S.put (m' := .lst (xs.set j vd)) em ⟨vs.set j v, upd_same, by rw [List.length_set]; exact h2, Rps.set rv j h3⟩) h⟩
        · exact h.elim
      · exact h.elim
    · rename_i ks xs em
      split at h
      · rename_i k ek
        obtain ⟨_, vs, h1, h2, h3⟩ := S.own l _ em
        obtain ⟨ws, g1, g2, g3⟩ := putDk_rps (k := k) h2 h3 rv
        refine .inr ⟨l, _, rp_ref.mp ro, .inl ⟨_, k, h1, keyD_ok ek ri, ?_, rfl⟩, P _ _ (S.put (m' := .dct (putDk ks xs k vd).1 (putDk ks xs k vd).2) em ⟨ws, by rw [upd_same, g1], g2, g3⟩) h.2⟩
        rw [List.length_zip, ← h2, Nat.min_self]
        exact h.1
      · exact h.elim
    · exact h.elim
  · exact h.elim
theorem dg_put {tg o i : Expr} {to ti : TD} (hu : X.A.units + 1 < cLine) (ho : DE X W o to) (hi : DE X W i ti)
    (ha : ∀ v, assign (.Subscript o i pos) X.env v = (do
      let ov ← holding [v] (eval o X.env)
      let iv ← holding [v, ov] (eval i X.env)
      standAt pos
      holding [v, ov, iv] (setItem ov iv v)
      release [v, ov, iv] []) := by intro _; rfl) : DG X W (.Subscript o i pos) [] (gSubD to ti rPutD) := dg_sub ho hi (set_or set_list (set_dct hu)) lift_put ha

/-! ## any subscript by a value: tuple, list, text, dict -/
def rIxAD : R2D := fun x y M Q => match x with
  | .str z => rIxSD (.str z) y M Q
  | .dct ks xs => rIxKD (.dct ks xs) y M Q
  | .ref a => (match M a with
    | some (.dct _ _) => rIxKD (.ref a) y M Q
    | _ => rIxD (.ref a) y M Q)
  | x => rIxD x y M Q
theorem lift_ixA {K : PySem.W.Frag} : LiftR2 K (fun x y H Q => (rIxL K x y H Q ∨ rIxT K x y H Q) ∨ (rIxS x y H Q ∨ rIxKV x y H Q)) rIxAD := by
  intro Z F M H x y dx dy Q Qv S rx ry h P
  have seq : rIxD dx dy M Q → _ := fun h => lift_ix Z F M H x y dx dy Q Qv S rx ry h P
  have key : rIxKD dx dy M Q → _ := fun h => lift_ixK Z F M H x y dx dy Q Qv S rx ry h P
  have txt : rIxSD dx dy M Q → _ := fun h => lift_ixS Z F M H x y dx dy Q Qv S rx ry h P
  cases dx with
  | str z => exact .inr (.inl (txt h))
  | dct ks xs => exact .inr (.inr (key h))
  | ref l =>
    dsimp only [rIxAD] at h
    split at h
    · exact .inr (.inr (key h))
    · exact .inl (seq h)
  | _ => exact .inl (seq h)
theorem de_ixA (hu : X.A.units + 1 < cLine) (ha : DE X W a ta) (hb : DE X W b tb) (hs : PlainIx b := by exact fun _ _ => rfl) : DE X W (.Subscript a b pos) (tOpD rIxAD ta tb) := by
  obtain ⟨va, pa, la⟩ := ha
  obtain ⟨vb, pb, lb⟩ := hb
  exact ⟨_, pe_ix ((ix_list.or ix_tup).or (ix_str.or (ix_dct hu))) pa pb hs, lift_op lift_ixA la lb⟩
/-- x in y: a sign in a text, a key in a dict -/
def rInAD : R2D := fun x y M Q => match y with
  | .str z => rInCD x (.str z) M Q
  | y => rInKD (fun z => z) x y M Q
theorem lift_inA {K : PySem.W.Frag} : LiftR2 K (fun x y H Q => (∃ (c : Nat) (z : Str), x = .str ⟨#[c]⟩ ∧ y = .str z ∧ Q (.bl (decide (c ∈ z.cps.toList))) H) ∨ rInKV (fun z => z) x y H Q) rInAD := by
  intro Z F M H x y dx dy Q Qv S rx ry h P
  have key : rInKD (fun z => z) dx dy M Q → _ := fun h => lift_inK Z F M H x y dx dy Q Qv S rx ry h P
  have txt : rInCD dx dy M Q → _ := fun h => lift_inC Z F M H x y dx dy Q Qv S rx ry h P
  cases dy with
  | str z => exact .inl (txt h)
  | _ => exact .inr (key h)
theorem de_in (hu : X.A.units + 1 < cLine) (ha : DE X W a ta) (hb : DE X W b tb) (hm : behindInMarks .In b = false := by rfl) : DE X W (.Compare a [.In] [b] pos) (tOpD rInAD ta tb) := de_cmp (op_in_sign.or (op_inK hu)) lift_inA ha hb hm
theorem dt_in (hu : X.A.units + 1 < cLine) (ha : DE X W a ta) (hb : DE X W b tb) (hm : behindInMarks .In b = false := by rfl) : DT X W (.Compare a [.In] [b] pos) (tTestD (tOpD rInAD ta tb)) := dt_cmp (op_in_sign.or (op_inK hu)) lift_inA ha hb hm
theorem de_notin (hu : X.A.units + 1 < cLine) (ha : DE X W a ta) (hb : DE X W b tb) (hm : behindInMarks .NotIn b = false := by rfl) : DE X W (.Compare a [.NotIn] [b] pos) (tOpD (rInKD fun z => !z) ta tb) := de_cmp (op_notK hu) lift_inK ha hb hm
theorem dt_notin (hu : X.A.units + 1 < cLine) (ha : DE X W a ta) (hb : DE X W b tb) (hm : behindInMarks .NotIn b = false := by rfl) : DT X W (.Compare a [.NotIn] [b] pos) (tTestD (tOpD (rInKD fun z => !z) ta tb)) := dt_cmp (op_notK hu) lift_inK ha hb hm
end

/-! ## dict comprehensions: the new dict does not change -/
def dcD (g : TGD) (tt : TTD) (tk tv : TD) (vs : List Nat) (σ : SD) (Q : List Key → List D → HD → Prop) : List D → List Key → List D → HD → Prop
  | [], ks, xs, M => Q ks xs M
  | x :: r, ks, xs, M => g x (wipeD σ vs) M (fun σ2 M2 => tt σ2 M2 (fun b M3 => match b with
    | true => tk σ2 M3 (fun y M4 => tv σ2 M4 (fun z M5 => match keyD y with
      | some k => dcD g tt tk tv vs σ Q r (putDk ks xs k z).1 (putDk ks xs k z).2 M5
      | none => False) X0) X0
    | false => dcD g tt tk tv vs σ Q r ks xs M3) X0) X0
def tDcD (ti : TID) (g : TGD) (tt : TTD) (tk tv : TD) (vs : List Nat) : TD := fun σ M Q E => ti σ M (fun xs M1 => xs.length < sizeLine ∧ dcD g tt tk tv vs σ (fun ks ys M2 => Q (.dct ks ys) M2) xs [] [] M1) E
theorem fin_dct {K : PySem.W.Frag} : ∀ Z F M H L ks xs ys (Q : VKD) Qv, Sim Z K F M H → Z L = none → F L = none → M L = none → H L = some (.dK (ks.zip ys)) → ks.length = ys.length → Rps K F xs ys → Q (.dct ks xs) M → PostE Z K F Q Qv → Qv (.ref L) H := by
  intro Z F M H L ks xs ys Q Qv S zl fl ml hl hz r q P
  have eF : Same F (upd F L (.dK (ks.zip ys))) := same_upd fl
  refine P _ H (upd F L (.dK (ks.zip ys))) M _ eF ⟨fun a u e => ?_, fun a m e => ?_, fun a u e => ?_⟩ (rp_dct.mpr ⟨L, ys, rfl, upd_same, hz, r.mono eF⟩) q
  · by_cases ha : a = L
    · subst ha; rw [upd_same] at e; rw [← e]; exact hl
    · rw [upd_ne ha] at e; exact S.sub a u e
  · have ha : a ≠ L := fun q => by subst q; rw [ml] at e; cases e
    exact ⟨by rw [upd_ne ha]; exact (S.own a m e).1, (S.own a m e).2.go eF fun _ z => z⟩
  · have ha : a ≠ L := fun q => by subst q; rw [zl] at e; cases e
    rw [upd_ne ha]; exact S.res a u e
theorem lift_dc {K : PySem.W.Frag} {W : WX} {vi : TI} {ti : TID} {is vs : List Nat} {g : TGD} {tt : TTD} {tk tv : TD} (li : LiftI K W vi ti) (hsub : ∀ i ∈ is, i ∈ vs) :
    LiftE K W (tDc vi (canonG K W0 is g) (canonT K W0 tt) (canonE K W0 tk) (canonE K W0 tv) vs) (tDcD ti g tt tk tv vs) := by
  intro Z F M σd σ H Q E Qv S R h P PX
  refine li Z F M σd σ H _ E _ S R h (fun J H1 F1 M1 xs e1 S1 hz IR q1 => ?_) PX
  obtain ⟨hzz, q1⟩ := q1
  intro L hL
  have S1' : Sim Z K F1 M1 (upd H1 L (.dK [])) := S1.more (same_upd hL)
  have l0 : F1 L = none := S1.freshF hL
  have m0 : M1 L = none := S1.freshM hL
  have z0 : Z L = none := by
    cases e : Z L with
    | none => rfl
    | some o => rw [(S1.res L o e).1] at hL; cases hL
  refine ⟨fun i m H2 => m = xs.length - i ∧ i ≤ xs.length ∧ ∃ F2 M2 ks acc ys, Same F1 F2 ∧ Sim Z K F2 M2 H2 ∧ F2 L = none ∧ M2 L = none ∧ H2 L = some (.dK (ks.zip ys)) ∧ ks.length = ys.length ∧ ks.length ≤ i ∧ Rps K F2 acc ys ∧ dcD g tt tk tv vs σd (fun ks ys M2 => Q (.dct ks ys) M2) (xs.drop i) ks acc M2,
    ⟨xs.length, by simp, Nat.zero_le _, F1, M1, [], [], [], Same.refl F1, S1', l0, m0, upd_same, rfl, Nat.le_refl _, Rps.nil, by rw [List.drop_zero]; exact q1⟩, ?_⟩
  rintro i m H2 ⟨rfl, hle, F2, M2, ks, acc, ys, e2, S2, f2, m2, h2, kl, ki, r2, q2⟩
  by_cases hlt : i < xs.length
  · have hi : xs[i]? = some xs[i] := by simp [hlt]
    refine .inr ⟨IR.go Z F2 M2 H2 i xs[i] e2 S2 hi, ?_⟩
    refine ⟨fun H3 => ∃ F3 M3 ks acc ys, Same F1 F3 ∧ Sim Z K F3 M3 H3 ∧ F3 L = none ∧ M3 L = none ∧ H3 L = some (.dK (ks.zip ys)) ∧ ks.length = ys.length ∧ ks.length ≤ i + 1 ∧ Rps K F3 acc ys ∧ dcD g tt tk tv vs σd (fun ks ys M2 => Q (.dct ks ys) M2) (xs.drop (i + 1)) ks acc M3, fun H3 h3 => ⟨xs.length - (i + 1), by omega, rfl, hlt, h3⟩, fun v H3 y => ?_⟩
    rw [List.drop_eq_getElem_cons hlt] at q2
    have S2' := S2.aside h2 f2 m2
    obtain ⟨F3, e3, S3, r3⟩ := IR.yld _ F2 M2 H2 i xs[i] v H3 e2 S2' hi y
    have e13 := e1.trans (e2.trans e3)
    refine ⟨_, F3, M2, wipeD σd vs, xs[i], _, X0, S3, (R.wipe vs).mono e13, r3, q2, fun σd4 σ4 H4 F4 M4 e4 S4 R4 hl4 hj4 q4 => ?_, fun _ => postX0⟩
    refine ⟨(wipe_same hl4 hsub hj4).trans wipe_wipe, ?_⟩
    refine ⟨_, F4, M4, σd4, _, X0, S4, R4, q4, fun b H5 F5 M5 e5 S5 q5 => ?_, postX0⟩
    cases b with
    | true =>
      rw [if_pos rfl]
      refine ⟨_, F5, M5, σd4, _, X0, S5, R4.mono e5, q5, fun w H6 F6 M6 d e6 S6 r6 q6 => ?_, postX0⟩
      refine ⟨_, F6, M6, σd4, _, X0, S6, R4.mono (e5.trans e6), q6, fun u H7 F7 M7 du e7 S7 r7 q7 => ?_, postX0⟩
      split at q7
      · rename_i k ek
        have e27 := (((e3.trans e4).trans e5).trans e6).trans e7
        obtain ⟨ws, g1, g2, g3⟩ := putDk_rps (k := k) kl (r2.mono e27) r7
        obtain ⟨S8, f8, m8, h8⟩ := S7.back (u := .dK (putK (ks.zip ys) k u)) z0
        refine ⟨ks.zip ys, k, keyD_ok ek (r6.mono e7), h8, by rw [List.length_zip, ← kl, Nat.min_self]; omega, F7, M7, _, _, ws, e2.trans e27, S8, f8, m8, by rw [upd_same, g1], g2, ?_, g3, q7⟩
        have := len_putDk (ks := ks) (ds := acc) (k := k) (d := du)
        omega
      · exact q7.elim
    | false =>
      rw [if_neg Bool.false_ne_true]
      obtain ⟨S7, f7, m7, h7⟩ := S5.back (u := .dK (ks.zip ys)) z0
      have hH : upd H5 L (.dK (ks.zip ys)) = H5 := by
        funext a
        by_cases ha : a = L
        · subst ha; rw [upd_same, h7]
        · rw [upd_ne ha]
      rw [hH] at S7
      have e25 := (e3.trans e4).trans e5
      exact ⟨F5, M5, ks, acc, ys, e2.trans e25, S7, f7, m7, h7, kl, by omega, r2.mono e25, q5⟩
  · have e : i = xs.length := by omega
    subst e
    rw [List.drop_length] at q2
    exact .inl ⟨IR.stop Z F2 M2 H2 e2 S2, fin_dct Z F2 M2 H2 L ks acc ys Q Qv S2 z0 f2 m2 h2 kl r2 q2 (P.mono (e1.trans e2))⟩
section
variable {X : Cx} {W : WX} {kx vx elt tg iter : Expr} {ifs : List Expr} {scope : Scope} {own : List (Str × Nat)} {is : List Nat} {ti : TID} {g : TGD} {tt : TTD} {tk tv te : TD} {pos : Pos}
theorem de_dc (hc : X.calm = true) (hN : X.N.Nodup) (hi : DI X W tg iter ti) (ok : BlkOk X.N X.env.scope scope own)
    (hg : ∀ (s : Shared) (H : Hp) (C : Addr) (cl : List (Str × Addr)) (fp : List Addr), DG (X.blk s H scope (compEnvC scope cl C X.env) fp) W0 tg is g) (ht : ∀ (s : Shared) (H : Hp) (C : Addr) (cl : List (Str × Addr)) (fp : List Addr), DTs (X.blk s H scope (compEnvC scope cl C X.env) fp) W0 ifs tt)
    (hk : ∀ (s : Shared) (H : Hp) (C : Addr) (cl : List (Str × Addr)) (fp : List Addr), DE (X.blk s H scope (compEnvC scope cl C X.env) fp) W0 kx tk) (he : ∀ (s : Shared) (H : Hp) (C : Addr) (cl : List (Str × Addr)) (fp : List Addr), DE (X.blk s H scope (compEnvC scope cl C X.env) fp) W0 vx tv)
    (hsub : ∀ i ∈ is, i ∈ own.map (·.2)) (hs : ∀ x, foldedSetIterable iter X.env x = pure x := by intro _; rfl) : DE X W (.DictComp kx vx [⟨tg, iter, ifs, 0⟩] scope pos) (tDcD ti g tt tk tv (own.map (·.2))) := by
  obtain ⟨vi, pi, li⟩ := hi
  exact ⟨_, pe_dc (g := canonG X.K W0 is g) (tt := canonT X.K W0 tt) (tk := canonE X.K W0 tk) (tv := canonE X.K W0 tv) hc hN pi ok (fun s H C cl fp => (hg s H C cl fp).canon) (fun s H C cl fp => (ht s H C cl fp).canon) (fun s H C cl fp => (hk s H C cl fp).canon) (fun s H C cl fp => (he s H C cl fp).canon) hs, lift_dc li hsub⟩
end
end DL

/-! ### DL11 -/
set_option Elab.async false
set_option linter.all false
set_option maxRecDepth 100000
set_option maxHeartbeats 4000000
namespace DL
open PySem L2 PyProof.Rows

/-! ## len({elt for target in iter}): how many different keys -/
section
variable {X : Cx}
def tSkV (P : Program) (w : World) (wi : TI) (g : TG) (te : TE) (vs : List Nat) : TE := fun σ H Q => wi σ H fun J H1 => ∀ B, H1 B = none → ∃ V : Nat → Nat → Hp → Prop, (∃ m, V 0 m (upd H1 B (SetK P w B (fun _ => false) 0))) ∧ ∀ i m H, V i m H →
  (J.stop i H ∧ ∃ S n, H B = some (SetK P w B S n) ∧ n < 2 ^ 60 ∧ Q (.int (n : Nat)) H) ∨ (J.go i H ∧ ∃ N : Hp → Prop, (∀ H', N H' → ∃ m', m' < m ∧ V (i + 1) m' H') ∧ ∀ x H', J.yld i H x H' → g x (wipe σ vs) H' fun σ2 H2 => wipe σ2 vs = wipe σ vs ∧ te σ2 H2 fun y H4 =>
    ∃ k S n, y = kV k ∧ H4 B = some (SetK P w B S n) ∧ n + 1 < scanBound ∧ N (upd H4 B (SetK P w B (fun j => S j || decide (j = k)) (if S k = true then n else n + 1))))
theorem addK_ok {pins : List (Addr × Obj)} {σ : L2.St} {H : Hp} {s : Shared} {E : Value → Shared → Prop} {B : Addr} {S : Key → Bool} {n : Nat} {k : Key} {u : Value} {Q : Value → Shared → Prop} (I : Inv X pins σ H s) (hB : H B = some (SetK X.prog X.w B S n)) (room : n + 1 < scanBound) (ru : RelV (kV k) u)
    (h : ∀ t, Inv X pins σ (upd H B (SetK X.prog X.w B (fun j => S j || decide (j = k)) (if S k = true then n else n + 1))) t → Q .none t) : wpAny (model X.prog X.w) X.A (call (.builtin "set.add") [.ref B, u]) Q E s := by
  refine call_set_add (kV_is ru) (key_scan ru) (setK_get I hB) room fun h' sb new => h _ ?_
  have there : ∃ o, h'.get? B = some o := let ⟨o, _, _, _, ho, _⟩ := new; ⟨o, ho⟩
  exact I.write (e := B) (t' := s.toks + 1) (by rw [hB]; exact True.intro) (.inl rfl) (fun b o hb ho => (sb.2 b hb).trans ho) there (setK_new new)
theorem sk_core {pins : List (Addr × Obj)} {s : Shared} {σ : L2.St} {H : Hp} {Q : VK} {elt tg iter : Expr} {scope : Scope} {own : List (Str × Nat)} {pos pos' : Pos} {wi : TI} {g : TG} {te : TE} {Qf : Value → Shared → Prop}
    (hc : X.calm = true) (hN : X.N.Nodup) (I : Inv X pins σ H s) (hi : PI X tg iter wi) (ok : BlkOk X.N X.env.scope scope own)
    (hg : ∀ (s : Shared) (H : Hp) (C : Addr) (cl : List (Str × Addr)) (fp : List Addr), PG (X.blk s H scope (compEnvC scope cl C X.env) fp) tg g)
    (he : ∀ (s : Shared) (H : Hp) (C : Addr) (cl : List (Str × Addr)) (fp : List Addr), PE (X.blk s H scope (compEnvC scope cl C X.env) fp) elt te) (hs : ∀ x, foldedSetIterable iter X.env x = pure x)
    (h : tSkV X.prog X.w wi g te (own.map (·.2)) σ H Q)
    (fin : ∀ B C t m H' S n, Inv X pins σ H' t → H' B = some (SetK X.prog X.w B S n) → n < 2 ^ 60 → Q (.int (n : Nat)) H' → t.heap.Ns C m → FpOk X pins H' C → compPost (model X.prog X.w) X.A X.xe none Qf (.ref B) C (.ok .next) t) :
    wpAny (model X.prog X.w) X.A (comprehension (.SetComp elt [⟨tg, iter, [], 0⟩] scope pos) scope X.env pos' (newSet (.type "set")) false (eval iter X.env) none) Qf X.xe s := by
  have cells : ∀ z ∈ scope.names, z.2 = .free → ∃ c, X.env.cells.lookup z.1 = some c := by
    intro z hz e
    rcases ok.free z hz e with k | k
    · exact I.ok.has _ (.inl k)
    · exact I.ok.has _ (.inr k)
  refine wpAny_comprehension_free (use := none) rfl hs (closure_ok cells) ok.kind (fun z hz e => by rw [ok.uniq z hz, e]) (thn (hi.run pins s σ H _ I h) fun xv s1 hx => thn hx fun itv s2 h2 => ?_)
  obtain ⟨it, fp, tn, J, H2, rfl, I2, T, st2, f2, q⟩ := h2
  refine PpSet.newSet_ok (newEnv_comp ?_)
  have dn : H2 s2.heap.objs.size = none := I2.hok.fresh (Nat.le_refl _)
  obtain ⟨V, ⟨m0, w0⟩, turn⟩ := q _ dn
  have blank : (s2.heap.push { cls := .type "set", dict := none, data := .set #[] 0 (.fresh 0 0 (!X.w.params.followText "set-order")) }).SetOf (mixKind X.prog X.w) s2.heap.objs.size (fun _ => false) 0 :=
    ⟨_, #[], 0, _, Heap.get?_push_size _ rfl, ⟨rfl, rfl, rfl⟩, rfl, (fun e he => by simp at he), (fun k => by simp), (by decide), (by rfl), rfl⟩
  have I3 : Inv X pins σ (upd H2 s2.heap.objs.size (SetK X.prog X.w s2.heap.objs.size (fun _ => false) 0)) { s2 with heap := s2.heap.push { cls := .type "set", dict := none, data := .set #[] 0 (.fresh 0 0 (!X.w.params.followText "set-order")) } } :=
    I2.laid (t' := s2.toks) (fun b o e => Heap.get?_push_of_some _ e) (Nat.le_refl _) (setK_new blank)
  have old : ∀ b ∈ fp, b < s2.heap.objs.size := fun b hb => let ⟨_, e, _⟩ := T.obj _ _ st2 b hb; Heap.lt_size e
  have st3 := T.keep _ _ (s2.heap.push { cls := .type "set", dict := none, data := .set #[] 0 (.fresh 0 0 (!X.w.params.followText "set-order")) }) st2 fun b _ o e => Heap.get?_push_of_some _ e
  generalize hB : s2.heap.objs.size = B at *
  generalize hs3 : ({ s2 with heap := s2.heap.push { cls := .type "set", dict := none, data := .set #[] 0 (.fresh 0 0 (!X.w.params.followText "set-order")) } } : Shared) = s3 at *
  have hh3 : s2.heap.push { cls := .type "set", dict := none, data := .set #[] 0 (.fresh 0 0 (!X.w.params.followText "set-order")) } = s3.heap := by rw [← hs3]
  have sz3 : s3.heap.objs.size = B + 1 := by rw [← hh3, Heap.size_push, hB]
  rw [hh3] at st3
  generalize hH3 : upd H2 B (SetK X.prog X.w B (fun _ => false) 0) = H3 at *
  have f3 : ∀ b ∈ fp, FpOk X pins H3 b ∧ b < s3.heap.objs.size := by
    intro b hb
    have lt := old b hb
    obtain ⟨g0, grest⟩ := f2 b hb
    refine ⟨⟨?_, grest⟩, by rw [sz3]; exact Nat.lt_succ_of_lt lt⟩
    rw [← hH3, upd_ne (Nat.ne_of_lt lt)]
    exact g0
  have I4 := block_start I3 ok hN f3
  show codeAny _ _ (.compStart (.SetComp elt [⟨tg, iter, [], 0⟩] scope pos) 0 (.ref it) (.ref B) (compEnvC scope (cellsFrom (s3.heap.objs.size + 1) scope.names (cloFrom X.env.cells scope.names [])) s3.heap.objs.size X.env)) (compPost (model X.prog X.w) X.A X.xe none Qf (.ref B) s3.heap.objs.size) { s3 with heap := pushCells (s3.heap.push { cls := .type "dict", data := .dict #[] }) scope.names }
  have pg := hg s3 H3 s3.heap.objs.size (cellsFrom (s3.heap.objs.size + 1) scope.names (cloFrom X.env.cells scope.names [])) fp
  have pe := he s3 H3 s3.heap.objs.size (cellsFrom (s3.heap.objs.size + 1) scope.names (cloFrom X.env.cells scope.names [])) fp
  have apart : ∀ b ∈ fp, H3 b = none := fun b hb => (f3 b hb).1.1
  generalize hce : compEnvC scope (cellsFrom (s3.heap.objs.size + 1) scope.names (cloFrom X.env.cells scope.names [])) s3.heap.objs.size X.env = ce at I4 pg pe ⊢
  have cL : ce.locals = s3.heap.objs.size := by rw [← hce]; rfl
  have st4 : tn 0 (pushCells (s3.heap.push { cls := .type "dict", data := .dict #[] }) scope.names) := T.keep _ _ _ st3 fun b _ o e => pushCells_keeps _ _ _ _ (Heap.get?_push_of_some _ e)
  generalize hs4 : ({ s3 with heap := pushCells (s3.heap.push { cls := .type "dict", data := .dict #[] }) scope.names } : Shared) = s4 at I4 ⊢
  have hh4 : pushCells (s3.heap.push { cls := .type "dict", data := .dict #[] }) scope.names = s4.heap := by rw [← hs4]
  rw [hh4] at st4
  have stays : ∀ {τ : L2.St} {H' : Hp} {t : Shared}, Inv (X.blk s3 H3 scope ce fp) [] τ H' t → (∀ b ∈ fp, H' b = none) → ∀ b ∈ fp, FpOk (X.blk s3 H3 scope ce fp) [] H' b := by
    intro τ H' t J hn b hb
    exact ⟨hn b hb, (J.ok.exf b hb).1, J.ok.exfs b hb, .inl hb, fun x c e => (J.ok.exf b hb).2 x c e, fun p hp => absurd (show p ∈ ([] : List (Addr × Obj)) ++ [] from hp) (by simp)⟩
  have loop : codeAny (model X.prog X.w) X.A (.compLoop (.SetComp elt [⟨tg, iter, [], 0⟩] scope pos) 0 (.ref it) (.ref B) ce) (compPost (model X.prog X.w) X.A X.xe none Qf (.ref B) s3.heap.objs.size) s4 := by
    refine PpSet.compLoopS_any (fun n t => ∃ i H', Inv (X.blk s3 H3 scope ce fp) [] (wipe σ (own.map (·.2))) H' t ∧ tn i t.heap ∧ (∀ b ∈ fp, H' b = none) ∧ V i n H') ?_ m0 ⟨0, H3, I4, st4, apart, w0⟩
    rintro n s5 ⟨i, H5, I5, st5, n5, w5⟩
    rcases turn i n H5 w5 with ⟨stop, S, nn, hS, hz, qq⟩ | ⟨go, N, hNx, step⟩
    · refine thnF (T.done (X.blk s3 H3 scope ce fp) rfl rfl rfl hc i [] s5 _ H5 (fun _ _ => False) I5 (stays I5 n5) st5 stop) fun r s6 ⟨hr, I6⟩ => ?_
      subst hr
      have I7 : Inv X pins σ H5 s6 := I3.call' (ch := fp) I6.os I6.base I6.hok I6.bare fun b hb => let z := (f3 b hb).1.2; ⟨z.2.2.1, z.1, z.2.2.2.1, z.2.2.2.2⟩
      have here : H5 ce.locals = none := I6.free
      obtain ⟨m, hn, _⟩ := I6.loc
      have hn' : s6.heap.Ns ce.locals m := hn
      rw [cL] at here hn'
      exact fin B s3.heap.objs.size s6 m H5 S nn I7 hS hz qq hn' (I3.fpOk (Nat.le_refl _) here)
    · refine thnF (T.item (X.blk s3 H3 scope ce fp) rfl rfl rfl hc i [] s5 _ H5 (fun _ _ => False) I5 (stays I5 n5) st5 go) fun r s6 ⟨u, hr, h6⟩ => ?_
      subst hr
      refine thnF h6 fun _ s7 ⟨x, H7, I7, r7, y7, st7, n7⟩ => ?_
      have P7 := I7.pinned (stays I7 n7) (T.obj _ _ st7)
      refine thnF (pg.run _ s7 _ H7 x u _ P7 r7 (step x H7 y7)) fun _ s8 ⟨σ8, H8, I8, hw8, q8⟩ => ?_
      refine wpAny_pure ?_
      rw [if_pos rfl]
      refine thnF (pe.run _ s8 σ8 H8 _ I8 q8) fun z s10 ⟨yv, H10, I10, r10, k, S, nn, ey, hB10, room, nx⟩ => ?_
      subst ey
      refine addK_ok (X := X.blk s3 H3 scope ce fp) I10 hB10 room r10 fun t It => ?_
      obtain ⟨m', hm, w'⟩ := hNx _ nx
      have pinned : ∀ b ∈ fp, ∀ o, s7.heap.get? b = some o → t.heap.get? b = some o ∧ (upd H10 B (SetK X.prog X.w B (fun j => S j || decide (j = k)) (if S k = true then nn else nn + 1))) b = none := by
        intro b hb o e
        have z := It.pin (b, o) (List.mem_append_right _ (List.mem_append_right _ (mem_pinsAt hb e)))
        exact ⟨z.1, z.2.1⟩
      refine ⟨m', hm, i + 1, _, (It.unpinned (pins := [])).weak (by rw [← hw8, wipe_length]) (fun j v e => ?_), T.keep _ _ _ st7 fun b hb o e => (pinned b hb o e).1, fun b hb => ?_, w'⟩
      · rw [← hw8] at e
        exact (wipe_some e).1
      · obtain ⟨o, e, _⟩ := T.obj _ _ st7 b hb
        exact (pinned b hb o e).2
  exact PpSet.codeAny_compStart_set loop (T.self X.A 0 _ _ _ st4 loop)
theorem pe_lenSk {elt tg iter : Expr} {scope : Scope} {own : List (Str × Nat)} {pos cpos p : Pos} {wi : TI} {g : TG} {te : TE} (hg0 : Gl X "len") (hm0 : X.mg "len" = none) (hc : X.calm = true) (hN : X.N.Nodup) (hi : PI X tg iter wi) (ok : BlkOk X.N X.env.scope scope own)
    (hg : ∀ (s : Shared) (H : Hp) (C : Addr) (cl : List (Str × Addr)) (fp : List Addr), PG (X.blk s H scope (compEnvC scope cl C X.env) fp) tg g)
    (he : ∀ (s : Shared) (H : Hp) (C : Addr) (cl : List (Str × Addr)) (fp : List Addr), PE (X.blk s H scope (compEnvC scope cl C X.env) fp) elt te) (hs : ∀ x, foldedSetIterable iter X.env x = pure x) :
    PE X (.Call (.Name "len" p) [.SetComp elt [⟨tg, iter, [], 0⟩] scope pos] [] cpos) (tSkV X.prog X.w wi g te (own.map (·.2))) := by
  constructor
  intro pins s σ H Q I h
  refine Call_ (ld_blt I hg0 hm0 boot_len (PyProof.Rows.callWith_builtin1 (PyProof.Rows.args_cons ?_ rfl) rfl rfl))
  rw [PpSet.eval_SetComp]
  refine sk_core hc hN I hi ok hg he hs h fun B C t m H' S n J hB hz q hn f => ⟨m, hn, fun h2 sb => PyProof.Rows.args_nil ?_⟩
  obtain ⟨f0, f1, f2, f3, f4, f5⟩ := f
  have J2 : Inv X pins σ H' { t with heap := h2 } := J.turned (t' := t.toks) (fun b o hb e => (sb.2 b hb).trans e) f0 f1 f3 f4 f5
  obtain ⟨o, es, ep, tb, ho, hex, hd, _, _, _, hf, hlen⟩ := setK_get J2 hB
  refine call_len_set ho hex hd hf (by rw [hlen] <;> omega) ⟨.int (n : Nat), H', J2.tok _, ⟨_, by rw [hlen]⟩, q⟩
end
def skD (g : TGD) (te : TD) (vs : List Nat) (σ : SD) (Q : List Key → HD → Prop) : List D → List Key → HD → Prop
  | [], ks, M => Q ks M
  | x :: r, ks, M => g x (wipeD σ vs) M (fun σ2 M2 => te σ2 M2 (fun y M4 => match keyD y with
    | some k => skD g te vs σ Q r (if hasK ks k = true then ks else ks ++ [k]) M4
    | none => False) X0) X0
def tLenSkD (ti : TID) (g : TGD) (te : TD) (vs : List Nat) : TD := fun σ M Q E => ti σ M (fun xs M1 => xs.length < 4000 ∧ skD g te vs σ (fun ks M2 => Q (.int (ks.length : Nat)) M2) xs [] M1) E
theorem lift_sk {K : PySem.W.Frag} {P' : Program} {w' : World} {W : WX} {vi : TI} {ti : TID} {is vs : List Nat} {g : TGD} {te : TD} (li : LiftI K W vi ti) (hsub : ∀ i ∈ is, i ∈ vs) :
    LiftE K W (tSkV P' w' vi (canonG K W0 is g) (canonE K W0 te) vs) (tLenSkD ti g te vs) := by
  intro Z F M σd σ H Q E Qv S R h P PX
  refine li Z F M σd σ H _ E _ S R h (fun J H1 F1 M1 xs e1 S1 hz IR q1 => ?_) PX
  obtain ⟨hzz, q1⟩ := q1
  intro L hL
  have S1' : Sim Z K F1 M1 (upd H1 L (SetK P' w' L (fun _ => false) 0)) := S1.more (same_upd hL)
  have l0 : F1 L = none := S1.freshF hL
  have m0 : M1 L = none := S1.freshM hL
  have z0 : Z L = none := by
    cases e : Z L with
    | none => rfl
    | some o => rw [(S1.res L o e).1] at hL; cases hL
  refine ⟨fun i m H2 => m = xs.length - i ∧ i ≤ xs.length ∧ ∃ F2 M2 ks, Same F1 F2 ∧ Sim Z K F2 M2 H2 ∧ F2 L = none ∧ M2 L = none ∧ H2 L = some (SetK P' w' L (hasK ks) ks.length) ∧ ks.length ≤ i ∧ skD g te vs σd (fun ks M2 => Q (.int (ks.length : Nat)) M2) (xs.drop i) ks M2,
    ⟨xs.length, by simp, Nat.zero_le _, F1, M1, [], Same.refl F1, S1', l0, m0, upd_same, Nat.le_refl _, by rw [List.drop_zero]; exact q1⟩, ?_⟩
  rintro i m H2 ⟨rfl, hle, F2, M2, ks, e2, S2, f2, m2, h2, ki, q2⟩
  by_cases hlt : i < xs.length
  · have hi : xs[i]? = some xs[i] := by simp [hlt]
    refine .inr ⟨IR.go Z F2 M2 H2 i xs[i] e2 S2 hi, ?_⟩
    refine ⟨fun H3 => ∃ F3 M3 ks, Same F1 F3 ∧ Sim Z K F3 M3 H3 ∧ F3 L = none ∧ M3 L = none ∧ H3 L = some (SetK P' w' L (hasK ks) ks.length) ∧ ks.length ≤ i + 1 ∧ skD g te vs σd (fun ks M2 => Q (.int (ks.length : Nat)) M2) (xs.drop (i + 1)) ks M3, fun H3 h3 => ⟨xs.length - (i + 1), by omega, rfl, hlt, h3⟩, fun v H3 y => ?_⟩
    rw [List.drop_eq_getElem_cons hlt] at q2
    have S2' := S2.aside h2 f2 m2
    obtain ⟨F3, e3, S3, r3⟩ := IR.yld _ F2 M2 H2 i xs[i] v H3 e2 S2' hi y
    have e13 := e1.trans (e2.trans e3)
    refine ⟨_, F3, M2, wipeD σd vs, xs[i], _, X0, S3, (R.wipe vs).mono e13, r3, q2, fun σd4 σ4 H4 F4 M4 e4 S4 R4 hl4 hj4 q4 => ?_, fun _ => postX0⟩
    refine ⟨(wipe_same hl4 hsub hj4).trans wipe_wipe, ?_⟩
    refine ⟨_, F4, M4, σd4, _, X0, S4, R4, q4, fun w H6 F6 M6 d e6 S6 r6 q6 => ?_, postX0⟩
    dsimp only at q6
    split at q6
    · rename_i k ek
      obtain ⟨S8, f8, m8, h8⟩ := S6.back (u := SetK P' w' L (fun j => hasK ks j || decide (j = k)) (if hasK ks k = true then ks.length else ks.length + 1)) z0
      refine ⟨k, hasK ks, ks.length, keyD_ok ek r6, h8, by unfold scanBound; omega, F6, M6, _, e2.trans ((e3.trans e4).trans e6), S8, f8, m8, ?_, ?_, q6⟩
      · rw [upd_same]
        by_cases hk : hasK ks k = true
        · rw [if_pos hk, if_pos hk]
          have : (fun j => hasK ks j || decide (j = k)) = hasK ks := by
            funext j
            by_cases e : j = k
            · subst e; rw [hk]; rfl
            · simp [e]
          rw [this]
        · rw [if_neg hk, if_neg hk]
          have : (fun j => hasK ks j || decide (j = k)) = hasK (ks ++ [k]) := by
            funext j
            unfold hasK
            rw [List.any_append, List.any_cons, List.any_nil, Bool.or_false]
            by_cases e : j = k
            · subst e; simp
            · have : ¬ k = j := fun z => e z.symm
              simp [e, this]
          rw [this, List.length_append, List.length_singleton]
      · split
        · omega
        · rw [List.length_append, List.length_singleton]; omega
    · exact q6.elim
  · have e : i = xs.length := by omega
    subst e
    rw [List.drop_length] at q2
    exact .inl ⟨IR.stop Z F2 M2 H2 e2 S2, _, _, h2, by omega, P _ H2 F2 M2 _ (e1.trans e2) S2 (rp_int.mpr rfl) q2⟩
section
variable {X : Cx} {W : WX} {elt tg iter : Expr} {scope : Scope} {own : List (Str × Nat)} {is : List Nat} {ti : TID} {g : TGD} {te : TD} {pos cpos p : Pos}
theorem de_lenSk (hm0 : X.mg "len" = none) (hc : X.calm = true) (hN : X.N.Nodup) (hi : DI X W tg iter ti) (ok : BlkOk X.N X.env.scope scope own)
    (hg : ∀ (s : Shared) (H : Hp) (C : Addr) (cl : List (Str × Addr)) (fp : List Addr), DG (X.blk s H scope (compEnvC scope cl C X.env) fp) W0 tg is g)
    (he : ∀ (s : Shared) (H : Hp) (C : Addr) (cl : List (Str × Addr)) (fp : List Addr), DE (X.blk s H scope (compEnvC scope cl C X.env) fp) W0 elt te)
    (hsub : ∀ i ∈ is, i ∈ own.map (·.2)) (hg0 : Gl X "len" := by rfl) (hs : ∀ x, foldedSetIterable iter X.env x = pure x := by intro _; rfl) :
    DE X W (.Call (.Name "len" p) [.SetComp elt [⟨tg, iter, [], 0⟩] scope pos] [] cpos) (tLenSkD ti g te (own.map (·.2))) := by
  obtain ⟨vi, pi, li⟩ := hi
  exact ⟨_, pe_lenSk (g := canonG X.K W0 is g) (te := canonE X.K W0 te) hg0 hm0 hc hN pi ok (fun s H C cl fp => (hg s H C cl fp).canon) (fun s H C cl fp => (he s H C cl fp).canon) hs, lift_sk li hsub⟩
end

/-! ## a, *b = a list -/
theorem star_unpack {prog : Program} {w : World} {A : Around} {E : Value → Shared → Prop} {s : Shared} {l : Addr} {items : Array Value} {Q : List Value → Shared → Prop} (hl : s.heap.IsList l items) (hh : A.handled = none) (h1 : 1 ≤ items.size) (hz : items.size ≤ sizeLine)
    (h : ∀ (h' : Heap) (tk : Nat), (∀ b o, s.heap.get? b = some o → h'.get? b = some o) → Q (items.toList.take 1 ++ [.ref h'.objs.size]) { s with heap := h'.push { cls := .type "list", data := .seq (items.toList.drop 1).toArray }, toks := tk }) :
    wpAny (model prog w) A (unpackItems (.ref l) 2 (some 1)) Q E s := by
  obtain ⟨ol, hol, _⟩ := id hl
  have hll : l < s.heap.objs.size := Heap.lt_size hol
  have hlt : l ≠ s.heap.objs.size := Nat.ne_of_lt hll
  unfold unpackItems notIterableAtAll
  refine wpAny_bind (wpAny_bind (wpAny_specialOf hl.typeIs slot_list_iter.lookup (wpAny_pure ?_)))
  simp only [Bool.false_eq_true, if_false]
  refine wpAny_bind (wpAny_holding (wpAny_pyIter_list hl (wpAny_bind (wpAny_holding (PySem.W.kun_draw hlt 1 0 _ _ ⟨_, Heap.get?_push_size _ rfl, rfl, rfl⟩ (hl.push _) (by omega) fun h₁ it₁ sb₁ => ?_)))))
  have l₁ : h₁.IsList l items := (hl.push _).extBut sb₁.extBut hlt
  rw [Nat.zero_add] at it₁
  obtain ⟨oi, hoi, _⟩ := id it₁
  obtain ⟨o2, ho2, _⟩ := id l₁
  rw [List.drop_zero]
  have one : (items.toList.take 1).length = 1 := by rw [List.length_take, Array.length_toList]; omega
  rw [if_neg (show ¬ ((items.toList.take 1).length < 1) by rw [one]; omega)]
  have rest : (items.toList.drop 1).length = items.size - 1 := by rw [List.length_drop, Array.length_toList]
  refine wpAny_bind (wpAny_holding (PySem.W.kun_collect (s := { s with heap := h₁ }) (T := "list_iterator") (.inr (.inr (.inl rfl))) (Walks.list (A := A.in1) hh s.heap.objs.size l hlt items) (fun j u st => st.1.typeIs) (k := 1) h1 ⟨it₁, l₁⟩ (Heap.lt_size hoi) (Heap.lt_size ho2) (fun h₂ tk hk => ?_) hz))
  have kept : ∀ b o, s.heap.get? b = some o → h₂.get? b = some o := by
    intro b o e
    have hb : b ≠ s.heap.objs.size := Nat.ne_of_lt (Heap.lt_size e)
    exact hk b o hb (sb₁.extBut b o hb (Heap.get?_push_of_some _ e))
  have fin := h h₂ tk kept
  show wpAny _ _ (if (items.toList.drop 1).length < 0 then _ else _) _ _ _
  rw [if_neg (Nat.not_lt_zero _)]
  show wpAny _ _ (newList ((items.toList.drop 1).take ((items.toList.drop 1).length - 0)) >>= fun d => pure (items.toList.take 1 ++ [d] ++ (items.toList.drop 1).drop ((items.toList.drop 1).length - 0))) _ _ _
  rw [Nat.sub_zero, List.take_length, List.drop_length]
  refine wpAny_bind (wpAny_newList (wpAny_pure ?_) (by rw [rest]; omega))
  rw [List.append_nil]
  exact fin
def gStarV (K : PySem.W.Frag) (t : TGs) : TG := fun v σ H N => ∃ a x ws, v = .ref a ∧ SqL K H a (x :: ws) ∧ ∀ p, H p = none → t [x, .ref p] σ (upd H p (.lst ws)) N
section
variable {X : Cx} {W : WX} {e1 e2 : Expr} {k : Nat} {pos sp : Pos} {is : List Nat} {t : TGsD}
theorem pg_star2 {tv : TGs} (hc : X.calm = true) (h : PGs X [e1, e2] tv) (hs : assignEach [e1, .Starred e2 sp] X.env = [(false, assign e1 X.env), (true, assign e2 X.env)]) (h2 : (assignEach [e1, e2] X.env).map (·.2) = [assign e1 X.env, assign e2 X.env]) :
    PG X (.Tuple [e1, .Starred e2 sp] k pos) (gStarV X.K tv) := by
  constructor
  rintro pins s σ H v u N I r ⟨a, x, ws, rfl, hq, hw⟩
  cases r
  obtain ⟨its, rv, pl, hz⟩ := I.list hq
  rw [PyProof.Rows.assign_Tuple]
  refine wpAny_bind (wpAny_standAt ?_)
  unfold unpack
  rw [hs]
  cases rv with
  | @cons _ y _ ys ry rys =>
    refine wpAny_bind (wpAny_holding (star_unpack (items := (y :: ys).toArray) pl.isList (I.ok.hd hc) (by simp) (by simpa using (by simpa [rys.length] using hz)) fun h' tk hk => ?_))
    have I1 : Inv X pins σ H { s with heap := h', toks := tk } := I.kept (t' := tk) hk
    have hp : H h'.objs.size = none := I1.hok.fresh (Nat.le_refl _)
    have I2 : Inv X pins σ (upd H h'.objs.size (.lst ws)) { s with heap := h'.push { cls := .type "list", data := .seq ys.toArray }, toks := tk } :=
      I1.laid (t' := tk) (fun b o e => Heap.get?_push_of_some _ e) (Nat.le_refl _) ⟨by rw [List.length_cons] at hz; omega, ys, 0, rys, Heap.get?_push_size _ rfl⟩
    have z := h.run pins _ σ _ [x, .ref h'.objs.size] [y, .ref h'.objs.size] N I2 (.cons ry (.cons rfl .nil)) (hw _ hp)
    rw [h2] at z
    exact z
def gStarD (t : TGsD) : TGD := fun d σ M N E => match viewQ M d with
  | some (x :: xs) => t [x, .lst xs] σ M N E
  | _ => False
theorem dg_star (hc : X.calm = true) (h : DGs X W [e1, e2] is t) (hs : assignEach [e1, .Starred e2 sp] X.env = [(false, assign e1 X.env), (true, assign e2 X.env)] := by rfl) (h2 : (assignEach [e1, e2] X.env).map (·.2) = [assign e1 X.env, assign e2 X.env] := by rfl) :
    DG X W (.Tuple [e1, .Starred e2 sp] k pos) is (gStarD t) := by
  obtain ⟨v1, p1, l1⟩ := h
  refine ⟨_, pg_star2 hc p1 hs h2, fun Z F M σd σ H d v N E Nv S R rd h P PX => ?_⟩
  unfold gStarD at h
  split at h
  · rename_i x xs ev
    obtain ⟨a, vs, rfl, sq, hz, rv⟩ := viewQ_ok S rd ev
    obtain ⟨w, ws, rfl, r1, r2⟩ := rv.cons_inv
    refine ⟨a, w, ws, rfl, sq, fun p hp => ?_⟩
    obtain ⟨e, S2⟩ := S.grow (o := .lst ws) hp
    refine l1 Z _ M σd σ _ _ _ N E Nv S2 (R.mono e) (Rps.cons (r1.mono e) (Rps.cons (rp_lst.mpr ⟨p, ws, rfl, upd_same, by rw [List.length_cons] at hz; omega, r2.mono e⟩) Rps.nil)) h (fun σd' σ' H' F' M' e' => P σd' σ' H' F' M' (e.trans e')) (fun σ => (PX σ).mono e)
  · exact h.elim

/-! ## e[lo:hi:st] of a list -/
def pickL {α : Type} (xs : List α) (lo hi st : Option Int) : List α := (sliceRange (sliceBounds lo hi st xs.length).1 (sliceBounds lo hi st xs.length).2.1 (sliceBounds lo hi st xs.length).2.2).filterMap (xs[·]?)
theorem rps_at {K : PySem.W.Frag} {F : Hp} {ds : List D} {vs : List V} (h : Rps K F ds vs) : ∀ is : List Nat, Rps K F (is.filterMap (ds[·]?)) (is.filterMap (vs[·]?))
  | [] => Rps.nil
  | i :: is => by
    rw [List.filterMap_cons, List.filterMap_cons]
    cases q : ds[i]? with
    | none =>
      have : vs[i]? = none := by
        rw [List.getElem?_eq_none_iff] at q ⊢
        rw [← h.len]; exact q
      rw [this]
      exact rps_at h is
    | some d =>
      obtain ⟨v, e, r⟩ := h.get q
      rw [e]
      exact Rps.cons r (rps_at h is)
theorem vals_at {vs : List V} {us : List Value} (h : Vals vs us) : ∀ is : List Nat, Vals (is.filterMap (vs[·]?)) (is.filterMap (us[·]?))
  | [] => .nil
  | i :: is => by
    rw [List.filterMap_cons, List.filterMap_cons]
    cases q : vs[i]? with
    | none =>
      have : us[i]? = none := by
        rw [List.getElem?_eq_none_iff] at q ⊢
        rw [← h.length]; exact q
      rw [this]
      exact vals_at h is
    | some d =>
      obtain ⟨v, e, r⟩ := h.get q
      rw [e]
      exact .cons r (vals_at h is)
def tPickV (K : PySem.W.Frag) (te : TE) (tl th tst : TO) : TE := fun σ H Q => te σ H fun x H1 => tl σ H1 fun lo H2 => th σ H2 fun hi H3 => tst σ H3 fun st H4 => ∃ a ws, x = .ref a ∧ SqL K H4 a ws ∧ st ≠ some 0 ∧ (pickL ws lo hi st).length ≤ sizeLine ∧ ∀ p, H4 p = none → Q (.ref p) (upd H4 p (.lst (pickL ws lo hi st)))
theorem pe_pick {e st : Expr} {lo? hi? : Option Expr} {te : TE} {tl th tst : TO} {p3 : Pos} (he : PE X e te) (hl : PO X lo? tl) (hh : PO X hi? th) (hst : PO X (some st) tst)
    (ho : ∀ v u, subscripted (.Slice lo? hi? (some st) p3) false v u = operate [v, u] (getItem v u)) : PE X (.Subscript e (.Slice lo? hi? (some st) p3) pos) (tPickV X.K te tl th tst) := by
  constructor
  intro pins s σ H Q I h
  refine Subscript_ (thn (he.run pins s σ H _ I h) fun v s1 ⟨x, H1, I1, r1, q1⟩ => ?_)
  refine wpAny_Slice (thn (hl.run pins s1 σ H1 _ I1 q1) fun vl s2 ⟨l, H2, I2, pl, q2⟩ => thn (hh.run pins s2 σ H2 _ I2 q2) fun vu s3 ⟨u, H3, I3, pu, q3⟩ => thn (hst.run pins s3 σ H3 _ I3 q3) fun vs s4 ⟨o, H4, I4, ps, a, ws, ex, hx, hne, hz4, q4⟩ => ?_)
  subst ex
  cases r1
  have I5 : Inv X pins σ H4 { s4 with heap := s4.heap.push { cls := .type "slice", data := .fields #[vl, vu, vs] } } := I4.kept (t' := s4.toks) fun b ob q => Heap.get?_push_of_some _ q
  obtain ⟨its, rr, ht, hz⟩ := I5.list hx
  have hlen := rr.length
  show wpAny (model X.prog X.w) X.A (subscriptTail e (.Slice lo? hi? (some st) p3) (.ref a) (.ref s4.heap.objs.size)) (EP X pins σ Q) X.xe { s4 with heap := s4.heap.push { cls := .type "slice", data := .fields #[vl, vu, vs] } }
  refine tail_any (ops := [.ref a, .ref s4.heap.objs.size]) ht.isList.typeIs (PySem.slot_list_getitem.lookup) ?_ (ho _ _)
  refine wpAny_getItem_list_slice ht.isList (Heap.IsSliceOf.new _ vl vu vs) pl pu ps hne ?_ (by rw [List.size_toArray]; omega)
  have ep : slicePick its.toArray l u o = ((sliceRange (sliceBounds l u o its.length).1 (sliceBounds l u o its.length).2.1 (sliceBounds l u o its.length).2.2).filterMap (its[·]?)).toArray := by
    unfold slicePick
    rw [List.size_toArray]
    congr 2
    funext j
    exact List.getElem?_toArray
  rw [ep]
  refine ⟨.ref _, _, I5.laid (t' := s4.toks) (o := .lst (pickL ws l u o)) (fun b ob q => Heap.get?_push_of_some _ q) (Nat.le_refl _) ⟨hz4, _, 0, ?_, Heap.get?_push_size _ rfl⟩, rfl, q4 _ (I5.hok.fresh (Nat.le_refl _))⟩
  unfold pickL
  rw [hlen]
  exact vals_at rr _
def tPickD (te : TD) (tl th tst : TOD) : TD := fun σ M Q E => te σ M (fun x M1 => tl σ M1 (fun lo M2 => th σ M2 (fun hi M3 => tst σ M3 (fun st M4 => match viewQ M4 x with
  | some xs => st ≠ some 0 ∧ (pickL xs lo hi st).length ≤ sizeLine ∧ Q (.lst (pickL xs lo hi st)) M4
  | none => False) E) E) E) E
theorem de_pick {e st : Expr} {lo? hi? : Option Expr} {te : TD} {tl th tst : TOD} {p3 : Pos} (he : DE X W e te) (hl : DO X W lo? tl) (hh : DO X W hi? th) (hst : DO X W (some st) tst)
    (ho : ∀ v u, subscripted (.Slice lo? hi? (some st) p3) false v u = operate [v, u] (getItem v u) := by intro _ _; with_unfolding_all rfl) : DE X W (.Subscript e (.Slice lo? hi? (some st) p3) pos) (tPickD te tl th tst) := by
  obtain ⟨va, pa, la⟩ := he
  obtain ⟨vl, pl, ll⟩ := hl
  obtain ⟨vh, ph, lh⟩ := hh
  obtain ⟨vs, ps, ls⟩ := hst
  refine ⟨_, pe_pick pa pl ph ps ho, fun Z F M σd σ H Q E Qv S R h P PX => ?_⟩
  refine la Z F M σd σ H _ E _ S R h (fun x H1 F1 M1 d e1 S1 r1 q1 => ?_) PX
  refine ll Z F1 M1 σd σ H1 _ E _ S1 (R.mono e1) q1 (fun o1 H2 F2 M2 e2 S2 q2 => ?_) (PX.mono e1)
  refine lh Z F2 M2 σd σ H2 _ E _ S2 (R.mono (e1.trans e2)) q2 (fun o2 H3 F3 M3 e3 S3 q3 => ?_) (PX.mono (e1.trans e2))
  have e13 := (e1.trans e2).trans e3
  refine ls Z F3 M3 σd σ H3 _ E _ S3 (R.mono e13) q3 (fun o3 H4 F4 M4 e4 S4 q4 => ?_) (PX.mono e13)
  split at q4
  · rename_i xs ev
    obtain ⟨a, vs, rfl, sq, hz, rv⟩ := viewQ_ok S4 (r1.mono ((e2.trans e3).trans e4)) ev
    have rr : Rps X.K F4 (pickL xs o1 o2 o3) (pickL vs o1 o2 o3) := by
      unfold pickL
      rw [rv.len]
      exact rps_at rv _
    have hz2 : (pickL vs o1 o2 o3).length ≤ sizeLine := by rw [← rr.len]; exact q4.2.1
    exact ⟨a, vs, rfl, sq, q4.1, hz2, fun p hp => fin_lst S4 rr hz2 q4.2.2 (P.mono (e13.trans e4)) hp⟩
  · exact q4.elim
end
end DL

/-! ### DL12 -/
set_option Elab.async false
set_option linter.all false
set_option maxRecDepth 100000
set_option maxHeartbeats 4000000
namespace DL
open PySem L2 PyProof.Rows

theorem tk0 {X : Cx} : Takes X W0 := fun _ _ ⟨_, _, _, _, _, _, _, _, _, _, _, _, _, _, _, _, w⟩ => w.elim

/-! ## a callee that is run from another place than the body itself -/
section
variable {X : Cx} {W : WX} {gd : Bool} {k : Nat} {f C g p : Addr} {sp : SpD} {A : Around}
theorem run_DA {pins : List (Addr × Obj)} {σ : L2.St} {H : Hp} {s : Shared} {us : List Value} {vs : List V} {Q : VK} (F : FnD gd X.prog X.w X.K X.mg X.base k f sp) (hr : Room k A) (hg : gd = true → A.guards = some []) (e0 : Env0 X.prog X.w X.K X.mg X.base A X.stack s H) (tk : Takes X W)
    (I : Inv X pins σ H s) (r : Vals vs us) (h : upSpW X.K W sp vs σ H Q) : codeAny (model X.prog X.w) A (.call (.ref f) ⟨us, []⟩) (fun r s' => match r with | .ok (.ret v) => EP X pins σ Q v s' | .ok _ => False | .error e => X.xe e s') s := by
  obtain ⟨Z, F0, M, ds, Qd, Ed, S, rd, q, P, PX⟩ := h
  refine codeAny_mono (F A X.stack s H us vs Q (fun c d H' => W c d σ H') hr hg e0 r ⟨Z, F0, M, ds, Qd, Ed, S, rd, q, P, fun x cls d H' F' M' e1 S1 r1 q1 => PX x cls d H' F' M' e1 S1 r1 q1⟩) fun r s' hq => ?_
  match r, hq with
  | .error e, hq => exact tk e s' (XE.of_call I (fun cls d H' h => h) hq)
  | .ok (.ret u), hq => exact I.after hq
  | .ok .next, hq => exact False.elim hq
  | .ok .brk, hq => exact False.elim hq
  | .ok .cont, hq => exact False.elim hq

/-! ## C.m(..), m a classmethod -/
def tCMethD (C : Addr) (sp : SpD) (to : TD) (t : TAD) : TD := fun σ M Q E => to σ M (fun x M1 => match x with
  | .ref a => a = C ∧ t σ M1 (fun ds M2 => sp (.ref C :: ds) M2 Q E) E
  | _ => False) E
variable {o e a b : Expr} {es : List Expr} {to te ta tb : TD} {t : TAD} {m n : Str} {pos apos : Pos} {mc : Value} {pl : Sem Bool}
theorem de_cmeth (r : ClX.CRead X.K C mc) (c : ClX.CMet X.K C mc m p g) (F : FnD gd X.prog X.w X.K X.mg X.base k g sp) (hr : Room k X.A) (hg : gd = true → X.A.guards = some []) (tk : Takes X W) (ho : DE X W o to) (ha : DA X W (e :: es) t)
    (hst : starEach (e :: es) X.env = (false, eval e X.env) :: starEach es X.env := by rfl) (hpl : (backTo pos (starEach es X.env)).any (·.1) = false := by rfl)
    (ht : eval (.Call (.Attribute o m apos) (e :: es) [] pos) X.env = (do
      let ov ← eval o X.env
      standAt apos.atName
      let (f, first) ← holding [ov] (getMethod ov m pl)
      callWith pos f first (backTo pos (starEach (e :: es) X.env)) (backToKw pos (keywordEach [] X.env))) := by rfl) : DE X W (.Call (.Attribute o m apos) (e :: es) [] pos) (tCMethD C sp to t) := by
  obtain ⟨vo, po, lo⟩ := ho
  obtain ⟨va, pa, la⟩ := ha
  refine ⟨fun σ H Q => vo σ H fun x H1 => x = .ref C ∧ va σ H1 fun vs H2 => upSpW X.K W sp (.ref C :: vs) σ H2 Q, ⟨fun pins s σ H Q I h => ?_⟩, fun Z F M σd σ H Q E Qv S R h P PX => ?_⟩
  · refine PySem.W.methodCall_KW (pl := pl) (thn (po.run pins s σ H _ I h) ?_) ht
    rintro u s1 ⟨x, H1, I1, rx, rfl, q⟩
    obtain rfl : u = Value.ref C := rx
    refine ClX.getmethcm_ok I1 r c fun s2 I2 => ?_
    refine ClX.callwith_cm I2 (ClX.base_none I1 (Nat.le_refl _)) c.fi (thn (pa.run pos _ s2 σ H1 _ I2 q) ?_) hst hpl
    rintro us s3 ⟨vs, H2, I3, rv, q2⟩
    refine ⟨⟨ClX.pin_at I3, I3.kIn⟩, ?_⟩
    refine thn (wpAny_call (PySem.W.method_call (ClX.pin_at I3) (run_DA (us := .ref C :: us) (vs := .ref C :: vs) F hr hg I3.env0 tk I3 (.cons rfl rv) q2))) fun _ _ y => ClX.unpinE y
  · refine lo Z F M σd σ H _ E _ S R h (fun x H1 F1 M1 d e1 S1 r1 q1 => ?_) PX
    split at q1
    · obtain ⟨rfl, q1⟩ := q1
      refine ⟨rp_ref.mp r1, ?_⟩
      refine la Z F1 M1 σd σ H1 _ E _ S1 (R.mono e1) q1 (fun vs H2 F2 M2 ds e2 S2 r2 q2 => ?_) (PX.mono e1)
      exact ⟨Z, F2, M2, _, Q, E, S2, Rps.cons (rp_ref.mpr rfl) r2, q2, P.mono (e1.trans e2), PX.mono (e1.trans e2)⟩
    · exact q1.elim

/-! ## o.f, f a property -/
def tPropD (C : Addr) (sp : SpD) (te : TD) : TD := fun σ M Q E => te σ M (fun d M1 => (∃ ns xs, viewI M1 d = some (C, ns, xs)) ∧ sp [d] M1 Q X0) E
theorem de_prop (c : Cls X.K C) (hp : PropOf X.K C n p g) (F : FnD gd X.prog X.w X.K X.mg X.base k g sp) (hr : Room (k + 1) X.A) (hg : gd = true → X.A.guards = some []) (he : DE X W e te)
    (hab : attributeBase e n X.env (eval e X.env) = eval e X.env := by rfl) : DE X W (.Attribute e n pos) (tPropD C sp te) := by
  obtain ⟨ve, pe, le⟩ := he
  refine ⟨fun σ H Q => ve σ H fun x H1 => ∃ a dx fs, x = .ref a ∧ H1 a = some (.ins C dx fs) ∧ upSpW X.K W0 sp [x] σ H1 Q, ⟨fun pins s σ H Q I h => ?_⟩, fun Z F M σd σ H Q E Qv S R h P PX => ?_⟩
  · refine attr_of hab (thn (pe.run pins s σ H _ I h) ?_)
    rintro u s1 ⟨x, H1, I1, rx, a, dx, fs, rfl, ea, q⟩
    obtain rfl : u = Value.ref a := rx
    obtain ⟨mA, O, _, _, _, _⟩ := ins_get I1.hok ea
    obtain ⟨od, J, _⟩ := O.look
    obtain ⟨rest, hrec⟩ := hp.rec_
    have I2 := I1.tok (s1.toks + 1)
    have hc : (PySem.W.clsIn X.K C).isSome = true := by
      obtain ⟨cd, hc, _⟩ := PySem.W.any_some c.hd
      rw [hc] <;> rfl
    refine PySem.W.get_bind I1.kIn J (PySem.W.plainGet_of (c.get n)).1 (PySem.W.findObj_data hc hp.at_ hp.get hp.tak) (PySem.W.plainGet_of (c.get n)).2 (wpAny_call (PySem.W.prop_get (s := { s1 with toks := s1.toks + 1 }) I1.kIn hrec ?_))
    refine codeAny_mono (run_DA (X := X.nox) (W := W0) (us := [.ref a]) (vs := [.ref a]) F hr.in1 hg I2.env0.in1 tk0 (I2.wish _) (.cons rfl .nil) q) fun r s' hq => ?_
    match r, hq with
    | .error e, hq => exact False.elim hq
    | .ok (.ret u), hq =>
      obtain ⟨v, H', I3, rv, q3⟩ := hq
      show wpAny _ _ (handedOut u) _ _ _
      rw [PySem.W.handedOut_of (handed_of rv)]
      exact wpAny_pure ⟨v, H', I3.unwish, rv, q3⟩
    | .ok .next, hq => exact False.elim hq
    | .ok .brk, hq => exact False.elim hq
    | .ok .cont, hq => exact False.elim hq
  · refine le Z F M σd σ H _ E _ S R h (fun x H1 F1 M1 d e1 S1 r1 q1 => ?_) PX
    obtain ⟨⟨ns, xs, ev⟩, q1⟩ := q1
    obtain ⟨a, dx, vs, ex, h1, h2, h3⟩ := viewI_ok S1 r1 ev
    refine ⟨a, dx, _, ex, h1, Z, F1, M1, [d], Q, X0, S1, Rps.cons r1 Rps.nil, q1, P.mono e1, postX0⟩

/-! ## len(o), o an instance with its own __len__ -/
def rLenOwnV (K : PySem.W.Frag) (W : WX) (C : Addr) (sp : SpD) (σ : L2.St) : List V → Hp → VK → Prop := fun xs H Q => ∃ a dx fs, xs = [.ref a] ∧ H a = some (.ins C dx fs) ∧ upSpW K W sp xs σ H (fun v H' => ∃ n : Nat, v = .int (n : Nat) ∧ n < 2 ^ 60 ∧ Q (.int (n : Nat)) H')
def tLenOwnD (C : Addr) (sp : SpD) (te : TD) : TD := fun σ M Q E => te σ M (fun d M1 => (∃ ns xs, viewI M1 d = some (C, ns, xs)) ∧ sp [d] M1 (fun d' M2 => match d' with
  | .int i => (0 ≤ i ∧ i < 2 ^ 60) ∧ Q (.int i) M2
  | _ => False) E) E
theorem de_lenOwn {pn : Pos} (hs : PySem.W.findIn X.K (.ref C) "__len__" = some (some (.ref f))) (hf : PySem.W.isFn X.K (.ref f) = true) (F : FnD gd X.prog X.w X.K X.mg X.base k f sp) (hr : Room (k + 1) X.A) (hg : gd = true → X.A.guards = some []) (tk : Takes X W) (hm : X.mg "len" = none) (he : DE X W e te)
    (hgl : Gl X "len" := by rfl) (hst : starEach [e] X.env = (false, eval e X.env) :: starEach [] X.env := by rfl) : DE X W (.Call (.Name "len" pn) [e] [] pos) (tLenOwnD C sp te) := by
  obtain ⟨ve, pe, le⟩ := he
  refine ⟨fun σ H Q => ve σ H fun x H1 => ∃ a dx fs, x = .ref a ∧ H1 a = some (.ins C dx fs) ∧ upSpW X.K W sp [x] σ H1 (fun v H' => ∃ i : Int, v = .int i ∧ (0 ≤ i ∧ i < 2 ^ 60) ∧ Q (.int i) H'), ⟨fun pins s σ H Q I h => ?_⟩, fun Z F M σd σ H Q E Qv S R h P PX => ?_⟩
  · refine Call_ (ld_blt I hgl hm boot_len (PyProof.Rows.callWith_builtin1 (PyProof.Rows.args_cons (thn (pe.run pins s σ H _ I h) ?_) hst) hst rfl))
    rintro u s1 ⟨x, H1, I1, rx, a, dx, fs, rfl, ea, q⟩
    refine PyProof.Rows.args_nil ?_
    obtain rfl : u = Value.ref a := rx
    obtain ⟨mA, O, _, _, _, _⟩ := ins_get I1.hok ea
    obtain ⟨od, J, _⟩ := O.look
    obtain ⟨m, hF⟩ := I1.fr
    refine PySem.W.len_K hF I1.ok.mod.kin J hs hf (wpAny_mono (wpAny_call (run_DA (us := [.ref a]) (vs := [.ref a]) F hr.in1 hg I1.env0.in1 tk I1 (.cons rfl .nil) q)) (fun w s' z => ?_) fun _ _ z => z)
    obtain ⟨v, H', I2, rv, i, rfl, hi, q2⟩ := z
    obtain ⟨t', rfl⟩ := rv
    exact ⟨⟨hi.1, by omega⟩, .int i, H', I2.tok _, ⟨_, rfl⟩, q2⟩
  · refine le Z F M σd σ H _ E _ S R h (fun x H1 F1 M1 d e1 S1 r1 q1 => ?_) PX
    obtain ⟨⟨ns, xs, ev⟩, q1⟩ := q1
    obtain ⟨a, dx, vs, ex, h1, h2, h3⟩ := viewI_ok S1 r1 ev
    refine ⟨a, dx, _, ex, h1, Z, F1, M1, [d], _, E, S1, Rps.cons r1 Rps.nil, q1, fun v H2 F2 M2 d2 e2 S2 r2 q2 => ?_, PX.mono e1⟩
    dsimp only at q2
    split at q2
    · rename_i i
      exact ⟨i, rp_int.mp r2, q2.1, P _ H2 F2 M2 _ (e1.trans e2) S2 (rp_int.mpr rfl) q2.2⟩
    · exact q2.elim

/-! ## ==, != of two instances of one class with its own __eq__ -/
theorem ne_body {prog : Program} {w : World} {E : Value → Shared → Prop} {s : Shared} {K : PySem.W.Frag} {x C f : Addr} {ox : Obj} {od : Option Obj} {y : Value} {Q : Fin → Shared → Prop} (hu : A.units < cLine) (kin : K.In s.heap) (J : PySem.W.InstAt s.heap x ox C od)
    (hs : PySem.W.findIn K (.ref C) "__eq__" = some (some (.ref f))) (hf : PySem.W.isFn K (.ref f) = true) (h : wpAny (model prog w) A (call (.ref f) [.ref x, y]) (fun v s' => ∃ c, v = .bool c ∧ Q (.done (.ret (.bool (!c)))) s') E s) :
    wpAny (model prog w) A (Builtin.«object.__ne__» ⟨[.ref x, y], []⟩) Q E s := by
  have q : wpAny (model prog w) A (callSpecialIfBound? (.ref x) "__eq__" [y]) (fun r s' => ∃ c, r = some (.bool c) ∧ Q (.done (.ret (.bool (!c)))) s') E s := by
    refine PySem.W.ifBound_K kin J hs hf (wpAny_mono h (fun v s' hv => ?_) fun _ _ z => z)
    obtain ⟨c, rfl, hq⟩ := hv
    exact ⟨c, rfl, hq⟩
  unfold Builtin.«object.__ne__»
  refine wpAny_bind (m := slotArgs "__ne__" 1 ⟨[.ref x, y], []⟩) (wpAny_of_eq (a := (.ref x, [y])) (by first | rfl | decide) ?_)
  refine wpAny_bind (wpAny_cRoomFor hu (wpAny_bind (wpAny_mono q (fun r s' hr => ?_) fun _ _ z => z)))
  obtain ⟨c, rfl, hq⟩ := hr
  refine wpAny_bind (m := truthy (.bool c)) (wpAny_truthy_bool ?_)
  exact wpAny_pure hq
def RnOwn (K : PySem.W.Frag) (W : WX) (C : Addr) (sp : SpD) (f : Bool → Bool) (σ : L2.St) : R2 := fun x y H Q => ∃ a dx fs b dy gs, x = .ref a ∧ y = .ref b ∧ H a = some (.ins C dx fs) ∧ H b = some (.ins C dy gs) ∧ upSpW K W sp [x, y] σ H (fun v H' => ∃ c, v = .bl c ∧ Q (.bl (f c)) H')
theorem eq_own {pins : List (Addr × Obj)} {σ : L2.St} {H : Hp} {s : Shared} {x y : V} {v u : Value} {Q : VK} (hs : PySem.W.findIn X.K (.ref C) "__eq__" = some (some (.ref f))) (hf : PySem.W.isFn X.K (.ref f) = true) (F : FnD gd X.prog X.w X.K X.mg X.base k f sp) (hr : Room k X.A) (hg : gd = true → X.A.guards = some []) (tk : Takes X W)
    (I : Inv X pins σ H s) (rx : RelV x v) (ry : RelV y u) (h : RnOwn X.K W C sp (fun z => z) σ x y H Q) : wpAny (model X.prog X.w) X.A (compareOp .Eq v u) (EP X pins σ Q) X.xe s := by
  obtain ⟨a, dx, fs, b, dy, gs, rfl, rfl, ea, eb, q⟩ := h
  obtain rfl : v = Value.ref a := rx
  obtain rfl : u = Value.ref b := ry
  obtain ⟨_, O, _⟩ := ins_get I.hok ea
  obtain ⟨_, O', _⟩ := ins_get I.hok eb
  obtain ⟨od, J, _⟩ := O.look
  obtain ⟨od', J', _⟩ := O'.look
  obtain ⟨m, hF⟩ := I.fr
  show wpAny _ _ (richCompare .Eq (.ref a) (.ref b)) _ _ _
  refine PySem.W.cmp_K (op := .Eq) (tb := .ref C) hr.units0 hF I.ok.mod.kin J J'.type (by simp [PySem.W.notFirst]) hs hf (wpAny_mono (wpAny_call (run_DA (us := [.ref a, .ref b]) (vs := [.ref a, .ref b]) F hr hg I.env0 tk I (.cons rfl (.cons rfl .nil)) q)) (fun w s' z => ?_) fun _ _ z => z)
  obtain ⟨v, H', I2, rv, c, rfl, q2⟩ := z
  obtain rfl : w = Value.bool c := rv
  exact ⟨.bl c, H', I2, rfl, q2⟩
theorem ne_own {pins : List (Addr × Obj)} {σ : L2.St} {H : Hp} {s : Shared} {x y : V} {v u : Value} {Q : VK} (hs : PySem.W.findIn X.K (.ref C) "__eq__" = some (some (.ref f))) (hf : PySem.W.isFn X.K (.ref f) = true) (hn : PySem.W.findIn X.K (.ref C) "__ne__" = some (some (.builtin "object.__ne__"))) (hm : PySem.W.mroIn X.K C (.type "object") = some true)
    (F : FnD gd X.prog X.w X.K X.mg X.base k f sp) (hr : Room (k + 1) X.A) (hg : gd = true → X.A.guards = some []) (tk : Takes X W)
    (I : Inv X pins σ H s) (rx : RelV x v) (ry : RelV y u) (h : RnOwn X.K W C sp (fun z => !z) σ x y H Q) : wpAny (model X.prog X.w) X.A (compareOp .NotEq v u) (EP X pins σ Q) X.xe s := by
  obtain ⟨a, dx, fs, b, dy, gs, rfl, rfl, ea, eb, q⟩ := h
  obtain rfl : v = Value.ref a := rx
  obtain rfl : u = Value.ref b := ry
  obtain ⟨_, O, _⟩ := ins_get I.hok ea
  obtain ⟨_, O', _⟩ := ins_get I.hok eb
  obtain ⟨od, J, _⟩ := O.look
  obtain ⟨od', J', _⟩ := O'.look
  have kin := I.kIn
  have run : wpAny (model X.prog X.w) X.A.in1 (call (.ref f) [.ref a, .ref b]) (fun w s' => ∃ c, w = .bool c ∧ EP X pins σ Q (.bool (!c)) s') X.xe s := by
    refine wpAny_mono (wpAny_call (run_DA (us := [.ref a, .ref b]) (vs := [.ref a, .ref b]) F hr.in1 hg I.env0.in1 tk I (.cons rfl (.cons rfl .nil)) q)) (fun w s' z => ?_) fun _ _ z => z
    obtain ⟨v, H', I2, rv, c, rfl, q2⟩ := z
    obtain rfl : w = Value.bool c := rv
    exact ⟨c, rfl, .bl (!c), H', I2, rfl, q2⟩
  have body : wpAny (model X.prog X.w) X.A (call (.builtin "object.__ne__") [.ref a, .ref b]) (fun w s' => (∃ c, w = .bool c) ∧ EP X pins σ Q w s') X.xe s := by
    refine wpAny_call (codeAny_call_builtin PySem.F.cmp_object.ne.plain PySem.F.cmpEntry_ne (PySem.W.check_slot PySem.F.cmpKind_ne PySem.F.cmpSplit_ne (J.type.andThen (PySem.W.looks_mroIn kin hm)) (PySem.F.cmpArgs_ne _ _) (ne_body hr.in1.units0 kin J hs hf (wpAny_mono run (fun w s' z => ?_) fun _ _ z => z))))
    obtain ⟨c, rfl, q2⟩ := z
    exact ⟨c, rfl, ⟨_, rfl⟩, q2⟩
  have bound : wpAny (model X.prog X.w) X.A (callSpecialIfBound? (.ref a) "__ne__" [.ref b]) (fun r s' => ∃ c, r = some (.bool c) ∧ EP X pins σ Q (.bool c) s') X.xe s := by
    have fin : wpAny (model X.prog X.w) X.A (call (.builtin "object.__ne__") ([.ref a] ++ [.ref b]) >>= fun v => pure (some v)) (fun r s' => ∃ c, r = some (.bool c) ∧ EP X pins σ Q (.bool c) s') X.xe s := by
      refine wpAny_bind (wpAny_mono body (fun w s' z => ?_) fun _ _ z => z)
      obtain ⟨⟨c, rfl⟩, q2⟩ := z
      exact wpAny_pure ⟨c, rfl, q2⟩
    simp only [callSpecialIfBound?, bindSpecialIfBound?]
    refine wpAny_holding (wpAny_bind (wpAny_bind (wpAny_bind (J.type.here ((PySem.W.looks_findIn kin hn).here (wpAny_bind (wpAny_askSetting (wpAny_ite ?_))))))))
    split
    · exact wpAny_bind (wpAny_of_eq (PySem.F.cmp_object.ne.bind _) (wpAny_pure (by exact fin)))
    · exact wpAny_tryCatch (wpAny_bind (wpAny_of_eq (PySem.F.cmp_object.ne.bind _) (wpAny_pure (by exact fin))))
  have one : wpAny (model X.prog X.w) X.A (tryCompare (.ref a) "__ne__" (.ref b)) (fun r s' => ∃ c, r = some (.bool c) ∧ EP X pins σ Q (.bool c) s') X.xe s := by
    unfold tryCompare
    refine wpAny_bind (wpAny_mono bound (fun r s' z => ?_) fun _ _ z => z)
    obtain ⟨c, rfl, q2⟩ := z
    exact wpAny_pure ⟨c, rfl, q2⟩
  show wpAny _ _ (richCompare .NotEq (.ref a) (.ref b)) _ _ _
  unfold richCompare
  simp only [oneThing_ref]
  rw [cmpInfo_NotEq]
  dsimp only
  refine wpAny_holding (wpAny_bind (wpAny_cRoomFor hr.units0 (wpAny_bind (J.type.here (wpAny_bind (J'.type.here ?_))))))
  rw [show (Value.ref C != Value.ref C) = false from by simp]
  simp only [Bool.false_eq_true, if_false]
  refine wpAny_bind (wpAny_pure ?_)
  simp only [Bool.false_eq_true, if_false]
  refine wpAny_bind (wpAny_mono one (fun r s' z => ?_) fun _ _ z => z)
  obtain ⟨c, rfl, q2⟩ := z
  first
    | exact wpAny_pure q2
    | exact wpAny_pure (wpAny_pure q2)
theorem un_nox {pins : List (Addr × Obj)} {σ : L2.St} {s : Shared} {T : Sem Value} {Q : VK} (h : wpAny (model X.prog X.w) X.A T (EP X.nox pins σ Q) (fun _ _ => False) s) : wpAny (model X.prog X.w) X.A T (EP X pins σ Q) X.xe s :=
  wpAny_mono h (fun _ _ ⟨v, H', J, r, q⟩ => ⟨v, H', J.unwish, r, q⟩) fun _ _ z => z.elim
abbrev rOwnV (K : PySem.W.Frag) (C : Addr) (sp : SpD) (f : Bool → Bool) : R2 := RnOwn K W0 C sp f []
def rOwnD (C : Addr) (sp : SpD) (f : Bool → Bool) : R2D := fun x y M Q => ((∃ ns xs, viewI M x = some (C, ns, xs)) ∧ ∃ ns xs, viewI M y = some (C, ns, xs)) ∧ sp [x, y] M (fun d M' => match d with
  | .bl c => Q (.bl (f c)) M'
  | _ => False) X0
theorem op_eqOwn (hs : PySem.W.findIn X.K (.ref C) "__eq__" = some (some (.ref f))) (hf : PySem.W.isFn X.K (.ref f) = true) (F : FnD gd X.prog X.w X.K X.mg X.base k f sp) (hr : Room k X.A) (hg : gd = true → X.A.guards = some []) : OpR X (compareOp .Eq) (rOwnV X.K C sp fun z => z) := by
  intro pins s σ H x y v u Q I rx ry h
  exact un_nox (eq_own (X := X.nox) (W := W0) hs hf F hr hg tk0 (I.wish _) rx ry h)
theorem op_neOwn (hs : PySem.W.findIn X.K (.ref C) "__eq__" = some (some (.ref f))) (hf : PySem.W.isFn X.K (.ref f) = true) (hn : PySem.W.findIn X.K (.ref C) "__ne__" = some (some (.builtin "object.__ne__"))) (hm : PySem.W.mroIn X.K C (.type "object") = some true)
    (F : FnD gd X.prog X.w X.K X.mg X.base k f sp) (hr : Room (k + 1) X.A) (hg : gd = true → X.A.guards = some []) : OpR X (compareOp .NotEq) (rOwnV X.K C sp fun z => !z) := by
  intro pins s σ H x y v u Q I rx ry h
  exact un_nox (ne_own (X := X.nox) (W := W0) hs hf hn hm F hr hg tk0 (I.wish _) rx ry h)
theorem lift_own {K : PySem.W.Frag} {h : Bool → Bool} : LiftR2 K (rOwnV K C sp h) (rOwnD C sp h) := by
  intro Z F M H x y dx dy Q Qv S rx ry q P
  obtain ⟨⟨⟨ns, xs, ev⟩, ns', ys, ev'⟩, q⟩ := q
  obtain ⟨a, d1, vs, rfl, h1, _, _⟩ := viewI_ok S rx ev
  obtain ⟨b, d2, ws, rfl, g1, _, _⟩ := viewI_ok S ry ev'
  refine ⟨a, d1, _, b, d2, _, rfl, rfl, h1, g1, Z, F, M, [dx, dy], _, X0, S, Rps.cons rx (Rps.cons ry Rps.nil), q, fun v H3 F3 M3 d3 e3 S3 r3 q3 => ?_, postX0⟩
  dsimp only at q3
  split at q3
  · rename_i c
    exact ⟨c, rp_bl.mp r3, P _ H3 F3 M3 _ e3 S3 (rp_bl.mpr rfl) q3⟩
  · exact q3.elim
end

/-! ## try: body, that raises nothing -/
def tCalm (t : TSD) : TSD := fun D σ M => t { D with ex := X0 } σ M
theorem ds_calm {X : Cx} {W : WX} {body : List Stmt} {h₀ : ExceptHandler} {hs : List ExceptHandler} {pos : Pos} {t : TSD} (hb : DSs X.nox W0 body t) : DS X W (.Try body (h₀ :: hs) [] [] pos) (tCalm t) := by
  obtain ⟨v, p, l⟩ := hb
  exact ⟨_, ps_try_thru0 p, fun Z F M σd σ H D Dv S R h P => l Z F M σd σ H { D with ex := X0 } Dv S R h ⟨P.nx, P.rt, P.bk, P.ct, fun σ => postX0⟩⟩
end DL

/-! ### DL13 -/
set_option Elab.async false
set_option linter.all false
set_option maxRecDepth 100000
set_option maxHeartbeats 4000000
namespace DL
open PySem L2 PyProof.Rows

/-! ## small change -/
theorem u1 {k : Nat} {A : Around} (r : Room k A) : A.units + 1 < cLine := by have := r.un; omega
theorem u64 {k : Nat} {A : Around} (r : Room k A) : A.units + 64 < cLine := by have := r.un; omega
theorem u100 {k : Nat} {A : Around} (r : Room k A) : A.units + 100 < cLine := by have := r.un; omega
theorem u102 {k : Nat} {A : Around} (r : Room k A) : A.units + 102 < cLine := by have := r.un; omega
theorem nog {A : Around} : false = true → A.guards = some [] := fun z => nomatch z
/-- xs * n where the new list may change -/
def rMulM : R2D := fun x y M Q => match y with
  | .int j => (match viewL M x with
    | some xs => (-(2 ^ 63) ≤ j ∧ j < 2 ^ 63 ∧ xs.length * j.toNat ≤ sizeLine) ∧ ∀ a, M a = none → Q (.ref a) (updM M a (.lst (List.replicate j.toNat xs).flatten))
    | none => False)
  | _ => False
theorem lift_mulM {K : PySem.W.Frag} : LiftR2 K rRep rMulM := by
  intro Z F M H x y dx dy Q Qv S rx ry h P
  unfold rMulM at h
  split at h
  · rename_i j
    split at h
    · rename_i xs ex
      obtain ⟨a, vs, rfl, h1, h2, h3⟩ := viewL_ok S rx ex
      obtain ⟨⟨g1, g2, g3⟩, q⟩ := h
      rw [h3.len] at g3
      exact ⟨a, j, vs, rfl, rp_int.mp ry, h1, g1, g2, g3, fun p hp => fin_lstM S (rps_rep h3 _) (by rw [rep_len]; exact g3) q P hp⟩
    · exact h.elim
  · exact h.elim
section
variable {X : Cx} {W : WX} {a b o e : Expr} {ta tb to te : TD} {pos pos' : Pos}
theorem de_mulM (ha : DE X W a ta) (hb : DE X W b tb) : DE X W (.BinOp a .Mult b pos) (tOpD rMulM ta tb) := de_op op_rep lift_mulM ha hb
theorem ds_fldK {f : Str} {K : PySem.W.Frag} (hK : X.K = K) (ho : DE X W o to) (he : DE X W e te) (hs : swapsWith e (some (.Attribute o f pos')) pos.line X.env = pure false := by rfl) : DS X W (.Assign [.Attribute o f pos'] e pos) (tFldSet K f to te) := hK ▸ ds_fld ho he hs
/-- a global tuple -/
theorem de_globT {x : Str} {g : Addr} {vs : List V} {ds : List D} (hm : X.mg x = some (.ref g)) (hq : ∀ H, SqT X.K H g vs) (hz : vs.length ≤ sizeLine) (hr : ∀ F, Rps X.K F ds vs) (hg : Gl X x := by rfl) (hd : (x == ("__debug__" : Str)) = false := by decide) : DE X W (.Name x pos) (tCD (.tup ds)) :=
  de_glob hg hm (v := .ref g) rfl (fun F => rp_tup.mpr ⟨g, vs, rfl, hq F, hz, hr F⟩) hd
end

/-! ## the head: facts by names, more Bools, defs at any address -/
def obsM (fa : List He.Fa) (fx : List (PySem.W.Frag → Bool)) (fn : List He5.DefA) (K : PySem.W.Frag) : He.AlD := ((fa.all fun f => f.ok K) && ((fx.all fun f => f K) && fn.all fun d => d.ok K), fn.map fun d => He5.fnA K (d.at_ K))
/-- what an object of the top leads to -/
def refsX (o : Obj) : List Addr := match o.data with
  | .func fd => He.refV fd.code
  | .cls cd => [cd.ns]
  | .dict es _ => es.toList.flatMap fun e => He.refV e.val
  | .fields vs => (match o.cls with
    | .type n => if (n == "classmethod" || n == "property") = true then vs.toList.flatMap He.refV else []
    | _ => [])
  | _ => []
def goX (g : Addr → Option Obj) : Nat → List Addr → List Addr → List Addr
  | 0, _, acc => acc
  | n + 1, front, acc => goX g n (front.flatMap fun a => match g a with
    | some o => refsX o
    | none => []) (acc ++ front)
def asX (g : Addr → Option Obj) (n : Nat) : List Addr := cStatics :: goX g n [mainGlobals] []
def saysM (fa : List He.Fa) (fx : List (PySem.W.Frag → Bool)) (fn : List He5.DefA) (K : PySem.W.Frag) : Prop := obsM fa fx fn K = He5.valA fn
def seenM (n : Nat) (fa : List He.Fa) (fx : List (PySem.W.Frag → Bool)) (fn : List He5.DefA) (g : Addr → Option Obj) : He.AlD := obsM fa fx fn (He.frG g (asX g n))
def hookM (n : Nat) (fa : List He.Fa) (fx : List (PySem.W.Frag → Bool)) (fn : List He5.DefA) : PySem.W.Hook where
  α := He.AlD
  obs := fun s => seenM n fa fx fn s.heap.get?
  val := fun _ => He5.valA fn
  says := fun _ h => ∃ K : PySem.W.Frag, K.In h ∧ saysM fa fx fn K
  of := fun _ _ e => ⟨_, He.frG_in, e⟩
  keeps := fun _ _ _ ⟨K, hK, c⟩ k => ⟨K, PySem.W.Frag.In.keeps hK k, c⟩
theorem seenM_eq {n : Nat} {fa : List He.Fa} {fx : List (PySem.W.Frag → Bool)} {fn : List He5.DefA} {g : Addr → Option Obj} {s : Shared} (h : ∀ a, g a = s.heap.get? a) : seenM n fa fx fn g = (hookM n fa fx fn).obs s := by
  have e : g = s.heap.get? := funext h
  rw [e] <;> rfl
section
variable {fa : List He.Fa} {fx : List (PySem.W.Frag → Bool)} {fn : List He5.DefA} {K : PySem.W.Frag}
theorem saysM_b (c : saysM fa fx fn K) : (fa.all fun f => f.ok K) = true ∧ (fx.all fun f => f K) = true ∧ (fn.all fun d => d.ok K) = true := by
  have z : ((fa.all fun f => f.ok K) && ((fx.all fun f => f K) && fn.all fun d => d.ok K)) = true := congrArg (fun z : He.AlD => z.1) c
  obtain ⟨z1, z2⟩ := He.ba z
  exact ⟨z1, He.ba z2⟩
theorem saysM_fact (c : saysM fa fx fn K) (i : Nat) {f : He.Fa} (h : fa[i]? = some f := by rfl) : f.ok K = true := List.all_eq_true.mp (saysM_b c).1 f (List.mem_of_getElem? h)
theorem saysM_more (c : saysM fa fx fn K) (i : Nat) {f : PySem.W.Frag → Bool} (h : fx[i]? = some f := by rfl) : f K = true := List.all_eq_true.mp (saysM_b c).2.1 f (List.mem_of_getElem? h)
theorem saysM_def (c : saysM fa fx fn K) (i : Nat) {d : He5.DefA} (h : fn[i]? = some d := by rfl) : ∃ fd, FunD K d.name d.qual d.params d.body d.scope (d.dvs K) (d.kws K) (d.at_ K) fd := by
  have e : fn.map (fun d => He5.fnA K (d.at_ K)) = fn.map He5.DefA.val := congrArg (fun z : He.AlD => z.2) c
  have e2 : (fn.map fun d => He5.fnA K (d.at_ K))[i]? = (fn.map He5.DefA.val)[i]? := by rw [e]
  rw [List.getElem?_map, List.getElem?_map, h] at e2
  exact He5.DefA.funD (Option.some.inj e2) (List.all_eq_true.mp (saysM_b c).2.2 d (List.mem_of_getElem? h))
end
/-- a class as isinstance and == ask for it -/
def clsB (C : PySem.W.Frag → Addr) (K : PySem.W.Frag) : Bool := He.eqO (PySem.W.findIn K (.ref (C K)) "__class__") (some (some (.builtin "object.__class__"))) && (He.eqO (PySem.W.specialIn K (.builtin "object.__class__") "__get__") (some (some (.builtin "getset_descriptor.__get__"))) &&
  (decide (PySem.W.takesIn K (.builtin "object.__class__") = some true) && (decide (PySem.W.mroIn K (C K) (.type "object") = some true) && He.eqO (PySem.W.findIn K (.ref (C K)) "__ne__") (some (some (.builtin "object.__ne__"))))))
structure ClsI (K : PySem.W.Frag) (C : Addr) : Prop where
  ca : PySem.W.findIn K (.ref C) "__class__" = some (some (.builtin "object.__class__"))
  cn : PySem.W.specialIn K (.builtin "object.__class__") "__get__" = some (some (.builtin "getset_descriptor.__get__"))
  ct : PySem.W.takesIn K (.builtin "object.__class__") = some true
  cm : PySem.W.mroIn K C (.type "object") = some true
  ne : PySem.W.findIn K (.ref C) "__ne__" = some (some (.builtin "object.__ne__"))
theorem clsB_ok {C : PySem.W.Frag → Addr} {K : PySem.W.Frag} (h : clsB C K = true) : ClsI K (C K) := by
  obtain ⟨h1, h⟩ := He.ba h
  obtain ⟨h2, h⟩ := He.ba h
  obtain ⟨h3, h⟩ := He.ba h
  obtain ⟨h4, h5⟩ := He.ba h
  exact ⟨He.eqO_ok h1, He.eqO_ok h2, of_decide_eq_true h3, of_decide_eq_true h4, He.eqO_ok h5⟩
/-- C.m a property: its record, its getter -/
def rcA (T : String) (p : Addr) (K : PySem.W.Frag) : Addr := match PySem.W.recIn K p T with
  | some (.ref g :: _) => g
  | _ => 0
def propB (C : PySem.W.Frag → Addr) (m : Str) (K : PySem.W.Frag) : Bool := He.eqO (PySem.W.findIn K (.ref (C K)) m) (some (some (.ref (He.ma K (C K) m)))) && (He.eqO (PySem.W.specialIn K (.ref (He.ma K (C K) m)) "__get__") (some (some (.builtin "property.__get__"))) &&
  (decide (PySem.W.takesIn K (.ref (He.ma K (C K) m)) = some true) && (match PySem.W.recIn K (He.ma K (C K) m) "property" with
    | some (.ref _ :: _) => true
    | _ => false)))
theorem propB_ok {C : PySem.W.Frag → Addr} {m : Str} {K : PySem.W.Frag} (h : propB C m K = true) : PropOf K (C K) m (He.ma K (C K) m) (rcA "property" (He.ma K (C K) m) K) := by
  obtain ⟨h1, h⟩ := He.ba h
  obtain ⟨h2, h⟩ := He.ba h
  obtain ⟨h3, h4⟩ := He.ba h
  refine ⟨He.eqO_ok h1, He.eqO_ok h2, of_decide_eq_true h3, ?_⟩
  unfold rcA
  split at h4
  · rename_i g r e
    exact ⟨r, by rw [e]⟩
  · cases h4
/-- C.m a classmethod -/
def cmetB (C : PySem.W.Frag → Addr) (m : Str) (K : PySem.W.Frag) : Bool := He5.wrapB K (C K) "classmethod" "classmethod.__get__" m && PySem.W.fnIn K (He5.wf K (C K) "classmethod" m)
theorem cmetB_ok {C : PySem.W.Frag → Addr} {m : Str} {K : PySem.W.Frag} (h : cmetB C m K = true) : ClX.CMet K (C K) (.type "type") m (He.ma K (C K) m) (He5.wf K (C K) "classmethod" m) := by
  obtain ⟨h1, h2⟩ := He.ba h
  exact He5.cmet_of h1 h2
def creadB (C : PySem.W.Frag → Addr) (K : PySem.W.Frag) : Bool := PySem.W.readsIn K (C K) (.type "type") && He.eqO (PySem.W.specialIn K (.ref (C K)) "__getattribute__") (some (some (.builtin "type.__getattribute__")))
theorem creadB_ok {C : PySem.W.Frag → Addr} {K : PySem.W.Frag} (h : creadB C K = true) : ClX.CRead K (C K) (.type "type") := by
  obtain ⟨h1, h2⟩ := He.ba h
  exact ⟨h1, He.eqO_ok h2⟩
/-- one more than the text's defs: a method in a class's body -/
def inCls (st : Stmt) (j : Nat) : Stmt := match st with
  | .ClassDef _ _ _ body _ _ _ _ _ _ _ => body.getD j (.Pass ⟨0, 0, 0, 0⟩)
  | s => s

/-! ## the law's call, where the def's promise may know that no repr runs -/
theorem no_cx {P : Program} {w : World} {outer : List Env} {H : Hp} {s s' : Shared} {e : Value} (c : L2.CX P w outer H s (fun _ _ _ => False) e s') : False := by
  obtain ⟨_, _, _, _, _, _, _, _, _, _, _, _, hE⟩ := c
  exact hE
theorem rps_ints {K : PySem.W.Frag} {F : Hp} : ∀ ns : List Int, Rps K F (ns.map D.int) (ns.map V.int)
  | [] => Rps.nil
  | n :: ns => Rps.cons (rp_int.mpr rfl) (rps_ints ns)
theorem law_run {P : Program} {w : World} {K : PySem.W.Frag} {mg mb : Str → Option Value} {k : Nat} {fa a : Addr} {sp : SpD} {s : Shared} {vs : List Value} {ns : List Int} {H : Hp}
    (kin : K.In s.heap) (top : s.heap.Ns mainGlobals mg) (blt : s.heap.Ns builtinsNs mb) (boot : ∀ x : Str, x ≠ "__name__" → mb x = bootBuiltins x) (lim : s.heap.NoLimit) (gens : s.gens = #[]) (at_ : s.heap.get? a = some { cls := .type "list", data := .seq vs.toArray })
    (hl : ns.length ≤ sizeLine) (room : Room k callerA) (F : ∀ base : Heap, K.In base → base.Ns mainGlobals mg → FnD true P w K mg base k fa sp) (hsp : sp [.scr (ns.map D.int)] (fun _ => none) (fun d _ => d = .bl true) X0)
    (only : Only H) (seen : SqL K H a (ns.map V.int)) (hok : HOk P w H s.heap) (one : ∀ b, H b ≠ none → b = a) (apart : H a ≠ none → K.lookup a = none) :
    codeAny (model P w) callerA (.call (.ref fa) ⟨[.ref a], []⟩) (fun r s' => r = .ok (.ret (.bool true)) ∧ OldK s.heap s'.heap ∧ s'.os = s.os ∧ AllBare s'.gens) s := by
  have unseen : ∀ {b : Addr} {o : Obj}, s.heap.get? b = some o → (b ≠ a ∨ ∀ it n, o.data ≠ .seq it n) → H b = none := by
    intro b o e z
    cases q : H b with
    | none => rfl
    | some u =>
      have hb : b = a := one b (by rw [q]; simp)
      rcases z with z | z
      · exact absurd hb z
      · rw [hb, at_] at e
        cases e
        exact (z _ _ rfl).elim
  have left : ∀ {b : Addr} {o : Obj}, s.heap.get? b = some o → H b = none → (hidT s.heap H).get? b = some o := fun e n => hidT_get e n
  have spaces : ∀ {b : Addr} {m : Str → Option Value}, s.heap.Ns b m → (hidT s.heap H).Ns b m := by
    rintro b m ⟨o, es, ep, e, d, r⟩
    exact ⟨o, es, ep, left e (unseen e (.inr fun it n z => by rw [d] at z; cases z)), d, r⟩
  have kin2 : K.In (hidT s.heap H) := by
    intro b o e
    refine left (kin b o e) ?_
    cases q : H b with
    | none => rfl
    | some u =>
      have hb : b = a := one b (by rw [q]; simp)
      have := apart (by rw [← hb, q]; simp)
      rw [hb, this] at e
      cases e
  have md : Mod K mg (hidT s.heap H) := ⟨kin2, spaces top, ⟨mb, spaces blt, boot⟩, let ⟨mc, z1, z2⟩ := lim; ⟨mc, spaces z1, z2⟩⟩
  have env : Env0 P w K mg (hidT s.heap H) callerA [] s H := ⟨rfl, md, fun b o e => of_hidT e, Nat.le_of_eq (hidT_size _ _), trivial, fun b hb => absurd hb (by intro z; cases z), hok, .of_eq gens⟩
  have promise : upSp K sp [V.ref a] H (fun v _ => v = .bl true) (fun _ _ _ => False) := by
    refine ⟨fun _ => none, H, fun _ => none, [.scr (ns.map D.int)], fun d _ => d = .bl true, X0, ⟨Same.refl H, fun _ _ z => (nomatch z), fun _ _ z => (nomatch z)⟩, Rps.cons (rp_scr.mpr ⟨a, _, rfl, seen, by rw [List.length_map]; exact hl, rps_ints ns⟩) Rps.nil, hsp, ?_, postX0⟩
    intro v H' F' M' d _ _ r q
    rw [q] at r
    exact rp_bl.mp r
  refine codeAny_mono (F _ kin2 (spaces top) callerA [] s H [.ref a] [.ref a] _ _ room (fun _ => rfl) env (.cons rfl .nil) promise) ?_
  intro r s' fin
  match r, fin with
  | .error e, fin => exact (no_cx fin).elim
  | .ok .next, fin => exact False.elim fin
  | .ok .brk, fin => exact False.elim fin
  | .ok .cont, fin => exact False.elim fin
  | .ok (.ret u), fin =>
    obtain ⟨v, H', os, bare, un, hok', ru, rfl⟩ := fin
    obtain rfl : u = Value.bool true := ru
    refine ⟨rfl, OldK.of_keep fun b o e => ?_, os, bare⟩
    cases q : H b with
    | none => exact un.keep b o e q (fun z => nomatch z) (by simp)
    | some u =>
      rcases only b with z | ⟨ob, xs, z⟩
      · rw [q] at z; cases z
      · obtain ⟨k1, _⟩ := hok b _ z
        obtain ⟨k2, _⟩ := hok' b _ (un.frzs b ob _ z)
        rw [e] at k1
        cases k1
        exact k2
theorem law_callD {P : Program} {w : World} {K : PySem.W.Frag} {mg mb : Str → Option Value} {k : Nat} {fa a : Addr} {sp : SpD} {s : Shared} {vs : List Value} {ns : List Int}
    (kin : K.In s.heap) (top : s.heap.Ns mainGlobals mg) (blt : s.heap.Ns builtinsNs mb) (boot : ∀ x : Str, x ≠ "__name__" → mb x = bootBuiltins x) (lim : s.heap.NoLimit) (gens : s.gens = #[]) (at_ : s.heap.get? a = some { cls := .type "list", data := .seq vs.toArray })
    (hints : IntsAre vs ns) (hl : ns.length ≤ sizeLine) (room : Room k callerA) (F : ∀ base : Heap, K.In base → base.Ns mainGlobals mg → FnD true P w K mg base k fa sp) (hsp : sp [.scr (ns.map D.int)] (fun _ => none) (fun d _ => d = .bl true) X0) :
    codeAny (model P w) callerA (.call (.ref fa) ⟨[.ref a], []⟩) (fun r s' => r = .ok (.ret (.bool true)) ∧ OldK s.heap s'.heap ∧ s'.os = s.os ∧ AllBare s'.gens) s := by
  have rv := vals_ints hints
  have len := hints.length
  cases own : K.lookup a with
  | some o =>
    have e := kin a o own
    rw [at_] at e
    cases e
    have bare : HOk P w (fun _ => none) s.heap := fun b u z => nomatch (show (none : Option HO) = some u from z)
    exact law_run kin top blt boot lim gens at_ hl room F hsp (fun _ => .inl rfl) (.inr ⟨_, vs.toArray, _, own, rfl, rfl, rfl, by rw [List.size_toArray, len]; exact hl, by simpa using rv⟩) bare (fun b z => absurd rfl z) fun z => absurd rfl z
  | none =>
    have hit : upd (fun _ => none) a (.frz { cls := .type "list", data := .seq vs.toArray } (.lst (ns.map V.int))) a = some (.frz { cls := .type "list", data := .seq vs.toArray } (.lst (ns.map V.int))) := upd_same
    refine law_run (H := upd (fun _ => none) a (.frz { cls := .type "list", data := .seq vs.toArray } (.lst (ns.map V.int)))) kin top blt boot lim gens at_ hl room F hsp (fun b => ?_) (.inl (.inr ⟨_, hit⟩)) (fun b u z => ?_) (fun b z => ?_) fun _ => own
    · by_cases hb : b = a
      · exact .inr ⟨_, _, by rw [hb]; exact hit⟩
      · exact .inl (upd_ne hb)
    · by_cases hb : b = a
      · subst hb
        rw [hit] at z
        cases z
        exact ⟨at_, by rw [List.length_map]; exact hl, vs, _, rv, at_⟩
      · rw [upd_ne hb] at z
        cases z
    · by_cases hb : b = a
      · exact hb
      · exact absurd (upd_ne hb) z
/-- the end of the head -/
theorem walk_ofD {l : PySem.W.OpenLaw} {n k : Nat} {q : Program} {loose : List Str} {XP : (Str → Option Value) → Heap → Prop} {YP : World → Heap → Prop} {d : DefRec}
    (hn : l.most = some n) (hn2 : n ≤ sizeLine) (hdf : d.params.defaults = []) (room : Room k callerA)
    (F : ∀ (w : World) (mg : Str → Option Value) (fa : Addr) (h : Heap), YP w h → h.Ns mainGlobals mg → mg d.name = some (.ref fa) → ∃ (K : PySem.W.Frag) (sp : SpD), K.In h ∧ (∀ ns : List Int, ns.length ≤ n → sp [.scr (ns.map D.int)] (fun _ => none) (fun d _ => d = .bl true) X0) ∧
      ∀ base : Heap, K.In base → base.Ns mainGlobals mg → FnD true l.prog w K mg base k fa sp) :
    PySem.W.WalkO q loose XP YP l.row.toRowW d [] (fun f vs => PySem.call f vs) := by
  refine Att.attach_call hn hdf ?_
  intro w s0 s1 mg mb fa o pm cd doc a vs ns G Y ho hd hcd hmg hobj hints hlen hg
  obtain ⟨K, sp, kin, hsp, hF⟩ := F w mg fa _ Y G.T.g hmg
  exact law_callD kin G.T.g G.T.b G.T.builtins G.T.nolimit hg hobj hints (Nat.le_trans hlen hn2) room hF (hsp ns hlen)
end DL
namespace DL
open PySem L2 PyProof.Rows
/-! ## what the walks' printer uses -/
def tJoinedD (ts : List TD) : TD := fun σ M Q E => tJsD ts Str.empty σ M (fun out M1 => Q (.str out) M1) E
theorem de_joinedN {X : Cx} {W : WX} {v1 v2 : Expr} {rest : List Expr} {ts : List TD} {pos : Pos} (h : DJ X W (v1 :: v2 :: rest) ts) : DE X W (.JoinedStr (v1 :: v2 :: rest) pos) (tJoinedD ts) := de_joined h
def tNegD (te : TD) : TD := fun σ M Q E => te σ M (fun d M1 => match d with
  | .int i => Q (.int (-i)) M1
  | _ => False) E
theorem de_neg {X : Cx} {W : WX} {e : Expr} {te : TD} {pos : Pos} (he : DE X W e te) : DE X W (.UnaryOp .USub e pos) (tNegD te) := by
  obtain ⟨v, p, l⟩ := he
  refine ⟨_, pe_un un_neg p, fun Z F M σd σ H Q E Qv S R h P PX => ?_⟩
  refine l Z F M σd σ H _ E _ S R h (fun x H1 F1 M1 d e1 S1 r1 q1 => ?_) PX
  cases d with
  | int i => exact ⟨i, rp_int.mp r1, P _ H1 F1 M1 _ e1 S1 (rp_int.mpr rfl) q1⟩
  | _ => exact q1.elim
theorem bt_int : bootBuiltins "int" = some (.type "int") := by decide +kernel
theorem bt_bool : bootBuiltins "bool" = some (.type "bool") := by decide +kernel
theorem bt_str : bootBuiltins "str" = some (.type "str") := by decide +kernel
theorem bt_tuple : bootBuiltins "tuple" = some (.type "tuple") := by decide +kernel
theorem bt_list : bootBuiltins "list" = some (.type "list") := by decide +kernel
theorem bt_dict : bootBuiltins "dict" = some (.type "dict") := by decide +kernel
theorem bt_abs : bootBuiltins "abs" = some (.builtin "abs") := by decide +kernel
theorem bt_max : bootBuiltins "max" = some (.builtin "max") := by decide +kernel
theorem bt_min : bootBuiltins "min" = some (.builtin "min") := by decide +kernel
theorem bt_all : bootBuiltins "all" = some (.builtin "all") := by decide +kernel
theorem bt_any : bootBuiltins "any" = some (.builtin "any") := by decide +kernel
theorem bt_len : bootBuiltins "len" = some (.builtin "len") := by decide +kernel
theorem bt_repr : bootBuiltins "repr" = some (.builtin "repr") := by decide +kernel
theorem bt_sorted : bootBuiltins "sorted" = some (.builtin "sorted") := by decide +kernel
theorem bt_isinstance : bootBuiltins "isinstance" = some (.builtin "isinstance") := by decide +kernel
end DL

/-! ### DL14 -/
set_option Elab.async false
set_option linter.all false
set_option maxRecDepth 100000
set_option maxHeartbeats 4000000
namespace DL
open PySem L2 PyProof.Rows

/-! ## how readings are shown to hold -/
section
variable {K : PySem.W.Frag} {M : HD} {Q : VKD}
theorem isi_ty {d : D} {t n : String} {b : Bool} (h : TyD K M d (.type t)) (e : kitB t n = some b) (q : Q (.bl b) M) : rIsiD K [d, .ty n] M Q := ⟨_, _, b, .ty n, h, kit_ty e, q⟩
theorem isi_own {d : D} {C : Addr} {ns : List Str} {xs : List D} (e : viewI M d = some (C, ns, xs)) (cl : Cls K C) (i : ClsI K C) (q : Q (.bl true) M) : rIsiD K [d, .ref C] M Q :=
  ⟨_, _, true, .own C, .ins e cl i.ca i.cn i.ct i.cm, by unfold PySem.W.kitOne; rw [if_pos (beq_self_eq_true _)], q⟩
theorem k_int : kitB "int" "int" = some true := by decide +kernel
theorem k_intbool : kitB "int" "bool" = some false := by decide +kernel
theorem k_str : kitB "str" "str" = some true := by decide +kernel
theorem k_tuple : kitB "tuple" "tuple" = some true := by decide +kernel
end
theorem lcD_map {g : TGD} {te : TD} {vs : List Nat} {σ : SD} {Q : List D → HD → Prop} {M : HD} (f : D → D) : ∀ {xs acc : List D}, (∀ x ∈ xs, ∀ N : VKD, N (f x) M → g x (wipeD σ vs) M (fun σ2 M2 => te σ2 M2 N X0) X0) → Q (acc ++ xs.map f) M → lcD g tYesD te vs σ Q xs acc M
  | [], acc, _, q => by rw [List.map_nil, List.append_nil] at q; exact q
  | x :: xs, acc, h, q => by
    refine h x List.mem_cons_self (fun y M4 => lcD g tYesD te vs σ Q xs (acc ++ [y]) M4) ?_
    refine lcD_map f (fun y hy => h y (List.mem_cons_of_mem _ hy)) ?_
    rw [List.append_assoc]
    exact q
/-- the same over typed items -/
theorem lcD_mapT {α : Type} {g : TGD} {te : TD} {vs : List Nat} {σ : SD} {Q : List D → HD → Prop} {M : HD} (d f : α → D) : ∀ {as : List α} {acc : List D}, (∀ a ∈ as, ∀ N : VKD, N (f a) M → g (d a) (wipeD σ vs) M (fun σ2 M2 => te σ2 M2 N X0) X0) → Q (acc ++ as.map f) M → lcD g tYesD te vs σ Q (as.map d) acc M
  | [], acc, _, q => by rw [List.map_nil, List.append_nil] at q; exact q
  | x :: xs, acc, h, q => by
    refine h x List.mem_cons_self (fun y M4 => lcD g tYesD te vs σ Q (xs.map d) (acc ++ [y]) M4) ?_
    refine lcD_mapT d f (fun y hy => h y (List.mem_cons_of_mem _ hy)) ?_
    rw [List.append_assoc]
    exact q
/-- a comprehension whose element changes the store -/
theorem lcD_inv {g : TGD} {te : TD} {vs : List Nat} {σ : SD} {Q : List D → HD → Prop} (xs : List D) (I : Nat → List D → HD → Prop) (step : ∀ i x, xs[i]? = some x → ∀ acc M, I i acc M → ∀ N : VKD, (∀ y M', I (i + 1) (acc ++ [y]) M' → N y M') → g x (wipeD σ vs) M (fun σ2 M2 => te σ2 M2 N X0) X0)
    (fin : ∀ acc M, I xs.length acc M → Q acc M) {M : HD} (h0 : I 0 [] M) : lcD g tYesD te vs σ Q xs [] M := by
  have go : ∀ (k i : Nat), xs.length - i = k → i ≤ xs.length → ∀ acc M, I i acc M → lcD g tYesD te vs σ Q (xs.drop i) acc M := by
    intro k
    induction k with
    | zero =>
      intro i hk hi acc M h
      have e : i = xs.length := by omega
      subst e
      rw [List.drop_length]
      exact fin acc M h
    | succ k ih =>
      intro i hk hi acc M h
      have hlt : i < xs.length := by omega
      rw [List.drop_eq_getElem_cons hlt]
      refine step i xs[i] (by simp [hlt]) acc M h (fun y M4 => lcD g tYesD te vs σ Q (xs.drop (i + 1)) (acc ++ [y]) M4) ?_
      exact fun y M' h' => ih (i + 1) (by omega) (by omega) _ M' h'
  have z := go xs.length 0 (by simp) (Nat.zero_le _) [] M h0
  rw [List.drop_zero] at z
  exact z
theorem forD_inv {g : TGD} {tb : TSD} {D : EndsD} (xs : List DL.D) (I : Nat → SD → HD → Prop) (step : ∀ i x, xs[i]? = some x → ∀ σ M, I i σ M → ∀ N : SD → HD → Prop, (∀ σ' M', I (i + 1) σ' M' → N σ' M') → g x σ M (fun σ2 M2 => tb { D with nx := N, ct := N, bk := D.nx } σ2 M2) D.ex)
    (fin : ∀ σ M, I xs.length σ M → D.nx σ M) {σ : SD} {M : HD} (h0 : I 0 σ M) : forD g tb D xs σ M := by
  have go : ∀ (k i : Nat), xs.length - i = k → i ≤ xs.length → ∀ σ M, I i σ M → forD g tb D (xs.drop i) σ M := by
    intro k
    induction k with
    | zero =>
      intro i hk hi σ M h
      have e : i = xs.length := by omega
      subst e
      rw [List.drop_length]
      exact fin σ M h
    | succ k ih =>
      intro i hk hi σ M h
      have hlt : i < xs.length := by omega
      rw [List.drop_eq_getElem_cons hlt]
      refine step i xs[i] (by simp [hlt]) σ M h (forD g tb D (xs.drop (i + 1))) ?_
      exact fun σ' M' h' => ih (i + 1) (by omega) (by omega) σ' M' h'
  have z := go xs.length 0 (by simp) (Nat.zero_le _) σ M h0
  rw [List.drop_zero] at z
  exact z
theorem blsD_map {α : Type} (f : α → Bool) : ∀ xs : List α, blsD (xs.map fun x => .bl (f x)) = some (xs.map f)
  | [] => rfl
  | x :: xs => by simp only [List.map_cons, blsD, blsD_map f xs, Option.map_some]
theorem all_true {α : Type} (xs : List α) : (xs.map fun _ => true).all id = true := by simp
theorem strsD_map : ∀ ys : List Str, strsD (ys.map D.str) = some ys
  | [] => rfl
  | y :: ys => by simp only [List.map_cons, strsD, strsD_map ys, Option.map_some]
/-- all([..]) of what is always true -/
theorem all_lst {α : Type} {M : HD} {Q : VKD} (xs : List α) (q : Q (.bl true) M) : rAllD (fun bs => bs.all id) [.lst (xs.map fun _ => .bl true)] M Q := by
  unfold rAllD viewQ
  dsimp only
  rw [blsD_map (fun _ => true) xs]
  dsimp only
  rw [all_true]
  exact q
end DL

/-! ### K84a -/
set_option Elab.async false
set_option linter.all false
set_option maxRecDepth 100000
set_option maxHeartbeats 4000000
namespace K84
open PySem L2 DL PyProof.Rows

/-! ## the text -/
def top (i : Nat) : Stmt := PySem.Challenge.pw_holdlevels_k84_texts_of_tasks_levels_and.main.body.getD i (.Pass ⟨0, 0, 0, 0⟩)
def N__law_stream : List Str := ["script", "at", "cell", "great", "mixed"]
theorem sc__law_stream : FnScope N__law_stream ["script", "at"] (defScope (top 67)) := C8.fnScope_by (by decide +kernel)
def N__law_draw : List Str := ["stream", "high", "found", "one", "two"]
theorem sc__law_draw : FnScope N__law_draw ["stream", "high"] (defScope (top 68)) := C8.fnScope_by (by decide +kernel)
def N__law_mixed : List Str := ["stream", "items", "left", "turn"]
theorem sc__law_mixed : FnScope N__law_mixed ["stream", "items"] (defScope (top 70)) := C8.fnScope_by (by decide +kernel)
def N__law_names : List Str := ["stream", "much", "some"]
theorem sc__law_names : FnScope N__law_names ["stream", "much"] (defScope (top 71)) := C8.fnScope_by (by decide +kernel)
def N__law_pick : List Str := ["stream", "items"]
theorem sc__law_pick : FnScope N__law_pick ["stream", "items"] (defScope (top 69)) := C8.fnScope_by (by decide +kernel)
def N__law_sections : List Str := ["stream", "high", "locks", "found", "begin", "turn", "end"]
theorem sc__law_sections : FnScope N__law_sections ["stream", "high", "locks"] (defScope (top 72)) := C8.fnScope_by (by decide +kernel)
def N__law_some : List Str := ["stream", "most", "much", "parts", "found", "turn", "at", "locks", "name_here", "high", "wide", "due"]
theorem sc__law_some : FnScope N__law_some ["stream", "most"] (defScope (top 73)) := C8.fnScope_by (by decide +kernel)
def N__law_numbers : List Str := ["stream", "some", "much", "found", "at"]
theorem sc__law_numbers : FnScope N__law_numbers ["stream", "some"] (defScope (top 74)) := C8.fnScope_by (by decide +kernel)
def N__law_plan : List Str := ["stream", "some", "ticks", "found", "line", "tick", "size"]
theorem sc__law_plan : FnScope N__law_plan ["stream", "some", "ticks"] (defScope (top 75)) := C8.fnScope_by (by decide +kernel)
def N_is_name : List Str := ["value", "sign"]
theorem sc_is_name : FnScope N_is_name ["value"] (defScope (top 22)) := C8.fnScope_by (by decide +kernel)
def N_is_integer : List Str := ["value"]
theorem sc_is_integer : FnScope N_is_integer ["value"] (defScope (top 20)) := C8.fnScope_by (by decide +kernel)
def N_is_between : List Str := ["value", "low", "high"]
theorem sc_is_between : FnScope N_is_between ["value", "low", "high"] (defScope (top 21)) := C8.fnScope_by (by decide +kernel)
def N_is_section : List Str := ["value", "longest", "begin", "end", "lock"]
theorem sc_is_section : FnScope N_is_section ["value", "longest"] (defScope (top 23)) := C8.fnScope_by (by decide +kernel)
def N_are_sections : List Str := ["value", "longest", "section", "before", "after"]
theorem sc_are_sections : FnScope N_are_sections ["value", "longest"] (defScope (top 24)) := C8.fnScope_by (by decide +kernel)
def N_is_task : List Str := ["value", "name", "longest", "gap", "deadline", "room", "sections"]
theorem sc_is_task : FnScope N_is_task ["value"] (defScope (top 25)) := C8.fnScope_by (by decide +kernel)
def N_require_plain : List Str := ["tasks", "task"]
theorem sc_require_plain : FnScope N_require_plain ["tasks"] (defScope (top 32)) := C8.fnScope_by (by decide +kernel)
def N_lowest : List Str := ["top", "bottom", "one", "other"]
theorem sc_lowest : FnScope N_lowest ["top", "bottom"] (defScope (top 29)) := C8.fnScope_by (by decide +kernel)
def N_load_of : List Str := ["tasks", "top", "bottom", "task"]
theorem sc_load_of : FnScope N_load_of ["tasks"] (defScope (top 30)) := C8.fnScope_by (by decide +kernel)
def N_ceilings_of : List Str := ["tasks", "found", "at", "task", "begin", "end", "lock"]
theorem sc_ceilings_of : FnScope N_ceilings_of ["tasks"] (defScope (top 31)) := C8.fnScope_by (by decide +kernel)
def N_Tasks___init__ : List Str := ["self", "tasks", "load", "task", "at"]
theorem sc_Tasks___init__ : FnScope N_Tasks___init__ ["self", "tasks"] (defScope (inCls (top 33) 1)) := C8.fnScope_by (by decide +kernel)
def N_Tasks_of : List Str := ["cls", "tasks"]
theorem sc_Tasks_of : FnScope N_Tasks_of ["cls", "tasks"] (defScope (inCls (top 33) 2)) := C8.fnScope_by (by decide +kernel)
def N_require_tasks : List Str := ["tasks"]
theorem sc_require_tasks : FnScope N_require_tasks ["tasks"] (defScope (top 34)) := C8.fnScope_by (by decide +kernel)
def N_Tasks___len__ : List Str := ["self"]
theorem sc_Tasks___len__ : FnScope N_Tasks___len__ ["self"] (defScope (inCls (top 33) 21)) := C8.fnScope_by (by decide +kernel)
def N_are_levels : List Str := ["tasks", "numbers", "at", "number"]
theorem sc_are_levels : FnScope N_are_levels ["tasks", "numbers"] (defScope (top 43)) := C8.fnScope_by (by decide +kernel)
def N_Levels___init__ : List Str := ["self", "tasks", "numbers"]
theorem sc_Levels___init__ : FnScope N_Levels___init__ ["self", "tasks", "numbers"] (defScope (inCls (top 44) 0)) := C8.fnScope_by (by decide +kernel)
def N_Levels_of : List Str := ["cls", "tasks", "numbers"]
theorem sc_Levels_of : FnScope N_Levels_of ["cls", "tasks", "numbers"] (defScope (inCls (top 44) 1)) := C8.fnScope_by (by decide +kernel)
def N__law_great : List Str := ["stream", "begin", "found", "turn", "high", "due", "room_here", "name_here"]
theorem sc__law_great : FnScope N__law_great ["stream"] (defScope (top 79)) := C8.fnScope_by (by decide +kernel)
def N__law_task_text : List Str := ["line", "words", "one", "begin", "end", "lock"]
theorem sc__law_task_text : FnScope N__law_task_text ["line"] (defScope (top 76)) := C8.fnScope_by (by decide +kernel)
def N_require_task : List Str := ["task"]
theorem sc_require_task : FnScope N_require_task ["task"] (defScope (top 26)) := C8.fnScope_by (by decide +kernel)
def N_task_text : List Str := ["task", "name", "longest", "gap", "deadline", "room", "sections", "words", "number", "begin", "end", "lock"]
theorem sc_task_text : FnScope N_task_text ["task"] (defScope (top 54)) := C8.fnScope_by (by decide +kernel)
def N_format_task : List Str := ["task"]
theorem sc_format_task : FnScope N_format_task ["task"] (defScope (top 55)) := C8.fnScope_by (by decide +kernel)
def N_require_text : List Str := ["text"]
theorem sc_require_text : FnScope N_require_text ["text"] (defScope (top 52)) := C8.fnScope_by (by decide +kernel)
def N_number_in : List Str := ["word", "sign"]
theorem sc_number_in : FnScope N_number_in ["word"] (defScope (top 50)) := C8.fnScope_by (by decide +kernel)
def N_pair_in : List Str := ["word", "one", "sign", "other"]
theorem sc_pair_in : FnScope N_pair_in ["word"] (defScope (top 51)) := C8.fnScope_by (by decide +kernel)
def N_parse_task : List Str := ["text", "name", "words", "numbers", "word", "locks", "spans", "sections", "lock", "span", "found"]
theorem sc_parse_task : FnScope N_parse_task ["text"] (defScope (top 56)) := C8.fnScope_by (by decide +kernel)
def N_format_tasks : List Str := ["tasks", "task"]
theorem sc_format_tasks : FnScope N_format_tasks ["tasks"] (defScope (top 57)) := C8.fnScope_by (by decide +kernel)
def N_lines_in : List Str := ["text"]
theorem sc_lines_in : FnScope N_lines_in ["text"] (defScope (top 53)) := C8.fnScope_by (by decide +kernel)
def N_parse_tasks : List Str := ["text", "found", "line"]
theorem sc_parse_tasks : FnScope N_parse_tasks ["text"] (defScope (top 58)) := C8.fnScope_by (by decide +kernel)
def N_Tasks___eq__ : List Str := ["self", "other"]
theorem sc_Tasks___eq__ : FnScope N_Tasks___eq__ ["self", "other"] (defScope (inCls (top 33) 22)) := C8.fnScope_by (by decide +kernel)
def N_Tasks_tasks : List Str := ["self"]
theorem sc_Tasks_tasks : FnScope N_Tasks_tasks ["self"] (defScope (inCls (top 33) 3)) := C8.fnScope_by (by decide +kernel)
def N__law_levels_text : List Str := ["some", "numbers", "line", "here"]
theorem sc__law_levels_text : FnScope N__law_levels_text ["some", "numbers"] (defScope (top 78)) := C8.fnScope_by (by decide +kernel)
def N_require_levels : List Str := ["levels"]
theorem sc_require_levels : FnScope N_require_levels ["levels"] (defScope (top 45)) := C8.fnScope_by (by decide +kernel)
def N_levels_text : List Str := ["levels", "names", "name", "number"]
theorem sc_levels_text : FnScope N_levels_text ["levels"] (defScope (top 59)) := C8.fnScope_by (by decide +kernel)
def N_format_levels : List Str := ["levels"]
theorem sc_format_levels : FnScope N_format_levels ["levels"] (defScope (top 60)) := C8.fnScope_by (by decide +kernel)
def N_parse_levels : List Str := ["tasks", "text", "parts", "numbers", "part", "found"]
theorem sc_parse_levels : FnScope N_parse_levels ["tasks", "text"] (defScope (top 61)) := C8.fnScope_by (by decide +kernel)
def N_Levels___eq__ : List Str := ["self", "other"]
theorem sc_Levels___eq__ : FnScope N_Levels___eq__ ["self", "other"] (defScope (inCls (top 44) 19)) := C8.fnScope_by (by decide +kernel)
def N_Levels_numbers : List Str := ["self"]
theorem sc_Levels_numbers : FnScope N_Levels_numbers ["self"] (defScope (inCls (top 44) 5)) := C8.fnScope_by (by decide +kernel)
def N__law_plan_text : List Str := ["plan", "tick", "name_here", "size"]
theorem sc__law_plan_text : FnScope N__law_plan_text ["plan"] (defScope (top 77)) := C8.fnScope_by (by decide +kernel)
def N_is_job : List Str := ["tasks", "value"]
theorem sc_is_job : FnScope N_is_job ["tasks", "value"] (defScope (top 38)) := C8.fnScope_by (by decide +kernel)
def N_have_gaps : List Str := ["tasks", "jobs", "last", "tick", "name", "length"]
theorem sc_have_gaps : FnScope N_have_gaps ["tasks", "jobs"] (defScope (top 39)) := C8.fnScope_by (by decide +kernel)
def N_is_plan_in : List Str := ["tasks", "value", "job", "one", "other"]
theorem sc_is_plan_in : FnScope N_is_plan_in ["tasks", "value"] (defScope (top 40)) := C8.fnScope_by (by decide +kernel)
def N_require_plan : List Str := ["tasks", "plan"]
theorem sc_require_plan : FnScope N_require_plan ["tasks", "plan"] (defScope (top 41)) := C8.fnScope_by (by decide +kernel)
def N_plan_lines : List Str := ["plan", "tick", "name", "length"]
theorem sc_plan_lines : FnScope N_plan_lines ["plan"] (defScope (top 62)) := C8.fnScope_by (by decide +kernel)
def N_format_plan : List Str := ["tasks", "plan"]
theorem sc_format_plan : FnScope N_format_plan ["tasks", "plan"] (defScope (top 64)) := C8.fnScope_by (by decide +kernel)
def N_job_in : List Str := ["line", "words"]
theorem sc_job_in : FnScope N_job_in ["line"] (defScope (top 63)) := C8.fnScope_by (by decide +kernel)
def N_parse_plan : List Str := ["tasks", "text", "found", "line"]
theorem sc_parse_plan : FnScope N_parse_plan ["tasks", "text"] (defScope (top 65)) := C8.fnScope_by (by decide +kernel)
def N__law_right : List Str := ["stream", "some", "numbers", "plan", "group", "held", "line", "text"]
theorem sc__law_right : FnScope N__law_right ["stream"] (defScope (top 80)) := C8.fnScope_by (by decide +kernel)
def N_law : List Str := ["script", "at", "stream", "turn", "none", "told", "great", "plan"]
theorem sc_law : FnScope N_law ["script"] (defScope (top 81)) := C8.fnScope_by (by decide +kernel)
/-! ## what the text's names stand for -/
structure Txt (K : PySem.W.Frag) (mg : Str → Option Value) : Prop where
  i_DIGITS : ∃ t, mg "DIGITS" = some (.str "0123456789" t)
  i_LETTERS : ∃ t, mg "LETTERS" = some (.str "abcdefghijklmnopqrstuvwxyz" t)
  g_Levels : mg "Levels" = some (.ref (He.ga K "Levels"))
  i_MAX_DEADLINE : ∃ t, mg "MAX_DEADLINE" = some (.int 20000 t)
  i_MAX_GAP : ∃ t, mg "MAX_GAP" = some (.int 1000 t)
  g_MAX_LOAD : mg "MAX_LOAD" = some (.ref (He.ga K "MAX_LOAD"))
  q_MAX_LOAD : ∀ H, SqT K H (He.ga K "MAX_LOAD") (List.map V.int [9, 10])
  i_MAX_LONGEST : ∃ t, mg "MAX_LONGEST" = some (.int 100 t)
  i_MAX_NAME : ∃ t, mg "MAX_NAME" = some (.int 8 t)
  i_MAX_ROOM : ∃ t, mg "MAX_ROOM" = some (.int 1000000 t)
  i_MAX_SECTIONS : ∃ t, mg "MAX_SECTIONS" = some (.int 8 t)
  i_MAX_TICK : ∃ t, mg "MAX_TICK" = some (.int 20000 t)
  i_MOST_DIGITS : ∃ t, mg "MOST_DIGITS" = some (.int 40 t)
  g_Tasks : mg "Tasks" = some (.ref (He.ga K "Tasks"))
  g__law_draw : mg "_law_draw" = some (.ref (He.ga K "_law_draw"))
  k__law_draw : PySem.W.keepIn K (.ref (He.ga K "_law_draw")) = true
  g__law_great : mg "_law_great" = some (.ref (He.ga K "_law_great"))
  k__law_great : PySem.W.keepIn K (.ref (He.ga K "_law_great")) = true
  g__law_levels_text : mg "_law_levels_text" = some (.ref (He.ga K "_law_levels_text"))
  k__law_levels_text : PySem.W.keepIn K (.ref (He.ga K "_law_levels_text")) = true
  g__law_mixed : mg "_law_mixed" = some (.ref (He.ga K "_law_mixed"))
  k__law_mixed : PySem.W.keepIn K (.ref (He.ga K "_law_mixed")) = true
  g__law_names : mg "_law_names" = some (.ref (He.ga K "_law_names"))
  k__law_names : PySem.W.keepIn K (.ref (He.ga K "_law_names")) = true
  g__law_numbers : mg "_law_numbers" = some (.ref (He.ga K "_law_numbers"))
  k__law_numbers : PySem.W.keepIn K (.ref (He.ga K "_law_numbers")) = true
  g__law_pick : mg "_law_pick" = some (.ref (He.ga K "_law_pick"))
  k__law_pick : PySem.W.keepIn K (.ref (He.ga K "_law_pick")) = true
  g__law_plan : mg "_law_plan" = some (.ref (He.ga K "_law_plan"))
  k__law_plan : PySem.W.keepIn K (.ref (He.ga K "_law_plan")) = true
  g__law_plan_text : mg "_law_plan_text" = some (.ref (He.ga K "_law_plan_text"))
  k__law_plan_text : PySem.W.keepIn K (.ref (He.ga K "_law_plan_text")) = true
  g__law_right : mg "_law_right" = some (.ref (He.ga K "_law_right"))
  k__law_right : PySem.W.keepIn K (.ref (He.ga K "_law_right")) = true
  g__law_sections : mg "_law_sections" = some (.ref (He.ga K "_law_sections"))
  k__law_sections : PySem.W.keepIn K (.ref (He.ga K "_law_sections")) = true
  g__law_some : mg "_law_some" = some (.ref (He.ga K "_law_some"))
  k__law_some : PySem.W.keepIn K (.ref (He.ga K "_law_some")) = true
  g__law_stream : mg "_law_stream" = some (.ref (He.ga K "_law_stream"))
  k__law_stream : PySem.W.keepIn K (.ref (He.ga K "_law_stream")) = true
  g__law_task_text : mg "_law_task_text" = some (.ref (He.ga K "_law_task_text"))
  k__law_task_text : PySem.W.keepIn K (.ref (He.ga K "_law_task_text")) = true
  g_are_levels : mg "are_levels" = some (.ref (He.ga K "are_levels"))
  k_are_levels : PySem.W.keepIn K (.ref (He.ga K "are_levels")) = true
  g_are_sections : mg "are_sections" = some (.ref (He.ga K "are_sections"))
  k_are_sections : PySem.W.keepIn K (.ref (He.ga K "are_sections")) = true
  g_ceilings_of : mg "ceilings_of" = some (.ref (He.ga K "ceilings_of"))
  k_ceilings_of : PySem.W.keepIn K (.ref (He.ga K "ceilings_of")) = true
  g_format_levels : mg "format_levels" = some (.ref (He.ga K "format_levels"))
  k_format_levels : PySem.W.keepIn K (.ref (He.ga K "format_levels")) = true
  g_format_plan : mg "format_plan" = some (.ref (He.ga K "format_plan"))
  k_format_plan : PySem.W.keepIn K (.ref (He.ga K "format_plan")) = true
  g_format_task : mg "format_task" = some (.ref (He.ga K "format_task"))
  k_format_task : PySem.W.keepIn K (.ref (He.ga K "format_task")) = true
  g_format_tasks : mg "format_tasks" = some (.ref (He.ga K "format_tasks"))
  k_format_tasks : PySem.W.keepIn K (.ref (He.ga K "format_tasks")) = true
  g_have_gaps : mg "have_gaps" = some (.ref (He.ga K "have_gaps"))
  k_have_gaps : PySem.W.keepIn K (.ref (He.ga K "have_gaps")) = true
  g_is_between : mg "is_between" = some (.ref (He.ga K "is_between"))
  k_is_between : PySem.W.keepIn K (.ref (He.ga K "is_between")) = true
  g_is_integer : mg "is_integer" = some (.ref (He.ga K "is_integer"))
  k_is_integer : PySem.W.keepIn K (.ref (He.ga K "is_integer")) = true
  g_is_job : mg "is_job" = some (.ref (He.ga K "is_job"))
  k_is_job : PySem.W.keepIn K (.ref (He.ga K "is_job")) = true
  g_is_name : mg "is_name" = some (.ref (He.ga K "is_name"))
  k_is_name : PySem.W.keepIn K (.ref (He.ga K "is_name")) = true
  g_is_plan_in : mg "is_plan_in" = some (.ref (He.ga K "is_plan_in"))
  k_is_plan_in : PySem.W.keepIn K (.ref (He.ga K "is_plan_in")) = true
  g_is_section : mg "is_section" = some (.ref (He.ga K "is_section"))
  k_is_section : PySem.W.keepIn K (.ref (He.ga K "is_section")) = true
  g_is_task : mg "is_task" = some (.ref (He.ga K "is_task"))
  k_is_task : PySem.W.keepIn K (.ref (He.ga K "is_task")) = true
  g_job_in : mg "job_in" = some (.ref (He.ga K "job_in"))
  k_job_in : PySem.W.keepIn K (.ref (He.ga K "job_in")) = true
  g_law : mg "law" = some (.ref (He.ga K "law"))
  k_law : PySem.W.keepIn K (.ref (He.ga K "law")) = true
  g_levels_text : mg "levels_text" = some (.ref (He.ga K "levels_text"))
  k_levels_text : PySem.W.keepIn K (.ref (He.ga K "levels_text")) = true
  g_lines_in : mg "lines_in" = some (.ref (He.ga K "lines_in"))
  k_lines_in : PySem.W.keepIn K (.ref (He.ga K "lines_in")) = true
  g_load_of : mg "load_of" = some (.ref (He.ga K "load_of"))
  k_load_of : PySem.W.keepIn K (.ref (He.ga K "load_of")) = true
  g_lowest : mg "lowest" = some (.ref (He.ga K "lowest"))
  k_lowest : PySem.W.keepIn K (.ref (He.ga K "lowest")) = true
  g_number_in : mg "number_in" = some (.ref (He.ga K "number_in"))
  k_number_in : PySem.W.keepIn K (.ref (He.ga K "number_in")) = true
  g_pair_in : mg "pair_in" = some (.ref (He.ga K "pair_in"))
  k_pair_in : PySem.W.keepIn K (.ref (He.ga K "pair_in")) = true
  g_parse_levels : mg "parse_levels" = some (.ref (He.ga K "parse_levels"))
  k_parse_levels : PySem.W.keepIn K (.ref (He.ga K "parse_levels")) = true
  g_parse_plan : mg "parse_plan" = some (.ref (He.ga K "parse_plan"))
  k_parse_plan : PySem.W.keepIn K (.ref (He.ga K "parse_plan")) = true
  g_parse_task : mg "parse_task" = some (.ref (He.ga K "parse_task"))
  k_parse_task : PySem.W.keepIn K (.ref (He.ga K "parse_task")) = true
  g_parse_tasks : mg "parse_tasks" = some (.ref (He.ga K "parse_tasks"))
  k_parse_tasks : PySem.W.keepIn K (.ref (He.ga K "parse_tasks")) = true
  g_plan_lines : mg "plan_lines" = some (.ref (He.ga K "plan_lines"))
  k_plan_lines : PySem.W.keepIn K (.ref (He.ga K "plan_lines")) = true
  g_require_levels : mg "require_levels" = some (.ref (He.ga K "require_levels"))
  k_require_levels : PySem.W.keepIn K (.ref (He.ga K "require_levels")) = true
  g_require_plain : mg "require_plain" = some (.ref (He.ga K "require_plain"))
  k_require_plain : PySem.W.keepIn K (.ref (He.ga K "require_plain")) = true
  g_require_plan : mg "require_plan" = some (.ref (He.ga K "require_plan"))
  k_require_plan : PySem.W.keepIn K (.ref (He.ga K "require_plan")) = true
  g_require_task : mg "require_task" = some (.ref (He.ga K "require_task"))
  k_require_task : PySem.W.keepIn K (.ref (He.ga K "require_task")) = true
  g_require_tasks : mg "require_tasks" = some (.ref (He.ga K "require_tasks"))
  k_require_tasks : PySem.W.keepIn K (.ref (He.ga K "require_tasks")) = true
  g_require_text : mg "require_text" = some (.ref (He.ga K "require_text"))
  k_require_text : PySem.W.keepIn K (.ref (He.ga K "require_text")) = true
  g_task_text : mg "task_text" = some (.ref (He.ga K "task_text"))
  k_task_text : PySem.W.keepIn K (.ref (He.ga K "task_text")) = true
  f_abs : mg "abs" = none
  f_all : mg "all" = none
  f_bool : mg "bool" = none
  f_enumerate : mg "enumerate" = none
  f_int : mg "int" = none
  f_isinstance : mg "isinstance" = none
  f_len : mg "len" = none
  f_list : mg "list" = none
  f_max : mg "max" = none
  f_min : mg "min" = none
  f_range : mg "range" = none
  f_repr : mg "repr" = none
  f_sorted : mg "sorted" = none
  f_str : mg "str" = none
  f_tuple : mg "tuple" = none
  f_zip : mg "zip" = none
  c_Levels : Cls K (He.ga K "Levels")
  c_Tasks : Cls K (He.ga K "Tasks")
  k_Levels : ClsI K (He.ga K "Levels")
  k_Tasks : ClsI K (He.ga K "Tasks")
  a_Levels_own_numbers : NoAttr K (He.ga K "Levels") "own_numbers"
  a_Levels_own_tasks : NoAttr K (He.ga K "Levels") "own_tasks"
  a_Tasks_own_load : NoAttr K (He.ga K "Tasks") "own_load"
  a_Tasks_own_locks : NoAttr K (He.ga K "Tasks") "own_locks"
  a_Tasks_own_names : NoAttr K (He.ga K "Tasks") "own_names"
  a_Tasks_own_spots : NoAttr K (He.ga K "Tasks") "own_spots"
  a_Tasks_own_tasks : NoAttr K (He.ga K "Tasks") "own_tasks"
  m_Levels___eq__ : Meth K (He.ga K "Levels") "__eq__" (He.ma K (He.ga K "Levels") "__eq__")
  m_Tasks___eq__ : Meth K (He.ga K "Tasks") "__eq__" (He.ma K (He.ga K "Tasks") "__eq__")
  m_Tasks___len__ : Meth K (He.ga K "Tasks") "__len__" (He.ma K (He.ga K "Tasks") "__len__")
  n_Levels : Mk K (He.ga K "Levels") (He.ma K (He.ga K "Levels") "__init__")
  n_Tasks : Mk K (He.ga K "Tasks") (He.ma K (He.ga K "Tasks") "__init__")
  p_Levels_numbers : PropOf K (He.ga K "Levels") "numbers" (He.ma K (He.ga K "Levels") "numbers") (rcA "property" (He.ma K (He.ga K "Levels") "numbers") K)
  p_Tasks_tasks : PropOf K (He.ga K "Tasks") "tasks" (He.ma K (He.ga K "Tasks") "tasks") (rcA "property" (He.ma K (He.ga K "Tasks") "tasks") K)
  r_Levels : ClX.CRead K (He.ga K "Levels") (.type "type")
  r_Tasks : ClX.CRead K (He.ga K "Tasks") (.type "type")
  s_Levels_of : ClX.CMet K (He.ga K "Levels") (.type "type") "of" (He.ma K (He.ga K "Levels") "of") (He5.wf K (He.ga K "Levels") "classmethod" "of")
  s_Tasks_of : ClX.CMet K (He.ga K "Tasks") (.type "type") "of" (He.ma K (He.ga K "Tasks") "of") (He5.wf K (He.ga K "Tasks") "classmethod" "of")
  d__law_stream : ∃ fd, FunD K "_law_stream" "_law_stream" (defArgs (top 67)) (defBody (top 67)) (defScope (top 67)) [] [] (He.ga K "_law_stream") fd
  d__law_draw : ∃ fd, FunD K "_law_draw" "_law_draw" (defArgs (top 68)) (defBody (top 68)) (defScope (top 68)) [] [] (He.ga K "_law_draw") fd
  d__law_mixed : ∃ fd, FunD K "_law_mixed" "_law_mixed" (defArgs (top 70)) (defBody (top 70)) (defScope (top 70)) [] [] (He.ga K "_law_mixed") fd
  d__law_names : ∃ fd, FunD K "_law_names" "_law_names" (defArgs (top 71)) (defBody (top 71)) (defScope (top 71)) [] [] (He.ga K "_law_names") fd
  d__law_pick : ∃ fd, FunD K "_law_pick" "_law_pick" (defArgs (top 69)) (defBody (top 69)) (defScope (top 69)) [] [] (He.ga K "_law_pick") fd
  d__law_sections : ∃ fd, FunD K "_law_sections" "_law_sections" (defArgs (top 72)) (defBody (top 72)) (defScope (top 72)) [] [] (He.ga K "_law_sections") fd
  d__law_some : ∃ fd, FunD K "_law_some" "_law_some" (defArgs (top 73)) (defBody (top 73)) (defScope (top 73)) [] [] (He.ga K "_law_some") fd
  d__law_numbers : ∃ fd, FunD K "_law_numbers" "_law_numbers" (defArgs (top 74)) (defBody (top 74)) (defScope (top 74)) [] [] (He.ga K "_law_numbers") fd
  d__law_plan : ∃ fd, FunD K "_law_plan" "_law_plan" (defArgs (top 75)) (defBody (top 75)) (defScope (top 75)) [] [] (He.ga K "_law_plan") fd
  d_is_name : ∃ fd, FunD K "is_name" "is_name" (defArgs (top 22)) (defBody (top 22)) (defScope (top 22)) [] [] (He.ga K "is_name") fd
  d_is_integer : ∃ fd, FunD K "is_integer" "is_integer" (defArgs (top 20)) (defBody (top 20)) (defScope (top 20)) [] [] (He.ga K "is_integer") fd
  d_is_between : ∃ fd, FunD K "is_between" "is_between" (defArgs (top 21)) (defBody (top 21)) (defScope (top 21)) [] [] (He.ga K "is_between") fd
  d_is_section : ∃ fd, FunD K "is_section" "is_section" (defArgs (top 23)) (defBody (top 23)) (defScope (top 23)) [] [] (He.ga K "is_section") fd
  d_are_sections : ∃ fd, FunD K "are_sections" "are_sections" (defArgs (top 24)) (defBody (top 24)) (defScope (top 24)) [] [] (He.ga K "are_sections") fd
  d_is_task : ∃ fd, FunD K "is_task" "is_task" (defArgs (top 25)) (defBody (top 25)) (defScope (top 25)) [] [] (He.ga K "is_task") fd
  d_require_plain : ∃ fd, FunD K "require_plain" "require_plain" (defArgs (top 32)) (defBody (top 32)) (defScope (top 32)) [] [] (He.ga K "require_plain") fd
  d_lowest : ∃ fd, FunD K "lowest" "lowest" (defArgs (top 29)) (defBody (top 29)) (defScope (top 29)) [] [] (He.ga K "lowest") fd
  d_load_of : ∃ fd, FunD K "load_of" "load_of" (defArgs (top 30)) (defBody (top 30)) (defScope (top 30)) [] [] (He.ga K "load_of") fd
  d_ceilings_of : ∃ fd, FunD K "ceilings_of" "ceilings_of" (defArgs (top 31)) (defBody (top 31)) (defScope (top 31)) [] [] (He.ga K "ceilings_of") fd
  d_Tasks___init__ : ∃ fd, FunD K "__init__" "Tasks.__init__" (defArgs (inCls (top 33) 1)) (defBody (inCls (top 33) 1)) (defScope (inCls (top 33) 1)) [] [] (He.ma K (He.ga K "Tasks") "__init__") fd
  d_Tasks_of : ∃ fd, FunD K "of" "Tasks.of" (defArgs (inCls (top 33) 2)) (defBody (inCls (top 33) 2)) (defScope (inCls (top 33) 2)) [] [] (He5.wf K (He.ga K "Tasks") "classmethod" "of") fd
  d_require_tasks : ∃ fd, FunD K "require_tasks" "require_tasks" (defArgs (top 34)) (defBody (top 34)) (defScope (top 34)) [] [] (He.ga K "require_tasks") fd
  d_Tasks___len__ : ∃ fd, FunD K "__len__" "Tasks.__len__" (defArgs (inCls (top 33) 21)) (defBody (inCls (top 33) 21)) (defScope (inCls (top 33) 21)) [] [] (He.ma K (He.ga K "Tasks") "__len__") fd
  d_are_levels : ∃ fd, FunD K "are_levels" "are_levels" (defArgs (top 43)) (defBody (top 43)) (defScope (top 43)) [] [] (He.ga K "are_levels") fd
  d_Levels___init__ : ∃ fd, FunD K "__init__" "Levels.__init__" (defArgs (inCls (top 44) 0)) (defBody (inCls (top 44) 0)) (defScope (inCls (top 44) 0)) [] [] (He.ma K (He.ga K "Levels") "__init__") fd
  d_Levels_of : ∃ fd, FunD K "of" "Levels.of" (defArgs (inCls (top 44) 1)) (defBody (inCls (top 44) 1)) (defScope (inCls (top 44) 1)) [] [] (He5.wf K (He.ga K "Levels") "classmethod" "of") fd
  d__law_great : ∃ fd, FunD K "_law_great" "_law_great" (defArgs (top 79)) (defBody (top 79)) (defScope (top 79)) [] [] (He.ga K "_law_great") fd
  d__law_task_text : ∃ fd, FunD K "_law_task_text" "_law_task_text" (defArgs (top 76)) (defBody (top 76)) (defScope (top 76)) [] [] (He.ga K "_law_task_text") fd
  d_require_task : ∃ fd, FunD K "require_task" "require_task" (defArgs (top 26)) (defBody (top 26)) (defScope (top 26)) [] [] (He.ga K "require_task") fd
  d_task_text : ∃ fd, FunD K "task_text" "task_text" (defArgs (top 54)) (defBody (top 54)) (defScope (top 54)) [] [] (He.ga K "task_text") fd
  d_format_task : ∃ fd, FunD K "format_task" "format_task" (defArgs (top 55)) (defBody (top 55)) (defScope (top 55)) [] [] (He.ga K "format_task") fd
  d_require_text : ∃ fd, FunD K "require_text" "require_text" (defArgs (top 52)) (defBody (top 52)) (defScope (top 52)) [] [] (He.ga K "require_text") fd
  d_number_in : ∃ fd, FunD K "number_in" "number_in" (defArgs (top 50)) (defBody (top 50)) (defScope (top 50)) [] [] (He.ga K "number_in") fd
  d_pair_in : ∃ fd, FunD K "pair_in" "pair_in" (defArgs (top 51)) (defBody (top 51)) (defScope (top 51)) [] [] (He.ga K "pair_in") fd
  d_parse_task : ∃ fd, FunD K "parse_task" "parse_task" (defArgs (top 56)) (defBody (top 56)) (defScope (top 56)) [] [] (He.ga K "parse_task") fd
  d_format_tasks : ∃ fd, FunD K "format_tasks" "format_tasks" (defArgs (top 57)) (defBody (top 57)) (defScope (top 57)) [] [] (He.ga K "format_tasks") fd
  d_lines_in : ∃ fd, FunD K "lines_in" "lines_in" (defArgs (top 53)) (defBody (top 53)) (defScope (top 53)) [] [] (He.ga K "lines_in") fd
  d_parse_tasks : ∃ fd, FunD K "parse_tasks" "parse_tasks" (defArgs (top 58)) (defBody (top 58)) (defScope (top 58)) [] [] (He.ga K "parse_tasks") fd
  d_Tasks___eq__ : ∃ fd, FunD K "__eq__" "Tasks.__eq__" (defArgs (inCls (top 33) 22)) (defBody (inCls (top 33) 22)) (defScope (inCls (top 33) 22)) [] [] (He.ma K (He.ga K "Tasks") "__eq__") fd
  d_Tasks_tasks : ∃ fd, FunD K "tasks" "Tasks.tasks" (defArgs (inCls (top 33) 3)) (defBody (inCls (top 33) 3)) (defScope (inCls (top 33) 3)) [] [] (rcA "property" (He.ma K (He.ga K "Tasks") "tasks") K) fd
  d__law_levels_text : ∃ fd, FunD K "_law_levels_text" "_law_levels_text" (defArgs (top 78)) (defBody (top 78)) (defScope (top 78)) [] [] (He.ga K "_law_levels_text") fd
  d_require_levels : ∃ fd, FunD K "require_levels" "require_levels" (defArgs (top 45)) (defBody (top 45)) (defScope (top 45)) [] [] (He.ga K "require_levels") fd
  d_levels_text : ∃ fd, FunD K "levels_text" "levels_text" (defArgs (top 59)) (defBody (top 59)) (defScope (top 59)) [] [] (He.ga K "levels_text") fd
  d_format_levels : ∃ fd, FunD K "format_levels" "format_levels" (defArgs (top 60)) (defBody (top 60)) (defScope (top 60)) [] [] (He.ga K "format_levels") fd
  d_parse_levels : ∃ fd, FunD K "parse_levels" "parse_levels" (defArgs (top 61)) (defBody (top 61)) (defScope (top 61)) [] [] (He.ga K "parse_levels") fd
  d_Levels___eq__ : ∃ fd, FunD K "__eq__" "Levels.__eq__" (defArgs (inCls (top 44) 19)) (defBody (inCls (top 44) 19)) (defScope (inCls (top 44) 19)) [] [] (He.ma K (He.ga K "Levels") "__eq__") fd
  d_Levels_numbers : ∃ fd, FunD K "numbers" "Levels.numbers" (defArgs (inCls (top 44) 5)) (defBody (inCls (top 44) 5)) (defScope (inCls (top 44) 5)) [] [] (rcA "property" (He.ma K (He.ga K "Levels") "numbers") K) fd
  d__law_plan_text : ∃ fd, FunD K "_law_plan_text" "_law_plan_text" (defArgs (top 77)) (defBody (top 77)) (defScope (top 77)) [] [] (He.ga K "_law_plan_text") fd
  d_is_job : ∃ fd, FunD K "is_job" "is_job" (defArgs (top 38)) (defBody (top 38)) (defScope (top 38)) [] [] (He.ga K "is_job") fd
  d_have_gaps : ∃ fd, FunD K "have_gaps" "have_gaps" (defArgs (top 39)) (defBody (top 39)) (defScope (top 39)) [] [] (He.ga K "have_gaps") fd
  d_is_plan_in : ∃ fd, FunD K "is_plan_in" "is_plan_in" (defArgs (top 40)) (defBody (top 40)) (defScope (top 40)) [] [] (He.ga K "is_plan_in") fd
  d_require_plan : ∃ fd, FunD K "require_plan" "require_plan" (defArgs (top 41)) (defBody (top 41)) (defScope (top 41)) [] [] (He.ga K "require_plan") fd
  d_plan_lines : ∃ fd, FunD K "plan_lines" "plan_lines" (defArgs (top 62)) (defBody (top 62)) (defScope (top 62)) [] [] (He.ga K "plan_lines") fd
  d_format_plan : ∃ fd, FunD K "format_plan" "format_plan" (defArgs (top 64)) (defBody (top 64)) (defScope (top 64)) [] [] (He.ga K "format_plan") fd
  d_job_in : ∃ fd, FunD K "job_in" "job_in" (defArgs (top 63)) (defBody (top 63)) (defScope (top 63)) [] [] (He.ga K "job_in") fd
  d_parse_plan : ∃ fd, FunD K "parse_plan" "parse_plan" (defArgs (top 65)) (defBody (top 65)) (defScope (top 65)) [] [] (He.ga K "parse_plan") fd
  d__law_right : ∃ fd, FunD K "_law_right" "_law_right" (defArgs (top 80)) (defBody (top 80)) (defScope (top 80)) [] [] (He.ga K "_law_right") fd
  d_law : ∃ fd, FunD K "law" "law" (defArgs (top 81)) (defBody (top 81)) (defScope (top 81)) [] [] (He.ga K "law") fd
def fa0 : List He.Fa := [.str "DIGITS" "0123456789", .str "LETTERS" "abcdefghijklmnopqrstuvwxyz", .glo "Levels", .int "MAX_DEADLINE" 20000, .int "MAX_GAP" 1000, .glo "MAX_LOAD", .int "MAX_LONGEST" 100, .int "MAX_NAME" 8, .int "MAX_ROOM" 1000000, .int "MAX_SECTIONS" 8, .int "MAX_TICK" 20000, .int "MOST_DIGITS" 40, .glo "Tasks", .glo "_law_draw", .keep "_law_draw", .glo "_law_great", .keep "_law_great", .glo "_law_levels_text", .keep "_law_levels_text", .glo "_law_mixed", .keep "_law_mixed", .glo "_law_names", .keep "_law_names", .glo "_law_numbers", .keep "_law_numbers", .glo "_law_pick", .keep "_law_pick", .glo "_law_plan", .keep "_law_plan", .glo "_law_plan_text"]
def fa1 : List He.Fa := [.keep "_law_plan_text", .glo "_law_right", .keep "_law_right", .glo "_law_sections", .keep "_law_sections", .glo "_law_some", .keep "_law_some", .glo "_law_stream", .keep "_law_stream", .glo "_law_task_text", .keep "_law_task_text", .glo "are_levels", .keep "are_levels", .glo "are_sections", .keep "are_sections", .glo "ceilings_of", .keep "ceilings_of", .glo "format_levels", .keep "format_levels", .glo "format_plan", .keep "format_plan", .glo "format_task", .keep "format_task", .glo "format_tasks", .keep "format_tasks", .glo "have_gaps", .keep "have_gaps", .glo "is_between", .keep "is_between", .glo "is_integer"]
def fa2 : List He.Fa := [.keep "is_integer", .glo "is_job", .keep "is_job", .glo "is_name", .keep "is_name", .glo "is_plan_in", .keep "is_plan_in", .glo "is_section", .keep "is_section", .glo "is_task", .keep "is_task", .glo "job_in", .keep "job_in", .glo "law", .keep "law", .glo "levels_text", .keep "levels_text", .glo "lines_in", .keep "lines_in", .glo "load_of", .keep "load_of", .glo "lowest", .keep "lowest", .glo "number_in", .keep "number_in", .glo "pair_in", .keep "pair_in", .glo "parse_levels", .keep "parse_levels", .glo "parse_plan"]
def fa3 : List He.Fa := [.keep "parse_plan", .glo "parse_task", .keep "parse_task", .glo "parse_tasks", .keep "parse_tasks", .glo "plan_lines", .keep "plan_lines", .glo "require_levels", .keep "require_levels", .glo "require_plain", .keep "require_plain", .glo "require_plan", .keep "require_plan", .glo "require_task", .keep "require_task", .glo "require_tasks", .keep "require_tasks", .glo "require_text", .keep "require_text", .glo "task_text", .keep "task_text", .free "abs", .free "all", .free "bool", .free "enumerate", .free "int", .free "isinstance", .free "len", .free "list", .free "max"]
def fa4 : List He.Fa := [.free "min", .free "range", .free "repr", .free "sorted", .free "str", .free "tuple", .free "zip", .cls "Levels", .cls "Tasks", .noat "Levels" "own_numbers", .noat "Levels" "own_tasks", .noat "Tasks" "own_load", .noat "Tasks" "own_locks", .noat "Tasks" "own_names", .noat "Tasks" "own_spots", .noat "Tasks" "own_tasks", .meth "Levels" "__eq__", .meth "Tasks" "__eq__", .meth "Tasks" "__len__", .mkr "Levels", .mkr "Tasks"]
def fa : List He.Fa := fa0 ++ fa1 ++ fa2 ++ fa3 ++ fa4
def fx : List (PySem.W.Frag → Bool) := [fun K => He.tupB K "MAX_LOAD" [.int 9, .int 10], clsB fun K => He.ga K "Levels", clsB fun K => He.ga K "Tasks", propB (fun K => He.ga K "Levels") "numbers", propB (fun K => He.ga K "Tasks") "tasks", creadB fun K => He.ga K "Levels", creadB fun K => He.ga K "Tasks", cmetB (fun K => He.ga K "Levels") "of", cmetB (fun K => He.ga K "Tasks") "of"]
def fn0 : List He5.DefA := [⟨fun K => (He.ga K "_law_stream"), "_law_stream", "_law_stream", defArgs (top 67), defBody (top 67), defScope (top 67), [], []⟩, ⟨fun K => (He.ga K "_law_draw"), "_law_draw", "_law_draw", defArgs (top 68), defBody (top 68), defScope (top 68), [], []⟩, ⟨fun K => (He.ga K "_law_mixed"), "_law_mixed", "_law_mixed", defArgs (top 70), defBody (top 70), defScope (top 70), [], []⟩, ⟨fun K => (He.ga K "_law_names"), "_law_names", "_law_names", defArgs (top 71), defBody (top 71), defScope (top 71), [], []⟩, ⟨fun K => (He.ga K "_law_pick"), "_law_pick", "_law_pick", defArgs (top 69), defBody (top 69), defScope (top 69), [], []⟩, ⟨fun K => (He.ga K "_law_sections"), "_law_sections", "_law_sections", defArgs (top 72), defBody (top 72), defScope (top 72), [], []⟩, ⟨fun K => (He.ga K "_law_some"), "_law_some", "_law_some", defArgs (top 73), defBody (top 73), defScope (top 73), [], []⟩, ⟨fun K => (He.ga K "_law_numbers"), "_law_numbers", "_law_numbers", defArgs (top 74), defBody (top 74), defScope (top 74), [], []⟩, ⟨fun K => (He.ga K "_law_plan"), "_law_plan", "_law_plan", defArgs (top 75), defBody (top 75), defScope (top 75), [], []⟩, ⟨fun K => (He.ga K "is_name"), "is_name", "is_name", defArgs (top 22), defBody (top 22), defScope (top 22), [], []⟩, ⟨fun K => (He.ga K "is_integer"), "is_integer", "is_integer", defArgs (top 20), defBody (top 20), defScope (top 20), [], []⟩, ⟨fun K => (He.ga K "is_between"), "is_between", "is_between", defArgs (top 21), defBody (top 21), defScope (top 21), [], []⟩, ⟨fun K => (He.ga K "is_section"), "is_section", "is_section", defArgs (top 23), defBody (top 23), defScope (top 23), [], []⟩, ⟨fun K => (He.ga K "are_sections"), "are_sections", "are_sections", defArgs (top 24), defBody (top 24), defScope (top 24), [], []⟩, ⟨fun K => (He.ga K "is_task"), "is_task", "is_task", defArgs (top 25), defBody (top 25), defScope (top 25), [], []⟩, ⟨fun K => (He.ga K "require_plain"), "require_plain", "require_plain", defArgs (top 32), defBody (top 32), defScope (top 32), [], []⟩, ⟨fun K => (He.ga K "lowest"), "lowest", "lowest", defArgs (top 29), defBody (top 29), defScope (top 29), [], []⟩, ⟨fun K => (He.ga K "load_of"), "load_of", "load_of", defArgs (top 30), defBody (top 30), defScope (top 30), [], []⟩, ⟨fun K => (He.ga K "ceilings_of"), "ceilings_of", "ceilings_of", defArgs (top 31), defBody (top 31), defScope (top 31), [], []⟩, ⟨fun K => (He.ma K (He.ga K "Tasks") "__init__"), "__init__", "Tasks.__init__", defArgs (inCls (top 33) 1), defBody (inCls (top 33) 1), defScope (inCls (top 33) 1), [], []⟩]
def fn1 : List He5.DefA := [⟨fun K => (He5.wf K (He.ga K "Tasks") "classmethod" "of"), "of", "Tasks.of", defArgs (inCls (top 33) 2), defBody (inCls (top 33) 2), defScope (inCls (top 33) 2), [], []⟩, ⟨fun K => (He.ga K "require_tasks"), "require_tasks", "require_tasks", defArgs (top 34), defBody (top 34), defScope (top 34), [], []⟩, ⟨fun K => (He.ma K (He.ga K "Tasks") "__len__"), "__len__", "Tasks.__len__", defArgs (inCls (top 33) 21), defBody (inCls (top 33) 21), defScope (inCls (top 33) 21), [], []⟩, ⟨fun K => (He.ga K "are_levels"), "are_levels", "are_levels", defArgs (top 43), defBody (top 43), defScope (top 43), [], []⟩, ⟨fun K => (He.ma K (He.ga K "Levels") "__init__"), "__init__", "Levels.__init__", defArgs (inCls (top 44) 0), defBody (inCls (top 44) 0), defScope (inCls (top 44) 0), [], []⟩, ⟨fun K => (He5.wf K (He.ga K "Levels") "classmethod" "of"), "of", "Levels.of", defArgs (inCls (top 44) 1), defBody (inCls (top 44) 1), defScope (inCls (top 44) 1), [], []⟩, ⟨fun K => (He.ga K "_law_great"), "_law_great", "_law_great", defArgs (top 79), defBody (top 79), defScope (top 79), [], []⟩, ⟨fun K => (He.ga K "_law_task_text"), "_law_task_text", "_law_task_text", defArgs (top 76), defBody (top 76), defScope (top 76), [], []⟩, ⟨fun K => (He.ga K "require_task"), "require_task", "require_task", defArgs (top 26), defBody (top 26), defScope (top 26), [], []⟩, ⟨fun K => (He.ga K "task_text"), "task_text", "task_text", defArgs (top 54), defBody (top 54), defScope (top 54), [], []⟩, ⟨fun K => (He.ga K "format_task"), "format_task", "format_task", defArgs (top 55), defBody (top 55), defScope (top 55), [], []⟩, ⟨fun K => (He.ga K "require_text"), "require_text", "require_text", defArgs (top 52), defBody (top 52), defScope (top 52), [], []⟩, ⟨fun K => (He.ga K "number_in"), "number_in", "number_in", defArgs (top 50), defBody (top 50), defScope (top 50), [], []⟩, ⟨fun K => (He.ga K "pair_in"), "pair_in", "pair_in", defArgs (top 51), defBody (top 51), defScope (top 51), [], []⟩, ⟨fun K => (He.ga K "parse_task"), "parse_task", "parse_task", defArgs (top 56), defBody (top 56), defScope (top 56), [], []⟩, ⟨fun K => (He.ga K "format_tasks"), "format_tasks", "format_tasks", defArgs (top 57), defBody (top 57), defScope (top 57), [], []⟩, ⟨fun K => (He.ga K "lines_in"), "lines_in", "lines_in", defArgs (top 53), defBody (top 53), defScope (top 53), [], []⟩, ⟨fun K => (He.ga K "parse_tasks"), "parse_tasks", "parse_tasks", defArgs (top 58), defBody (top 58), defScope (top 58), [], []⟩, ⟨fun K => (He.ma K (He.ga K "Tasks") "__eq__"), "__eq__", "Tasks.__eq__", defArgs (inCls (top 33) 22), defBody (inCls (top 33) 22), defScope (inCls (top 33) 22), [], []⟩, ⟨fun K => (rcA "property" (He.ma K (He.ga K "Tasks") "tasks") K), "tasks", "Tasks.tasks", defArgs (inCls (top 33) 3), defBody (inCls (top 33) 3), defScope (inCls (top 33) 3), [], []⟩]
def fn2 : List He5.DefA := [⟨fun K => (He.ga K "_law_levels_text"), "_law_levels_text", "_law_levels_text", defArgs (top 78), defBody (top 78), defScope (top 78), [], []⟩, ⟨fun K => (He.ga K "require_levels"), "require_levels", "require_levels", defArgs (top 45), defBody (top 45), defScope (top 45), [], []⟩, ⟨fun K => (He.ga K "levels_text"), "levels_text", "levels_text", defArgs (top 59), defBody (top 59), defScope (top 59), [], []⟩, ⟨fun K => (He.ga K "format_levels"), "format_levels", "format_levels", defArgs (top 60), defBody (top 60), defScope (top 60), [], []⟩, ⟨fun K => (He.ga K "parse_levels"), "parse_levels", "parse_levels", defArgs (top 61), defBody (top 61), defScope (top 61), [], []⟩, ⟨fun K => (He.ma K (He.ga K "Levels") "__eq__"), "__eq__", "Levels.__eq__", defArgs (inCls (top 44) 19), defBody (inCls (top 44) 19), defScope (inCls (top 44) 19), [], []⟩, ⟨fun K => (rcA "property" (He.ma K (He.ga K "Levels") "numbers") K), "numbers", "Levels.numbers", defArgs (inCls (top 44) 5), defBody (inCls (top 44) 5), defScope (inCls (top 44) 5), [], []⟩, ⟨fun K => (He.ga K "_law_plan_text"), "_law_plan_text", "_law_plan_text", defArgs (top 77), defBody (top 77), defScope (top 77), [], []⟩, ⟨fun K => (He.ga K "is_job"), "is_job", "is_job", defArgs (top 38), defBody (top 38), defScope (top 38), [], []⟩, ⟨fun K => (He.ga K "have_gaps"), "have_gaps", "have_gaps", defArgs (top 39), defBody (top 39), defScope (top 39), [], []⟩, ⟨fun K => (He.ga K "is_plan_in"), "is_plan_in", "is_plan_in", defArgs (top 40), defBody (top 40), defScope (top 40), [], []⟩, ⟨fun K => (He.ga K "require_plan"), "require_plan", "require_plan", defArgs (top 41), defBody (top 41), defScope (top 41), [], []⟩, ⟨fun K => (He.ga K "plan_lines"), "plan_lines", "plan_lines", defArgs (top 62), defBody (top 62), defScope (top 62), [], []⟩, ⟨fun K => (He.ga K "format_plan"), "format_plan", "format_plan", defArgs (top 64), defBody (top 64), defScope (top 64), [], []⟩, ⟨fun K => (He.ga K "job_in"), "job_in", "job_in", defArgs (top 63), defBody (top 63), defScope (top 63), [], []⟩, ⟨fun K => (He.ga K "parse_plan"), "parse_plan", "parse_plan", defArgs (top 65), defBody (top 65), defScope (top 65), [], []⟩, ⟨fun K => (He.ga K "_law_right"), "_law_right", "_law_right", defArgs (top 80), defBody (top 80), defScope (top 80), [], []⟩, ⟨fun K => (He.ga K "law"), "law", "law", defArgs (top 81), defBody (top 81), defScope (top 81), [], []⟩]
def fn : List He5.DefA := fn0 ++ fn1 ++ fn2
theorem txt_of {K : PySem.W.Frag} {h : Heap} {mg : Str → Option Value} (X : K.In h) (G : h.Ns mainGlobals mg) (c : saysM fa fx fn K) : Txt K mg := by
  constructor
  · exact He.str_ok X G (saysM_fact c 0)
  · exact He.str_ok X G (saysM_fact c 1)
  · exact He.glo_ok X G (saysM_fact c 2)
  · exact He.int_ok X G (saysM_fact c 3)
  · exact He.int_ok X G (saysM_fact c 4)
  · exact He.glo_ok X G (saysM_fact c 5)
  · exact fun H => He.tupB_ok (saysM_more c 0) H
  · exact He.int_ok X G (saysM_fact c 6)
  · exact He.int_ok X G (saysM_fact c 7)
  · exact He.int_ok X G (saysM_fact c 8)
  · exact He.int_ok X G (saysM_fact c 9)
  · exact He.int_ok X G (saysM_fact c 10)
  · exact He.int_ok X G (saysM_fact c 11)
  · exact He.glo_ok X G (saysM_fact c 12)
  · exact He.glo_ok X G (saysM_fact c 13)
  · exact He.keep_ok (saysM_fact c 14)
  · exact He.glo_ok X G (saysM_fact c 15)
  · exact He.keep_ok (saysM_fact c 16)
  · exact He.glo_ok X G (saysM_fact c 17)
  · exact He.keep_ok (saysM_fact c 18)
  · exact He.glo_ok X G (saysM_fact c 19)
  · exact He.keep_ok (saysM_fact c 20)
  · exact He.glo_ok X G (saysM_fact c 21)
  · exact He.keep_ok (saysM_fact c 22)
  · exact He.glo_ok X G (saysM_fact c 23)
  · exact He.keep_ok (saysM_fact c 24)
  · exact He.glo_ok X G (saysM_fact c 25)
  · exact He.keep_ok (saysM_fact c 26)
  · exact He.glo_ok X G (saysM_fact c 27)
  · exact He.keep_ok (saysM_fact c 28)
  · exact He.glo_ok X G (saysM_fact c 29)
  · exact He.keep_ok (saysM_fact c 30)
  · exact He.glo_ok X G (saysM_fact c 31)
  · exact He.keep_ok (saysM_fact c 32)
  · exact He.glo_ok X G (saysM_fact c 33)
  · exact He.keep_ok (saysM_fact c 34)
  · exact He.glo_ok X G (saysM_fact c 35)
  · exact He.keep_ok (saysM_fact c 36)
  · exact He.glo_ok X G (saysM_fact c 37)
  · exact He.keep_ok (saysM_fact c 38)
  · exact He.glo_ok X G (saysM_fact c 39)
  · exact He.keep_ok (saysM_fact c 40)
  · exact He.glo_ok X G (saysM_fact c 41)
  · exact He.keep_ok (saysM_fact c 42)
  · exact He.glo_ok X G (saysM_fact c 43)
  · exact He.keep_ok (saysM_fact c 44)
  · exact He.glo_ok X G (saysM_fact c 45)
  · exact He.keep_ok (saysM_fact c 46)
  · exact He.glo_ok X G (saysM_fact c 47)
  · exact He.keep_ok (saysM_fact c 48)
  · exact He.glo_ok X G (saysM_fact c 49)
  · exact He.keep_ok (saysM_fact c 50)
  · exact He.glo_ok X G (saysM_fact c 51)
  · exact He.keep_ok (saysM_fact c 52)
  · exact He.glo_ok X G (saysM_fact c 53)
  · exact He.keep_ok (saysM_fact c 54)
  · exact He.glo_ok X G (saysM_fact c 55)
  · exact He.keep_ok (saysM_fact c 56)
  · exact He.glo_ok X G (saysM_fact c 57)
  · exact He.keep_ok (saysM_fact c 58)
  · exact He.glo_ok X G (saysM_fact c 59)
  · exact He.keep_ok (saysM_fact c 60)
  · exact He.glo_ok X G (saysM_fact c 61)
  · exact He.keep_ok (saysM_fact c 62)
  · exact He.glo_ok X G (saysM_fact c 63)
  · exact He.keep_ok (saysM_fact c 64)
  · exact He.glo_ok X G (saysM_fact c 65)
  · exact He.keep_ok (saysM_fact c 66)
  · exact He.glo_ok X G (saysM_fact c 67)
  · exact He.keep_ok (saysM_fact c 68)
  · exact He.glo_ok X G (saysM_fact c 69)
  · exact He.keep_ok (saysM_fact c 70)
  · exact He.glo_ok X G (saysM_fact c 71)
  · exact He.keep_ok (saysM_fact c 72)
  · exact He.glo_ok X G (saysM_fact c 73)
  · exact He.keep_ok (saysM_fact c 74)
  · exact He.glo_ok X G (saysM_fact c 75)
  · exact He.keep_ok (saysM_fact c 76)
  · exact He.glo_ok X G (saysM_fact c 77)
  · exact He.keep_ok (saysM_fact c 78)
  · exact He.glo_ok X G (saysM_fact c 79)
  · exact He.keep_ok (saysM_fact c 80)
  · exact He.glo_ok X G (saysM_fact c 81)
  · exact He.keep_ok (saysM_fact c 82)
  · exact He.glo_ok X G (saysM_fact c 83)
  · exact He.keep_ok (saysM_fact c 84)
  · exact He.glo_ok X G (saysM_fact c 85)
  · exact He.keep_ok (saysM_fact c 86)
  · exact He.glo_ok X G (saysM_fact c 87)
  · exact He.keep_ok (saysM_fact c 88)
  · exact He.glo_ok X G (saysM_fact c 89)
  · exact He.keep_ok (saysM_fact c 90)
  · exact He.glo_ok X G (saysM_fact c 91)
  · exact He.keep_ok (saysM_fact c 92)
  · exact He.glo_ok X G (saysM_fact c 93)
  · exact He.keep_ok (saysM_fact c 94)
  · exact He.glo_ok X G (saysM_fact c 95)
  · exact He.keep_ok (saysM_fact c 96)
  · exact He.glo_ok X G (saysM_fact c 97)
  · exact He.keep_ok (saysM_fact c 98)
  · exact He.glo_ok X G (saysM_fact c 99)
  · exact He.keep_ok (saysM_fact c 100)
  · exact He.glo_ok X G (saysM_fact c 101)
  · exact He.keep_ok (saysM_fact c 102)
  · exact He.glo_ok X G (saysM_fact c 103)
  · exact He.keep_ok (saysM_fact c 104)
  · exact He.glo_ok X G (saysM_fact c 105)
  · exact He.keep_ok (saysM_fact c 106)
  · exact He.glo_ok X G (saysM_fact c 107)
  · exact He.keep_ok (saysM_fact c 108)
  · exact He.glo_ok X G (saysM_fact c 109)
  · exact He.keep_ok (saysM_fact c 110)
  · exact He.free_ok X G (saysM_fact c 111)
  · exact He.free_ok X G (saysM_fact c 112)
  · exact He.free_ok X G (saysM_fact c 113)
  · exact He.free_ok X G (saysM_fact c 114)
  · exact He.free_ok X G (saysM_fact c 115)
  · exact He.free_ok X G (saysM_fact c 116)
  · exact He.free_ok X G (saysM_fact c 117)
  · exact He.free_ok X G (saysM_fact c 118)
  · exact He.free_ok X G (saysM_fact c 119)
  · exact He.free_ok X G (saysM_fact c 120)
  · exact He.free_ok X G (saysM_fact c 121)
  · exact He.free_ok X G (saysM_fact c 122)
  · exact He.free_ok X G (saysM_fact c 123)
  · exact He.free_ok X G (saysM_fact c 124)
  · exact He.free_ok X G (saysM_fact c 125)
  · exact He.free_ok X G (saysM_fact c 126)
  · exact He.cls_ok (saysM_fact c 127)
  · exact He.cls_ok (saysM_fact c 128)
  · exact clsB_ok (C := fun K => He.ga K "Levels") (saysM_more c 1)
  · exact clsB_ok (C := fun K => He.ga K "Tasks") (saysM_more c 2)
  · exact He.noat_ok (saysM_fact c 129)
  · exact He.noat_ok (saysM_fact c 130)
  · exact He.noat_ok (saysM_fact c 131)
  · exact He.noat_ok (saysM_fact c 132)
  · exact He.noat_ok (saysM_fact c 133)
  · exact He.noat_ok (saysM_fact c 134)
  · exact He.noat_ok (saysM_fact c 135)
  · exact He.meth_ok (saysM_fact c 136)
  · exact He.meth_ok (saysM_fact c 137)
  · exact He.meth_ok (saysM_fact c 138)
  · exact He.mkr_ok (saysM_fact c 139)
  · exact He.mkr_ok (saysM_fact c 140)
  · exact propB_ok (C := fun K => He.ga K "Levels") (saysM_more c 3)
  · exact propB_ok (C := fun K => He.ga K "Tasks") (saysM_more c 4)
  · exact creadB_ok (C := fun K => He.ga K "Levels") (saysM_more c 5)
  · exact creadB_ok (C := fun K => He.ga K "Tasks") (saysM_more c 6)
  · exact cmetB_ok (C := fun K => He.ga K "Levels") (saysM_more c 7)
  · exact cmetB_ok (C := fun K => He.ga K "Tasks") (saysM_more c 8)
  · exact saysM_def c 0
  · exact saysM_def c 1
  · exact saysM_def c 2
  · exact saysM_def c 3
  · exact saysM_def c 4
  · exact saysM_def c 5
  · exact saysM_def c 6
  · exact saysM_def c 7
  · exact saysM_def c 8
  · exact saysM_def c 9
  · exact saysM_def c 10
  · exact saysM_def c 11
  · exact saysM_def c 12
  · exact saysM_def c 13
  · exact saysM_def c 14
  · exact saysM_def c 15
  · exact saysM_def c 16
  · exact saysM_def c 17
  · exact saysM_def c 18
  · exact saysM_def c 19
  · exact saysM_def c 20
  · exact saysM_def c 21
  · exact saysM_def c 22
  · exact saysM_def c 23
  · exact saysM_def c 24
  · exact saysM_def c 25
  · exact saysM_def c 26
  · exact saysM_def c 27
  · exact saysM_def c 28
  · exact saysM_def c 29
  · exact saysM_def c 30
  · exact saysM_def c 31
  · exact saysM_def c 32
  · exact saysM_def c 33
  · exact saysM_def c 34
  · exact saysM_def c 35
  · exact saysM_def c 36
  · exact saysM_def c 37
  · exact saysM_def c 38
  · exact saysM_def c 39
  · exact saysM_def c 40
  · exact saysM_def c 41
  · exact saysM_def c 42
  · exact saysM_def c 43
  · exact saysM_def c 44
  · exact saysM_def c 45
  · exact saysM_def c 46
  · exact saysM_def c 47
  · exact saysM_def c 48
  · exact saysM_def c 49
  · exact saysM_def c 50
  · exact saysM_def c 51
  · exact saysM_def c 52
  · exact saysM_def c 53
  · exact saysM_def c 54
  · exact saysM_def c 55
  · exact saysM_def c 56
  · exact saysM_def c 57
/-! ## the walks -/
section
variable {P : Program} {w : World} {K : PySem.W.Frag} {mg : Str → Option Value} {base : Heap}
def t__law_stream (K : PySem.W.Frag) : TSD := (tSeqD (tAsgD (tOpD rAddD (tOpD rMulD (tCD (.int 17)) (tVarD 1)) (tCD (.int 3))) (gNameD 2)) (tSeqD (tIfSD (tTestD (tOpD rLtD (tVarD 1) (tCBD rLenD (tConsD (tVarD 0) tNilD)))) (tAsgD (tOpD rIxAD (tVarD 0) (tVarD 1)) (gNameD 2)) tNextD) (tSeqD (tAsgD (tOpD rModD (tCBD rIntD (tConsD (tCBD rAbsD (tConsD (tVarD 2) tNilD)) tNilD)) (tOpD rPowD (tOpD rPowD (tCD (.int 10)) (tCD (.int 60))) (tCD (.int 10)))) (gNameD 3)) (tSeqD (tAsgD (tOpD rAddD (tOpD rAddD (tOpD rAddD (tOpD rMulD (tOpD rModD (tCBD rIntD (tConsD (tVarD 3) tNilD)) (tCD (.int 2147483477))) (tCD (.int 45083))) (tOpD rMulD (tCD (.int 2011)) (tVarD 1))) (tOpD rMulD (tCD (.int 7)) (tCBD rIntD (tConsD (tOpD rLtD (tVarD 2) (tCD (.int 0))) tNilD)))) (tCD (.int 19))) (gNameD 4)) (tRetD (tLstM (tConsD (tCBD rMax2D (tConsD (tCD (.int 0)) (tConsD (tOpD rSubD (tVarD 3) (tOpD rPowD (tCD (.int 10)) (tCD (.int 18)))) tNilD))) (tConsD (tOpD rModD (tCBD rIntD (tConsD (tVarD 4) tNilD)) (tCD (.int 2147483423))) (tConsD (tCD (.int 0)) tNilD)))))))))
theorem wk__law_stream (T : Txt K mg)  : BodyD false P w K mg base 0 (He.ga K "_law_stream") N__law_stream "_law_stream" (defScope (top 67)) (defBody (top 67)) (t__law_stream K ) := fun cdv A outer s H E hr hg => (dss_cons (ds_set 2 sc__law_stream.nd (de_add (de_mul de_int (dv 1)) de_int)) (dss_cons (ds_if (dt_lt (u100 hr) (dv 1) (de_callB call_len lift_len T.f_len bt_len (da_cons (dv 0) da_nil))) (dss_one (ds_set 2 sc__law_stream.nd (de_ixA (u1 hr) (dv 0) (dv 1)))) dss_nil) (dss_cons (ds_set 3 sc__law_stream.nd (de_mod (de_callTy call_int1 lift_int T.f_int bt_int (da_cons (de_callB call_abs lift_abs T.f_abs bt_abs (da_cons (dv 2) da_nil)) da_nil)) (de_pow (de_pow de_int de_int) de_int))) (dss_cons (ds_set 4 sc__law_stream.nd (de_add (de_add (de_add (de_mul (de_mod (de_callTy call_int1 lift_int T.f_int bt_int (da_cons (dv 3) da_nil)) de_int) de_int) (de_mul de_int (dv 1))) (de_mul de_int (de_callTy call_int1 lift_int T.f_int bt_int (da_cons (de_lt (u100 hr) (dv 2) de_int) da_nil)))) de_int)) (dss_one (ds_ret (de_lstM (da_cons (de_callB (call_max2 rfl) lift_max2 T.f_max bt_max (da_cons de_int (da_cons (de_sub (dv 3) (de_pow de_int de_int)) da_nil))) (da_cons (de_mod (de_callTy call_int1 lift_int T.f_int bt_int (da_cons (dv 4) da_nil)) de_int) (da_cons de_int da_nil))))))))))
theorem ok__law_stream {sp : SpD} (T : Txt K mg)  (pure : ∀ ds M Q E, sp ds M Q E → ds.length = 2 ∧ t__law_stream K  { nx := fun _ M' => upQ Q .non M', rt := upQ Q, ex := upX E } (startD N__law_stream ds) M) : FnD false P w K mg base 1 (He.ga K "_law_stream") sp := by
  obtain ⟨fd, F⟩ := T.d__law_stream
  exact FnD.mk (ps := ["script", "at"]) F sc__law_stream (F.bindsN fun _ _ _ _ _ _ us hl => match us, hl with | [_, _], _ => rfl) ⟨_, wk__law_stream T , pure⟩
def t__law_draw (K : PySem.W.Frag) : TSD := (tSeqD (tIfSD (tTestD (tOpD rGtD (tOpD rIxAD (tVarD 0) (tCD (.int 0))) (tCD (.int 0)))) (tSeqD (tAsgD (tOpD rModD (tCBD rIntD (tConsD (tOpD rIxAD (tVarD 0) (tCD (.int 0))) tNilD)) (tVarD 1)) (gNameD 2)) (tSeqD (tAsgD (tOpD rDivD (tOpD rIxAD (tVarD 0) (tCD (.int 0))) (tVarD 1)) (gSubD (tVarD 0) (tCD (.int 0)) rPutD)) (tRetD (tVarD 2)))) tNextD) (tSeqD (tAsgD (tOpD rAddD (tOpD rIxAD (tVarD 0) (tCD (.int 2))) (tCD (.int 1))) (gSubD (tVarD 0) (tCD (.int 2)) rPutD)) (tSeqD (tAsgD (tOpD rModD (tCBD rIntD (tConsD (tOpD rAddD (tOpD rIxAD (tVarD 0) (tCD (.int 1))) (tOpD rMulD (tCD (.int 1000249)) (tOpD rIxAD (tVarD 0) (tCD (.int 2))))) tNilD)) (tCD (.int 2305843009213693951))) (gNameD 3)) (tSeqD (tAsgD (tOpD rAddD (tOpD rMulD (tOpD rModD (tCBD rIntD (tConsD (tOpD rMulD (tVarD 3) (tVarD 3)) tNilD)) (tCD (.int 2305843009213693921))) (tVarD 3)) (tOpD rMulD (tCD (.int 6871)) (tOpD rIxAD (tVarD 0) (tCD (.int 2))))) (gNameD 4)) (tSeqD (tAsgD (tOpD rModD (tCBD rIntD (tConsD (tVarD 4) tNilD)) (tCD (.int 2305843009213693907))) (gNameD 4)) (tRetD (tOpD rModD (tCBD rIntD (tConsD (tOpD rDivD (tVarD 4) (tCD (.int 8192))) tNilD)) (tVarD 1))))))))
theorem wk__law_draw (T : Txt K mg)  : BodyD false P w K mg base 0 (He.ga K "_law_draw") N__law_draw "_law_draw" (defScope (top 68)) (defBody (top 68)) (t__law_draw K ) := fun cdv A outer s H E hr hg => (dss_cons (ds_if (dt_gt (de_ixA (u1 hr) (dv 0) de_int) de_int) (dss_cons (ds_set 2 sc__law_draw.nd (de_mod (de_callTy call_int1 lift_int T.f_int bt_int (da_cons (de_ixA (u1 hr) (dv 0) de_int) da_nil)) (dv 1))) (dss_cons (ds_asg (de_div (de_ixA (u1 hr) (dv 0) de_int) (dv 1)) (dg_put (tg := .Name "x" ⟨0, 0, 0, 0⟩) (u1 hr) (dv 0) de_int)) (dss_one (ds_ret (dv 2))))) dss_nil) (dss_cons (ds_asg (de_add (de_ixA (u1 hr) (dv 0) de_int) de_int) (dg_put (tg := .Name "x" ⟨0, 0, 0, 0⟩) (u1 hr) (dv 0) de_int)) (dss_cons (ds_set 3 sc__law_draw.nd (de_mod (de_callTy call_int1 lift_int T.f_int bt_int (da_cons (de_add (de_ixA (u1 hr) (dv 0) de_int) (de_mul de_int (de_ixA (u1 hr) (dv 0) de_int))) da_nil)) de_int)) (dss_cons (ds_set 4 sc__law_draw.nd (de_add (de_mul (de_mod (de_callTy call_int1 lift_int T.f_int bt_int (da_cons (de_mul (dv 3) (dv 3)) da_nil)) de_int) (dv 3)) (de_mul de_int (de_ixA (u1 hr) (dv 0) de_int)))) (dss_cons (ds_set 4 sc__law_draw.nd (de_mod (de_callTy call_int1 lift_int T.f_int bt_int (da_cons (dv 4) da_nil)) de_int)) (dss_one (ds_ret (de_mod (de_callTy call_int1 lift_int T.f_int bt_int (da_cons (de_div (dv 4) de_int) da_nil)) (dv 1)))))))))
theorem ok__law_draw {sp : SpD} (T : Txt K mg)  (pure : ∀ ds M Q E, sp ds M Q E → ds.length = 2 ∧ t__law_draw K  { nx := fun _ M' => upQ Q .non M', rt := upQ Q, ex := upX E } (startD N__law_draw ds) M) : FnD false P w K mg base 1 (He.ga K "_law_draw") sp := by
  obtain ⟨fd, F⟩ := T.d__law_draw
  exact FnD.mk (ps := ["stream", "high"]) F sc__law_draw (F.bindsN fun _ _ _ _ _ _ us hl => match us, hl with | [_, _], _ => rfl) ⟨_, wk__law_draw T , pure⟩
def t__law_mixed (K : PySem.W.Frag) (sp__law_draw : SpD) : TSD := (tSeqD (tAsgD (tCBD rListM (tConsD (tVarD 1) tNilD)) (gNameD 2)) (tRetD (tLcD (tRng1D (tConsD (tCBD rLenD (tConsD (tVarD 1) tNilD)) tNilD)) (gNameD 3) tYesD (tBMD rPopAtD (tVarD 2) (tConsD (tCallD sp__law_draw (tConsD (tVarD 0) (tConsD (tCBD rLenD (tConsD (tVarD 2) tNilD)) tNilD))) tNilD)) [3])))
theorem wk__law_mixed {sp__law_draw : SpD} (T : Txt K mg) (F__law_draw : FnD false P w K mg base 1 (He.ga K "_law_draw") sp__law_draw) : BodyD false P w K mg base 1 (He.ga K "_law_mixed") N__law_mixed "_law_mixed" (defScope (top 70)) (defBody (top 70)) (t__law_mixed K sp__law_draw) := fun cdv A outer s H E hr hg => (dss_cons (ds_set 2 sc__law_mixed.nd (de_callTy call_list_of lift_listM T.f_list bt_list (da_cons (dv 1) da_nil))) (dss_one (ds_ret (de_lc (own := [("turn", 3)]) rfl sc__law_mixed.nd (di_range1 T.f_range (da_cons (de_callB call_len lift_len T.f_len bt_len (da_cons (dv 1) da_nil)) da_nil)) (blkOk_by (N := N__law_mixed) (sc := defScope (top 70)) (own := [("turn", 3)]) (by decide +kernel)) (fun _ _ _ _ _ => (dg_name 3 sc__law_mixed.nd)) (fun _ _ _ _ _ => dts_nil) (fun _ _ _ _ _ => (de_bm PySem.F.slot_list_pop PySem.F.type_list_pop mt_popAt lift_popAt (dv 2) (da_cons (de_call (CalD.fn F__law_draw (hr.mono (by decide)) nog T.k__law_draw tk0) T.g__law_draw (da_cons (dv 0) (da_cons (de_callB call_len lift_len T.f_len bt_len (da_cons (dv 2) da_nil)) da_nil))) da_nil))) (by decide)))))
theorem ok__law_mixed {sp__law_draw sp : SpD} (T : Txt K mg) (F__law_draw : FnD false P w K mg base 1 (He.ga K "_law_draw") sp__law_draw) (pure : ∀ ds M Q E, sp ds M Q E → ds.length = 2 ∧ t__law_mixed K sp__law_draw { nx := fun _ M' => upQ Q .non M', rt := upQ Q, ex := upX E } (startD N__law_mixed ds) M) : FnD false P w K mg base 2 (He.ga K "_law_mixed") sp := by
  obtain ⟨fd, F⟩ := T.d__law_mixed
  exact FnD.mk (ps := ["stream", "items"]) F sc__law_mixed (F.bindsN fun _ _ _ _ _ _ us hl => match us, hl with | [_, _], _ => rfl) ⟨_, wk__law_mixed T F__law_draw, pure⟩
def t__law_names (K : PySem.W.Frag) (sp__law_mixed : SpD) : TSD := (tSeqD (tAsgD (tLstD (tConsD (tCD (.str "a")) (tConsD (tCD (.str "aa")) (tConsD (tCD (.str "b")) (tConsD (tCD (.str "ba")) (tConsD (tCD (.str "car")) (tConsD (tCD (.str "d")) (tConsD (tCD (.str "gap")) (tConsD (tCD (.str "k")) (tConsD (tCD (.str "late")) (tConsD (tCD (.str "map")) (tConsD (tCD (.str "none")) (tConsD (tCD (.str "row")) (tConsD (tCD (.str "task")) (tConsD (tCD (.str "x")) (tConsD (tCD (.str "y")) tNilD)))))))))))))))) (gNameD 2)) (tRetD (tSlD (tCallD sp__law_mixed (tConsD (tVarD 0) (tConsD (tOpD rAddD (tVarD 2) (tLstD (tConsD (tCD (.str "zzzzzzzz")) tNilD))) tNilD))) tNoPartD (tPartD (tVarD 1)))))
theorem wk__law_names {sp__law_mixed : SpD} (T : Txt K mg) (F__law_mixed : FnD false P w K mg base 2 (He.ga K "_law_mixed") sp__law_mixed) : BodyD false P w K mg base 2 (He.ga K "_law_names") N__law_names "_law_names" (defScope (top 71)) (defBody (top 71)) (t__law_names K sp__law_mixed) := fun cdv A outer s H E hr hg => (dss_cons (ds_set 2 sc__law_names.nd (de_lst (da_cons de_str (da_cons de_str (da_cons de_str (da_cons de_str (da_cons de_str (da_cons de_str (da_cons de_str (da_cons de_str (da_cons de_str (da_cons de_str (da_cons de_str (da_cons de_str (da_cons de_str (da_cons de_str (da_cons de_str da_nil))))))))))))))))) (dss_one (ds_ret (de_slice (de_call (CalD.fn F__law_mixed (hr.mono (by decide)) nog T.k__law_mixed (takes_of rfl rfl rfl rfl)) T.g__law_mixed (da_cons (dv 0) (da_cons (de_add (dv 2) (de_lst (da_cons de_str da_nil))) da_nil))) do_none (do_some (dv 1))))))
theorem ok__law_names {sp__law_mixed sp : SpD} (T : Txt K mg) (F__law_mixed : FnD false P w K mg base 2 (He.ga K "_law_mixed") sp__law_mixed) (pure : ∀ ds M Q E, sp ds M Q E → ds.length = 2 ∧ t__law_names K sp__law_mixed { nx := fun _ M' => upQ Q .non M', rt := upQ Q, ex := upX E } (startD N__law_names ds) M) : FnD false P w K mg base 3 (He.ga K "_law_names") sp := by
  obtain ⟨fd, F⟩ := T.d__law_names
  exact FnD.mk (ps := ["stream", "much"]) F sc__law_names (F.bindsN fun _ _ _ _ _ _ us hl => match us, hl with | [_, _], _ => rfl) ⟨_, wk__law_names T F__law_mixed, pure⟩
def t__law_pick (K : PySem.W.Frag) (sp__law_draw : SpD) : TSD := (tRetD (tOpD rIxAD (tVarD 1) (tCallD sp__law_draw (tConsD (tVarD 0) (tConsD (tCBD rLenD (tConsD (tVarD 1) tNilD)) tNilD)))))
theorem wk__law_pick {sp__law_draw : SpD} (T : Txt K mg) (F__law_draw : FnD false P w K mg base 1 (He.ga K "_law_draw") sp__law_draw) : BodyD false P w K mg base 1 (He.ga K "_law_pick") N__law_pick "_law_pick" (defScope (top 69)) (defBody (top 69)) (t__law_pick K sp__law_draw) := fun cdv A outer s H E hr hg => (dss_one (ds_ret (de_ixA (u1 hr) (dv 1) (de_call (CalD.fn F__law_draw (hr.mono (by decide)) nog T.k__law_draw (takes_of rfl rfl rfl rfl)) T.g__law_draw (da_cons (dv 0) (da_cons (de_callB call_len lift_len T.f_len bt_len (da_cons (dv 1) da_nil)) da_nil))))))
theorem ok__law_pick {sp__law_draw sp : SpD} (T : Txt K mg) (F__law_draw : FnD false P w K mg base 1 (He.ga K "_law_draw") sp__law_draw) (pure : ∀ ds M Q E, sp ds M Q E → ds.length = 2 ∧ t__law_pick K sp__law_draw { nx := fun _ M' => upQ Q .non M', rt := upQ Q, ex := upX E } (startD N__law_pick ds) M) : FnD false P w K mg base 2 (He.ga K "_law_pick") sp := by
  obtain ⟨fd, F⟩ := T.d__law_pick
  exact FnD.mk (ps := ["stream", "items"]) F sc__law_pick (F.bindsN fun _ _ _ _ _ _ us hl => match us, hl with | [_, _], _ => rfl) ⟨_, wk__law_pick T F__law_draw, pure⟩
def t__law_sections (K : PySem.W.Frag) (sp__law_pick sp__law_draw : SpD) : TSD := (tSeqD (tParD 3 4 (tConsD (tLstM tNilD) (tConsD (tCD (.int 0)) tNilD))) (tSeqD (tForD (tRng1D (tConsD (tCallD sp__law_pick (tConsD (tVarD 0) (tConsD (tLstD (tConsD (tCD (.int 0)) (tConsD (tCD (.int 0)) (tConsD (tCD (.int 1)) (tConsD (tCD (.int 1)) (tConsD (tCD (.int 2)) (tConsD (tCD (.int 3)) tNilD))))))) tNilD))) tNilD)) (gNameD 5) (tSeqD (tAsgD (tOpD rAddD (tVarD 4) (tCallD sp__law_draw (tConsD (tVarD 0) (tConsD (tCD (.int 3)) tNilD)))) (gNameD 4)) (tSeqD (tAsgD (tOpD rAddD (tOpD rAddD (tVarD 4) (tCD (.int 1))) (tCallD sp__law_draw (tConsD (tVarD 0) (tConsD (tCD (.int 4)) tNilD)))) (gNameD 6)) (tIfSD (tTestD (tOpD rLtD (tVarD 6) (tVarD 1))) (tSeqD (tDropD (tBMD rAppD (tVarD 3) (tConsD (tTupD (tConsD (tVarD 4) (tConsD (tVarD 6) (tConsD (tCallD sp__law_pick (tConsD (tVarD 0) (tConsD (tVarD 2) tNilD))) tNilD)))) tNilD))) (tAsgD (tVarD 6) (gNameD 4))) tNextD)))) (tRetD (tCBD rTupD (tConsD (tVarD 3) tNilD)))))
theorem wk__law_sections {sp__law_pick sp__law_draw : SpD} (T : Txt K mg) (F__law_pick : FnD false P w K mg base 2 (He.ga K "_law_pick") sp__law_pick) (F__law_draw : FnD false P w K mg base 1 (He.ga K "_law_draw") sp__law_draw) : BodyD false P w K mg base 2 (He.ga K "_law_sections") N__law_sections "_law_sections" (defScope (top 72)) (defBody (top 72)) (t__law_sections K sp__law_pick sp__law_draw) := fun cdv A outer s H E hr hg => (dss_cons (ds_par 3 4 rfl sc__law_sections.nd (da_cons (de_lstM da_nil) (da_cons de_int da_nil))) (dss_cons (ds_for (passes_of rfl) rfl (di_range1 T.f_range (da_cons (de_call (CalD.fn F__law_pick (hr.mono (by decide)) nog T.k__law_pick (takes_of rfl rfl rfl rfl)) T.g__law_pick (da_cons (dv 0) (da_cons (de_lst (da_cons de_int (da_cons de_int (da_cons de_int (da_cons de_int (da_cons de_int (da_cons de_int da_nil))))))) da_nil))) da_nil)) (dg_name 5 sc__law_sections.nd) (dss_cons (ds_set 4 sc__law_sections.nd (de_add (dv 4) (de_call (CalD.fn F__law_draw (hr.mono (by decide)) nog T.k__law_draw (takes_of rfl rfl rfl rfl)) T.g__law_draw (da_cons (dv 0) (da_cons de_int da_nil))))) (dss_cons (ds_set 6 sc__law_sections.nd (de_add (de_add (dv 4) de_int) (de_call (CalD.fn F__law_draw (hr.mono (by decide)) nog T.k__law_draw (takes_of rfl rfl rfl rfl)) T.g__law_draw (da_cons (dv 0) (da_cons de_int da_nil))))) (dss_one (ds_if (dt_lt (u100 hr) (dv 6) (dv 1)) (dss_cons (ds_expr (de_bm PySem.F.slot_list_append PySem.F.type_list_append mt_append lift_app (dv 3) (da_cons (de_tup (da_cons (dv 4) (da_cons (dv 6) (da_cons (de_call (CalD.fn F__law_pick (hr.mono (by decide)) nog T.k__law_pick (takes_of rfl rfl rfl rfl)) T.g__law_pick (da_cons (dv 0) (da_cons (dv 2) da_nil))) da_nil)))) da_nil))) (dss_one (ds_set 4 sc__law_sections.nd (dv 6)))) dss_nil))))) (dss_one (ds_ret (de_callTy call_tuple_of lift_tupC T.f_tuple bt_tuple (da_cons (dv 3) da_nil))))))
theorem ok__law_sections {sp__law_pick sp__law_draw sp : SpD} (T : Txt K mg) (F__law_pick : FnD false P w K mg base 2 (He.ga K "_law_pick") sp__law_pick) (F__law_draw : FnD false P w K mg base 1 (He.ga K "_law_draw") sp__law_draw) (pure : ∀ ds M Q E, sp ds M Q E → ds.length = 3 ∧ t__law_sections K sp__law_pick sp__law_draw { nx := fun _ M' => upQ Q .non M', rt := upQ Q, ex := upX E } (startD N__law_sections ds) M) : FnD false P w K mg base 3 (He.ga K "_law_sections") sp := by
  obtain ⟨fd, F⟩ := T.d__law_sections
  exact FnD.mk (ps := ["stream", "high", "locks"]) F sc__law_sections (F.bindsN fun _ _ _ _ _ _ us hl => match us, hl with | [_, _, _], _ => rfl) ⟨_, wk__law_sections T F__law_pick F__law_draw, pure⟩
def t__law_some (K : PySem.W.Frag) (sp__law_draw sp__law_names sp__law_pick sp__law_sections : SpD) : TSD := (tSeqD (tAsgD (tCallD sp__law_draw (tConsD (tVarD 0) (tConsD (tOpD rAddD (tVarD 1) (tCD (.int 1))) tNilD))) (gNameD 2)) (tSeqD (tParD 3 4 (tConsD (tOpD rMulM (tLstD (tConsD (tCD (.int 1)) tNilD)) (tVarD 2)) (tConsD (tLstM tNilD) tNilD))) (tSeqD (tForD (tRng1D (tConsD (tIfD (tTestD (tOpD rGtD (tVarD 2) (tCD (.int 0)))) (tCallD sp__law_draw (tConsD (tVarD 0) (tConsD (tOpD rSubD (tCD (.int 10)) (tVarD 2)) tNilD))) (tCD (.int 0))) tNilD)) (gNameD 5) (tSeqD (tAsgD (tCallD sp__law_draw (tConsD (tVarD 0) (tConsD (tVarD 2) tNilD))) (gNameD 6)) (tAsgD (tOpD rAddD (tOpD rIxAD (tVarD 3) (tVarD 6)) (tCD (.int 1))) (gSubD (tVarD 3) (tVarD 6) rPutD)))) (tSeqD (tAsgD (tCallD sp__law_names (tConsD (tVarD 0) (tConsD (tCD (.int 2)) tNilD))) (gNameD 7)) (tSeqD (tForD (tEnumD (tConsD (tCallD sp__law_names (tConsD (tVarD 0) (tConsD (tVarD 2) tNilD))) tNilD)) (gTupD 2 (gConsD (gNameD 6) (gConsD (gNameD 8) gNilD))) (tSeqD (tAsgD (tOpD rAddD (tCD (.int 1)) (tCallD sp__law_draw (tConsD (tVarD 0) (tConsD (tCallD sp__law_pick (tConsD (tVarD 0) (tConsD (tLstD (tConsD (tCD (.int 1)) (tConsD (tCD (.int 2)) (tConsD (tCD (.int 4)) (tConsD (tCD (.int 6)) (tConsD (tCD (.int 9)) tNilD)))))) tNilD))) tNilD)))) (gNameD 9)) (tSeqD (tAsgD (tOpD rDivD (tOpD rSubD (tOpD rAddD (tOpD rMulD (tCD (.int 10)) (tVarD 9)) (tOpD rIxAD (tVarD 3) (tVarD 6))) (tCD (.int 1))) (tOpD rIxAD (tVarD 3) (tVarD 6))) (gNameD 10)) (tSeqD (tAsgD (tOpD rAddD (tVarD 10) (tCallD sp__law_pick (tConsD (tVarD 0) (tConsD (tLstD (tConsD (tCD (.int 0)) (tConsD (tCD (.int 0)) (tConsD (tCD (.int 1)) (tConsD (tCD (.int 3)) (tConsD (tCD (.int 7)) tNilD)))))) tNilD)))) (gNameD 10)) (tSeqD (tAsgD (tOpD rAddD (tVarD 9) (tCallD sp__law_draw (tConsD (tVarD 0) (tConsD (tCallD sp__law_pick (tConsD (tVarD 0) (tConsD (tLstD (tConsD (tCD (.int 1)) (tConsD (tOpD rAddD (tVarD 9) (tCD (.int 1))) (tConsD (tCD (.int 6)) (tConsD (tCD (.int 15)) (tConsD (tOpD rMulD (tCD (.int 2)) (tVarD 10)) (tConsD (tCD (.int 60)) tNilD))))))) tNilD))) tNilD)))) (gNameD 11)) (tSeqD (tAsgD (tCallD sp__law_pick (tConsD (tVarD 0) (tConsD (tLstD (tConsD (tVarD 11) (tConsD (tVarD 11) (tConsD (tVarD 10) tNilD)))) tNilD))) (gNameD 11)) (tDropD (tBMD rAppD (tVarD 4) (tConsD (tTupD (tConsD (tVarD 8) (tConsD (tVarD 9) (tConsD (tVarD 10) (tConsD (tVarD 11) (tConsD (tCallD sp__law_draw (tConsD (tVarD 0) (tConsD (tCD (.int 7)) tNilD))) (tConsD (tCallD sp__law_sections (tConsD (tVarD 0) (tConsD (tVarD 9) (tConsD (tVarD 7) tNilD)))) tNilD))))))) tNilD))))))))) (tRetD (tCBD rTupD (tConsD (tVarD 4) tNilD))))))))
theorem wk__law_some {sp__law_draw sp__law_names sp__law_pick sp__law_sections : SpD} (T : Txt K mg) (F__law_draw : FnD false P w K mg base 1 (He.ga K "_law_draw") sp__law_draw) (F__law_names : FnD false P w K mg base 3 (He.ga K "_law_names") sp__law_names) (F__law_pick : FnD false P w K mg base 2 (He.ga K "_law_pick") sp__law_pick) (F__law_sections : FnD false P w K mg base 3 (He.ga K "_law_sections") sp__law_sections) : BodyD false P w K mg base 3 (He.ga K "_law_some") N__law_some "_law_some" (defScope (top 73)) (defBody (top 73)) (t__law_some K sp__law_draw sp__law_names sp__law_pick sp__law_sections) := fun cdv A outer s H E hr hg => (dss_cons (ds_set 2 sc__law_some.nd (de_call (CalD.fn F__law_draw (hr.mono (by decide)) nog T.k__law_draw (takes_of rfl rfl rfl rfl)) T.g__law_draw (da_cons (dv 0) (da_cons (de_add (dv 1) de_int) da_nil)))) (dss_cons (ds_par 3 4 rfl sc__law_some.nd (da_cons (de_mulM (de_lst (da_cons de_int da_nil)) (dv 2)) (da_cons (de_lstM da_nil) da_nil))) (dss_cons (ds_for (passes_of rfl) rfl (di_range1 T.f_range (da_cons (de_if (dt_gt (dv 2) de_int) (de_call (CalD.fn F__law_draw (hr.mono (by decide)) nog T.k__law_draw (takes_of rfl rfl rfl rfl)) T.g__law_draw (da_cons (dv 0) (da_cons (de_sub de_int (dv 2)) da_nil))) de_int) da_nil)) (dg_name 5 sc__law_some.nd) (dss_cons (ds_set 6 sc__law_some.nd (de_call (CalD.fn F__law_draw (hr.mono (by decide)) nog T.k__law_draw (takes_of rfl rfl rfl rfl)) T.g__law_draw (da_cons (dv 0) (da_cons (dv 2) da_nil)))) (dss_one (ds_asg (de_add (de_ixA (u1 hr) (dv 3) (dv 6)) de_int) (dg_put (tg := .Name "x" ⟨0, 0, 0, 0⟩) (u1 hr) (dv 3) (dv 6)))))) (dss_cons (ds_set 7 sc__law_some.nd (de_call (CalD.fn F__law_names (hr.mono (by decide)) nog T.k__law_names (takes_of rfl rfl rfl rfl)) T.g__law_names (da_cons (dv 0) (da_cons de_int da_nil)))) (dss_cons (ds_for (passes_of rfl) rfl (di_enum T.f_enumerate (da_cons (de_call (CalD.fn F__law_names (hr.mono (by decide)) nog T.k__law_names (takes_of rfl rfl rfl rfl)) T.g__law_names (da_cons (dv 0) (da_cons (dv 2) da_nil))) da_nil)) (dg_tup rfl (dgs_cons (dg_name 6 sc__law_some.nd) (dgs_cons (dg_name 8 sc__law_some.nd) dgs_nil))) (dss_cons (ds_set 9 sc__law_some.nd (de_add de_int (de_call (CalD.fn F__law_draw (hr.mono (by decide)) nog T.k__law_draw (takes_of rfl rfl rfl rfl)) T.g__law_draw (da_cons (dv 0) (da_cons (de_call (CalD.fn F__law_pick (hr.mono (by decide)) nog T.k__law_pick (takes_of rfl rfl rfl rfl)) T.g__law_pick (da_cons (dv 0) (da_cons (de_lst (da_cons de_int (da_cons de_int (da_cons de_int (da_cons de_int (da_cons de_int da_nil)))))) da_nil))) da_nil))))) (dss_cons (ds_set 10 sc__law_some.nd (de_div (de_sub (de_add (de_mul de_int (dv 9)) (de_ixA (u1 hr) (dv 3) (dv 6))) de_int) (de_ixA (u1 hr) (dv 3) (dv 6)))) (dss_cons (ds_set 10 sc__law_some.nd (de_add (dv 10) (de_call (CalD.fn F__law_pick (hr.mono (by decide)) nog T.k__law_pick (takes_of rfl rfl rfl rfl)) T.g__law_pick (da_cons (dv 0) (da_cons (de_lst (da_cons de_int (da_cons de_int (da_cons de_int (da_cons de_int (da_cons de_int da_nil)))))) da_nil))))) (dss_cons (ds_set 11 sc__law_some.nd (de_add (dv 9) (de_call (CalD.fn F__law_draw (hr.mono (by decide)) nog T.k__law_draw (takes_of rfl rfl rfl rfl)) T.g__law_draw (da_cons (dv 0) (da_cons (de_call (CalD.fn F__law_pick (hr.mono (by decide)) nog T.k__law_pick (takes_of rfl rfl rfl rfl)) T.g__law_pick (da_cons (dv 0) (da_cons (de_lst (da_cons de_int (da_cons (de_add (dv 9) de_int) (da_cons de_int (da_cons de_int (da_cons (de_mul de_int (dv 10)) (da_cons de_int da_nil))))))) da_nil))) da_nil))))) (dss_cons (ds_set 11 sc__law_some.nd (de_call (CalD.fn F__law_pick (hr.mono (by decide)) nog T.k__law_pick (takes_of rfl rfl rfl rfl)) T.g__law_pick (da_cons (dv 0) (da_cons (de_lst (da_cons (dv 11) (da_cons (dv 11) (da_cons (dv 10) da_nil)))) da_nil)))) (dss_one (ds_expr (de_bm PySem.F.slot_list_append PySem.F.type_list_append mt_append lift_app (dv 4) (da_cons (de_tup (da_cons (dv 8) (da_cons (dv 9) (da_cons (dv 10) (da_cons (dv 11) (da_cons (de_call (CalD.fn F__law_draw (hr.mono (by decide)) nog T.k__law_draw (takes_of rfl rfl rfl rfl)) T.g__law_draw (da_cons (dv 0) (da_cons de_int da_nil))) (da_cons (de_call (CalD.fn F__law_sections (hr.mono (by decide)) nog T.k__law_sections (takes_of rfl rfl rfl rfl)) T.g__law_sections (da_cons (dv 0) (da_cons (dv 9) (da_cons (dv 7) da_nil)))) da_nil))))))) da_nil)))))))))) (dss_one (ds_ret (de_callTy call_tuple_of lift_tupC T.f_tuple bt_tuple (da_cons (dv 4) da_nil)))))))))
theorem ok__law_some {sp__law_draw sp__law_names sp__law_pick sp__law_sections sp : SpD} (T : Txt K mg) (F__law_draw : FnD false P w K mg base 1 (He.ga K "_law_draw") sp__law_draw) (F__law_names : FnD false P w K mg base 3 (He.ga K "_law_names") sp__law_names) (F__law_pick : FnD false P w K mg base 2 (He.ga K "_law_pick") sp__law_pick) (F__law_sections : FnD false P w K mg base 3 (He.ga K "_law_sections") sp__law_sections) (pure : ∀ ds M Q E, sp ds M Q E → ds.length = 2 ∧ t__law_some K sp__law_draw sp__law_names sp__law_pick sp__law_sections { nx := fun _ M' => upQ Q .non M', rt := upQ Q, ex := upX E } (startD N__law_some ds) M) : FnD false P w K mg base 4 (He.ga K "_law_some") sp := by
  obtain ⟨fd, F⟩ := T.d__law_some
  exact FnD.mk (ps := ["stream", "most"]) F sc__law_some (F.bindsN fun _ _ _ _ _ _ us hl => match us, hl with | [_, _], _ => rfl) ⟨_, wk__law_some T F__law_draw F__law_names F__law_pick F__law_sections, pure⟩
def t__law_numbers (K : PySem.W.Frag) (sp__law_pick sp__law_draw : SpD) : TSD := (tSeqD (tParD 2 3 (tConsD (tCBD rLenD (tConsD (tVarD 1) tNilD)) (tConsD (tLstM tNilD) tNilD))) (tSeqD (tForD (tRng1D (tConsD (tVarD 2) tNilD)) (gNameD 4) (tDropD (tBMD rAppD (tVarD 3) (tConsD (tCallD sp__law_pick (tConsD (tVarD 0) (tConsD (tLstD (tConsD (tVarD 4) (tConsD (tOpD rSubD (tVarD 2) (tCD (.int 1))) (tConsD (tOpD rAddD (tVarD 4) (tCallD sp__law_draw (tConsD (tVarD 0) (tConsD (tOpD rSubD (tVarD 2) (tVarD 4)) tNilD)))) tNilD)))) tNilD))) tNilD)))) (tRetD (tCBD rTupD (tConsD (tVarD 3) tNilD)))))
theorem wk__law_numbers {sp__law_pick sp__law_draw : SpD} (T : Txt K mg) (F__law_pick : FnD false P w K mg base 2 (He.ga K "_law_pick") sp__law_pick) (F__law_draw : FnD false P w K mg base 1 (He.ga K "_law_draw") sp__law_draw) : BodyD false P w K mg base 2 (He.ga K "_law_numbers") N__law_numbers "_law_numbers" (defScope (top 74)) (defBody (top 74)) (t__law_numbers K sp__law_pick sp__law_draw) := fun cdv A outer s H E hr hg => (dss_cons (ds_par 2 3 rfl sc__law_numbers.nd (da_cons (de_callB call_len lift_len T.f_len bt_len (da_cons (dv 1) da_nil)) (da_cons (de_lstM da_nil) da_nil))) (dss_cons (ds_for (passes_of rfl) rfl (di_range1 T.f_range (da_cons (dv 2) da_nil)) (dg_name 4 sc__law_numbers.nd) (dss_one (ds_expr (de_bm PySem.F.slot_list_append PySem.F.type_list_append mt_append lift_app (dv 3) (da_cons (de_call (CalD.fn F__law_pick (hr.mono (by decide)) nog T.k__law_pick (takes_of rfl rfl rfl rfl)) T.g__law_pick (da_cons (dv 0) (da_cons (de_lst (da_cons (dv 4) (da_cons (de_sub (dv 2) de_int) (da_cons (de_add (dv 4) (de_call (CalD.fn F__law_draw (hr.mono (by decide)) nog T.k__law_draw (takes_of rfl rfl rfl rfl)) T.g__law_draw (da_cons (dv 0) (da_cons (de_sub (dv 2) (dv 4)) da_nil)))) da_nil)))) da_nil))) da_nil))))) (dss_one (ds_ret (de_callTy call_tuple_of lift_tupC T.f_tuple bt_tuple (da_cons (dv 3) da_nil))))))
theorem ok__law_numbers {sp__law_pick sp__law_draw sp : SpD} (T : Txt K mg) (F__law_pick : FnD false P w K mg base 2 (He.ga K "_law_pick") sp__law_pick) (F__law_draw : FnD false P w K mg base 1 (He.ga K "_law_draw") sp__law_draw) (pure : ∀ ds M Q E, sp ds M Q E → ds.length = 2 ∧ t__law_numbers K sp__law_pick sp__law_draw { nx := fun _ M' => upQ Q .non M', rt := upQ Q, ex := upX E } (startD N__law_numbers ds) M) : FnD false P w K mg base 3 (He.ga K "_law_numbers") sp := by
  obtain ⟨fd, F⟩ := T.d__law_numbers
  exact FnD.mk (ps := ["stream", "some"]) F sc__law_numbers (F.bindsN fun _ _ _ _ _ _ us hl => match us, hl with | [_, _], _ => rfl) ⟨_, wk__law_numbers T F__law_pick F__law_draw, pure⟩
def t__law_plan (K : PySem.W.Frag) (sp__law_draw sp__law_pick : SpD) : TSD := (tSeqD (tAsgD (tLstM tNilD) (gNameD 3)) (tSeqD (tForD (tSeqI (tVarD 1)) (gNameD 4) (tSeqD (tAsgD (tCallD sp__law_draw (tConsD (tVarD 0) (tConsD (tCallD sp__law_pick (tConsD (tVarD 0) (tConsD (tLstD (tConsD (tCD (.int 1)) (tConsD (tCD (.int 2)) (tConsD (tCD (.int 9)) (tConsD (tVarD 2) tNilD))))) tNilD))) tNilD))) (gNameD 5)) (tWhileD (tAndD (tTestD (tOpD rLtD (tVarD 5) (tVarD 2))) (tTestD (tOpD rGtD (tCallD sp__law_draw (tConsD (tVarD 0) (tConsD (tCD (.int 12)) tNilD))) (tCD (.int 0))))) (tSeqD (tAsgD (tIfD (tTestD (tOpD rGtD (tCallD sp__law_draw (tConsD (tVarD 0) (tConsD (tCD (.int 3)) tNilD))) (tCD (.int 0)))) (tOpD rIxAD (tVarD 4) (tCD (.int 1))) (tOpD rAddD (tCD (.int 1)) (tCallD sp__law_draw (tConsD (tVarD 0) (tConsD (tOpD rIxAD (tVarD 4) (tCD (.int 1))) tNilD))))) (gNameD 6)) (tSeqD (tDropD (tBMD rAppD (tVarD 3) (tConsD (tTupD (tConsD (tVarD 5) (tConsD (tOpD rIxAD (tVarD 4) (tCD (.int 0))) (tConsD (tVarD 6) tNilD)))) tNilD))) (tAsgD (tOpD rAddD (tOpD rAddD (tVarD 5) (tOpD rIxAD (tVarD 4) (tCD (.int 2)))) (tCallD sp__law_pick (tConsD (tVarD 0) (tConsD (tLstD (tConsD (tCD (.int 0)) (tConsD (tCD (.int 0)) (tConsD (tCD (.int 0)) (tConsD (tCD (.int 1)) (tConsD (tCD (.int 4)) tNilD)))))) tNilD)))) (gNameD 5))))))) (tRetD (tCBD rTupD (tConsD (tCBD rSortD (tConsD (tVarD 3) tNilD)) tNilD)))))
theorem wk__law_plan {sp__law_draw sp__law_pick : SpD} (T : Txt K mg) (F__law_draw : FnD false P w K mg base 1 (He.ga K "_law_draw") sp__law_draw) (F__law_pick : FnD false P w K mg base 2 (He.ga K "_law_pick") sp__law_pick) : BodyD false P w K mg base 2 (He.ga K "_law_plan") N__law_plan "_law_plan" (defScope (top 75)) (defBody (top 75)) (t__law_plan K sp__law_draw sp__law_pick) := fun cdv A outer s H E hr hg => (dss_cons (ds_set 3 sc__law_plan.nd (de_lstM da_nil)) (dss_cons (ds_for (passes_of rfl) rfl (di_seq (dv 1)) (dg_name 4 sc__law_plan.nd) (dss_cons (ds_set 5 sc__law_plan.nd (de_call (CalD.fn F__law_draw (hr.mono (by decide)) nog T.k__law_draw (takes_of rfl rfl rfl rfl)) T.g__law_draw (da_cons (dv 0) (da_cons (de_call (CalD.fn F__law_pick (hr.mono (by decide)) nog T.k__law_pick (takes_of rfl rfl rfl rfl)) T.g__law_pick (da_cons (dv 0) (da_cons (de_lst (da_cons de_int (da_cons de_int (da_cons de_int (da_cons (dv 2) da_nil))))) da_nil))) da_nil)))) (dss_one (ds_while (passes_of rfl) (dt_w (dw_and (dt_lt (u100 hr) (dv 5) (dv 2)) (dw_and1 (dt_gt (de_call (CalD.fn F__law_draw (hr.mono (by decide)) nog T.k__law_draw (takes_of rfl rfl rfl rfl)) T.g__law_draw (da_cons (dv 0) (da_cons de_int da_nil))) de_int)))) (dss_cons (ds_set 6 sc__law_plan.nd (de_if (dt_gt (de_call (CalD.fn F__law_draw (hr.mono (by decide)) nog T.k__law_draw (takes_of rfl rfl rfl rfl)) T.g__law_draw (da_cons (dv 0) (da_cons de_int da_nil))) de_int) (de_ixA (u1 hr) (dv 4) de_int) (de_add de_int (de_call (CalD.fn F__law_draw (hr.mono (by decide)) nog T.k__law_draw (takes_of rfl rfl rfl rfl)) T.g__law_draw (da_cons (dv 0) (da_cons (de_ixA (u1 hr) (dv 4) de_int) da_nil)))))) (dss_cons (ds_expr (de_bm PySem.F.slot_list_append PySem.F.type_list_append mt_append lift_app (dv 3) (da_cons (de_tup (da_cons (dv 5) (da_cons (de_ixA (u1 hr) (dv 4) de_int) (da_cons (dv 6) da_nil)))) da_nil))) (dss_one (ds_set 5 sc__law_plan.nd (de_add (de_add (dv 5) (de_ixA (u1 hr) (dv 4) de_int)) (de_call (CalD.fn F__law_pick (hr.mono (by decide)) nog T.k__law_pick (takes_of rfl rfl rfl rfl)) T.g__law_pick (da_cons (dv 0) (da_cons (de_lst (da_cons de_int (da_cons de_int (da_cons de_int (da_cons de_int (da_cons de_int da_nil)))))) da_nil)))))))))))) (dss_one (ds_ret (de_callTy call_tuple_of lift_tupC T.f_tuple bt_tuple (da_cons (de_callB (call_sortV (u102 hr)) lift_sort T.f_sorted bt_sorted (da_cons (dv 3) da_nil)) da_nil))))))
theorem ok__law_plan {sp__law_draw sp__law_pick sp : SpD} (T : Txt K mg) (F__law_draw : FnD false P w K mg base 1 (He.ga K "_law_draw") sp__law_draw) (F__law_pick : FnD false P w K mg base 2 (He.ga K "_law_pick") sp__law_pick) (pure : ∀ ds M Q E, sp ds M Q E → ds.length = 3 ∧ t__law_plan K sp__law_draw sp__law_pick { nx := fun _ M' => upQ Q .non M', rt := upQ Q, ex := upX E } (startD N__law_plan ds) M) : FnD false P w K mg base 3 (He.ga K "_law_plan") sp := by
  obtain ⟨fd, F⟩ := T.d__law_plan
  exact FnD.mk (ps := ["stream", "some", "ticks"]) F sc__law_plan (F.bindsN fun _ _ _ _ _ _ us hl => match us, hl with | [_, _, _], _ => rfl) ⟨_, wk__law_plan T F__law_draw F__law_pick, pure⟩
def t_is_name (K : PySem.W.Frag) : TSD := (tSeqD (tIfSD (tOrD (tNotD (tTestD (tCBD (rIsiD K) (tConsD (tVarD 0) (tConsD (tCD (.ty "str")) tNilD))))) (tNotD (tTestD (tChainD rLeD rLeD (tCD (.int 1)) (tCBD rLenD (tConsD (tVarD 0) tNilD)) (tCD (.int 8)))))) (tRetD (tCD (.bl false))) tNextD) (tRetD (tCBD (rAllD fun bs => bs.all id) (tConsD (tLcD (tSeqI (tVarD 0)) (gNameD 1) tYesD (tOpD rInAD (tVarD 1) (tCD (.str "abcdefghijklmnopqrstuvwxyz"))) [1]) tNilD))))
theorem wk_is_name (T : Txt K mg)  : BodyD false P w K mg base 0 (He.ga K "is_name") N_is_name "is_name" (defScope (top 22)) (defBody (top 22)) (t_is_name K ) := fun cdv A outer s H E hr hg => (dss_cons (ds_if (dt_w (dw_or (dt_not (dt_val (de_callB call_isi lift_isi T.f_isinstance bt_isinstance (da_cons (dv 0) (da_cons (de_ty T.f_str bt_str) da_nil))))) (dw_or1 (dt_not (dt_chainI op_le op_le de_int (de_callB call_len lift_len T.f_len bt_len (da_cons (dv 0) da_nil)) (de_globI T.i_MAX_NAME)))))) (dss_one (ds_ret de_bl)) dss_nil) (dss_one (ds_ret (de_callB (cr_all rfl) lift_allF T.f_all bt_all (da_cons (de_lc (own := [("sign", 1)]) rfl sc_is_name.nd (di_seq (dv 0)) (blkOk_by (N := N_is_name) (sc := defScope (top 22)) (own := [("sign", 1)]) (by decide +kernel)) (fun _ _ _ _ _ => (dg_name 1 sc_is_name.nd)) (fun _ _ _ _ _ => dts_nil) (fun _ _ _ _ _ => (de_in (u1 hr) (dv 1) (de_globS T.i_LETTERS))) (by decide)) da_nil)))))
theorem ok_is_name {sp : SpD} (T : Txt K mg)  (pure : ∀ ds M Q E, sp ds M Q E → ds.length = 1 ∧ t_is_name K  { nx := fun _ M' => upQ Q .non M', rt := upQ Q, ex := upX E } (startD N_is_name ds) M) : FnD false P w K mg base 1 (He.ga K "is_name") sp := by
  obtain ⟨fd, F⟩ := T.d_is_name
  exact FnD.mk (ps := ["value"]) F sc_is_name (F.bindsN fun _ _ _ _ _ _ us hl => match us, hl with | [_], _ => rfl) ⟨_, wk_is_name T , pure⟩
def t_is_integer (K : PySem.W.Frag) : TSD := (tRetD (tAndVD (tCBD (rIsiD K) (tConsD (tVarD 0) (tConsD (tCD (.ty "int")) tNilD))) (tNotVD (tCBD (rIsiD K) (tConsD (tVarD 0) (tConsD (tCD (.ty "bool")) tNilD))))))
theorem wk_is_integer (T : Txt K mg)  : BodyD false P w K mg base 0 (He.ga K "is_integer") N_is_integer "is_integer" (defScope (top 20)) (defBody (top 20)) (t_is_integer K ) := fun cdv A outer s H E hr hg => (dss_one (ds_ret (de_and (de_callB call_isi lift_isi T.f_isinstance bt_isinstance (da_cons (dv 0) (da_cons (de_ty T.f_int bt_int) da_nil))) (de_one (de_not (de_callB call_isi lift_isi T.f_isinstance bt_isinstance (da_cons (dv 0) (da_cons (de_ty T.f_bool bt_bool) da_nil))))))))
theorem ok_is_integer {sp : SpD} (T : Txt K mg)  (pure : ∀ ds M Q E, sp ds M Q E → ds.length = 1 ∧ t_is_integer K  { nx := fun _ M' => upQ Q .non M', rt := upQ Q, ex := upX E } (startD N_is_integer ds) M) : FnD false P w K mg base 1 (He.ga K "is_integer") sp := by
  obtain ⟨fd, F⟩ := T.d_is_integer
  exact FnD.mk (ps := ["value"]) F sc_is_integer (F.bindsN fun _ _ _ _ _ _ us hl => match us, hl with | [_], _ => rfl) ⟨_, wk_is_integer T , pure⟩
def t_is_between (K : PySem.W.Frag) (sp_is_integer : SpD) : TSD := (tRetD (tAndVD (tCallD sp_is_integer (tConsD (tVarD 0) tNilD)) (tChainD rLeD rLeD (tVarD 1) (tVarD 0) (tVarD 2))))
theorem wk_is_between {sp_is_integer : SpD} (T : Txt K mg) (F_is_integer : FnD false P w K mg base 1 (He.ga K "is_integer") sp_is_integer) : BodyD false P w K mg base 1 (He.ga K "is_between") N_is_between "is_between" (defScope (top 21)) (defBody (top 21)) (t_is_between K sp_is_integer) := fun cdv A outer s H E hr hg => (dss_one (ds_ret (de_and (de_call (CalD.fn F_is_integer (hr.mono (by decide)) nog T.k_is_integer (takes_of rfl rfl rfl rfl)) T.g_is_integer (da_cons (dv 0) da_nil)) (de_one (de_chainI op_le op_le (dv 1) (dv 0) (dv 2))))))
theorem ok_is_between {sp_is_integer sp : SpD} (T : Txt K mg) (F_is_integer : FnD false P w K mg base 1 (He.ga K "is_integer") sp_is_integer) (pure : ∀ ds M Q E, sp ds M Q E → ds.length = 3 ∧ t_is_between K sp_is_integer { nx := fun _ M' => upQ Q .non M', rt := upQ Q, ex := upX E } (startD N_is_between ds) M) : FnD false P w K mg base 2 (He.ga K "is_between") sp := by
  obtain ⟨fd, F⟩ := T.d_is_between
  exact FnD.mk (ps := ["value", "low", "high"]) F sc_is_between (F.bindsN fun _ _ _ _ _ _ us hl => match us, hl with | [_, _, _], _ => rfl) ⟨_, wk_is_between T F_is_integer, pure⟩
def t_is_section (K : PySem.W.Frag) (sp_is_between sp_is_name : SpD) : TSD := (tSeqD (tIfSD (tOrD (tNotD (tTestD (tCBD (rIsiD K) (tConsD (tVarD 0) (tConsD (tCD (.ty "tuple")) tNilD))))) (tTestD (tOpD rNeD (tCBD rLenD (tConsD (tVarD 0) tNilD)) (tCD (.int 3))))) (tRetD (tCD (.bl false))) tNextD) (tSeqD (tAsgD (tVarD 0) (gTupD 3 (gConsD (gNameD 2) (gConsD (gNameD 3) (gConsD (gNameD 4) gNilD))))) (tRetD (tAndVD (tCallD sp_is_between (tConsD (tVarD 3) (tConsD (tCD (.int 1)) (tConsD (tOpD rSubD (tVarD 1) (tCD (.int 1))) tNilD)))) (tAndVD (tCallD sp_is_between (tConsD (tVarD 2) (tConsD (tCD (.int 0)) (tConsD (tOpD rSubD (tVarD 3) (tCD (.int 1))) tNilD)))) (tCallD sp_is_name (tConsD (tVarD 4) tNilD)))))))
theorem wk_is_section {sp_is_between sp_is_name : SpD} (T : Txt K mg) (F_is_between : FnD false P w K mg base 2 (He.ga K "is_between") sp_is_between) (F_is_name : FnD false P w K mg base 1 (He.ga K "is_name") sp_is_name) : BodyD false P w K mg base 2 (He.ga K "is_section") N_is_section "is_section" (defScope (top 23)) (defBody (top 23)) (t_is_section K sp_is_between sp_is_name) := fun cdv A outer s H E hr hg => (dss_cons (ds_if (dt_w (dw_or (dt_not (dt_val (de_callB call_isi lift_isi T.f_isinstance bt_isinstance (da_cons (dv 0) (da_cons (de_ty T.f_tuple bt_tuple) da_nil))))) (dw_or1 (dt_ne (u64 hr) (de_callB call_len lift_len T.f_len bt_len (da_cons (dv 0) da_nil)) de_int)))) (dss_one (ds_ret de_bl)) dss_nil) (dss_cons (ds_asg (dv 0) (dg_tup rfl (dgs_cons (dg_name 2 sc_is_section.nd) (dgs_cons (dg_name 3 sc_is_section.nd) (dgs_cons (dg_name 4 sc_is_section.nd) dgs_nil))))) (dss_one (ds_ret (de_and (de_call (CalD.fn F_is_between (hr.mono (by decide)) nog T.k_is_between (takes_of rfl rfl rfl rfl)) T.g_is_between (da_cons (dv 3) (da_cons de_int (da_cons (de_sub (dv 1) de_int) da_nil)))) (de_and (de_call (CalD.fn F_is_between (hr.mono (by decide)) nog T.k_is_between (takes_of rfl rfl rfl rfl)) T.g_is_between (da_cons (dv 2) (da_cons de_int (da_cons (de_sub (dv 3) de_int) da_nil)))) (de_one (de_call (CalD.fn F_is_name (hr.mono (by decide)) nog T.k_is_name (takes_of rfl rfl rfl rfl)) T.g_is_name (da_cons (dv 4) da_nil)))))))))
theorem ok_is_section {sp_is_between sp_is_name sp : SpD} (T : Txt K mg) (F_is_between : FnD false P w K mg base 2 (He.ga K "is_between") sp_is_between) (F_is_name : FnD false P w K mg base 1 (He.ga K "is_name") sp_is_name) (pure : ∀ ds M Q E, sp ds M Q E → ds.length = 2 ∧ t_is_section K sp_is_between sp_is_name { nx := fun _ M' => upQ Q .non M', rt := upQ Q, ex := upX E } (startD N_is_section ds) M) : FnD false P w K mg base 3 (He.ga K "is_section") sp := by
  obtain ⟨fd, F⟩ := T.d_is_section
  exact FnD.mk (ps := ["value", "longest"]) F sc_is_section (F.bindsN fun _ _ _ _ _ _ us hl => match us, hl with | [_, _], _ => rfl) ⟨_, wk_is_section T F_is_between F_is_name, pure⟩
def t_are_sections (K : PySem.W.Frag) (sp_is_section : SpD) : TSD := (tSeqD (tIfSD (tOrD (tNotD (tTestD (tCBD (rIsiD K) (tConsD (tVarD 0) (tConsD (tCD (.ty "tuple")) tNilD))))) (tTestD (tOpD rGtD (tCBD rLenD (tConsD (tVarD 0) tNilD)) (tCD (.int 8))))) (tRetD (tCD (.bl false))) tNextD) (tSeqD (tIfSD (tNotD (tTestD (tCBD (rAllD fun bs => bs.all id) (tConsD (tLcD (tSeqI (tVarD 0)) (gNameD 2) tYesD (tCallD sp_is_section (tConsD (tVarD 2) (tConsD (tVarD 1) tNilD))) [2]) tNilD)))) (tRetD (tCD (.bl false))) tNextD) (tRetD (tCBD (rAllD fun bs => bs.all id) (tConsD (tLcD (tZipD (tConsD (tVarD 0) (tConsD (tSlD (tVarD 0) (tPartD (tCD (.int 1))) tNoPartD) tNilD))) (gTupD 2 (gConsD (gNameD 3) (gConsD (gNameD 4) gNilD))) tYesD (tOpD rLeD (tOpD rIxAD (tVarD 3) (tCD (.int 1))) (tOpD rIxAD (tVarD 4) (tCD (.int 0)))) [3, 4]) tNilD)))))
theorem wk_are_sections {sp_is_section : SpD} (T : Txt K mg) (F_is_section : FnD false P w K mg base 3 (He.ga K "is_section") sp_is_section) : BodyD false P w K mg base 3 (He.ga K "are_sections") N_are_sections "are_sections" (defScope (top 24)) (defBody (top 24)) (t_are_sections K sp_is_section) := fun cdv A outer s H E hr hg => (dss_cons (ds_if (dt_w (dw_or (dt_not (dt_val (de_callB call_isi lift_isi T.f_isinstance bt_isinstance (da_cons (dv 0) (da_cons (de_ty T.f_tuple bt_tuple) da_nil))))) (dw_or1 (dt_gt (de_callB call_len lift_len T.f_len bt_len (da_cons (dv 0) da_nil)) (de_globI T.i_MAX_SECTIONS))))) (dss_one (ds_ret de_bl)) dss_nil) (dss_cons (ds_if (dt_not (dt_val (de_callB (cr_all rfl) lift_allF T.f_all bt_all (da_cons (de_lc (own := [("section", 2)]) rfl sc_are_sections.nd (di_seq (dv 0)) (blkOk_by (N := N_are_sections) (sc := defScope (top 24)) (own := [("section", 2)]) (by decide +kernel)) (fun _ _ _ _ _ => (dg_name 2 sc_are_sections.nd)) (fun _ _ _ _ _ => dts_nil) (fun _ _ _ _ _ => (de_call (CalD.fn F_is_section (hr.mono (by decide)) nog T.k_is_section tk0) T.g_is_section (da_cons (dv 2) (da_cons (dv 1) da_nil)))) (by decide)) da_nil)))) (dss_one (ds_ret de_bl)) dss_nil) (dss_one (ds_ret (de_callB (cr_all rfl) lift_allF T.f_all bt_all (da_cons (de_lc (own := [("before", 3), ("after", 4)]) rfl sc_are_sections.nd (di_zip T.f_zip (da_cons (dv 0) (da_cons (de_slice (dv 0) (do_some de_int) do_none) da_nil))) (blkOk_by (N := N_are_sections) (sc := defScope (top 24)) (own := [("before", 3), ("after", 4)]) (by decide +kernel)) (fun _ _ _ _ _ => (dg_tup rfl (dgs_cons (dg_name 3 sc_are_sections.nd) (dgs_cons (dg_name 4 sc_are_sections.nd) dgs_nil)))) (fun _ _ _ _ _ => dts_nil) (fun _ _ _ _ _ => (de_le (de_ixA (u1 hr) (dv 3) de_int) (de_ixA (u1 hr) (dv 4) de_int))) (by decide)) da_nil))))))
theorem ok_are_sections {sp_is_section sp : SpD} (T : Txt K mg) (F_is_section : FnD false P w K mg base 3 (He.ga K "is_section") sp_is_section) (pure : ∀ ds M Q E, sp ds M Q E → ds.length = 2 ∧ t_are_sections K sp_is_section { nx := fun _ M' => upQ Q .non M', rt := upQ Q, ex := upX E } (startD N_are_sections ds) M) : FnD false P w K mg base 4 (He.ga K "are_sections") sp := by
  obtain ⟨fd, F⟩ := T.d_are_sections
  exact FnD.mk (ps := ["value", "longest"]) F sc_are_sections (F.bindsN fun _ _ _ _ _ _ us hl => match us, hl with | [_, _], _ => rfl) ⟨_, wk_are_sections T F_is_section, pure⟩
def t_is_task (K : PySem.W.Frag) (sp_is_name sp_is_between sp_are_sections : SpD) : TSD := (tSeqD (tIfSD (tOrD (tNotD (tTestD (tCBD (rIsiD K) (tConsD (tVarD 0) (tConsD (tCD (.ty "tuple")) tNilD))))) (tTestD (tOpD rNeD (tCBD rLenD (tConsD (tVarD 0) tNilD)) (tCD (.int 6))))) (tRetD (tCD (.bl false))) tNextD) (tSeqD (tAsgD (tVarD 0) (gTupD 6 (gConsD (gNameD 1) (gConsD (gNameD 2) (gConsD (gNameD 3) (gConsD (gNameD 4) (gConsD (gNameD 5) (gConsD (gNameD 6) gNilD)))))))) (tSeqD (tIfSD (tOrD (tNotD (tTestD (tCallD sp_is_name (tConsD (tVarD 1) tNilD)))) (tOrD (tNotD (tTestD (tCallD sp_is_between (tConsD (tVarD 2) (tConsD (tCD (.int 1)) (tConsD (tCD (.int 100)) tNilD)))))) (tNotD (tTestD (tCallD sp_is_between (tConsD (tVarD 3) (tConsD (tCD (.int 1)) (tConsD (tCD (.int 1000)) tNilD)))))))) (tRetD (tCD (.bl false))) tNextD) (tSeqD (tIfSD (tOrD (tNotD (tTestD (tCallD sp_is_between (tConsD (tVarD 4) (tConsD (tCD (.int 1)) (tConsD (tCD (.int 20000)) tNilD)))))) (tNotD (tTestD (tCallD sp_is_between (tConsD (tVarD 5) (tConsD (tCD (.int 0)) (tConsD (tCD (.int 1000000)) tNilD))))))) (tRetD (tCD (.bl false))) tNextD) (tRetD (tCallD sp_are_sections (tConsD (tVarD 6) (tConsD (tVarD 2) tNilD))))))))
theorem wk_is_task {sp_is_name sp_is_between sp_are_sections : SpD} (T : Txt K mg) (F_is_name : FnD false P w K mg base 1 (He.ga K "is_name") sp_is_name) (F_is_between : FnD false P w K mg base 2 (He.ga K "is_between") sp_is_between) (F_are_sections : FnD false P w K mg base 4 (He.ga K "are_sections") sp_are_sections) : BodyD false P w K mg base 4 (He.ga K "is_task") N_is_task "is_task" (defScope (top 25)) (defBody (top 25)) (t_is_task K sp_is_name sp_is_between sp_are_sections) := fun cdv A outer s H E hr hg => (dss_cons (ds_if (dt_w (dw_or (dt_not (dt_val (de_callB call_isi lift_isi T.f_isinstance bt_isinstance (da_cons (dv 0) (da_cons (de_ty T.f_tuple bt_tuple) da_nil))))) (dw_or1 (dt_ne (u64 hr) (de_callB call_len lift_len T.f_len bt_len (da_cons (dv 0) da_nil)) de_int)))) (dss_one (ds_ret de_bl)) dss_nil) (dss_cons (ds_asg (dv 0) (dg_tup rfl (dgs_cons (dg_name 1 sc_is_task.nd) (dgs_cons (dg_name 2 sc_is_task.nd) (dgs_cons (dg_name 3 sc_is_task.nd) (dgs_cons (dg_name 4 sc_is_task.nd) (dgs_cons (dg_name 5 sc_is_task.nd) (dgs_cons (dg_name 6 sc_is_task.nd) dgs_nil)))))))) (dss_cons (ds_if (dt_w (dw_or (dt_not (dt_val (de_call (CalD.fn F_is_name (hr.mono (by decide)) nog T.k_is_name (takes_of rfl rfl rfl rfl)) T.g_is_name (da_cons (dv 1) da_nil)))) (dw_or (dt_not (dt_val (de_call (CalD.fn F_is_between (hr.mono (by decide)) nog T.k_is_between (takes_of rfl rfl rfl rfl)) T.g_is_between (da_cons (dv 2) (da_cons de_int (da_cons (de_globI T.i_MAX_LONGEST) da_nil)))))) (dw_or1 (dt_not (dt_val (de_call (CalD.fn F_is_between (hr.mono (by decide)) nog T.k_is_between (takes_of rfl rfl rfl rfl)) T.g_is_between (da_cons (dv 3) (da_cons de_int (da_cons (de_globI T.i_MAX_GAP) da_nil)))))))))) (dss_one (ds_ret de_bl)) dss_nil) (dss_cons (ds_if (dt_w (dw_or (dt_not (dt_val (de_call (CalD.fn F_is_between (hr.mono (by decide)) nog T.k_is_between (takes_of rfl rfl rfl rfl)) T.g_is_between (da_cons (dv 4) (da_cons de_int (da_cons (de_globI T.i_MAX_DEADLINE) da_nil)))))) (dw_or1 (dt_not (dt_val (de_call (CalD.fn F_is_between (hr.mono (by decide)) nog T.k_is_between (takes_of rfl rfl rfl rfl)) T.g_is_between (da_cons (dv 5) (da_cons de_int (da_cons (de_globI T.i_MAX_ROOM) da_nil))))))))) (dss_one (ds_ret de_bl)) dss_nil) (dss_one (ds_ret (de_call (CalD.fn F_are_sections (hr.mono (by decide)) nog T.k_are_sections (takes_of rfl rfl rfl rfl)) T.g_are_sections (da_cons (dv 6) (da_cons (dv 2) da_nil)))))))))
theorem ok_is_task {sp_is_name sp_is_between sp_are_sections sp : SpD} (T : Txt K mg) (F_is_name : FnD false P w K mg base 1 (He.ga K "is_name") sp_is_name) (F_is_between : FnD false P w K mg base 2 (He.ga K "is_between") sp_is_between) (F_are_sections : FnD false P w K mg base 4 (He.ga K "are_sections") sp_are_sections) (pure : ∀ ds M Q E, sp ds M Q E → ds.length = 1 ∧ t_is_task K sp_is_name sp_is_between sp_are_sections { nx := fun _ M' => upQ Q .non M', rt := upQ Q, ex := upX E } (startD N_is_task ds) M) : FnD false P w K mg base 5 (He.ga K "is_task") sp := by
  obtain ⟨fd, F⟩ := T.d_is_task
  exact FnD.mk (ps := ["value"]) F sc_is_task (F.bindsN fun _ _ _ _ _ _ us hl => match us, hl with | [_], _ => rfl) ⟨_, wk_is_task T F_is_name F_is_between F_are_sections, pure⟩
def t_require_plain (K : PySem.W.Frag) (sp_is_task : SpD) : TSD := (tSeqD (tIfSD (tOrD (tNotD (tTestD (tCBD (rIsiD K) (tConsD (tVarD 0) (tConsD (tCD (.ty "tuple")) tNilD))))) (tNotD (tTestD (tCBD (rAllD fun bs => bs.all id) (tConsD (tLcD (tSeqI (tVarD 0)) (gNameD 1) tYesD (tCallD sp_is_task (tConsD (tVarD 1) tNilD)) [1]) tNilD))))) tNeverD tNextD) (tIfSD (tTestD (tOpD rLtD (tLenSkD (tSeqI (tVarD 0)) (gNameD 1) (tOpD rIxAD (tVarD 1) (tCD (.int 0))) [1]) (tCBD rLenD (tConsD (tVarD 0) tNilD)))) tNeverD tNextD))
theorem wk_require_plain {sp_is_task : SpD} (T : Txt K mg) (F_is_task : FnD false P w K mg base 5 (He.ga K "is_task") sp_is_task) : BodyD false P w K mg base 5 (He.ga K "require_plain") N_require_plain "require_plain" (defScope (top 32)) (defBody (top 32)) (t_require_plain K sp_is_task) := fun cdv A outer s H E hr hg => (dss_cons (ds_if (dt_w (dw_or (dt_not (dt_val (de_callB call_isi lift_isi T.f_isinstance bt_isinstance (da_cons (dv 0) (da_cons (de_ty T.f_tuple bt_tuple) da_nil))))) (dw_or1 (dt_not (dt_val (de_callB (cr_all rfl) lift_allF T.f_all bt_all (da_cons (de_lc (own := [("task", 1)]) rfl sc_require_plain.nd (di_seq (dv 0)) (blkOk_by (N := N_require_plain) (sc := defScope (top 32)) (own := [("task", 1)]) (by decide +kernel)) (fun _ _ _ _ _ => (dg_name 1 sc_require_plain.nd)) (fun _ _ _ _ _ => dts_nil) (fun _ _ _ _ _ => (de_call (CalD.fn F_is_task (hr.mono (by decide)) nog T.k_is_task tk0) T.g_is_task (da_cons (dv 1) da_nil))) (by decide)) da_nil))))))) (dss_one ds_never) dss_nil) (dss_one (ds_if (dt_lt (u100 hr) (de_lenSk (own := [("task", 1)]) T.f_len rfl sc_require_plain.nd (di_seq (dv 0)) (blkOk_by (N := N_require_plain) (sc := defScope (top 32)) (own := [("task", 1)]) (by decide +kernel)) (fun _ _ _ _ _ => (dg_name 1 sc_require_plain.nd)) (fun _ _ _ _ _ => (de_ixA (u1 hr) (dv 1) de_int)) (by decide)) (de_callB call_len lift_len T.f_len bt_len (da_cons (dv 0) da_nil))) (dss_one ds_never) dss_nil)))
theorem ok_require_plain {sp_is_task sp : SpD} (T : Txt K mg) (F_is_task : FnD false P w K mg base 5 (He.ga K "is_task") sp_is_task) (pure : ∀ ds M Q E, sp ds M Q E → ds.length = 1 ∧ t_require_plain K sp_is_task { nx := fun _ M' => upQ Q .non M', rt := upQ Q, ex := upX E } (startD N_require_plain ds) M) : FnD false P w K mg base 6 (He.ga K "require_plain") sp := by
  obtain ⟨fd, F⟩ := T.d_require_plain
  exact FnD.mk (ps := ["tasks"]) F sc_require_plain (F.bindsN fun _ _ _ _ _ _ us hl => match us, hl with | [_], _ => rfl) ⟨_, wk_require_plain T F_is_task, pure⟩
def t_lowest (K : PySem.W.Frag) : TSD := (tSeqD (tParD 2 3 (tConsD (tVarD 0) (tConsD (tVarD 1) tNilD))) (tSeqD (tWhileD (tTestD (tOpD rGtD (tVarD 3) (tCD (.int 0)))) (tParD 2 3 (tConsD (tVarD 3) (tConsD (tOpD rModD (tVarD 2) (tVarD 3)) tNilD)))) (tRetD (tTupD (tConsD (tOpD rDivD (tVarD 0) (tVarD 2)) (tConsD (tOpD rDivD (tVarD 1) (tVarD 2)) tNilD))))))
theorem wk_lowest (T : Txt K mg)  : BodyD false P w K mg base 0 (He.ga K "lowest") N_lowest "lowest" (defScope (top 29)) (defBody (top 29)) (t_lowest K ) := fun cdv A outer s H E hr hg => (dss_cons (ds_par 2 3 rfl sc_lowest.nd (da_cons (dv 0) (da_cons (dv 1) da_nil))) (dss_cons (ds_while (passes_of rfl) (dt_gt (dv 3) de_int) (dss_one (ds_par 2 3 rfl sc_lowest.nd (da_cons (dv 3) (da_cons (de_mod (dv 2) (dv 3)) da_nil))))) (dss_one (ds_ret (de_tup (da_cons (de_div (dv 0) (dv 2)) (da_cons (de_div (dv 1) (dv 2)) da_nil)))))))
theorem ok_lowest {sp : SpD} (T : Txt K mg)  (pure : ∀ ds M Q E, sp ds M Q E → ds.length = 2 ∧ t_lowest K  { nx := fun _ M' => upQ Q .non M', rt := upQ Q, ex := upX E } (startD N_lowest ds) M) : FnD false P w K mg base 1 (He.ga K "lowest") sp := by
  obtain ⟨fd, F⟩ := T.d_lowest
  exact FnD.mk (ps := ["top", "bottom"]) F sc_lowest (F.bindsN fun _ _ _ _ _ _ us hl => match us, hl with | [_, _], _ => rfl) ⟨_, wk_lowest T , pure⟩
def t_load_of (K : PySem.W.Frag) (sp_lowest : SpD) : TSD := (tSeqD (tAsgD (tTupD (tConsD (tCD (.int 0)) (tConsD (tCD (.int 1)) tNilD))) (gTupD 2 (gConsD (gNameD 1) (gConsD (gNameD 2) gNilD)))) (tSeqD (tForD (tSeqI (tVarD 0)) (gNameD 3) (tAsgD (tCallD sp_lowest (tConsD (tOpD rAddD (tOpD rMulD (tVarD 1) (tOpD rIxAD (tVarD 3) (tCD (.int 2)))) (tOpD rMulD (tOpD rIxAD (tVarD 3) (tCD (.int 1))) (tVarD 2))) (tConsD (tOpD rMulD (tVarD 2) (tOpD rIxAD (tVarD 3) (tCD (.int 2)))) tNilD))) (gTupD 2 (gConsD (gNameD 1) (gConsD (gNameD 2) gNilD))))) (tRetD (tTupD (tConsD (tVarD 1) (tConsD (tVarD 2) tNilD))))))
theorem wk_load_of {sp_lowest : SpD} (T : Txt K mg) (F_lowest : FnD false P w K mg base 1 (He.ga K "lowest") sp_lowest) : BodyD false P w K mg base 1 (He.ga K "load_of") N_load_of "load_of" (defScope (top 30)) (defBody (top 30)) (t_load_of K sp_lowest) := fun cdv A outer s H E hr hg => (dss_cons (ds_asg (de_tup (da_cons de_int (da_cons de_int da_nil))) (dg_tup rfl (dgs_cons (dg_name 1 sc_load_of.nd) (dgs_cons (dg_name 2 sc_load_of.nd) dgs_nil)))) (dss_cons (ds_for (passes_of rfl) rfl (di_seq (dv 0)) (dg_name 3 sc_load_of.nd) (dss_one (ds_asg (de_call (CalD.fn F_lowest (hr.mono (by decide)) nog T.k_lowest (takes_of rfl rfl rfl rfl)) T.g_lowest (da_cons (de_add (de_mul (dv 1) (de_ixA (u1 hr) (dv 3) de_int)) (de_mul (de_ixA (u1 hr) (dv 3) de_int) (dv 2))) (da_cons (de_mul (dv 2) (de_ixA (u1 hr) (dv 3) de_int)) da_nil))) (dg_tup rfl (dgs_cons (dg_name 1 sc_load_of.nd) (dgs_cons (dg_name 2 sc_load_of.nd) dgs_nil)))))) (dss_one (ds_ret (de_tup (da_cons (dv 1) (da_cons (dv 2) da_nil)))))))
theorem ok_load_of {sp_lowest sp : SpD} (T : Txt K mg) (F_lowest : FnD false P w K mg base 1 (He.ga K "lowest") sp_lowest) (pure : ∀ ds M Q E, sp ds M Q E → ds.length = 1 ∧ t_load_of K sp_lowest { nx := fun _ M' => upQ Q .non M', rt := upQ Q, ex := upX E } (startD N_load_of ds) M) : FnD false P w K mg base 2 (He.ga K "load_of") sp := by
  obtain ⟨fd, F⟩ := T.d_load_of
  exact FnD.mk (ps := ["tasks"]) F sc_load_of (F.bindsN fun _ _ _ _ _ _ us hl => match us, hl with | [_], _ => rfl) ⟨_, wk_load_of T F_lowest, pure⟩
def t_ceilings_of (K : PySem.W.Frag) : TSD := (tSeqD (tAsgD tDNewD (gNameD 1)) (tSeqD (tForD (tEnumD (tConsD (tVarD 0) tNilD)) (gTupD 2 (gConsD (gNameD 2) (gConsD (gNameD 3) gNilD))) (tForD (tSeqI (tOpD rIxAD (tVarD 3) (tCD (.int 5)))) (gTupD 3 (gConsD (gNameD 4) (gConsD (gNameD 5) (gConsD (gNameD 6) gNilD)))) (tAsgD (tVarD 2) (gSubD (tVarD 1) (tVarD 6) rPutD)))) (tRetD (tDcD (tSeqI (tCBD rSortD (tConsD (tCBD rListDD (tConsD (tVarD 1) tNilD)) tNilD))) (gNameD 6) tYesD (tVarD 6) (tOpD rIxAD (tVarD 1) (tVarD 6)) [6]))))
theorem wk_ceilings_of (T : Txt K mg)  : BodyD false P w K mg base 0 (He.ga K "ceilings_of") N_ceilings_of "ceilings_of" (defScope (top 31)) (defBody (top 31)) (t_ceilings_of K ) := fun cdv A outer s H E hr hg => (dss_cons (ds_set 1 sc_ceilings_of.nd de_dnew) (dss_cons (ds_for (passes_of rfl) rfl (di_enum T.f_enumerate (da_cons (dv 0) da_nil)) (dg_tup rfl (dgs_cons (dg_name 2 sc_ceilings_of.nd) (dgs_cons (dg_name 3 sc_ceilings_of.nd) dgs_nil))) (dss_one (ds_for (passes_of rfl) rfl (di_seq (de_ixA (u1 hr) (dv 3) de_int)) (dg_tup rfl (dgs_cons (dg_name 4 sc_ceilings_of.nd) (dgs_cons (dg_name 5 sc_ceilings_of.nd) (dgs_cons (dg_name 6 sc_ceilings_of.nd) dgs_nil)))) (dss_one (ds_asg (dv 2) (dg_put (tg := .Name "x" ⟨0, 0, 0, 0⟩) (u1 hr) (dv 1) (dv 6))))))) (dss_one (ds_ret (de_dc (own := [("lock", 6)]) rfl sc_ceilings_of.nd (di_seq (de_callB (call_sortV (u102 hr)) lift_sort T.f_sorted bt_sorted (da_cons (de_callTy (call_listD rfl) lift_listDD T.f_list bt_list (da_cons (dv 1) da_nil)) da_nil))) (blkOk_by (N := N_ceilings_of) (sc := defScope (top 31)) (own := [("lock", 6)]) (by decide +kernel)) (fun _ _ _ _ _ => (dg_name 6 sc_ceilings_of.nd)) (fun _ _ _ _ _ => dts_nil) (fun _ _ _ _ _ => (dv 6)) (fun _ _ _ _ _ => (de_ixA (u1 hr) (dv 1) (dv 6))) (by decide))))))
theorem ok_ceilings_of {sp : SpD} (T : Txt K mg)  (pure : ∀ ds M Q E, sp ds M Q E → ds.length = 1 ∧ t_ceilings_of K  { nx := fun _ M' => upQ Q .non M', rt := upQ Q, ex := upX E } (startD N_ceilings_of ds) M) : FnD false P w K mg base 1 (He.ga K "ceilings_of") sp := by
  obtain ⟨fd, F⟩ := T.d_ceilings_of
  exact FnD.mk (ps := ["tasks"]) F sc_ceilings_of (F.bindsN fun _ _ _ _ _ _ us hl => match us, hl with | [_], _ => rfl) ⟨_, wk_ceilings_of T , pure⟩
def t_Tasks___init__ (K : PySem.W.Frag) (sp_require_plain sp_load_of sp_ceilings_of : SpD) : TSD := (tSeqD (tDropD (tCallD sp_require_plain (tConsD (tVarD 1) tNilD))) (tSeqD (tIfSD (tTestD (tOpD rGtD (tCBD rLenD (tConsD (tVarD 1) tNilD)) (tCD (.int 10)))) tNeverD tNextD) (tSeqD (tAsgD (tCallD sp_load_of (tConsD (tVarD 1) tNilD)) (gNameD 2)) (tSeqD (tIfSD (tTestD (tOpD rGtD (tOpD rMulD (tOpD rIxAD (tVarD 2) (tCD (.int 0))) (tOpD rIxAD (tCD (.tup (List.map D.int [9, 10]))) (tCD (.int 1)))) (tOpD rMulD (tOpD rIxAD (tCD (.tup (List.map D.int [9, 10]))) (tCD (.int 0))) (tOpD rIxAD (tVarD 2) (tCD (.int 1)))))) tNeverD tNextD) (tSeqD (tFldSet K "own_tasks" (tVarD 0) (tVarD 1)) (tSeqD (tFldSet K "own_names" (tVarD 0) (tCBD rTupD (tConsD (tLcD (tSeqI (tVarD 1)) (gNameD 3) tYesD (tOpD rIxAD (tVarD 3) (tCD (.int 0))) [3]) tNilD))) (tSeqD (tFldSet K "own_spots" (tVarD 0) (tDcD (tEnumD (tConsD (tVarD 1) tNilD)) (gTupD 2 (gConsD (gNameD 4) (gConsD (gNameD 3) gNilD))) tYesD (tOpD rIxAD (tVarD 3) (tCD (.int 0))) (tVarD 4) [4, 3])) (tSeqD (tFldSet K "own_locks" (tVarD 0) (tCallD sp_ceilings_of (tConsD (tVarD 1) tNilD))) (tFldSet K "own_load" (tVarD 0) (tVarD 2))))))))))
theorem wk_Tasks___init__ {sp_require_plain sp_load_of sp_ceilings_of : SpD} (T : Txt K mg) (F_require_plain : FnD false P w K mg base 6 (He.ga K "require_plain") sp_require_plain) (F_load_of : FnD false P w K mg base 2 (He.ga K "load_of") sp_load_of) (F_ceilings_of : FnD false P w K mg base 1 (He.ga K "ceilings_of") sp_ceilings_of) : BodyD false P w K mg base 6 (He.ma K (He.ga K "Tasks") "__init__") N_Tasks___init__ "Tasks.__init__" (defScope (inCls (top 33) 1)) (defBody (inCls (top 33) 1)) (t_Tasks___init__ K sp_require_plain sp_load_of sp_ceilings_of) := fun cdv A outer s H E hr hg => (dss_cons (ds_expr (de_call (CalD.fn F_require_plain (hr.mono (by decide)) nog T.k_require_plain (takes_of rfl rfl rfl rfl)) T.g_require_plain (da_cons (dv 1) da_nil))) (dss_cons (ds_if (dt_gt (de_callB call_len lift_len T.f_len bt_len (da_cons (dv 1) da_nil)) de_int) (dss_one ds_never) dss_nil) (dss_cons (ds_set 2 sc_Tasks___init__.nd (de_call (CalD.fn F_load_of (hr.mono (by decide)) nog T.k_load_of (takes_of rfl rfl rfl rfl)) T.g_load_of (da_cons (dv 1) da_nil))) (dss_cons (ds_if (dt_gt (de_mul (de_ixA (u1 hr) (dv 2) de_int) (de_ixA (u1 hr) (de_globT T.g_MAX_LOAD T.q_MAX_LOAD (by decide) (fun F => rps_ints [9, 10])) de_int)) (de_mul (de_ixA (u1 hr) (de_globT T.g_MAX_LOAD T.q_MAX_LOAD (by decide) (fun F => rps_ints [9, 10])) de_int) (de_ixA (u1 hr) (dv 2) de_int))) (dss_one ds_never) dss_nil) (dss_cons (ds_fldK (K := K) rfl (dv 0) (dv 1)) (dss_cons (ds_fldK (K := K) rfl (dv 0) (de_callTy call_tuple_of lift_tupC T.f_tuple bt_tuple (da_cons (de_lc (own := [("task", 3)]) rfl sc_Tasks___init__.nd (di_seq (dv 1)) (blkOk_by (N := N_Tasks___init__) (sc := defScope (inCls (top 33) 1)) (own := [("task", 3)]) (by decide +kernel)) (fun _ _ _ _ _ => (dg_name 3 sc_Tasks___init__.nd)) (fun _ _ _ _ _ => dts_nil) (fun _ _ _ _ _ => (de_ixA (u1 hr) (dv 3) de_int)) (by decide)) da_nil))) (dss_cons (ds_fldK (K := K) rfl (dv 0) (de_dc (own := [("at", 4), ("task", 3)]) rfl sc_Tasks___init__.nd (di_enum T.f_enumerate (da_cons (dv 1) da_nil)) (blkOk_by (N := N_Tasks___init__) (sc := defScope (inCls (top 33) 1)) (own := [("at", 4), ("task", 3)]) (by decide +kernel)) (fun _ _ _ _ _ => (dg_tup rfl (dgs_cons (dg_name 4 sc_Tasks___init__.nd) (dgs_cons (dg_name 3 sc_Tasks___init__.nd) dgs_nil)))) (fun _ _ _ _ _ => dts_nil) (fun _ _ _ _ _ => (de_ixA (u1 hr) (dv 3) de_int)) (fun _ _ _ _ _ => (dv 4)) (by decide))) (dss_cons (ds_fldK (K := K) rfl (dv 0) (de_call (CalD.fn F_ceilings_of (hr.mono (by decide)) nog T.k_ceilings_of (takes_of rfl rfl rfl rfl)) T.g_ceilings_of (da_cons (dv 1) da_nil))) (dss_one (ds_fldK (K := K) rfl (dv 0) (dv 2)))))))))))
theorem ok_Tasks___init__ {sp_require_plain sp_load_of sp_ceilings_of sp : SpD} (T : Txt K mg) (F_require_plain : FnD false P w K mg base 6 (He.ga K "require_plain") sp_require_plain) (F_load_of : FnD false P w K mg base 2 (He.ga K "load_of") sp_load_of) (F_ceilings_of : FnD false P w K mg base 1 (He.ga K "ceilings_of") sp_ceilings_of) (pure : ∀ ds M Q E, sp ds M Q E → 1 ≤ ds.length ∧ (ds.drop 1).length ≤ sizeLine ∧ t_Tasks___init__ K sp_require_plain sp_load_of sp_ceilings_of { nx := fun _ M' => upQ Q .non M', rt := upQ Q, ex := upX E } (startD N_Tasks___init__ (ds.take 1 ++ [.tup (ds.drop 1)])) M) : FnD false P w K mg base 7 (He.ma K (He.ga K "Tasks") "__init__") sp := by
  obtain ⟨fd, F⟩ := T.d_Tasks___init__
  exact FnD.mkStar (ps := ["self"]) (pv := "tasks") F sc_Tasks___init__ (fun kV doc pm an cdv ct => StX.bind_star1 (B := fun l => bindArgs (PySem.W.fnOf "__init__" "Tasks.__init__" (defArgs (inCls (top 33) 1)) (defBody (inCls (top 33) 1)) (defScope (inCls (top 33) 1)) .none kV doc pm an cdv ct) ⟨l, []⟩) (p1 := "self") (pv := "tasks") (fun a => rfl) (fun a r rs => rfl)) ⟨_, wk_Tasks___init__ T F_require_plain F_load_of F_ceilings_of, pure⟩
def t_Tasks_of (K : PySem.W.Frag) (sp_require_plain sp_Tasks___init__ : SpD) : TSD := (tSeqD (tDropD (tCallD sp_require_plain (tConsD (tVarD 1) tNilD))) (tRetD (tLocD 0 (He.ga K "Tasks") (tCallD (spMk (He.ga K "Tasks") sp_Tasks___init__) (tStarD (tVarD 1) tNilD)))))
theorem wk_Tasks_of {sp_require_plain sp_Tasks___init__ : SpD} (T : Txt K mg) (F_require_plain : FnD false P w K mg base 6 (He.ga K "require_plain") sp_require_plain) (F_Tasks___init__ : FnD false P w K mg base 7 (He.ma K (He.ga K "Tasks") "__init__") sp_Tasks___init__) : BodyD false P w K mg base 8 (He5.wf K (He.ga K "Tasks") "classmethod" "of") N_Tasks_of "Tasks.of" (defScope (inCls (top 33) 2)) (defBody (inCls (top 33) 2)) (t_Tasks_of K sp_require_plain sp_Tasks___init__) := fun cdv A outer s H E hr hg => (dss_cons (ds_expr (de_call (CalD.fn F_require_plain (hr.mono (by decide)) nog T.k_require_plain (takes_of rfl rfl rfl rfl)) T.g_require_plain (da_cons (dv 1) da_nil))) (dss_one (ds_ret (de_callLS1 0 (CalD.mk_frz T.n_Tasks F_Tasks___init__ (hr.mono (by decide)) (takes_of rfl rfl rfl rfl)) (dv 1)))))
theorem ok_Tasks_of {sp_require_plain sp_Tasks___init__ sp : SpD} (T : Txt K mg) (F_require_plain : FnD false P w K mg base 6 (He.ga K "require_plain") sp_require_plain) (F_Tasks___init__ : FnD false P w K mg base 7 (He.ma K (He.ga K "Tasks") "__init__") sp_Tasks___init__) (pure : ∀ ds M Q E, sp ds M Q E → ds.length = 2 ∧ t_Tasks_of K sp_require_plain sp_Tasks___init__ { nx := fun _ M' => upQ Q .non M', rt := upQ Q, ex := upX E } (startD N_Tasks_of ds) M) : FnD false P w K mg base 9 (He5.wf K (He.ga K "Tasks") "classmethod" "of") sp := by
  obtain ⟨fd, F⟩ := T.d_Tasks_of
  exact FnD.mk (ps := ["cls", "tasks"]) F sc_Tasks_of (F.bindsN fun _ _ _ _ _ _ us hl => match us, hl with | [_, _], _ => rfl) ⟨_, wk_Tasks_of T F_require_plain F_Tasks___init__, pure⟩
def t_require_tasks (K : PySem.W.Frag) : TSD := (tIfSD (tNotD (tTestD (tCBD (rIsiD K) (tConsD (tVarD 0) (tConsD (tCD (.ref (He.ga K "Tasks"))) tNilD))))) tNeverD tNextD)
theorem wk_require_tasks (T : Txt K mg)  : BodyD false P w K mg base 0 (He.ga K "require_tasks") N_require_tasks "require_tasks" (defScope (top 34)) (defBody (top 34)) (t_require_tasks K ) := fun cdv A outer s H E hr hg => (dss_one (ds_if (dt_not (dt_val (de_callB call_isi lift_isi T.f_isinstance bt_isinstance (da_cons (dv 0) (da_cons (de_globA T.g_Tasks) da_nil))))) (dss_one ds_never) dss_nil))
theorem ok_require_tasks {sp : SpD} (T : Txt K mg)  (pure : ∀ ds M Q E, sp ds M Q E → ds.length = 1 ∧ t_require_tasks K  { nx := fun _ M' => upQ Q .non M', rt := upQ Q, ex := upX E } (startD N_require_tasks ds) M) : FnD false P w K mg base 1 (He.ga K "require_tasks") sp := by
  obtain ⟨fd, F⟩ := T.d_require_tasks
  exact FnD.mk (ps := ["tasks"]) F sc_require_tasks (F.bindsN fun _ _ _ _ _ _ us hl => match us, hl with | [_], _ => rfl) ⟨_, wk_require_tasks T , pure⟩
def t_Tasks___len__ (K : PySem.W.Frag) : TSD := (tRetD (tCBD rLenD (tConsD (tFldD K "own_tasks" (tVarD 0)) tNilD)))
theorem wk_Tasks___len__ (T : Txt K mg)  : BodyD false P w K mg base 0 (He.ma K (He.ga K "Tasks") "__len__") N_Tasks___len__ "Tasks.__len__" (defScope (inCls (top 33) 21)) (defBody (inCls (top 33) 21)) (t_Tasks___len__ K ) := fun cdv A outer s H E hr hg => (dss_one (ds_ret (de_callB call_len lift_len T.f_len bt_len (da_cons (de_fldK (K := K) rfl (dv 0)) da_nil))))
theorem ok_Tasks___len__ {sp : SpD} (T : Txt K mg)  (pure : ∀ ds M Q E, sp ds M Q E → ds.length = 1 ∧ t_Tasks___len__ K  { nx := fun _ M' => upQ Q .non M', rt := upQ Q, ex := upX E } (startD N_Tasks___len__ ds) M) : FnD false P w K mg base 1 (He.ma K (He.ga K "Tasks") "__len__") sp := by
  obtain ⟨fd, F⟩ := T.d_Tasks___len__
  exact FnD.mk (ps := ["self"]) F sc_Tasks___len__ (F.bindsN fun _ _ _ _ _ _ us hl => match us, hl with | [_], _ => rfl) ⟨_, wk_Tasks___len__ T , pure⟩
def t_are_levels (K : PySem.W.Frag) (sp_Tasks___len__ sp_is_between : SpD) : TSD := (tSeqD (tIfSD (tOrD (tNotD (tTestD (tCBD (rIsiD K) (tConsD (tVarD 1) (tConsD (tCD (.ty "tuple")) tNilD))))) (tTestD (tOpD rNeD (tCBD rLenD (tConsD (tVarD 1) tNilD)) (tLenOwnD (He.ga K "Tasks") sp_Tasks___len__ (tVarD 0))))) (tRetD (tCD (.bl false))) tNextD) (tRetD (tCBD (rAllD fun bs => bs.all id) (tConsD (tLcD (tEnumD (tConsD (tVarD 1) tNilD)) (gTupD 2 (gConsD (gNameD 2) (gConsD (gNameD 3) gNilD))) tYesD (tCallD sp_is_between (tConsD (tVarD 3) (tConsD (tVarD 2) (tConsD (tOpD rSubD (tLenOwnD (He.ga K "Tasks") sp_Tasks___len__ (tVarD 0)) (tCD (.int 1))) tNilD)))) [2, 3]) tNilD))))
theorem wk_are_levels {sp_Tasks___len__ sp_is_between : SpD} (T : Txt K mg) (F_Tasks___len__ : FnD false P w K mg base 1 (He.ma K (He.ga K "Tasks") "__len__") sp_Tasks___len__) (F_is_between : FnD false P w K mg base 2 (He.ga K "is_between") sp_is_between) : BodyD false P w K mg base 2 (He.ga K "are_levels") N_are_levels "are_levels" (defScope (top 43)) (defBody (top 43)) (t_are_levels K sp_Tasks___len__ sp_is_between) := fun cdv A outer s H E hr hg => (dss_cons (ds_if (dt_w (dw_or (dt_not (dt_val (de_callB call_isi lift_isi T.f_isinstance bt_isinstance (da_cons (dv 1) (da_cons (de_ty T.f_tuple bt_tuple) da_nil))))) (dw_or1 (dt_ne (u64 hr) (de_callB call_len lift_len T.f_len bt_len (da_cons (dv 1) da_nil)) (de_lenOwn T.m_Tasks___len__.at_ T.m_Tasks___len__.fn F_Tasks___len__ (hr.mono (by decide)) nog (takes_of rfl rfl rfl rfl) T.f_len (dv 0)))))) (dss_one (ds_ret de_bl)) dss_nil) (dss_one (ds_ret (de_callB (cr_all rfl) lift_allF T.f_all bt_all (da_cons (de_lc (own := [("at", 2), ("number", 3)]) rfl sc_are_levels.nd (di_enum T.f_enumerate (da_cons (dv 1) da_nil)) (blkOk_by (N := N_are_levels) (sc := defScope (top 43)) (own := [("at", 2), ("number", 3)]) (by decide +kernel)) (fun _ _ _ _ _ => (dg_tup rfl (dgs_cons (dg_name 2 sc_are_levels.nd) (dgs_cons (dg_name 3 sc_are_levels.nd) dgs_nil)))) (fun _ _ _ _ _ => dts_nil) (fun _ _ _ _ _ => (de_call (CalD.fn F_is_between (hr.mono (by decide)) nog T.k_is_between tk0) T.g_is_between (da_cons (dv 3) (da_cons (dv 2) (da_cons (de_sub (de_lenOwn T.m_Tasks___len__.at_ T.m_Tasks___len__.fn F_Tasks___len__ (hr.mono (by decide)) nog tk0 T.f_len (dv 0)) de_int) da_nil))))) (by decide)) da_nil)))))
theorem ok_are_levels {sp_Tasks___len__ sp_is_between sp : SpD} (T : Txt K mg) (F_Tasks___len__ : FnD false P w K mg base 1 (He.ma K (He.ga K "Tasks") "__len__") sp_Tasks___len__) (F_is_between : FnD false P w K mg base 2 (He.ga K "is_between") sp_is_between) (pure : ∀ ds M Q E, sp ds M Q E → ds.length = 2 ∧ t_are_levels K sp_Tasks___len__ sp_is_between { nx := fun _ M' => upQ Q .non M', rt := upQ Q, ex := upX E } (startD N_are_levels ds) M) : FnD false P w K mg base 3 (He.ga K "are_levels") sp := by
  obtain ⟨fd, F⟩ := T.d_are_levels
  exact FnD.mk (ps := ["tasks", "numbers"]) F sc_are_levels (F.bindsN fun _ _ _ _ _ _ us hl => match us, hl with | [_, _], _ => rfl) ⟨_, wk_are_levels T F_Tasks___len__ F_is_between, pure⟩
def t_Levels___init__ (K : PySem.W.Frag) (sp_require_tasks sp_are_levels : SpD) : TSD := (tSeqD (tDropD (tCallD sp_require_tasks (tConsD (tVarD 1) tNilD))) (tSeqD (tIfSD (tNotD (tTestD (tCallD sp_are_levels (tConsD (tVarD 1) (tConsD (tVarD 2) tNilD))))) tNeverD tNextD) (tSeqD (tFldSet K "own_tasks" (tVarD 0) (tVarD 1)) (tFldSet K "own_numbers" (tVarD 0) (tVarD 2)))))
theorem wk_Levels___init__ {sp_require_tasks sp_are_levels : SpD} (T : Txt K mg) (F_require_tasks : FnD false P w K mg base 1 (He.ga K "require_tasks") sp_require_tasks) (F_are_levels : FnD false P w K mg base 3 (He.ga K "are_levels") sp_are_levels) : BodyD false P w K mg base 3 (He.ma K (He.ga K "Levels") "__init__") N_Levels___init__ "Levels.__init__" (defScope (inCls (top 44) 0)) (defBody (inCls (top 44) 0)) (t_Levels___init__ K sp_require_tasks sp_are_levels) := fun cdv A outer s H E hr hg => (dss_cons (ds_expr (de_call (CalD.fn F_require_tasks (hr.mono (by decide)) nog T.k_require_tasks (takes_of rfl rfl rfl rfl)) T.g_require_tasks (da_cons (dv 1) da_nil))) (dss_cons (ds_if (dt_not (dt_val (de_call (CalD.fn F_are_levels (hr.mono (by decide)) nog T.k_are_levels (takes_of rfl rfl rfl rfl)) T.g_are_levels (da_cons (dv 1) (da_cons (dv 2) da_nil))))) (dss_one ds_never) dss_nil) (dss_cons (ds_fldK (K := K) rfl (dv 0) (dv 1)) (dss_one (ds_fldK (K := K) rfl (dv 0) (dv 2))))))
theorem ok_Levels___init__ {sp_require_tasks sp_are_levels sp : SpD} (T : Txt K mg) (F_require_tasks : FnD false P w K mg base 1 (He.ga K "require_tasks") sp_require_tasks) (F_are_levels : FnD false P w K mg base 3 (He.ga K "are_levels") sp_are_levels) (pure : ∀ ds M Q E, sp ds M Q E → 2 ≤ ds.length ∧ (ds.drop 2).length ≤ sizeLine ∧ t_Levels___init__ K sp_require_tasks sp_are_levels { nx := fun _ M' => upQ Q .non M', rt := upQ Q, ex := upX E } (startD N_Levels___init__ (ds.take 2 ++ [.tup (ds.drop 2)])) M) : FnD false P w K mg base 4 (He.ma K (He.ga K "Levels") "__init__") sp := by
  obtain ⟨fd, F⟩ := T.d_Levels___init__
  exact FnD.mkStar (ps := ["self", "tasks"]) (pv := "numbers") F sc_Levels___init__ (fun kV doc pm an cdv ct => StX.bind_star2 (B := fun l => bindArgs (PySem.W.fnOf "__init__" "Levels.__init__" (defArgs (inCls (top 44) 0)) (defBody (inCls (top 44) 0)) (defScope (inCls (top 44) 0)) .none kV doc pm an cdv ct) ⟨l, []⟩) (p1 := "self") (p2 := "tasks") (pv := "numbers") (fun a b => rfl) (fun a b r rs => rfl)) ⟨_, wk_Levels___init__ T F_require_tasks F_are_levels, pure⟩
def t_Levels_of (K : PySem.W.Frag) (sp_require_tasks sp_Levels___init__ : SpD) : TSD := (tSeqD (tDropD (tCallD sp_require_tasks (tConsD (tVarD 1) tNilD))) (tSeqD (tIfSD (tNotD (tTestD (tCBD (rIsiD K) (tConsD (tVarD 2) (tConsD (tCD (.ty "tuple")) tNilD))))) tNeverD tNextD) (tRetD (tLocD 0 (He.ga K "Levels") (tCallD (spMk (He.ga K "Levels") sp_Levels___init__) (tConsD (tVarD 1) (tStarD (tVarD 2) tNilD)))))))
theorem wk_Levels_of {sp_require_tasks sp_Levels___init__ : SpD} (T : Txt K mg) (F_require_tasks : FnD false P w K mg base 1 (He.ga K "require_tasks") sp_require_tasks) (F_Levels___init__ : FnD false P w K mg base 4 (He.ma K (He.ga K "Levels") "__init__") sp_Levels___init__) : BodyD false P w K mg base 5 (He5.wf K (He.ga K "Levels") "classmethod" "of") N_Levels_of "Levels.of" (defScope (inCls (top 44) 1)) (defBody (inCls (top 44) 1)) (t_Levels_of K sp_require_tasks sp_Levels___init__) := fun cdv A outer s H E hr hg => (dss_cons (ds_expr (de_call (CalD.fn F_require_tasks (hr.mono (by decide)) nog T.k_require_tasks (takes_of rfl rfl rfl rfl)) T.g_require_tasks (da_cons (dv 1) da_nil))) (dss_cons (ds_if (dt_not (dt_val (de_callB call_isi lift_isi T.f_isinstance bt_isinstance (da_cons (dv 2) (da_cons (de_ty T.f_tuple bt_tuple) da_nil))))) (dss_one ds_never) dss_nil) (dss_one (ds_ret (de_callLS2 0 (CalD.mk_frz T.n_Levels F_Levels___init__ (hr.mono (by decide)) (takes_of rfl rfl rfl rfl)) (da_cons (dv 1) (da_star (dv 2) da_nil)))))))
theorem ok_Levels_of {sp_require_tasks sp_Levels___init__ sp : SpD} (T : Txt K mg) (F_require_tasks : FnD false P w K mg base 1 (He.ga K "require_tasks") sp_require_tasks) (F_Levels___init__ : FnD false P w K mg base 4 (He.ma K (He.ga K "Levels") "__init__") sp_Levels___init__) (pure : ∀ ds M Q E, sp ds M Q E → ds.length = 3 ∧ t_Levels_of K sp_require_tasks sp_Levels___init__ { nx := fun _ M' => upQ Q .non M', rt := upQ Q, ex := upX E } (startD N_Levels_of ds) M) : FnD false P w K mg base 6 (He5.wf K (He.ga K "Levels") "classmethod" "of") sp := by
  obtain ⟨fd, F⟩ := T.d_Levels_of
  exact FnD.mk (ps := ["cls", "tasks", "numbers"]) F sc_Levels_of (F.bindsN fun _ _ _ _ _ _ us hl => match us, hl with | [_, _, _], _ => rfl) ⟨_, wk_Levels_of T F_require_tasks F_Levels___init__, pure⟩
def t__law_great (K : PySem.W.Frag) (sp__law_draw sp__law_pick : SpD) : TSD := (tSeqD (tParD 1 2 (tConsD (tCD (.int 0)) (tConsD (tLstM tNilD) tNilD))) (tSeqD (tForD (tRng1D (tConsD (tCallD sp__law_draw (tConsD (tVarD 0) (tConsD (tCD (.int 9)) tNilD))) tNilD)) (gNameD 3) (tSeqD (tAsgD (tOpD rAddD (tVarD 1) (tCallD sp__law_draw (tConsD (tVarD 0) (tConsD (tCD (.int 3)) tNilD)))) (gNameD 1)) (tSeqD (tDropD (tBMD rAppD (tVarD 2) (tConsD (tTupD (tConsD (tVarD 1) (tConsD (tOpD rAddD (tOpD rAddD (tVarD 1) (tCD (.int 1))) (tCallD sp__law_draw (tConsD (tVarD 0) (tConsD (tCD (.int 9)) tNilD)))) (tConsD (tCallD sp__law_pick (tConsD (tVarD 0) (tConsD (tLstD (tConsD (tCD (.str "a")) (tConsD (tCD (.str "zzzzzzzz")) (tConsD (tCD (.str "lock")) tNilD)))) tNilD))) tNilD)))) tNilD))) (tAsgD (tOpD rIxAD (tOpD rIxAD (tVarD 2) (tNegD (tCD (.int 1)))) (tCD (.int 1))) (gNameD 1))))) (tSeqD (tAsgD (tCallD sp__law_pick (tConsD (tVarD 0) (tConsD (tLstD (tConsD (tCD (.int 100)) (tConsD (tOpD rAddD (tCD (.int 1)) (tCBD rMax2D (tConsD (tCD (.int 1)) (tConsD (tVarD 1) tNilD)))) tNilD))) tNilD))) (gNameD 4)) (tSeqD (tAsgD (tCallD sp__law_pick (tConsD (tVarD 0) (tConsD (tLstD (tConsD (tCD (.int 1)) (tConsD (tCD (.int 20000)) (tConsD (tOpD rAddD (tCD (.int 1)) (tCallD sp__law_draw (tConsD (tVarD 0) (tConsD (tCD (.int 20000)) tNilD)))) tNilD)))) tNilD))) (gNameD 5)) (tSeqD (tAsgD (tCallD sp__law_pick (tConsD (tVarD 0) (tConsD (tLstD (tConsD (tCD (.int 0)) (tConsD (tOpD rPowD (tCD (.int 10)) (tCD (.int 6))) (tConsD (tCallD sp__law_draw (tConsD (tVarD 0) (tConsD (tOpD rPowD (tCD (.int 10)) (tCD (.int 6))) tNilD))) tNilD)))) tNilD))) (gNameD 6)) (tSeqD (tAsgD (tCallD sp__law_pick (tConsD (tVarD 0) (tConsD (tLstD (tConsD (tCD (.str "a")) (tConsD (tCD (.str "zzzzzzzz")) (tConsD (tCD (.str "step")) (tConsD (tCD (.str "late")) tNilD))))) tNilD))) (gNameD 7)) (tRetD (tTupD (tConsD (tVarD 7) (tConsD (tCBD rMax2D (tConsD (tVarD 4) (tConsD (tOpD rAddD (tVarD 1) (tCD (.int 1))) tNilD))) (tConsD (tCD (.int 1000)) (tConsD (tVarD 5) (tConsD (tVarD 6) (tConsD (tCBD rTupD (tConsD (tVarD 2) tNilD)) tNilD))))))))))))))
theorem wk__law_great {sp__law_draw sp__law_pick : SpD} (T : Txt K mg) (F__law_draw : FnD false P w K mg base 1 (He.ga K "_law_draw") sp__law_draw) (F__law_pick : FnD false P w K mg base 2 (He.ga K "_law_pick") sp__law_pick) : BodyD false P w K mg base 2 (He.ga K "_law_great") N__law_great "_law_great" (defScope (top 79)) (defBody (top 79)) (t__law_great K sp__law_draw sp__law_pick) := fun cdv A outer s H E hr hg => (dss_cons (ds_par 1 2 rfl sc__law_great.nd (da_cons de_int (da_cons (de_lstM da_nil) da_nil))) (dss_cons (ds_for (passes_of rfl) rfl (di_range1 T.f_range (da_cons (de_call (CalD.fn F__law_draw (hr.mono (by decide)) nog T.k__law_draw (takes_of rfl rfl rfl rfl)) T.g__law_draw (da_cons (dv 0) (da_cons de_int da_nil))) da_nil)) (dg_name 3 sc__law_great.nd) (dss_cons (ds_set 1 sc__law_great.nd (de_add (dv 1) (de_call (CalD.fn F__law_draw (hr.mono (by decide)) nog T.k__law_draw (takes_of rfl rfl rfl rfl)) T.g__law_draw (da_cons (dv 0) (da_cons de_int da_nil))))) (dss_cons (ds_expr (de_bm PySem.F.slot_list_append PySem.F.type_list_append mt_append lift_app (dv 2) (da_cons (de_tup (da_cons (dv 1) (da_cons (de_add (de_add (dv 1) de_int) (de_call (CalD.fn F__law_draw (hr.mono (by decide)) nog T.k__law_draw (takes_of rfl rfl rfl rfl)) T.g__law_draw (da_cons (dv 0) (da_cons de_int da_nil)))) (da_cons (de_call (CalD.fn F__law_pick (hr.mono (by decide)) nog T.k__law_pick (takes_of rfl rfl rfl rfl)) T.g__law_pick (da_cons (dv 0) (da_cons (de_lst (da_cons de_str (da_cons de_str (da_cons de_str da_nil)))) da_nil))) da_nil)))) da_nil))) (dss_one (ds_set 1 sc__law_great.nd (de_ixA (u1 hr) (de_ixA (u1 hr) (dv 2) (de_neg de_int)) de_int)))))) (dss_cons (ds_set 4 sc__law_great.nd (de_call (CalD.fn F__law_pick (hr.mono (by decide)) nog T.k__law_pick (takes_of rfl rfl rfl rfl)) T.g__law_pick (da_cons (dv 0) (da_cons (de_lst (da_cons de_int (da_cons (de_add de_int (de_callB (call_max2 rfl) lift_max2 T.f_max bt_max (da_cons de_int (da_cons (dv 1) da_nil)))) da_nil))) da_nil)))) (dss_cons (ds_set 5 sc__law_great.nd (de_call (CalD.fn F__law_pick (hr.mono (by decide)) nog T.k__law_pick (takes_of rfl rfl rfl rfl)) T.g__law_pick (da_cons (dv 0) (da_cons (de_lst (da_cons de_int (da_cons de_int (da_cons (de_add de_int (de_call (CalD.fn F__law_draw (hr.mono (by decide)) nog T.k__law_draw (takes_of rfl rfl rfl rfl)) T.g__law_draw (da_cons (dv 0) (da_cons de_int da_nil)))) da_nil)))) da_nil)))) (dss_cons (ds_set 6 sc__law_great.nd (de_call (CalD.fn F__law_pick (hr.mono (by decide)) nog T.k__law_pick (takes_of rfl rfl rfl rfl)) T.g__law_pick (da_cons (dv 0) (da_cons (de_lst (da_cons de_int (da_cons (de_pow de_int de_int) (da_cons (de_call (CalD.fn F__law_draw (hr.mono (by decide)) nog T.k__law_draw (takes_of rfl rfl rfl rfl)) T.g__law_draw (da_cons (dv 0) (da_cons (de_pow de_int de_int) da_nil))) da_nil)))) da_nil)))) (dss_cons (ds_set 7 sc__law_great.nd (de_call (CalD.fn F__law_pick (hr.mono (by decide)) nog T.k__law_pick (takes_of rfl rfl rfl rfl)) T.g__law_pick (da_cons (dv 0) (da_cons (de_lst (da_cons de_str (da_cons de_str (da_cons de_str (da_cons de_str da_nil))))) da_nil)))) (dss_one (ds_ret (de_tup (da_cons (dv 7) (da_cons (de_callB (call_max2 rfl) lift_max2 T.f_max bt_max (da_cons (dv 4) (da_cons (de_add (dv 1) de_int) da_nil))) (da_cons de_int (da_cons (dv 5) (da_cons (dv 6) (da_cons (de_callTy call_tuple_of lift_tupC T.f_tuple bt_tuple (da_cons (dv 2) da_nil)) da_nil)))))))))))))))
theorem ok__law_great {sp__law_draw sp__law_pick sp : SpD} (T : Txt K mg) (F__law_draw : FnD false P w K mg base 1 (He.ga K "_law_draw") sp__law_draw) (F__law_pick : FnD false P w K mg base 2 (He.ga K "_law_pick") sp__law_pick) (pure : ∀ ds M Q E, sp ds M Q E → ds.length = 1 ∧ t__law_great K sp__law_draw sp__law_pick { nx := fun _ M' => upQ Q .non M', rt := upQ Q, ex := upX E } (startD N__law_great ds) M) : FnD false P w K mg base 3 (He.ga K "_law_great") sp := by
  obtain ⟨fd, F⟩ := T.d__law_great
  exact FnD.mk (ps := ["stream"]) F sc__law_great (F.bindsN fun _ _ _ _ _ _ us hl => match us, hl with | [_], _ => rfl) ⟨_, wk__law_great T F__law_draw F__law_pick, pure⟩
def t__law_task_text (K : PySem.W.Frag) : TSD := (tSeqD (tAsgD (tOpD rAddD (tLstD (tConsD (tOpD rIxAD (tVarD 0) (tCD (.int 0))) tNilD)) (tLcD (tSeqI (tSlD (tVarD 0) (tPartD (tCD (.int 1))) (tPartD (tCD (.int 5))))) (gNameD 2) tYesD (tCBD rStrID (tConsD (tVarD 2) tNilD)) [2])) (gNameD 1)) (tSeqD (tForD (tSeqI (tOpD rIxAD (tVarD 0) (tCD (.int 5)))) (gTupD 3 (gConsD (gNameD 3) (gConsD (gNameD 4) (gConsD (gNameD 5) gNilD)))) (tAsgD (tOpD rAddD (tVarD 1) (tLstD (tConsD (tVarD 5) (tConsD (tOpD rAddD (tOpD rAddD (tCBD rStrID (tConsD (tVarD 3) tNilD)) (tCD (.str "-"))) (tCBD rStrID (tConsD (tVarD 4) tNilD))) tNilD)))) (gNameD 1))) (tRetD (tM1D rJoinD (tCD (.str " ")) (tVarD 1)))))
theorem wk__law_task_text (T : Txt K mg)  : BodyD false P w K mg base 0 (He.ga K "_law_task_text") N__law_task_text "_law_task_text" (defScope (top 76)) (defBody (top 76)) (t__law_task_text K ) := fun cdv A outer s H E hr hg => (dss_cons (ds_set 1 sc__law_task_text.nd (de_add (de_lst (da_cons (de_ixA (u1 hr) (dv 0) de_int) da_nil)) (de_lc (own := [("one", 2)]) rfl sc__law_task_text.nd (di_seq (de_slice (dv 0) (do_some de_int) (do_some de_int))) (blkOk_by (N := N__law_task_text) (sc := defScope (top 76)) (own := [("one", 2)]) (by decide +kernel)) (fun _ _ _ _ _ => (dg_name 2 sc__law_task_text.nd)) (fun _ _ _ _ _ => dts_nil) (fun _ _ _ _ _ => (de_callTy call_str_int lift_strI T.f_str bt_str (da_cons (dv 2) da_nil))) (by decide)))) (dss_cons (ds_for (passes_of rfl) rfl (di_seq (de_ixA (u1 hr) (dv 0) de_int)) (dg_tup rfl (dgs_cons (dg_name 3 sc__law_task_text.nd) (dgs_cons (dg_name 4 sc__law_task_text.nd) (dgs_cons (dg_name 5 sc__law_task_text.nd) dgs_nil)))) (dss_one (ds_set 1 sc__law_task_text.nd (de_add (dv 1) (de_lst (da_cons (dv 5) (da_cons (de_add (de_add (de_callTy call_str_int lift_strI T.f_str bt_str (da_cons (dv 3) da_nil)) de_str) (de_callTy call_str_int lift_strI T.f_str bt_str (da_cons (dv 4) da_nil))) da_nil))))))) (dss_one (ds_ret (de_m1 PySem.F.slot_str_join PySem.F.type_str_join mt_join lift_join de_str (dv 1))))))
theorem ok__law_task_text {sp : SpD} (T : Txt K mg)  (pure : ∀ ds M Q E, sp ds M Q E → ds.length = 1 ∧ t__law_task_text K  { nx := fun _ M' => upQ Q .non M', rt := upQ Q, ex := upX E } (startD N__law_task_text ds) M) : FnD false P w K mg base 1 (He.ga K "_law_task_text") sp := by
  obtain ⟨fd, F⟩ := T.d__law_task_text
  exact FnD.mk (ps := ["line"]) F sc__law_task_text (F.bindsN fun _ _ _ _ _ _ us hl => match us, hl with | [_], _ => rfl) ⟨_, wk__law_task_text T , pure⟩
def t_require_task (K : PySem.W.Frag) (sp_is_task : SpD) : TSD := (tIfSD (tNotD (tTestD (tCallD sp_is_task (tConsD (tVarD 0) tNilD)))) tNeverD tNextD)
theorem wk_require_task {sp_is_task : SpD} (T : Txt K mg) (F_is_task : FnD false P w K mg base 5 (He.ga K "is_task") sp_is_task) : BodyD false P w K mg base 5 (He.ga K "require_task") N_require_task "require_task" (defScope (top 26)) (defBody (top 26)) (t_require_task K sp_is_task) := fun cdv A outer s H E hr hg => (dss_one (ds_if (dt_not (dt_val (de_call (CalD.fn F_is_task (hr.mono (by decide)) nog T.k_is_task (takes_of rfl rfl rfl rfl)) T.g_is_task (da_cons (dv 0) da_nil)))) (dss_one ds_never) dss_nil))
theorem ok_require_task {sp_is_task sp : SpD} (T : Txt K mg) (F_is_task : FnD false P w K mg base 5 (He.ga K "is_task") sp_is_task) (pure : ∀ ds M Q E, sp ds M Q E → ds.length = 1 ∧ t_require_task K sp_is_task { nx := fun _ M' => upQ Q .non M', rt := upQ Q, ex := upX E } (startD N_require_task ds) M) : FnD false P w K mg base 6 (He.ga K "require_task") sp := by
  obtain ⟨fd, F⟩ := T.d_require_task
  exact FnD.mk (ps := ["task"]) F sc_require_task (F.bindsN fun _ _ _ _ _ _ us hl => match us, hl with | [_], _ => rfl) ⟨_, wk_require_task T F_is_task, pure⟩
def t_task_text (K : PySem.W.Frag) : TSD := (tSeqD (tAsgD (tVarD 0) (gTupD 6 (gConsD (gNameD 1) (gConsD (gNameD 2) (gConsD (gNameD 3) (gConsD (gNameD 4) (gConsD (gNameD 5) (gConsD (gNameD 6) gNilD)))))))) (tSeqD (tAsgD (tLstM (tConsD (tVarD 1) (tStarD (tLcD (tSeqI (tTupD (tConsD (tVarD 2) (tConsD (tVarD 3) (tConsD (tVarD 4) (tConsD (tVarD 5) tNilD)))))) (gNameD 8) tYesD (tFmtD (tVarD 8)) [8]) tNilD))) (gNameD 7)) (tSeqD (tForD (tSeqI (tVarD 6)) (gTupD 3 (gConsD (gNameD 9) (gConsD (gNameD 10) (gConsD (gNameD 11) gNilD)))) (tDropD (tBMD rExtD (tVarD 7) (tConsD (tLstD (tConsD (tVarD 11) (tConsD (tJoinedD [(tFmtD (tVarD 9)), (tCD (.str "-")), (tFmtD (tVarD 10))]) tNilD))) tNilD)))) (tRetD (tM1D rJoinD (tCD (.str " ")) (tVarD 7))))))
theorem wk_task_text (T : Txt K mg)  : BodyD false P w K mg base 0 (He.ga K "task_text") N_task_text "task_text" (defScope (top 54)) (defBody (top 54)) (t_task_text K ) := fun cdv A outer s H E hr hg => (dss_cons (ds_asg (dv 0) (dg_tup rfl (dgs_cons (dg_name 1 sc_task_text.nd) (dgs_cons (dg_name 2 sc_task_text.nd) (dgs_cons (dg_name 3 sc_task_text.nd) (dgs_cons (dg_name 4 sc_task_text.nd) (dgs_cons (dg_name 5 sc_task_text.nd) (dgs_cons (dg_name 6 sc_task_text.nd) dgs_nil)))))))) (dss_cons (ds_set 7 sc_task_text.nd (de_lstM (da_cons (dv 1) (da_star (de_lc (own := [("number", 8)]) rfl sc_task_text.nd (di_seq (de_tup (da_cons (dv 2) (da_cons (dv 3) (da_cons (dv 4) (da_cons (dv 5) da_nil)))))) (blkOk_by (N := N_task_text) (sc := defScope (top 54)) (own := [("number", 8)]) (by decide +kernel)) (fun _ _ _ _ _ => (dg_name 8 sc_task_text.nd)) (fun _ _ _ _ _ => dts_nil) (fun _ _ _ _ _ => (de_joined1 (de_fmt (dv 8)))) (by decide)) da_nil)))) (dss_cons (ds_for (passes_of rfl) rfl (di_seq (dv 6)) (dg_tup rfl (dgs_cons (dg_name 9 sc_task_text.nd) (dgs_cons (dg_name 10 sc_task_text.nd) (dgs_cons (dg_name 11 sc_task_text.nd) dgs_nil)))) (dss_one (ds_expr (de_bm PySem.F.slot_list_extend PySem.F.type_list_extend mt_extend lift_ext (dv 7) (da_cons (de_lst (da_cons (dv 11) (da_cons (de_joinedN (.cons (de_fmt (dv 9)) (.cons de_str (.cons (de_fmt (dv 10)) .nil)))) da_nil))) da_nil))))) (dss_one (ds_ret (de_m1 PySem.F.slot_str_join PySem.F.type_str_join mt_join lift_join de_str (dv 7)))))))
theorem ok_task_text {sp : SpD} (T : Txt K mg)  (pure : ∀ ds M Q E, sp ds M Q E → ds.length = 1 ∧ t_task_text K  { nx := fun _ M' => upQ Q .non M', rt := upQ Q, ex := upX E } (startD N_task_text ds) M) : FnD false P w K mg base 1 (He.ga K "task_text") sp := by
  obtain ⟨fd, F⟩ := T.d_task_text
  exact FnD.mk (ps := ["task"]) F sc_task_text (F.bindsN fun _ _ _ _ _ _ us hl => match us, hl with | [_], _ => rfl) ⟨_, wk_task_text T , pure⟩
def t_format_task (K : PySem.W.Frag) (sp_require_task sp_task_text : SpD) : TSD := (tSeqD (tDropD (tCallD sp_require_task (tConsD (tVarD 0) tNilD))) (tRetD (tCallD sp_task_text (tConsD (tVarD 0) tNilD))))
theorem wk_format_task {sp_require_task sp_task_text : SpD} (T : Txt K mg) (F_require_task : FnD false P w K mg base 6 (He.ga K "require_task") sp_require_task) (F_task_text : FnD false P w K mg base 1 (He.ga K "task_text") sp_task_text) : BodyD false P w K mg base 6 (He.ga K "format_task") N_format_task "format_task" (defScope (top 55)) (defBody (top 55)) (t_format_task K sp_require_task sp_task_text) := fun cdv A outer s H E hr hg => (dss_cons (ds_expr (de_call (CalD.fn F_require_task (hr.mono (by decide)) nog T.k_require_task (takes_of rfl rfl rfl rfl)) T.g_require_task (da_cons (dv 0) da_nil))) (dss_one (ds_ret (de_call (CalD.fn F_task_text (hr.mono (by decide)) nog T.k_task_text (takes_of rfl rfl rfl rfl)) T.g_task_text (da_cons (dv 0) da_nil)))))
theorem ok_format_task {sp_require_task sp_task_text sp : SpD} (T : Txt K mg) (F_require_task : FnD false P w K mg base 6 (He.ga K "require_task") sp_require_task) (F_task_text : FnD false P w K mg base 1 (He.ga K "task_text") sp_task_text) (pure : ∀ ds M Q E, sp ds M Q E → ds.length = 1 ∧ t_format_task K sp_require_task sp_task_text { nx := fun _ M' => upQ Q .non M', rt := upQ Q, ex := upX E } (startD N_format_task ds) M) : FnD false P w K mg base 7 (He.ga K "format_task") sp := by
  obtain ⟨fd, F⟩ := T.d_format_task
  exact FnD.mk (ps := ["task"]) F sc_format_task (F.bindsN fun _ _ _ _ _ _ us hl => match us, hl with | [_], _ => rfl) ⟨_, wk_format_task T F_require_task F_task_text, pure⟩
def t_require_text (K : PySem.W.Frag) : TSD := (tIfSD (tNotD (tTestD (tCBD (rIsiD K) (tConsD (tVarD 0) (tConsD (tCD (.ty "str")) tNilD))))) tNeverD tNextD)
theorem wk_require_text (T : Txt K mg)  : BodyD false P w K mg base 0 (He.ga K "require_text") N_require_text "require_text" (defScope (top 52)) (defBody (top 52)) (t_require_text K ) := fun cdv A outer s H E hr hg => (dss_one (ds_if (dt_not (dt_val (de_callB call_isi lift_isi T.f_isinstance bt_isinstance (da_cons (dv 0) (da_cons (de_ty T.f_str bt_str) da_nil))))) (dss_one ds_never) dss_nil))
theorem ok_require_text {sp : SpD} (T : Txt K mg)  (pure : ∀ ds M Q E, sp ds M Q E → ds.length = 1 ∧ t_require_text K  { nx := fun _ M' => upQ Q .non M', rt := upQ Q, ex := upX E } (startD N_require_text ds) M) : FnD false P w K mg base 1 (He.ga K "require_text") sp := by
  obtain ⟨fd, F⟩ := T.d_require_text
  exact FnD.mk (ps := ["text"]) F sc_require_text (F.bindsN fun _ _ _ _ _ _ us hl => match us, hl with | [_], _ => rfl) ⟨_, wk_require_text T , pure⟩
def t_number_in (K : PySem.W.Frag) : TSD := (tSeqD (tIfSD (tOrD (tNotD (tTestD (tChainD rLeD rLeD (tCD (.int 1)) (tCBD rLenD (tConsD (tVarD 0) tNilD)) (tCD (.int 40))))) (tNotD (tTestD (tCBD (rAllD fun bs => bs.all id) (tConsD (tLcD (tSeqI (tVarD 0)) (gNameD 1) tYesD (tOpD rInAD (tVarD 1) (tCD (.str "0123456789"))) [1]) tNilD))))) tNeverD tNextD) (tRetD (tCBD rIntSD (tConsD (tVarD 0) tNilD))))
theorem wk_number_in (T : Txt K mg)  : BodyD false P w K mg base 0 (He.ga K "number_in") N_number_in "number_in" (defScope (top 50)) (defBody (top 50)) (t_number_in K ) := fun cdv A outer s H E hr hg => (dss_cons (ds_if (dt_w (dw_or (dt_not (dt_chainI op_le op_le de_int (de_callB call_len lift_len T.f_len bt_len (da_cons (dv 0) da_nil)) (de_globI T.i_MOST_DIGITS))) (dw_or1 (dt_not (dt_val (de_callB (cr_all rfl) lift_allF T.f_all bt_all (da_cons (de_lc (own := [("sign", 1)]) rfl sc_number_in.nd (di_seq (dv 0)) (blkOk_by (N := N_number_in) (sc := defScope (top 50)) (own := [("sign", 1)]) (by decide +kernel)) (fun _ _ _ _ _ => (dg_name 1 sc_number_in.nd)) (fun _ _ _ _ _ => dts_nil) (fun _ _ _ _ _ => (de_in (u1 hr) (dv 1) (de_globS T.i_DIGITS))) (by decide)) da_nil))))))) (dss_one ds_never) dss_nil) (dss_one (ds_ret (de_callTy call_int_str lift_intS T.f_int bt_int (da_cons (dv 0) da_nil)))))
theorem ok_number_in {sp : SpD} (T : Txt K mg)  (pure : ∀ ds M Q E, sp ds M Q E → ds.length = 1 ∧ t_number_in K  { nx := fun _ M' => upQ Q .non M', rt := upQ Q, ex := upX E } (startD N_number_in ds) M) : FnD false P w K mg base 1 (He.ga K "number_in") sp := by
  obtain ⟨fd, F⟩ := T.d_number_in
  exact FnD.mk (ps := ["word"]) F sc_number_in (F.bindsN fun _ _ _ _ _ _ us hl => match us, hl with | [_], _ => rfl) ⟨_, wk_number_in T , pure⟩
def t_pair_in (K : PySem.W.Frag) (sp_number_in : SpD) : TSD := (tSeqD (tAsgD (tM1D (rPartD Txt.partition) (tVarD 0) (tCD (.str "-"))) (gTupD 3 (gConsD (gNameD 1) (gConsD (gNameD 2) (gConsD (gNameD 3) gNilD))))) (tSeqD (tIfSD (tTestD (tOpD rEqD (tVarD 2) (tCD (.str "")))) tNeverD tNextD) (tRetD (tTupD (tConsD (tCallD sp_number_in (tConsD (tVarD 1) tNilD)) (tConsD (tCallD sp_number_in (tConsD (tVarD 3) tNilD)) tNilD))))))
theorem wk_pair_in {sp_number_in : SpD} (T : Txt K mg) (F_number_in : FnD false P w K mg base 1 (He.ga K "number_in") sp_number_in) : BodyD false P w K mg base 1 (He.ga K "pair_in") N_pair_in "pair_in" (defScope (top 51)) (defBody (top 51)) (t_pair_in K sp_number_in) := fun cdv A outer s H E hr hg => (dss_cons (ds_asg (de_m1 PySem.F.slot_str_partition PySem.F.type_str_partition mt_partition (lift_part (f := Txt.partition)) (dv 0) de_str) (dg_tup rfl (dgs_cons (dg_name 1 sc_pair_in.nd) (dgs_cons (dg_name 2 sc_pair_in.nd) (dgs_cons (dg_name 3 sc_pair_in.nd) dgs_nil))))) (dss_cons (ds_if (dt_eq (u64 hr) (dv 2) de_str) (dss_one ds_never) dss_nil) (dss_one (ds_ret (de_tup (da_cons (de_call (CalD.fn F_number_in (hr.mono (by decide)) nog T.k_number_in (takes_of rfl rfl rfl rfl)) T.g_number_in (da_cons (dv 1) da_nil)) (da_cons (de_call (CalD.fn F_number_in (hr.mono (by decide)) nog T.k_number_in (takes_of rfl rfl rfl rfl)) T.g_number_in (da_cons (dv 3) da_nil)) da_nil)))))))
theorem ok_pair_in {sp_number_in sp : SpD} (T : Txt K mg) (F_number_in : FnD false P w K mg base 1 (He.ga K "number_in") sp_number_in) (pure : ∀ ds M Q E, sp ds M Q E → ds.length = 1 ∧ t_pair_in K sp_number_in { nx := fun _ M' => upQ Q .non M', rt := upQ Q, ex := upX E } (startD N_pair_in ds) M) : FnD false P w K mg base 2 (He.ga K "pair_in") sp := by
  obtain ⟨fd, F⟩ := T.d_pair_in
  exact FnD.mk (ps := ["word"]) F sc_pair_in (F.bindsN fun _ _ _ _ _ _ us hl => match us, hl with | [_], _ => rfl) ⟨_, wk_pair_in T F_number_in, pure⟩
def t_parse_task (K : PySem.W.Frag) (sp_require_text sp_number_in sp_pair_in sp_is_task sp_task_text : SpD) : TSD := (tSeqD (tDropD (tCallD sp_require_text (tConsD (tVarD 0) tNilD))) (tSeqD (tAsgD (tM1D rSplitD (tVarD 0) (tCD (.str " "))) (gStarD (gConsD (gNameD 1) (gConsD (gNameD 2) gNilD)))) (tSeqD (tAsgD (tLcD (tSeqI (tSlD (tVarD 2) tNoPartD (tPartD (tCD (.int 4))))) (gNameD 4) tYesD (tCallD sp_number_in (tConsD (tVarD 4) tNilD)) [4]) (gNameD 3)) (tSeqD (tParD 5 6 (tConsD (tPickD (tVarD 2) (tPartD (tCD (.int 4))) tNoPartD (tPartD (tCD (.int 2)))) (tConsD (tLcD (tSeqI (tPickD (tVarD 2) (tPartD (tCD (.int 5))) tNoPartD (tPartD (tCD (.int 2))))) (gNameD 4) tYesD (tCallD sp_pair_in (tConsD (tVarD 4) tNilD)) [4]) tNilD))) (tSeqD (tAsgD (tCBD rTupD (tConsD (tLcD (tZipD (tConsD (tVarD 5) (tConsD (tVarD 6) tNilD))) (gTupD 2 (gConsD (gNameD 8) (gConsD (gNameD 9) gNilD))) tYesD (tTupD (tConsD (tOpD rIxAD (tVarD 9) (tCD (.int 0))) (tConsD (tOpD rIxAD (tVarD 9) (tCD (.int 1))) (tConsD (tVarD 8) tNilD)))) [8, 9]) tNilD)) (gNameD 7)) (tSeqD (tAsgD (tTupD (tConsD (tVarD 1) (tStarD (tVarD 3) (tConsD (tVarD 7) tNilD)))) (gNameD 10)) (tSeqD (tIfSD (tOrD (tNotD (tTestD (tCallD sp_is_task (tConsD (tVarD 10) tNilD)))) (tTestD (tOpD rNeD (tCallD sp_task_text (tConsD (tVarD 10) tNilD)) (tVarD 0)))) tNeverD tNextD) (tRetD (tVarD 10)))))))))
theorem wk_parse_task {sp_require_text sp_number_in sp_pair_in sp_is_task sp_task_text : SpD} (T : Txt K mg) (F_require_text : FnD false P w K mg base 1 (He.ga K "require_text") sp_require_text) (F_number_in : FnD false P w K mg base 1 (He.ga K "number_in") sp_number_in) (F_pair_in : FnD false P w K mg base 2 (He.ga K "pair_in") sp_pair_in) (F_is_task : FnD false P w K mg base 5 (He.ga K "is_task") sp_is_task) (F_task_text : FnD false P w K mg base 1 (He.ga K "task_text") sp_task_text) : BodyD false P w K mg base 5 (He.ga K "parse_task") N_parse_task "parse_task" (defScope (top 56)) (defBody (top 56)) (t_parse_task K sp_require_text sp_number_in sp_pair_in sp_is_task sp_task_text) := fun cdv A outer s H E hr hg => (dss_cons (ds_expr (de_call (CalD.fn F_require_text (hr.mono (by decide)) nog T.k_require_text (takes_of rfl rfl rfl rfl)) T.g_require_text (da_cons (dv 0) da_nil))) (dss_cons (ds_asg (de_m1 PySem.F.slot_str_split PySem.F.type_str_split mt_split lift_split (dv 0) de_str) (dg_star rfl (dgs_cons (dg_name 1 sc_parse_task.nd) (dgs_cons (dg_name 2 sc_parse_task.nd) dgs_nil)))) (dss_cons (ds_setLc (own := [("word", 4)]) 3 rfl sc_parse_task.nd (di_seq (de_slice (dv 2) do_none (do_some de_int))) (blkOk_by (N := N_parse_task) (sc := defScope (top 56)) (own := [("word", 4)]) (by decide +kernel)) (fun _ _ _ _ _ => (dg_name 4 sc_parse_task.nd)) (fun _ _ _ _ _ => dts_nil) (fun _ _ _ _ _ => (de_call (CalD.fn F_number_in (hr.mono (by decide)) nog T.k_number_in tk0) T.g_number_in (da_cons (dv 4) da_nil))) (by decide) rfl fin_frz) (dss_cons (ds_par 5 6 rfl sc_parse_task.nd (da_cons (de_pick (dv 2) (do_some de_int) do_none (do_some de_int)) (da_cons (de_lc (own := [("word", 4)]) rfl sc_parse_task.nd (di_seq (de_pick (dv 2) (do_some de_int) do_none (do_some de_int))) (blkOk_by (N := N_parse_task) (sc := defScope (top 56)) (own := [("word", 4)]) (by decide +kernel)) (fun _ _ _ _ _ => (dg_name 4 sc_parse_task.nd)) (fun _ _ _ _ _ => dts_nil) (fun _ _ _ _ _ => (de_call (CalD.fn F_pair_in (hr.mono (by decide)) nog T.k_pair_in tk0) T.g_pair_in (da_cons (dv 4) da_nil))) (by decide)) da_nil))) (dss_cons (ds_set 7 sc_parse_task.nd (de_callTy call_tuple_of lift_tupC T.f_tuple bt_tuple (da_cons (de_lc (own := [("lock", 8), ("span", 9)]) rfl sc_parse_task.nd (di_zip T.f_zip (da_cons (dv 5) (da_cons (dv 6) da_nil))) (blkOk_by (N := N_parse_task) (sc := defScope (top 56)) (own := [("lock", 8), ("span", 9)]) (by decide +kernel)) (fun _ _ _ _ _ => (dg_tup rfl (dgs_cons (dg_name 8 sc_parse_task.nd) (dgs_cons (dg_name 9 sc_parse_task.nd) dgs_nil)))) (fun _ _ _ _ _ => dts_nil) (fun _ _ _ _ _ => (de_tup (da_cons (de_ixA (u1 hr) (dv 9) de_int) (da_cons (de_ixA (u1 hr) (dv 9) de_int) (da_cons (dv 8) da_nil))))) (by decide)) da_nil))) (dss_cons (ds_set 10 sc_parse_task.nd (de_tup (da_cons (dv 1) (da_star (dv 3) (da_cons (dv 7) da_nil))))) (dss_cons (ds_if (dt_w (dw_or (dt_not (dt_val (de_call (CalD.fn F_is_task (hr.mono (by decide)) nog T.k_is_task (takes_of rfl rfl rfl rfl)) T.g_is_task (da_cons (dv 10) da_nil)))) (dw_or1 (dt_ne (u64 hr) (de_call (CalD.fn F_task_text (hr.mono (by decide)) nog T.k_task_text (takes_of rfl rfl rfl rfl)) T.g_task_text (da_cons (dv 10) da_nil)) (dv 0))))) (dss_one ds_never) dss_nil) (dss_one (ds_ret (dv 10))))))))))
theorem ok_parse_task {sp_require_text sp_number_in sp_pair_in sp_is_task sp_task_text sp : SpD} (T : Txt K mg) (F_require_text : FnD false P w K mg base 1 (He.ga K "require_text") sp_require_text) (F_number_in : FnD false P w K mg base 1 (He.ga K "number_in") sp_number_in) (F_pair_in : FnD false P w K mg base 2 (He.ga K "pair_in") sp_pair_in) (F_is_task : FnD false P w K mg base 5 (He.ga K "is_task") sp_is_task) (F_task_text : FnD false P w K mg base 1 (He.ga K "task_text") sp_task_text) (pure : ∀ ds M Q E, sp ds M Q E → ds.length = 1 ∧ t_parse_task K sp_require_text sp_number_in sp_pair_in sp_is_task sp_task_text { nx := fun _ M' => upQ Q .non M', rt := upQ Q, ex := upX E } (startD N_parse_task ds) M) : FnD false P w K mg base 6 (He.ga K "parse_task") sp := by
  obtain ⟨fd, F⟩ := T.d_parse_task
  exact FnD.mk (ps := ["text"]) F sc_parse_task (F.bindsN fun _ _ _ _ _ _ us hl => match us, hl with | [_], _ => rfl) ⟨_, wk_parse_task T F_require_text F_number_in F_pair_in F_is_task F_task_text, pure⟩
def t_format_tasks (K : PySem.W.Frag) (sp_require_tasks sp_task_text : SpD) : TSD := (tSeqD (tDropD (tCallD sp_require_tasks (tConsD (tVarD 0) tNilD))) (tRetD (tM1D rJoinD (tCD (.str "\n")) (tLcD (tSeqI (tFldD K "own_tasks" (tVarD 0))) (gNameD 1) tYesD (tCallD sp_task_text (tConsD (tVarD 1) tNilD)) [1]))))
theorem wk_format_tasks {sp_require_tasks sp_task_text : SpD} (T : Txt K mg) (F_require_tasks : FnD false P w K mg base 1 (He.ga K "require_tasks") sp_require_tasks) (F_task_text : FnD false P w K mg base 1 (He.ga K "task_text") sp_task_text) : BodyD false P w K mg base 1 (He.ga K "format_tasks") N_format_tasks "format_tasks" (defScope (top 57)) (defBody (top 57)) (t_format_tasks K sp_require_tasks sp_task_text) := fun cdv A outer s H E hr hg => (dss_cons (ds_expr (de_call (CalD.fn F_require_tasks (hr.mono (by decide)) nog T.k_require_tasks (takes_of rfl rfl rfl rfl)) T.g_require_tasks (da_cons (dv 0) da_nil))) (dss_one (ds_ret (de_m1 PySem.F.slot_str_join PySem.F.type_str_join mt_join lift_join de_str (de_lc (own := [("task", 1)]) rfl sc_format_tasks.nd (di_seq (de_fldK (K := K) rfl (dv 0))) (blkOk_by (N := N_format_tasks) (sc := defScope (top 57)) (own := [("task", 1)]) (by decide +kernel)) (fun _ _ _ _ _ => (dg_name 1 sc_format_tasks.nd)) (fun _ _ _ _ _ => dts_nil) (fun _ _ _ _ _ => (de_call (CalD.fn F_task_text (hr.mono (by decide)) nog T.k_task_text tk0) T.g_task_text (da_cons (dv 1) da_nil))) (by decide))))))
theorem ok_format_tasks {sp_require_tasks sp_task_text sp : SpD} (T : Txt K mg) (F_require_tasks : FnD false P w K mg base 1 (He.ga K "require_tasks") sp_require_tasks) (F_task_text : FnD false P w K mg base 1 (He.ga K "task_text") sp_task_text) (pure : ∀ ds M Q E, sp ds M Q E → ds.length = 1 ∧ t_format_tasks K sp_require_tasks sp_task_text { nx := fun _ M' => upQ Q .non M', rt := upQ Q, ex := upX E } (startD N_format_tasks ds) M) : FnD false P w K mg base 2 (He.ga K "format_tasks") sp := by
  obtain ⟨fd, F⟩ := T.d_format_tasks
  exact FnD.mk (ps := ["tasks"]) F sc_format_tasks (F.bindsN fun _ _ _ _ _ _ us hl => match us, hl with | [_], _ => rfl) ⟨_, wk_format_tasks T F_require_tasks F_task_text, pure⟩
def t_lines_in (K : PySem.W.Frag) : TSD := (tRetD (tIfD (tTestD (tOpD rNeD (tVarD 0) (tCD (.str "")))) (tM1D rSplitD (tVarD 0) (tCD (.str "\n"))) (tLstD tNilD)))
theorem wk_lines_in (T : Txt K mg)  : BodyD false P w K mg base 0 (He.ga K "lines_in") N_lines_in "lines_in" (defScope (top 53)) (defBody (top 53)) (t_lines_in K ) := fun cdv A outer s H E hr hg => (dss_one (ds_ret (de_if (dt_ne (u64 hr) (dv 0) de_str) (de_m1 PySem.F.slot_str_split PySem.F.type_str_split mt_split lift_split (dv 0) de_str) (de_lst da_nil))))
theorem ok_lines_in {sp : SpD} (T : Txt K mg)  (pure : ∀ ds M Q E, sp ds M Q E → ds.length = 1 ∧ t_lines_in K  { nx := fun _ M' => upQ Q .non M', rt := upQ Q, ex := upX E } (startD N_lines_in ds) M) : FnD false P w K mg base 1 (He.ga K "lines_in") sp := by
  obtain ⟨fd, F⟩ := T.d_lines_in
  exact FnD.mk (ps := ["text"]) F sc_lines_in (F.bindsN fun _ _ _ _ _ _ us hl => match us, hl with | [_], _ => rfl) ⟨_, wk_lines_in T , pure⟩
def t_parse_tasks (K : PySem.W.Frag) (sp_require_text sp_lines_in sp_parse_task sp_Tasks_of : SpD) : TSD := (tSeqD (tDropD (tCallD sp_require_text (tConsD (tVarD 0) tNilD))) (tSeqD (tAsgD (tCBD rTupD (tConsD (tLcD (tSeqI (tCallD sp_lines_in (tConsD (tVarD 0) tNilD))) (gNameD 2) tYesD (tCallD sp_parse_task (tConsD (tVarD 2) tNilD)) [2]) tNilD)) (gNameD 1)) (tCalm (tRetD (tCMethD (He.ga K "Tasks") sp_Tasks_of (tCD (.ref (He.ga K "Tasks"))) (tConsD (tVarD 1) tNilD))))))
theorem wk_parse_tasks {sp_require_text sp_lines_in sp_parse_task sp_Tasks_of : SpD} (T : Txt K mg) (F_require_text : FnD false P w K mg base 1 (He.ga K "require_text") sp_require_text) (F_lines_in : FnD false P w K mg base 1 (He.ga K "lines_in") sp_lines_in) (F_parse_task : FnD false P w K mg base 6 (He.ga K "parse_task") sp_parse_task) (F_Tasks_of : FnD false P w K mg base 9 (He5.wf K (He.ga K "Tasks") "classmethod" "of") sp_Tasks_of) : BodyD false P w K mg base 9 (He.ga K "parse_tasks") N_parse_tasks "parse_tasks" (defScope (top 58)) (defBody (top 58)) (t_parse_tasks K sp_require_text sp_lines_in sp_parse_task sp_Tasks_of) := fun cdv A outer s H E hr hg => (dss_cons (ds_expr (de_call (CalD.fn F_require_text (hr.mono (by decide)) nog T.k_require_text (takes_of rfl rfl rfl rfl)) T.g_require_text (da_cons (dv 0) da_nil))) (dss_cons (ds_set 1 sc_parse_tasks.nd (de_callTy call_tuple_of lift_tupC T.f_tuple bt_tuple (da_cons (de_lc (own := [("line", 2)]) rfl sc_parse_tasks.nd (di_seq (de_call (CalD.fn F_lines_in (hr.mono (by decide)) nog T.k_lines_in (takes_of rfl rfl rfl rfl)) T.g_lines_in (da_cons (dv 0) da_nil))) (blkOk_by (N := N_parse_tasks) (sc := defScope (top 58)) (own := [("line", 2)]) (by decide +kernel)) (fun _ _ _ _ _ => (dg_name 2 sc_parse_tasks.nd)) (fun _ _ _ _ _ => dts_nil) (fun _ _ _ _ _ => (de_call (CalD.fn F_parse_task (hr.mono (by decide)) nog T.k_parse_task tk0) T.g_parse_task (da_cons (dv 2) da_nil))) (by decide)) da_nil))) (dss_one (ds_calm (dss_one (ds_ret (de_cmeth T.r_Tasks T.s_Tasks_of F_Tasks_of (hr.mono (by decide)) nog tk0 (de_globA T.g_Tasks) (da_cons (dv 1) da_nil))))))))
theorem ok_parse_tasks {sp_require_text sp_lines_in sp_parse_task sp_Tasks_of sp : SpD} (T : Txt K mg) (F_require_text : FnD false P w K mg base 1 (He.ga K "require_text") sp_require_text) (F_lines_in : FnD false P w K mg base 1 (He.ga K "lines_in") sp_lines_in) (F_parse_task : FnD false P w K mg base 6 (He.ga K "parse_task") sp_parse_task) (F_Tasks_of : FnD false P w K mg base 9 (He5.wf K (He.ga K "Tasks") "classmethod" "of") sp_Tasks_of) (pure : ∀ ds M Q E, sp ds M Q E → ds.length = 1 ∧ t_parse_tasks K sp_require_text sp_lines_in sp_parse_task sp_Tasks_of { nx := fun _ M' => upQ Q .non M', rt := upQ Q, ex := upX E } (startD N_parse_tasks ds) M) : FnD false P w K mg base 10 (He.ga K "parse_tasks") sp := by
  obtain ⟨fd, F⟩ := T.d_parse_tasks
  exact FnD.mk (ps := ["text"]) F sc_parse_tasks (F.bindsN fun _ _ _ _ _ _ us hl => match us, hl with | [_], _ => rfl) ⟨_, wk_parse_tasks T F_require_text F_lines_in F_parse_task F_Tasks_of, pure⟩
def t_Tasks___eq__ (K : PySem.W.Frag) : TSD := (tRetD (tAndVD (tCBD (rIsiD K) (tConsD (tVarD 1) (tConsD (tCD (.ref (He.ga K "Tasks"))) tNilD))) (tOpD rEqD (tFldD K "own_tasks" (tVarD 0)) (tFldD K "own_tasks" (tVarD 1)))))
theorem wk_Tasks___eq__ (T : Txt K mg)  : BodyD false P w K mg base 0 (He.ma K (He.ga K "Tasks") "__eq__") N_Tasks___eq__ "Tasks.__eq__" (defScope (inCls (top 33) 22)) (defBody (inCls (top 33) 22)) (t_Tasks___eq__ K ) := fun cdv A outer s H E hr hg => (dss_one (ds_ret (de_and (de_callB call_isi lift_isi T.f_isinstance bt_isinstance (da_cons (dv 1) (da_cons (de_globA T.g_Tasks) da_nil))) (de_one (de_eq (u64 hr) (de_fldK (K := K) rfl (dv 0)) (de_fldK (K := K) rfl (dv 1)))))))
theorem ok_Tasks___eq__ {sp : SpD} (T : Txt K mg)  (pure : ∀ ds M Q E, sp ds M Q E → ds.length = 2 ∧ t_Tasks___eq__ K  { nx := fun _ M' => upQ Q .non M', rt := upQ Q, ex := upX E } (startD N_Tasks___eq__ ds) M) : FnD false P w K mg base 1 (He.ma K (He.ga K "Tasks") "__eq__") sp := by
  obtain ⟨fd, F⟩ := T.d_Tasks___eq__
  exact FnD.mk (ps := ["self", "other"]) F sc_Tasks___eq__ (F.bindsN fun _ _ _ _ _ _ us hl => match us, hl with | [_, _], _ => rfl) ⟨_, wk_Tasks___eq__ T , pure⟩
def t_Tasks_tasks (K : PySem.W.Frag) : TSD := (tRetD (tFldD K "own_tasks" (tVarD 0)))
theorem wk_Tasks_tasks (T : Txt K mg)  : BodyD false P w K mg base 0 (rcA "property" (He.ma K (He.ga K "Tasks") "tasks") K) N_Tasks_tasks "Tasks.tasks" (defScope (inCls (top 33) 3)) (defBody (inCls (top 33) 3)) (t_Tasks_tasks K ) := fun cdv A outer s H E hr hg => (dss_one (ds_ret (de_fldK (K := K) rfl (dv 0))))
theorem ok_Tasks_tasks {sp : SpD} (T : Txt K mg)  (pure : ∀ ds M Q E, sp ds M Q E → ds.length = 1 ∧ t_Tasks_tasks K  { nx := fun _ M' => upQ Q .non M', rt := upQ Q, ex := upX E } (startD N_Tasks_tasks ds) M) : FnD false P w K mg base 1 (rcA "property" (He.ma K (He.ga K "Tasks") "tasks") K) sp := by
  obtain ⟨fd, F⟩ := T.d_Tasks_tasks
  exact FnD.mk (ps := ["self"]) F sc_Tasks_tasks (F.bindsN fun _ _ _ _ _ _ us hl => match us, hl with | [_], _ => rfl) ⟨_, wk_Tasks_tasks T , pure⟩
def t__law_levels_text (K : PySem.W.Frag) : TSD := (tRetD (tM1D rJoinD (tCD (.str ", ")) (tLcD (tZipD (tConsD (tVarD 0) (tConsD (tVarD 1) tNilD))) (gTupD 2 (gConsD (gNameD 2) (gConsD (gNameD 3) gNilD))) tYesD (tOpD rAddD (tOpD rAddD (tOpD rIxAD (tVarD 2) (tCD (.int 0))) (tCD (.str " "))) (tCBD rStrID (tConsD (tVarD 3) tNilD))) [2, 3])))
theorem wk__law_levels_text (T : Txt K mg)  : BodyD false P w K mg base 0 (He.ga K "_law_levels_text") N__law_levels_text "_law_levels_text" (defScope (top 78)) (defBody (top 78)) (t__law_levels_text K ) := fun cdv A outer s H E hr hg => (dss_one (ds_ret (de_m1 PySem.F.slot_str_join PySem.F.type_str_join mt_join lift_join de_str (de_lc (own := [("line", 2), ("here", 3)]) rfl sc__law_levels_text.nd (di_zip T.f_zip (da_cons (dv 0) (da_cons (dv 1) da_nil))) (blkOk_by (N := N__law_levels_text) (sc := defScope (top 78)) (own := [("line", 2), ("here", 3)]) (by decide +kernel)) (fun _ _ _ _ _ => (dg_tup rfl (dgs_cons (dg_name 2 sc__law_levels_text.nd) (dgs_cons (dg_name 3 sc__law_levels_text.nd) dgs_nil)))) (fun _ _ _ _ _ => dts_nil) (fun _ _ _ _ _ => (de_add (de_add (de_ixA (u1 hr) (dv 2) de_int) de_str) (de_callTy call_str_int lift_strI T.f_str bt_str (da_cons (dv 3) da_nil)))) (by decide)))))
theorem ok__law_levels_text {sp : SpD} (T : Txt K mg)  (pure : ∀ ds M Q E, sp ds M Q E → ds.length = 2 ∧ t__law_levels_text K  { nx := fun _ M' => upQ Q .non M', rt := upQ Q, ex := upX E } (startD N__law_levels_text ds) M) : FnD false P w K mg base 1 (He.ga K "_law_levels_text") sp := by
  obtain ⟨fd, F⟩ := T.d__law_levels_text
  exact FnD.mk (ps := ["some", "numbers"]) F sc__law_levels_text (F.bindsN fun _ _ _ _ _ _ us hl => match us, hl with | [_, _], _ => rfl) ⟨_, wk__law_levels_text T , pure⟩
def t_require_levels (K : PySem.W.Frag) : TSD := (tIfSD (tNotD (tTestD (tCBD (rIsiD K) (tConsD (tVarD 0) (tConsD (tCD (.ref (He.ga K "Levels"))) tNilD))))) tNeverD tNextD)
theorem wk_require_levels (T : Txt K mg)  : BodyD false P w K mg base 0 (He.ga K "require_levels") N_require_levels "require_levels" (defScope (top 45)) (defBody (top 45)) (t_require_levels K ) := fun cdv A outer s H E hr hg => (dss_one (ds_if (dt_not (dt_val (de_callB call_isi lift_isi T.f_isinstance bt_isinstance (da_cons (dv 0) (da_cons (de_globA T.g_Levels) da_nil))))) (dss_one ds_never) dss_nil))
theorem ok_require_levels {sp : SpD} (T : Txt K mg)  (pure : ∀ ds M Q E, sp ds M Q E → ds.length = 1 ∧ t_require_levels K  { nx := fun _ M' => upQ Q .non M', rt := upQ Q, ex := upX E } (startD N_require_levels ds) M) : FnD false P w K mg base 1 (He.ga K "require_levels") sp := by
  obtain ⟨fd, F⟩ := T.d_require_levels
  exact FnD.mk (ps := ["levels"]) F sc_require_levels (F.bindsN fun _ _ _ _ _ _ us hl => match us, hl with | [_], _ => rfl) ⟨_, wk_require_levels T , pure⟩
def t_levels_text (K : PySem.W.Frag) : TSD := (tSeqD (tAsgD (tFldD K "own_names" (tFldD K "own_tasks" (tVarD 0))) (gNameD 1)) (tRetD (tM1D rJoinD (tCD (.str ", ")) (tLcD (tZipD (tConsD (tVarD 1) (tConsD (tFldD K "own_numbers" (tVarD 0)) tNilD))) (gTupD 2 (gConsD (gNameD 2) (gConsD (gNameD 3) gNilD))) tYesD (tJoinedD [(tFmtD (tVarD 2)), (tCD (.str " ")), (tFmtD (tVarD 3))]) [2, 3]))))
theorem wk_levels_text (T : Txt K mg)  : BodyD false P w K mg base 0 (He.ga K "levels_text") N_levels_text "levels_text" (defScope (top 59)) (defBody (top 59)) (t_levels_text K ) := fun cdv A outer s H E hr hg => (dss_cons (ds_set 1 sc_levels_text.nd (de_fldK (K := K) rfl (de_fldK (K := K) rfl (dv 0)))) (dss_one (ds_ret (de_m1 PySem.F.slot_str_join PySem.F.type_str_join mt_join lift_join de_str (de_lc (own := [("name", 2), ("number", 3)]) rfl sc_levels_text.nd (di_zip T.f_zip (da_cons (dv 1) (da_cons (de_fldK (K := K) rfl (dv 0)) da_nil))) (blkOk_by (N := N_levels_text) (sc := defScope (top 59)) (own := [("name", 2), ("number", 3)]) (by decide +kernel)) (fun _ _ _ _ _ => (dg_tup rfl (dgs_cons (dg_name 2 sc_levels_text.nd) (dgs_cons (dg_name 3 sc_levels_text.nd) dgs_nil)))) (fun _ _ _ _ _ => dts_nil) (fun _ _ _ _ _ => (de_joinedN (.cons (de_fmt (dv 2)) (.cons de_str (.cons (de_fmt (dv 3)) .nil))))) (by decide))))))
theorem ok_levels_text {sp : SpD} (T : Txt K mg)  (pure : ∀ ds M Q E, sp ds M Q E → ds.length = 1 ∧ t_levels_text K  { nx := fun _ M' => upQ Q .non M', rt := upQ Q, ex := upX E } (startD N_levels_text ds) M) : FnD false P w K mg base 1 (He.ga K "levels_text") sp := by
  obtain ⟨fd, F⟩ := T.d_levels_text
  exact FnD.mk (ps := ["levels"]) F sc_levels_text (F.bindsN fun _ _ _ _ _ _ us hl => match us, hl with | [_], _ => rfl) ⟨_, wk_levels_text T , pure⟩
def t_format_levels (K : PySem.W.Frag) (sp_require_levels sp_levels_text : SpD) : TSD := (tSeqD (tDropD (tCallD sp_require_levels (tConsD (tVarD 0) tNilD))) (tRetD (tCallD sp_levels_text (tConsD (tVarD 0) tNilD))))
theorem wk_format_levels {sp_require_levels sp_levels_text : SpD} (T : Txt K mg) (F_require_levels : FnD false P w K mg base 1 (He.ga K "require_levels") sp_require_levels) (F_levels_text : FnD false P w K mg base 1 (He.ga K "levels_text") sp_levels_text) : BodyD false P w K mg base 1 (He.ga K "format_levels") N_format_levels "format_levels" (defScope (top 60)) (defBody (top 60)) (t_format_levels K sp_require_levels sp_levels_text) := fun cdv A outer s H E hr hg => (dss_cons (ds_expr (de_call (CalD.fn F_require_levels (hr.mono (by decide)) nog T.k_require_levels (takes_of rfl rfl rfl rfl)) T.g_require_levels (da_cons (dv 0) da_nil))) (dss_one (ds_ret (de_call (CalD.fn F_levels_text (hr.mono (by decide)) nog T.k_levels_text (takes_of rfl rfl rfl rfl)) T.g_levels_text (da_cons (dv 0) da_nil)))))
theorem ok_format_levels {sp_require_levels sp_levels_text sp : SpD} (T : Txt K mg) (F_require_levels : FnD false P w K mg base 1 (He.ga K "require_levels") sp_require_levels) (F_levels_text : FnD false P w K mg base 1 (He.ga K "levels_text") sp_levels_text) (pure : ∀ ds M Q E, sp ds M Q E → ds.length = 1 ∧ t_format_levels K sp_require_levels sp_levels_text { nx := fun _ M' => upQ Q .non M', rt := upQ Q, ex := upX E } (startD N_format_levels ds) M) : FnD false P w K mg base 2 (He.ga K "format_levels") sp := by
  obtain ⟨fd, F⟩ := T.d_format_levels
  exact FnD.mk (ps := ["levels"]) F sc_format_levels (F.bindsN fun _ _ _ _ _ _ us hl => match us, hl with | [_], _ => rfl) ⟨_, wk_format_levels T F_require_levels F_levels_text, pure⟩
def t_parse_levels (K : PySem.W.Frag) (sp_require_tasks sp_require_text sp_number_in sp_Levels_of sp_levels_text : SpD) : TSD := (tSeqD (tDropD (tCallD sp_require_tasks (tConsD (tVarD 0) tNilD))) (tSeqD (tDropD (tCallD sp_require_text (tConsD (tVarD 1) tNilD))) (tSeqD (tAsgD (tIfD (tTestD (tOpD rNeD (tVarD 1) (tCD (.str "")))) (tM1D rSplitD (tVarD 1) (tCD (.str ", "))) (tLstD tNilD)) (gNameD 2)) (tSeqD (tAsgD (tCBD rTupD (tConsD (tLcD (tSeqI (tVarD 2)) (gNameD 4) tYesD (tCallD sp_number_in (tConsD (tOpD rIxAD (tM1D (rPartD Txt.rpartition) (tVarD 4) (tCD (.str " "))) (tCD (.int 2))) tNilD)) [4]) tNilD)) (gNameD 3)) (tSeqD (tCalm (tAsgD (tCMethD (He.ga K "Levels") sp_Levels_of (tCD (.ref (He.ga K "Levels"))) (tConsD (tVarD 0) (tConsD (tVarD 3) tNilD))) (gNameD 5))) (tSeqD (tIfSD (tTestD (tOpD rNeD (tCallD sp_levels_text (tConsD (tVarD 5) tNilD)) (tVarD 1))) tNeverD tNextD) (tRetD (tVarD 5))))))))
theorem wk_parse_levels {sp_require_tasks sp_require_text sp_number_in sp_Levels_of sp_levels_text : SpD} (T : Txt K mg) (F_require_tasks : FnD false P w K mg base 1 (He.ga K "require_tasks") sp_require_tasks) (F_require_text : FnD false P w K mg base 1 (He.ga K "require_text") sp_require_text) (F_number_in : FnD false P w K mg base 1 (He.ga K "number_in") sp_number_in) (F_Levels_of : FnD false P w K mg base 6 (He5.wf K (He.ga K "Levels") "classmethod" "of") sp_Levels_of) (F_levels_text : FnD false P w K mg base 1 (He.ga K "levels_text") sp_levels_text) : BodyD false P w K mg base 6 (He.ga K "parse_levels") N_parse_levels "parse_levels" (defScope (top 61)) (defBody (top 61)) (t_parse_levels K sp_require_tasks sp_require_text sp_number_in sp_Levels_of sp_levels_text) := fun cdv A outer s H E hr hg => (dss_cons (ds_expr (de_call (CalD.fn F_require_tasks (hr.mono (by decide)) nog T.k_require_tasks (takes_of rfl rfl rfl rfl)) T.g_require_tasks (da_cons (dv 0) da_nil))) (dss_cons (ds_expr (de_call (CalD.fn F_require_text (hr.mono (by decide)) nog T.k_require_text (takes_of rfl rfl rfl rfl)) T.g_require_text (da_cons (dv 1) da_nil))) (dss_cons (ds_set 2 sc_parse_levels.nd (de_if (dt_ne (u64 hr) (dv 1) de_str) (de_m1 PySem.F.slot_str_split PySem.F.type_str_split mt_split lift_split (dv 1) de_str) (de_lst da_nil))) (dss_cons (ds_set 3 sc_parse_levels.nd (de_callTy call_tuple_of lift_tupC T.f_tuple bt_tuple (da_cons (de_lc (own := [("part", 4)]) rfl sc_parse_levels.nd (di_seq (dv 2)) (blkOk_by (N := N_parse_levels) (sc := defScope (top 61)) (own := [("part", 4)]) (by decide +kernel)) (fun _ _ _ _ _ => (dg_name 4 sc_parse_levels.nd)) (fun _ _ _ _ _ => dts_nil) (fun _ _ _ _ _ => (de_call (CalD.fn F_number_in (hr.mono (by decide)) nog T.k_number_in tk0) T.g_number_in (da_cons (de_ixA (u1 hr) (de_m1 PySem.F.slot_str_rpartition PySem.F.type_str_rpartition mt_rpart (lift_part (f := Txt.rpartition)) (dv 4) de_str) de_int) da_nil))) (by decide)) da_nil))) (dss_cons (ds_calm (dss_one (ds_set 5 sc_parse_levels.nd (de_cmeth T.r_Levels T.s_Levels_of F_Levels_of (hr.mono (by decide)) nog tk0 (de_globA T.g_Levels) (da_cons (dv 0) (da_cons (dv 3) da_nil)))))) (dss_cons (ds_if (dt_ne (u64 hr) (de_call (CalD.fn F_levels_text (hr.mono (by decide)) nog T.k_levels_text (takes_of rfl rfl rfl rfl)) T.g_levels_text (da_cons (dv 5) da_nil)) (dv 1)) (dss_one ds_never) dss_nil) (dss_one (ds_ret (dv 5)))))))))
theorem ok_parse_levels {sp_require_tasks sp_require_text sp_number_in sp_Levels_of sp_levels_text sp : SpD} (T : Txt K mg) (F_require_tasks : FnD false P w K mg base 1 (He.ga K "require_tasks") sp_require_tasks) (F_require_text : FnD false P w K mg base 1 (He.ga K "require_text") sp_require_text) (F_number_in : FnD false P w K mg base 1 (He.ga K "number_in") sp_number_in) (F_Levels_of : FnD false P w K mg base 6 (He5.wf K (He.ga K "Levels") "classmethod" "of") sp_Levels_of) (F_levels_text : FnD false P w K mg base 1 (He.ga K "levels_text") sp_levels_text) (pure : ∀ ds M Q E, sp ds M Q E → ds.length = 2 ∧ t_parse_levels K sp_require_tasks sp_require_text sp_number_in sp_Levels_of sp_levels_text { nx := fun _ M' => upQ Q .non M', rt := upQ Q, ex := upX E } (startD N_parse_levels ds) M) : FnD false P w K mg base 7 (He.ga K "parse_levels") sp := by
  obtain ⟨fd, F⟩ := T.d_parse_levels
  exact FnD.mk (ps := ["tasks", "text"]) F sc_parse_levels (F.bindsN fun _ _ _ _ _ _ us hl => match us, hl with | [_, _], _ => rfl) ⟨_, wk_parse_levels T F_require_tasks F_require_text F_number_in F_Levels_of F_levels_text, pure⟩
def t_Levels___eq__ (K : PySem.W.Frag) (sp_Tasks___eq__ : SpD) : TSD := (tSeqD (tIfSD (tNotD (tTestD (tCBD (rIsiD K) (tConsD (tVarD 1) (tConsD (tCD (.ref (He.ga K "Levels"))) tNilD))))) (tRetD (tCD (.bl false))) tNextD) (tRetD (tAndVD (tOpD (rOwnD (He.ga K "Tasks") sp_Tasks___eq__ (fun z => z)) (tFldD K "own_tasks" (tVarD 0)) (tFldD K "own_tasks" (tVarD 1))) (tOpD rEqD (tFldD K "own_numbers" (tVarD 0)) (tFldD K "own_numbers" (tVarD 1))))))
theorem wk_Levels___eq__ {sp_Tasks___eq__ : SpD} (T : Txt K mg) (F_Tasks___eq__ : FnD false P w K mg base 1 (He.ma K (He.ga K "Tasks") "__eq__") sp_Tasks___eq__) : BodyD false P w K mg base 1 (He.ma K (He.ga K "Levels") "__eq__") N_Levels___eq__ "Levels.__eq__" (defScope (inCls (top 44) 19)) (defBody (inCls (top 44) 19)) (t_Levels___eq__ K sp_Tasks___eq__) := fun cdv A outer s H E hr hg => (dss_cons (ds_if (dt_not (dt_val (de_callB call_isi lift_isi T.f_isinstance bt_isinstance (da_cons (dv 1) (da_cons (de_globA T.g_Levels) da_nil))))) (dss_one (ds_ret de_bl)) dss_nil) (dss_one (ds_ret (de_and (de_cmp (op_eqOwn T.m_Tasks___eq__.at_ T.m_Tasks___eq__.fn F_Tasks___eq__ (hr.mono (by decide)) nog) lift_own (de_fldK (K := K) rfl (dv 0)) (de_fldK (K := K) rfl (dv 1)) (nomark _)) (de_one (de_eq (u64 hr) (de_fldK (K := K) rfl (dv 0)) (de_fldK (K := K) rfl (dv 1))))))))
theorem ok_Levels___eq__ {sp_Tasks___eq__ sp : SpD} (T : Txt K mg) (F_Tasks___eq__ : FnD false P w K mg base 1 (He.ma K (He.ga K "Tasks") "__eq__") sp_Tasks___eq__) (pure : ∀ ds M Q E, sp ds M Q E → ds.length = 2 ∧ t_Levels___eq__ K sp_Tasks___eq__ { nx := fun _ M' => upQ Q .non M', rt := upQ Q, ex := upX E } (startD N_Levels___eq__ ds) M) : FnD false P w K mg base 2 (He.ma K (He.ga K "Levels") "__eq__") sp := by
  obtain ⟨fd, F⟩ := T.d_Levels___eq__
  exact FnD.mk (ps := ["self", "other"]) F sc_Levels___eq__ (F.bindsN fun _ _ _ _ _ _ us hl => match us, hl with | [_, _], _ => rfl) ⟨_, wk_Levels___eq__ T F_Tasks___eq__, pure⟩
def t_Levels_numbers (K : PySem.W.Frag) : TSD := (tRetD (tFldD K "own_numbers" (tVarD 0)))
theorem wk_Levels_numbers (T : Txt K mg)  : BodyD false P w K mg base 0 (rcA "property" (He.ma K (He.ga K "Levels") "numbers") K) N_Levels_numbers "Levels.numbers" (defScope (inCls (top 44) 5)) (defBody (inCls (top 44) 5)) (t_Levels_numbers K ) := fun cdv A outer s H E hr hg => (dss_one (ds_ret (de_fldK (K := K) rfl (dv 0))))
theorem ok_Levels_numbers {sp : SpD} (T : Txt K mg)  (pure : ∀ ds M Q E, sp ds M Q E → ds.length = 1 ∧ t_Levels_numbers K  { nx := fun _ M' => upQ Q .non M', rt := upQ Q, ex := upX E } (startD N_Levels_numbers ds) M) : FnD false P w K mg base 1 (rcA "property" (He.ma K (He.ga K "Levels") "numbers") K) sp := by
  obtain ⟨fd, F⟩ := T.d_Levels_numbers
  exact FnD.mk (ps := ["self"]) F sc_Levels_numbers (F.bindsN fun _ _ _ _ _ _ us hl => match us, hl with | [_], _ => rfl) ⟨_, wk_Levels_numbers T , pure⟩
def t__law_plan_text (K : PySem.W.Frag) : TSD := (tRetD (tM1D rJoinD (tCD (.str "\n")) (tLcD (tSeqI (tVarD 0)) (gTupD 3 (gConsD (gNameD 1) (gConsD (gNameD 2) (gConsD (gNameD 3) gNilD)))) tYesD (tOpD rAddD (tOpD rAddD (tOpD rAddD (tOpD rAddD (tCBD rStrID (tConsD (tVarD 1) tNilD)) (tCD (.str " "))) (tVarD 2)) (tCD (.str " "))) (tCBD rStrID (tConsD (tVarD 3) tNilD))) [1, 2, 3])))
theorem wk__law_plan_text (T : Txt K mg)  : BodyD false P w K mg base 0 (He.ga K "_law_plan_text") N__law_plan_text "_law_plan_text" (defScope (top 77)) (defBody (top 77)) (t__law_plan_text K ) := fun cdv A outer s H E hr hg => (dss_one (ds_ret (de_m1 PySem.F.slot_str_join PySem.F.type_str_join mt_join lift_join de_str (de_lc (own := [("tick", 1), ("name_here", 2), ("size", 3)]) rfl sc__law_plan_text.nd (di_seq (dv 0)) (blkOk_by (N := N__law_plan_text) (sc := defScope (top 77)) (own := [("tick", 1), ("name_here", 2), ("size", 3)]) (by decide +kernel)) (fun _ _ _ _ _ => (dg_tup rfl (dgs_cons (dg_name 1 sc__law_plan_text.nd) (dgs_cons (dg_name 2 sc__law_plan_text.nd) (dgs_cons (dg_name 3 sc__law_plan_text.nd) dgs_nil))))) (fun _ _ _ _ _ => dts_nil) (fun _ _ _ _ _ => (de_add (de_add (de_add (de_add (de_callTy call_str_int lift_strI T.f_str bt_str (da_cons (dv 1) da_nil)) de_str) (dv 2)) de_str) (de_callTy call_str_int lift_strI T.f_str bt_str (da_cons (dv 3) da_nil)))) (by decide)))))
theorem ok__law_plan_text {sp : SpD} (T : Txt K mg)  (pure : ∀ ds M Q E, sp ds M Q E → ds.length = 1 ∧ t__law_plan_text K  { nx := fun _ M' => upQ Q .non M', rt := upQ Q, ex := upX E } (startD N__law_plan_text ds) M) : FnD false P w K mg base 1 (He.ga K "_law_plan_text") sp := by
  obtain ⟨fd, F⟩ := T.d__law_plan_text
  exact FnD.mk (ps := ["plan"]) F sc__law_plan_text (F.bindsN fun _ _ _ _ _ _ us hl => match us, hl with | [_], _ => rfl) ⟨_, wk__law_plan_text T , pure⟩
def t_is_job (K : PySem.W.Frag) (sp_is_between : SpD) : TSD := (tSeqD (tIfSD (tOrD (tNotD (tTestD (tCBD (rIsiD K) (tConsD (tVarD 1) (tConsD (tCD (.ty "tuple")) tNilD))))) (tOrD (tTestD (tOpD rNeD (tCBD rLenD (tConsD (tVarD 1) tNilD)) (tCD (.int 3)))) (tNotD (tTestD (tCallD sp_is_between (tConsD (tOpD rIxAD (tVarD 1) (tCD (.int 0))) (tConsD (tCD (.int 0)) (tConsD (tCD (.int 20000)) tNilD)))))))) (tRetD (tCD (.bl false))) tNextD) (tSeqD (tIfSD (tOrD (tNotD (tTestD (tCBD (rIsiD K) (tConsD (tOpD rIxAD (tVarD 1) (tCD (.int 1))) (tConsD (tCD (.ty "str")) tNilD))))) (tTestD (tOpD (rInKD fun z => !z) (tOpD rIxAD (tVarD 1) (tCD (.int 1))) (tFldD K "own_spots" (tVarD 0))))) (tRetD (tCD (.bl false))) tNextD) (tRetD (tCallD sp_is_between (tConsD (tOpD rIxAD (tVarD 1) (tCD (.int 2))) (tConsD (tCD (.int 1)) (tConsD (tOpD rIxAD (tOpD rIxAD (tFldD K "own_tasks" (tVarD 0)) (tOpD rIxAD (tFldD K "own_spots" (tVarD 0)) (tOpD rIxAD (tVarD 1) (tCD (.int 1))))) (tCD (.int 1))) tNilD)))))))
theorem wk_is_job {sp_is_between : SpD} (T : Txt K mg) (F_is_between : FnD false P w K mg base 2 (He.ga K "is_between") sp_is_between) : BodyD false P w K mg base 2 (He.ga K "is_job") N_is_job "is_job" (defScope (top 38)) (defBody (top 38)) (t_is_job K sp_is_between) := fun cdv A outer s H E hr hg => (dss_cons (ds_if (dt_w (dw_or (dt_not (dt_val (de_callB call_isi lift_isi T.f_isinstance bt_isinstance (da_cons (dv 1) (da_cons (de_ty T.f_tuple bt_tuple) da_nil))))) (dw_or (dt_ne (u64 hr) (de_callB call_len lift_len T.f_len bt_len (da_cons (dv 1) da_nil)) de_int) (dw_or1 (dt_not (dt_val (de_call (CalD.fn F_is_between (hr.mono (by decide)) nog T.k_is_between (takes_of rfl rfl rfl rfl)) T.g_is_between (da_cons (de_ixA (u1 hr) (dv 1) de_int) (da_cons de_int (da_cons (de_globI T.i_MAX_TICK) da_nil)))))))))) (dss_one (ds_ret de_bl)) dss_nil) (dss_cons (ds_if (dt_w (dw_or (dt_not (dt_val (de_callB call_isi lift_isi T.f_isinstance bt_isinstance (da_cons (de_ixA (u1 hr) (dv 1) de_int) (da_cons (de_ty T.f_str bt_str) da_nil))))) (dw_or1 (dt_notin (u1 hr) (de_ixA (u1 hr) (dv 1) de_int) (de_fldK (K := K) rfl (dv 0)))))) (dss_one (ds_ret de_bl)) dss_nil) (dss_one (ds_ret (de_call (CalD.fn F_is_between (hr.mono (by decide)) nog T.k_is_between (takes_of rfl rfl rfl rfl)) T.g_is_between (da_cons (de_ixA (u1 hr) (dv 1) de_int) (da_cons de_int (da_cons (de_ixA (u1 hr) (de_ixA (u1 hr) (de_fldK (K := K) rfl (dv 0)) (de_ixA (u1 hr) (de_fldK (K := K) rfl (dv 0)) (de_ixA (u1 hr) (dv 1) de_int))) de_int) da_nil))))))))
theorem ok_is_job {sp_is_between sp : SpD} (T : Txt K mg) (F_is_between : FnD false P w K mg base 2 (He.ga K "is_between") sp_is_between) (pure : ∀ ds M Q E, sp ds M Q E → ds.length = 2 ∧ t_is_job K sp_is_between { nx := fun _ M' => upQ Q .non M', rt := upQ Q, ex := upX E } (startD N_is_job ds) M) : FnD false P w K mg base 3 (He.ga K "is_job") sp := by
  obtain ⟨fd, F⟩ := T.d_is_job
  exact FnD.mk (ps := ["tasks", "value"]) F sc_is_job (F.bindsN fun _ _ _ _ _ _ us hl => match us, hl with | [_, _], _ => rfl) ⟨_, wk_is_job T F_is_between, pure⟩
def t_have_gaps (K : PySem.W.Frag) : TSD := (tSeqD (tAsgD tDNewD (gNameD 2)) (tSeqD (tForD (tSeqI (tVarD 1)) (gTupD 3 (gConsD (gNameD 3) (gConsD (gNameD 4) (gConsD (gNameD 5) gNilD)))) (tSeqD (tIfSD (tAndD (tTestD (tOpD rInAD (tVarD 4) (tVarD 2))) (tTestD (tOpD rLtD (tVarD 3) (tOpD rAddD (tOpD rIxAD (tVarD 2) (tVarD 4)) (tOpD rIxAD (tOpD rIxAD (tFldD K "own_tasks" (tVarD 0)) (tOpD rIxAD (tFldD K "own_spots" (tVarD 0)) (tVarD 4))) (tCD (.int 2))))))) (tRetD (tCD (.bl false))) tNextD) (tAsgD (tVarD 3) (gSubD (tVarD 2) (tVarD 4) rPutD)))) (tRetD (tCD (.bl true)))))
theorem wk_have_gaps (T : Txt K mg)  : BodyD false P w K mg base 0 (He.ga K "have_gaps") N_have_gaps "have_gaps" (defScope (top 39)) (defBody (top 39)) (t_have_gaps K ) := fun cdv A outer s H E hr hg => (dss_cons (ds_set 2 sc_have_gaps.nd de_dnew) (dss_cons (ds_for (passes_of rfl) rfl (di_seq (dv 1)) (dg_tup rfl (dgs_cons (dg_name 3 sc_have_gaps.nd) (dgs_cons (dg_name 4 sc_have_gaps.nd) (dgs_cons (dg_name 5 sc_have_gaps.nd) dgs_nil)))) (dss_cons (ds_if (dt_w (dw_and (dt_in (u1 hr) (dv 4) (dv 2)) (dw_and1 (dt_lt (u100 hr) (dv 3) (de_add (de_ixA (u1 hr) (dv 2) (dv 4)) (de_ixA (u1 hr) (de_ixA (u1 hr) (de_fldK (K := K) rfl (dv 0)) (de_ixA (u1 hr) (de_fldK (K := K) rfl (dv 0)) (dv 4))) de_int)))))) (dss_one (ds_ret de_bl)) dss_nil) (dss_one (ds_asg (dv 3) (dg_put (tg := .Name "x" ⟨0, 0, 0, 0⟩) (u1 hr) (dv 2) (dv 4)))))) (dss_one (ds_ret de_bl))))
theorem ok_have_gaps {sp : SpD} (T : Txt K mg)  (pure : ∀ ds M Q E, sp ds M Q E → ds.length = 2 ∧ t_have_gaps K  { nx := fun _ M' => upQ Q .non M', rt := upQ Q, ex := upX E } (startD N_have_gaps ds) M) : FnD false P w K mg base 1 (He.ga K "have_gaps") sp := by
  obtain ⟨fd, F⟩ := T.d_have_gaps
  exact FnD.mk (ps := ["tasks", "jobs"]) F sc_have_gaps (F.bindsN fun _ _ _ _ _ _ us hl => match us, hl with | [_, _], _ => rfl) ⟨_, wk_have_gaps T , pure⟩
def t_is_plan_in (K : PySem.W.Frag) (sp_is_job sp_have_gaps : SpD) : TSD := (tSeqD (tIfSD (tOrD (tNotD (tTestD (tCBD (rIsiD K) (tConsD (tVarD 1) (tConsD (tCD (.ty "tuple")) tNilD))))) (tNotD (tTestD (tCBD (rAllD fun bs => bs.all id) (tConsD (tLcD (tSeqI (tVarD 1)) (gNameD 2) tYesD (tCallD sp_is_job (tConsD (tVarD 0) (tConsD (tVarD 2) tNilD))) [2]) tNilD))))) (tRetD (tCD (.bl false))) tNextD) (tRetD (tAndVD (tCBD (rAllD fun bs => bs.all id) (tConsD (tLcD (tZipD (tConsD (tVarD 1) (tConsD (tSlD (tVarD 1) (tPartD (tCD (.int 1))) tNoPartD) tNilD))) (gTupD 2 (gConsD (gNameD 3) (gConsD (gNameD 4) gNilD))) tYesD (tOpD rLtD (tVarD 3) (tVarD 4)) [3, 4]) tNilD)) (tCallD sp_have_gaps (tConsD (tVarD 0) (tConsD (tVarD 1) tNilD))))))
theorem wk_is_plan_in {sp_is_job sp_have_gaps : SpD} (T : Txt K mg) (F_is_job : FnD false P w K mg base 3 (He.ga K "is_job") sp_is_job) (F_have_gaps : FnD false P w K mg base 1 (He.ga K "have_gaps") sp_have_gaps) : BodyD false P w K mg base 3 (He.ga K "is_plan_in") N_is_plan_in "is_plan_in" (defScope (top 40)) (defBody (top 40)) (t_is_plan_in K sp_is_job sp_have_gaps) := fun cdv A outer s H E hr hg => (dss_cons (ds_if (dt_w (dw_or (dt_not (dt_val (de_callB call_isi lift_isi T.f_isinstance bt_isinstance (da_cons (dv 1) (da_cons (de_ty T.f_tuple bt_tuple) da_nil))))) (dw_or1 (dt_not (dt_val (de_callB (cr_all rfl) lift_allF T.f_all bt_all (da_cons (de_lc (own := [("job", 2)]) rfl sc_is_plan_in.nd (di_seq (dv 1)) (blkOk_by (N := N_is_plan_in) (sc := defScope (top 40)) (own := [("job", 2)]) (by decide +kernel)) (fun _ _ _ _ _ => (dg_name 2 sc_is_plan_in.nd)) (fun _ _ _ _ _ => dts_nil) (fun _ _ _ _ _ => (de_call (CalD.fn F_is_job (hr.mono (by decide)) nog T.k_is_job tk0) T.g_is_job (da_cons (dv 0) (da_cons (dv 2) da_nil)))) (by decide)) da_nil))))))) (dss_one (ds_ret de_bl)) dss_nil) (dss_one (ds_ret (de_and (de_callB (cr_all rfl) lift_allF T.f_all bt_all (da_cons (de_lc (own := [("one", 3), ("other", 4)]) rfl sc_is_plan_in.nd (di_zip T.f_zip (da_cons (dv 1) (da_cons (de_slice (dv 1) (do_some de_int) do_none) da_nil))) (blkOk_by (N := N_is_plan_in) (sc := defScope (top 40)) (own := [("one", 3), ("other", 4)]) (by decide +kernel)) (fun _ _ _ _ _ => (dg_tup rfl (dgs_cons (dg_name 3 sc_is_plan_in.nd) (dgs_cons (dg_name 4 sc_is_plan_in.nd) dgs_nil)))) (fun _ _ _ _ _ => dts_nil) (fun _ _ _ _ _ => (de_lt (u100 hr) (dv 3) (dv 4))) (by decide)) da_nil)) (de_one (de_call (CalD.fn F_have_gaps (hr.mono (by decide)) nog T.k_have_gaps (takes_of rfl rfl rfl rfl)) T.g_have_gaps (da_cons (dv 0) (da_cons (dv 1) da_nil))))))))
theorem ok_is_plan_in {sp_is_job sp_have_gaps sp : SpD} (T : Txt K mg) (F_is_job : FnD false P w K mg base 3 (He.ga K "is_job") sp_is_job) (F_have_gaps : FnD false P w K mg base 1 (He.ga K "have_gaps") sp_have_gaps) (pure : ∀ ds M Q E, sp ds M Q E → ds.length = 2 ∧ t_is_plan_in K sp_is_job sp_have_gaps { nx := fun _ M' => upQ Q .non M', rt := upQ Q, ex := upX E } (startD N_is_plan_in ds) M) : FnD false P w K mg base 4 (He.ga K "is_plan_in") sp := by
  obtain ⟨fd, F⟩ := T.d_is_plan_in
  exact FnD.mk (ps := ["tasks", "value"]) F sc_is_plan_in (F.bindsN fun _ _ _ _ _ _ us hl => match us, hl with | [_, _], _ => rfl) ⟨_, wk_is_plan_in T F_is_job F_have_gaps, pure⟩
def t_require_plan (K : PySem.W.Frag) (sp_is_plan_in : SpD) : TSD := (tIfSD (tNotD (tTestD (tCallD sp_is_plan_in (tConsD (tVarD 0) (tConsD (tVarD 1) tNilD))))) tNeverD tNextD)
theorem wk_require_plan {sp_is_plan_in : SpD} (T : Txt K mg) (F_is_plan_in : FnD false P w K mg base 4 (He.ga K "is_plan_in") sp_is_plan_in) : BodyD false P w K mg base 4 (He.ga K "require_plan") N_require_plan "require_plan" (defScope (top 41)) (defBody (top 41)) (t_require_plan K sp_is_plan_in) := fun cdv A outer s H E hr hg => (dss_one (ds_if (dt_not (dt_val (de_call (CalD.fn F_is_plan_in (hr.mono (by decide)) nog T.k_is_plan_in (takes_of rfl rfl rfl rfl)) T.g_is_plan_in (da_cons (dv 0) (da_cons (dv 1) da_nil))))) (dss_one ds_never) dss_nil))
theorem ok_require_plan {sp_is_plan_in sp : SpD} (T : Txt K mg) (F_is_plan_in : FnD false P w K mg base 4 (He.ga K "is_plan_in") sp_is_plan_in) (pure : ∀ ds M Q E, sp ds M Q E → ds.length = 2 ∧ t_require_plan K sp_is_plan_in { nx := fun _ M' => upQ Q .non M', rt := upQ Q, ex := upX E } (startD N_require_plan ds) M) : FnD false P w K mg base 5 (He.ga K "require_plan") sp := by
  obtain ⟨fd, F⟩ := T.d_require_plan
  exact FnD.mk (ps := ["tasks", "plan"]) F sc_require_plan (F.bindsN fun _ _ _ _ _ _ us hl => match us, hl with | [_, _], _ => rfl) ⟨_, wk_require_plan T F_is_plan_in, pure⟩
def t_plan_lines (K : PySem.W.Frag) : TSD := (tRetD (tLcD (tSeqI (tVarD 0)) (gTupD 3 (gConsD (gNameD 1) (gConsD (gNameD 2) (gConsD (gNameD 3) gNilD)))) tYesD (tJoinedD [(tFmtD (tVarD 1)), (tCD (.str " ")), (tFmtD (tVarD 2)), (tCD (.str " ")), (tFmtD (tVarD 3))]) [1, 2, 3]))
theorem wk_plan_lines (T : Txt K mg)  : BodyD false P w K mg base 0 (He.ga K "plan_lines") N_plan_lines "plan_lines" (defScope (top 62)) (defBody (top 62)) (t_plan_lines K ) := fun cdv A outer s H E hr hg => (dss_one (ds_ret (de_lc (own := [("tick", 1), ("name", 2), ("length", 3)]) rfl sc_plan_lines.nd (di_seq (dv 0)) (blkOk_by (N := N_plan_lines) (sc := defScope (top 62)) (own := [("tick", 1), ("name", 2), ("length", 3)]) (by decide +kernel)) (fun _ _ _ _ _ => (dg_tup rfl (dgs_cons (dg_name 1 sc_plan_lines.nd) (dgs_cons (dg_name 2 sc_plan_lines.nd) (dgs_cons (dg_name 3 sc_plan_lines.nd) dgs_nil))))) (fun _ _ _ _ _ => dts_nil) (fun _ _ _ _ _ => (de_joinedN (.cons (de_fmt (dv 1)) (.cons de_str (.cons (de_fmt (dv 2)) (.cons de_str (.cons (de_fmt (dv 3)) .nil))))))) (by decide))))
theorem ok_plan_lines {sp : SpD} (T : Txt K mg)  (pure : ∀ ds M Q E, sp ds M Q E → ds.length = 1 ∧ t_plan_lines K  { nx := fun _ M' => upQ Q .non M', rt := upQ Q, ex := upX E } (startD N_plan_lines ds) M) : FnD false P w K mg base 1 (He.ga K "plan_lines") sp := by
  obtain ⟨fd, F⟩ := T.d_plan_lines
  exact FnD.mk (ps := ["plan"]) F sc_plan_lines (F.bindsN fun _ _ _ _ _ _ us hl => match us, hl with | [_], _ => rfl) ⟨_, wk_plan_lines T , pure⟩
def t_format_plan (K : PySem.W.Frag) (sp_require_tasks sp_require_plan sp_plan_lines : SpD) : TSD := (tSeqD (tDropD (tCallD sp_require_tasks (tConsD (tVarD 0) tNilD))) (tSeqD (tDropD (tCallD sp_require_plan (tConsD (tVarD 0) (tConsD (tVarD 1) tNilD)))) (tRetD (tM1D rJoinD (tCD (.str "\n")) (tCallD sp_plan_lines (tConsD (tVarD 1) tNilD))))))
theorem wk_format_plan {sp_require_tasks sp_require_plan sp_plan_lines : SpD} (T : Txt K mg) (F_require_tasks : FnD false P w K mg base 1 (He.ga K "require_tasks") sp_require_tasks) (F_require_plan : FnD false P w K mg base 5 (He.ga K "require_plan") sp_require_plan) (F_plan_lines : FnD false P w K mg base 1 (He.ga K "plan_lines") sp_plan_lines) : BodyD false P w K mg base 5 (He.ga K "format_plan") N_format_plan "format_plan" (defScope (top 64)) (defBody (top 64)) (t_format_plan K sp_require_tasks sp_require_plan sp_plan_lines) := fun cdv A outer s H E hr hg => (dss_cons (ds_expr (de_call (CalD.fn F_require_tasks (hr.mono (by decide)) nog T.k_require_tasks (takes_of rfl rfl rfl rfl)) T.g_require_tasks (da_cons (dv 0) da_nil))) (dss_cons (ds_expr (de_call (CalD.fn F_require_plan (hr.mono (by decide)) nog T.k_require_plan (takes_of rfl rfl rfl rfl)) T.g_require_plan (da_cons (dv 0) (da_cons (dv 1) da_nil)))) (dss_one (ds_ret (de_m1 PySem.F.slot_str_join PySem.F.type_str_join mt_join lift_join de_str (de_call (CalD.fn F_plan_lines (hr.mono (by decide)) nog T.k_plan_lines (takes_of rfl rfl rfl rfl)) T.g_plan_lines (da_cons (dv 1) da_nil)))))))
theorem ok_format_plan {sp_require_tasks sp_require_plan sp_plan_lines sp : SpD} (T : Txt K mg) (F_require_tasks : FnD false P w K mg base 1 (He.ga K "require_tasks") sp_require_tasks) (F_require_plan : FnD false P w K mg base 5 (He.ga K "require_plan") sp_require_plan) (F_plan_lines : FnD false P w K mg base 1 (He.ga K "plan_lines") sp_plan_lines) (pure : ∀ ds M Q E, sp ds M Q E → ds.length = 2 ∧ t_format_plan K sp_require_tasks sp_require_plan sp_plan_lines { nx := fun _ M' => upQ Q .non M', rt := upQ Q, ex := upX E } (startD N_format_plan ds) M) : FnD false P w K mg base 6 (He.ga K "format_plan") sp := by
  obtain ⟨fd, F⟩ := T.d_format_plan
  exact FnD.mk (ps := ["tasks", "plan"]) F sc_format_plan (F.bindsN fun _ _ _ _ _ _ us hl => match us, hl with | [_, _], _ => rfl) ⟨_, wk_format_plan T F_require_tasks F_require_plan F_plan_lines, pure⟩
def t_job_in (K : PySem.W.Frag) (sp_number_in : SpD) : TSD := (tSeqD (tAsgD (tM1D rSplitD (tVarD 0) (tCD (.str " "))) (gNameD 1)) (tSeqD (tIfSD (tTestD (tOpD rNeD (tCBD rLenD (tConsD (tVarD 1) tNilD)) (tCD (.int 3)))) tNeverD tNextD) (tRetD (tTupD (tConsD (tCallD sp_number_in (tConsD (tOpD rIxAD (tVarD 1) (tCD (.int 0))) tNilD)) (tConsD (tOpD rIxAD (tVarD 1) (tCD (.int 1))) (tConsD (tCallD sp_number_in (tConsD (tOpD rIxAD (tVarD 1) (tCD (.int 2))) tNilD)) tNilD)))))))
theorem wk_job_in {sp_number_in : SpD} (T : Txt K mg) (F_number_in : FnD false P w K mg base 1 (He.ga K "number_in") sp_number_in) : BodyD false P w K mg base 1 (He.ga K "job_in") N_job_in "job_in" (defScope (top 63)) (defBody (top 63)) (t_job_in K sp_number_in) := fun cdv A outer s H E hr hg => (dss_cons (ds_set 1 sc_job_in.nd (de_m1 PySem.F.slot_str_split PySem.F.type_str_split mt_split lift_split (dv 0) de_str)) (dss_cons (ds_if (dt_ne (u64 hr) (de_callB call_len lift_len T.f_len bt_len (da_cons (dv 1) da_nil)) de_int) (dss_one ds_never) dss_nil) (dss_one (ds_ret (de_tup (da_cons (de_call (CalD.fn F_number_in (hr.mono (by decide)) nog T.k_number_in (takes_of rfl rfl rfl rfl)) T.g_number_in (da_cons (de_ixA (u1 hr) (dv 1) de_int) da_nil)) (da_cons (de_ixA (u1 hr) (dv 1) de_int) (da_cons (de_call (CalD.fn F_number_in (hr.mono (by decide)) nog T.k_number_in (takes_of rfl rfl rfl rfl)) T.g_number_in (da_cons (de_ixA (u1 hr) (dv 1) de_int) da_nil)) da_nil))))))))
theorem ok_job_in {sp_number_in sp : SpD} (T : Txt K mg) (F_number_in : FnD false P w K mg base 1 (He.ga K "number_in") sp_number_in) (pure : ∀ ds M Q E, sp ds M Q E → ds.length = 1 ∧ t_job_in K sp_number_in { nx := fun _ M' => upQ Q .non M', rt := upQ Q, ex := upX E } (startD N_job_in ds) M) : FnD false P w K mg base 2 (He.ga K "job_in") sp := by
  obtain ⟨fd, F⟩ := T.d_job_in
  exact FnD.mk (ps := ["line"]) F sc_job_in (F.bindsN fun _ _ _ _ _ _ us hl => match us, hl with | [_], _ => rfl) ⟨_, wk_job_in T F_number_in, pure⟩
def t_parse_plan (K : PySem.W.Frag) (sp_require_tasks sp_require_text sp_lines_in sp_job_in sp_is_plan_in sp_plan_lines : SpD) : TSD := (tSeqD (tDropD (tCallD sp_require_tasks (tConsD (tVarD 0) tNilD))) (tSeqD (tDropD (tCallD sp_require_text (tConsD (tVarD 1) tNilD))) (tSeqD (tAsgD (tCBD rTupD (tConsD (tLcD (tSeqI (tCallD sp_lines_in (tConsD (tVarD 1) tNilD))) (gNameD 3) tYesD (tCallD sp_job_in (tConsD (tVarD 3) tNilD)) [3]) tNilD)) (gNameD 2)) (tSeqD (tIfSD (tOrD (tNotD (tTestD (tCallD sp_is_plan_in (tConsD (tVarD 0) (tConsD (tVarD 2) tNilD))))) (tTestD (tOpD rNeD (tM1D rJoinD (tCD (.str "\n")) (tCallD sp_plan_lines (tConsD (tVarD 2) tNilD))) (tVarD 1)))) tNeverD tNextD) (tRetD (tVarD 2))))))
theorem wk_parse_plan {sp_require_tasks sp_require_text sp_lines_in sp_job_in sp_is_plan_in sp_plan_lines : SpD} (T : Txt K mg) (F_require_tasks : FnD false P w K mg base 1 (He.ga K "require_tasks") sp_require_tasks) (F_require_text : FnD false P w K mg base 1 (He.ga K "require_text") sp_require_text) (F_lines_in : FnD false P w K mg base 1 (He.ga K "lines_in") sp_lines_in) (F_job_in : FnD false P w K mg base 2 (He.ga K "job_in") sp_job_in) (F_is_plan_in : FnD false P w K mg base 4 (He.ga K "is_plan_in") sp_is_plan_in) (F_plan_lines : FnD false P w K mg base 1 (He.ga K "plan_lines") sp_plan_lines) : BodyD false P w K mg base 4 (He.ga K "parse_plan") N_parse_plan "parse_plan" (defScope (top 65)) (defBody (top 65)) (t_parse_plan K sp_require_tasks sp_require_text sp_lines_in sp_job_in sp_is_plan_in sp_plan_lines) := fun cdv A outer s H E hr hg => (dss_cons (ds_expr (de_call (CalD.fn F_require_tasks (hr.mono (by decide)) nog T.k_require_tasks (takes_of rfl rfl rfl rfl)) T.g_require_tasks (da_cons (dv 0) da_nil))) (dss_cons (ds_expr (de_call (CalD.fn F_require_text (hr.mono (by decide)) nog T.k_require_text (takes_of rfl rfl rfl rfl)) T.g_require_text (da_cons (dv 1) da_nil))) (dss_cons (ds_set 2 sc_parse_plan.nd (de_callTy call_tuple_of lift_tupC T.f_tuple bt_tuple (da_cons (de_lc (own := [("line", 3)]) rfl sc_parse_plan.nd (di_seq (de_call (CalD.fn F_lines_in (hr.mono (by decide)) nog T.k_lines_in (takes_of rfl rfl rfl rfl)) T.g_lines_in (da_cons (dv 1) da_nil))) (blkOk_by (N := N_parse_plan) (sc := defScope (top 65)) (own := [("line", 3)]) (by decide +kernel)) (fun _ _ _ _ _ => (dg_name 3 sc_parse_plan.nd)) (fun _ _ _ _ _ => dts_nil) (fun _ _ _ _ _ => (de_call (CalD.fn F_job_in (hr.mono (by decide)) nog T.k_job_in tk0) T.g_job_in (da_cons (dv 3) da_nil))) (by decide)) da_nil))) (dss_cons (ds_if (dt_w (dw_or (dt_not (dt_val (de_call (CalD.fn F_is_plan_in (hr.mono (by decide)) nog T.k_is_plan_in (takes_of rfl rfl rfl rfl)) T.g_is_plan_in (da_cons (dv 0) (da_cons (dv 2) da_nil))))) (dw_or1 (dt_ne (u64 hr) (de_m1 PySem.F.slot_str_join PySem.F.type_str_join mt_join lift_join de_str (de_call (CalD.fn F_plan_lines (hr.mono (by decide)) nog T.k_plan_lines (takes_of rfl rfl rfl rfl)) T.g_plan_lines (da_cons (dv 2) da_nil))) (dv 1))))) (dss_one ds_never) dss_nil) (dss_one (ds_ret (dv 2)))))))
theorem ok_parse_plan {sp_require_tasks sp_require_text sp_lines_in sp_job_in sp_is_plan_in sp_plan_lines sp : SpD} (T : Txt K mg) (F_require_tasks : FnD false P w K mg base 1 (He.ga K "require_tasks") sp_require_tasks) (F_require_text : FnD false P w K mg base 1 (He.ga K "require_text") sp_require_text) (F_lines_in : FnD false P w K mg base 1 (He.ga K "lines_in") sp_lines_in) (F_job_in : FnD false P w K mg base 2 (He.ga K "job_in") sp_job_in) (F_is_plan_in : FnD false P w K mg base 4 (He.ga K "is_plan_in") sp_is_plan_in) (F_plan_lines : FnD false P w K mg base 1 (He.ga K "plan_lines") sp_plan_lines) (pure : ∀ ds M Q E, sp ds M Q E → ds.length = 2 ∧ t_parse_plan K sp_require_tasks sp_require_text sp_lines_in sp_job_in sp_is_plan_in sp_plan_lines { nx := fun _ M' => upQ Q .non M', rt := upQ Q, ex := upX E } (startD N_parse_plan ds) M) : FnD false P w K mg base 5 (He.ga K "parse_plan") sp := by
  obtain ⟨fd, F⟩ := T.d_parse_plan
  exact FnD.mk (ps := ["tasks", "text"]) F sc_parse_plan (F.bindsN fun _ _ _ _ _ _ us hl => match us, hl with | [_, _], _ => rfl) ⟨_, wk_parse_plan T F_require_tasks F_require_text F_lines_in F_job_in F_is_plan_in F_plan_lines, pure⟩
def t__law_right (K : PySem.W.Frag) (sp__law_some sp__law_numbers sp__law_plan sp_Tasks_of sp_Levels_of sp__law_great sp__law_task_text sp_format_task sp_parse_task sp_format_tasks sp_parse_tasks sp_Tasks___eq__ sp_Tasks_tasks sp__law_levels_text sp_format_levels sp_parse_levels sp_Levels___eq__ sp_Levels_numbers sp__law_plan_text sp_format_plan sp_parse_plan : SpD) : TSD := (tSeqD (tAsgD (tCallD sp__law_some (tConsD (tVarD 0) (tConsD (tCD (.int 5)) tNilD))) (gNameD 1)) (tSeqD (tParD 2 3 (tConsD (tCallD sp__law_numbers (tConsD (tVarD 0) (tConsD (tVarD 1) tNilD))) (tConsD (tCallD sp__law_plan (tConsD (tVarD 0) (tConsD (tVarD 1) (tConsD (tCD (.int 30)) tNilD)))) tNilD))) (tSeqD (tAsgD (tCMethD (He.ga K "Tasks") sp_Tasks_of (tCD (.ref (He.ga K "Tasks"))) (tConsD (tVarD 1) tNilD)) (gNameD 4)) (tSeqD (tAsgD (tCMethD (He.ga K "Levels") sp_Levels_of (tCD (.ref (He.ga K "Levels"))) (tConsD (tVarD 4) (tConsD (tVarD 2) tNilD))) (gNameD 5)) (tSeqD (tForD (tSeqI (tOpD rAddD (tVarD 1) (tTupD (tConsD (tCallD sp__law_great (tConsD (tVarD 0) tNilD)) tNilD)))) (gNameD 6) (tSeqD (tAsgD (tCallD sp__law_task_text (tConsD (tVarD 6) tNilD)) (gNameD 7)) (tIfSD (tOrD (tTestD (tOpD rNeD (tCallD sp_format_task (tConsD (tVarD 6) tNilD)) (tVarD 7))) (tTestD (tOpD rNeD (tCBD rReprD (tConsD (tCallD sp_parse_task (tConsD (tVarD 7) tNilD)) tNilD)) (tCBD rReprD (tConsD (tVarD 6) tNilD))))) (tRetD (tCD (.bl false))) tNextD))) (tSeqD (tAsgD (tM1D rJoinD (tCD (.str "\n")) (tLcD (tSeqI (tVarD 1)) (gNameD 6) tYesD (tCallD sp__law_task_text (tConsD (tVarD 6) tNilD)) [6])) (gNameD 7)) (tSeqD (tIfSD (tOrD (tTestD (tOpD rNeD (tCallD sp_format_tasks (tConsD (tVarD 4) tNilD)) (tVarD 7))) (tOrD (tTestD (tOpD (rOwnD (He.ga K "Tasks") sp_Tasks___eq__ (fun z => !z)) (tCallD sp_parse_tasks (tConsD (tVarD 7) tNilD)) (tVarD 4))) (tTestD (tOpD rNeD (tCBD rReprD (tConsD (tPropD (He.ga K "Tasks") sp_Tasks_tasks (tCallD sp_parse_tasks (tConsD (tVarD 7) tNilD))) tNilD)) (tCBD rReprD (tConsD (tVarD 1) tNilD)))))) (tRetD (tCD (.bl false))) tNextD) (tSeqD (tAsgD (tCallD sp__law_levels_text (tConsD (tVarD 1) (tConsD (tVarD 2) tNilD))) (gNameD 7)) (tSeqD (tIfSD (tOrD (tTestD (tOpD rNeD (tCallD sp_format_levels (tConsD (tVarD 5) tNilD)) (tVarD 7))) (tOrD (tTestD (tOpD (rOwnD (He.ga K "Levels") sp_Levels___eq__ (fun z => !z)) (tCallD sp_parse_levels (tConsD (tVarD 4) (tConsD (tVarD 7) tNilD))) (tVarD 5))) (tTestD (tOpD rNeD (tPropD (He.ga K "Levels") sp_Levels_numbers (tCallD sp_parse_levels (tConsD (tVarD 4) (tConsD (tVarD 7) tNilD)))) (tVarD 2))))) (tRetD (tCD (.bl false))) tNextD) (tSeqD (tAsgD (tCallD sp__law_plan_text (tConsD (tVarD 3) tNilD)) (gNameD 7)) (tRetD (tAndVD (tOpD rEqD (tCallD sp_format_plan (tConsD (tVarD 4) (tConsD (tVarD 3) tNilD))) (tVarD 7)) (tOpD rEqD (tCBD rReprD (tConsD (tCallD sp_parse_plan (tConsD (tVarD 4) (tConsD (tVarD 7) tNilD))) tNilD)) (tCBD rReprD (tConsD (tVarD 3) tNilD)))))))))))))))
theorem wk__law_right {sp__law_some sp__law_numbers sp__law_plan sp_Tasks_of sp_Levels_of sp__law_great sp__law_task_text sp_format_task sp_parse_task sp_format_tasks sp_parse_tasks sp_Tasks___eq__ sp_Tasks_tasks sp__law_levels_text sp_format_levels sp_parse_levels sp_Levels___eq__ sp_Levels_numbers sp__law_plan_text sp_format_plan sp_parse_plan : SpD} (T : Txt K mg) (F__law_some : FnD false P w K mg base 4 (He.ga K "_law_some") sp__law_some) (F__law_numbers : FnD false P w K mg base 3 (He.ga K "_law_numbers") sp__law_numbers) (F__law_plan : FnD false P w K mg base 3 (He.ga K "_law_plan") sp__law_plan) (F_Tasks_of : FnD false P w K mg base 9 (He5.wf K (He.ga K "Tasks") "classmethod" "of") sp_Tasks_of) (F_Levels_of : FnD false P w K mg base 6 (He5.wf K (He.ga K "Levels") "classmethod" "of") sp_Levels_of) (F__law_great : FnD false P w K mg base 3 (He.ga K "_law_great") sp__law_great) (F__law_task_text : FnD false P w K mg base 1 (He.ga K "_law_task_text") sp__law_task_text) (F_format_task : FnD false P w K mg base 7 (He.ga K "format_task") sp_format_task) (F_parse_task : FnD false P w K mg base 6 (He.ga K "parse_task") sp_parse_task) (F_format_tasks : FnD false P w K mg base 2 (He.ga K "format_tasks") sp_format_tasks) (F_parse_tasks : FnD false P w K mg base 10 (He.ga K "parse_tasks") sp_parse_tasks) (F_Tasks___eq__ : FnD false P w K mg base 1 (He.ma K (He.ga K "Tasks") "__eq__") sp_Tasks___eq__) (F_Tasks_tasks : FnD false P w K mg base 1 (rcA "property" (He.ma K (He.ga K "Tasks") "tasks") K) sp_Tasks_tasks) (F__law_levels_text : FnD false P w K mg base 1 (He.ga K "_law_levels_text") sp__law_levels_text) (F_format_levels : FnD false P w K mg base 2 (He.ga K "format_levels") sp_format_levels) (F_parse_levels : FnD false P w K mg base 7 (He.ga K "parse_levels") sp_parse_levels) (F_Levels___eq__ : FnD false P w K mg base 2 (He.ma K (He.ga K "Levels") "__eq__") sp_Levels___eq__) (F_Levels_numbers : FnD false P w K mg base 1 (rcA "property" (He.ma K (He.ga K "Levels") "numbers") K) sp_Levels_numbers) (F__law_plan_text : FnD false P w K mg base 1 (He.ga K "_law_plan_text") sp__law_plan_text) (F_format_plan : FnD false P w K mg base 6 (He.ga K "format_plan") sp_format_plan) (F_parse_plan : FnD false P w K mg base 5 (He.ga K "parse_plan") sp_parse_plan) : BodyD true P w K mg base 10 (He.ga K "_law_right") N__law_right "_law_right" (defScope (top 80)) (defBody (top 80)) (t__law_right K sp__law_some sp__law_numbers sp__law_plan sp_Tasks_of sp_Levels_of sp__law_great sp__law_task_text sp_format_task sp_parse_task sp_format_tasks sp_parse_tasks sp_Tasks___eq__ sp_Tasks_tasks sp__law_levels_text sp_format_levels sp_parse_levels sp_Levels___eq__ sp_Levels_numbers sp__law_plan_text sp_format_plan sp_parse_plan) := fun cdv A outer s H E hr hg => (dss_cons (ds_set 1 sc__law_right.nd (de_call (CalD.fn F__law_some (hr.mono (by decide)) nog T.k__law_some (takes_of rfl rfl rfl rfl)) T.g__law_some (da_cons (dv 0) (da_cons de_int da_nil)))) (dss_cons (ds_par 2 3 rfl sc__law_right.nd (da_cons (de_call (CalD.fn F__law_numbers (hr.mono (by decide)) nog T.k__law_numbers (takes_of rfl rfl rfl rfl)) T.g__law_numbers (da_cons (dv 0) (da_cons (dv 1) da_nil))) (da_cons (de_call (CalD.fn F__law_plan (hr.mono (by decide)) nog T.k__law_plan (takes_of rfl rfl rfl rfl)) T.g__law_plan (da_cons (dv 0) (da_cons (dv 1) (da_cons de_int da_nil)))) da_nil))) (dss_cons (ds_set 4 sc__law_right.nd (de_cmeth T.r_Tasks T.s_Tasks_of F_Tasks_of (hr.mono (by decide)) nog (takes_of rfl rfl rfl rfl) (de_globA T.g_Tasks) (da_cons (dv 1) da_nil))) (dss_cons (ds_set 5 sc__law_right.nd (de_cmeth T.r_Levels T.s_Levels_of F_Levels_of (hr.mono (by decide)) nog (takes_of rfl rfl rfl rfl) (de_globA T.g_Levels) (da_cons (dv 4) (da_cons (dv 2) da_nil)))) (dss_cons (ds_for (passes_of rfl) rfl (di_seq (de_add (dv 1) (de_tup (da_cons (de_call (CalD.fn F__law_great (hr.mono (by decide)) nog T.k__law_great (takes_of rfl rfl rfl rfl)) T.g__law_great (da_cons (dv 0) da_nil)) da_nil)))) (dg_name 6 sc__law_right.nd) (dss_cons (ds_set 7 sc__law_right.nd (de_call (CalD.fn F__law_task_text (hr.mono (by decide)) nog T.k__law_task_text (takes_of rfl rfl rfl rfl)) T.g__law_task_text (da_cons (dv 6) da_nil))) (dss_one (ds_if (dt_w (dw_or (dt_ne (u64 hr) (de_call (CalD.fn F_format_task (hr.mono (by decide)) nog T.k_format_task (takes_of rfl rfl rfl rfl)) T.g_format_task (da_cons (dv 6) da_nil)) (dv 7)) (dw_or1 (dt_ne (u64 hr) (de_callB (call_reprV (hg rfl) (u102 hr)) lift_repr T.f_repr bt_repr (da_cons (de_call (CalD.fn F_parse_task (hr.mono (by decide)) nog T.k_parse_task (takes_of rfl rfl rfl rfl)) T.g_parse_task (da_cons (dv 7) da_nil)) da_nil)) (de_callB (call_reprV (hg rfl) (u102 hr)) lift_repr T.f_repr bt_repr (da_cons (dv 6) da_nil)))))) (dss_one (ds_ret de_bl)) dss_nil)))) (dss_cons (ds_set 7 sc__law_right.nd (de_m1 PySem.F.slot_str_join PySem.F.type_str_join mt_join lift_join de_str (de_lc (own := [("line", 6)]) rfl sc__law_right.nd (di_seq (dv 1)) (blkOk_by (N := N__law_right) (sc := defScope (top 80)) (own := [("line", 6)]) (by decide +kernel)) (fun _ _ _ _ _ => (dg_name 6 sc__law_right.nd)) (fun _ _ _ _ _ => dts_nil) (fun _ _ _ _ _ => (de_call (CalD.fn F__law_task_text (hr.mono (by decide)) nog T.k__law_task_text tk0) T.g__law_task_text (da_cons (dv 6) da_nil))) (by decide)))) (dss_cons (ds_if (dt_w (dw_or (dt_ne (u64 hr) (de_call (CalD.fn F_format_tasks (hr.mono (by decide)) nog T.k_format_tasks (takes_of rfl rfl rfl rfl)) T.g_format_tasks (da_cons (dv 4) da_nil)) (dv 7)) (dw_or (dt_cmp (op_neOwn T.m_Tasks___eq__.at_ T.m_Tasks___eq__.fn T.k_Tasks.ne T.k_Tasks.cm F_Tasks___eq__ (hr.mono (by decide)) nog) lift_own (de_call (CalD.fn F_parse_tasks (hr.mono (by decide)) nog T.k_parse_tasks (takes_of rfl rfl rfl rfl)) T.g_parse_tasks (da_cons (dv 7) da_nil)) (dv 4) (nomark _)) (dw_or1 (dt_ne (u64 hr) (de_callB (call_reprV (hg rfl) (u102 hr)) lift_repr T.f_repr bt_repr (da_cons (de_prop T.c_Tasks T.p_Tasks_tasks F_Tasks_tasks (hr.mono (by decide)) nog (de_call (CalD.fn F_parse_tasks (hr.mono (by decide)) nog T.k_parse_tasks (takes_of rfl rfl rfl rfl)) T.g_parse_tasks (da_cons (dv 7) da_nil))) da_nil)) (de_callB (call_reprV (hg rfl) (u102 hr)) lift_repr T.f_repr bt_repr (da_cons (dv 1) da_nil))))))) (dss_one (ds_ret de_bl)) dss_nil) (dss_cons (ds_set 7 sc__law_right.nd (de_call (CalD.fn F__law_levels_text (hr.mono (by decide)) nog T.k__law_levels_text (takes_of rfl rfl rfl rfl)) T.g__law_levels_text (da_cons (dv 1) (da_cons (dv 2) da_nil)))) (dss_cons (ds_if (dt_w (dw_or (dt_ne (u64 hr) (de_call (CalD.fn F_format_levels (hr.mono (by decide)) nog T.k_format_levels (takes_of rfl rfl rfl rfl)) T.g_format_levels (da_cons (dv 5) da_nil)) (dv 7)) (dw_or (dt_cmp (op_neOwn T.m_Levels___eq__.at_ T.m_Levels___eq__.fn T.k_Levels.ne T.k_Levels.cm F_Levels___eq__ (hr.mono (by decide)) nog) lift_own (de_call (CalD.fn F_parse_levels (hr.mono (by decide)) nog T.k_parse_levels (takes_of rfl rfl rfl rfl)) T.g_parse_levels (da_cons (dv 4) (da_cons (dv 7) da_nil))) (dv 5) (nomark _)) (dw_or1 (dt_ne (u64 hr) (de_prop T.c_Levels T.p_Levels_numbers F_Levels_numbers (hr.mono (by decide)) nog (de_call (CalD.fn F_parse_levels (hr.mono (by decide)) nog T.k_parse_levels (takes_of rfl rfl rfl rfl)) T.g_parse_levels (da_cons (dv 4) (da_cons (dv 7) da_nil)))) (dv 2)))))) (dss_one (ds_ret de_bl)) dss_nil) (dss_cons (ds_set 7 sc__law_right.nd (de_call (CalD.fn F__law_plan_text (hr.mono (by decide)) nog T.k__law_plan_text (takes_of rfl rfl rfl rfl)) T.g__law_plan_text (da_cons (dv 3) da_nil))) (dss_one (ds_ret (de_and (de_eq (u64 hr) (de_call (CalD.fn F_format_plan (hr.mono (by decide)) nog T.k_format_plan (takes_of rfl rfl rfl rfl)) T.g_format_plan (da_cons (dv 4) (da_cons (dv 3) da_nil))) (dv 7)) (de_one (de_eq (u64 hr) (de_callB (call_reprV (hg rfl) (u102 hr)) lift_repr T.f_repr bt_repr (da_cons (de_call (CalD.fn F_parse_plan (hr.mono (by decide)) nog T.k_parse_plan (takes_of rfl rfl rfl rfl)) T.g_parse_plan (da_cons (dv 4) (da_cons (dv 7) da_nil))) da_nil)) (de_callB (call_reprV (hg rfl) (u102 hr)) lift_repr T.f_repr bt_repr (da_cons (dv 3) da_nil)))))))))))))))))
theorem ok__law_right {sp__law_some sp__law_numbers sp__law_plan sp_Tasks_of sp_Levels_of sp__law_great sp__law_task_text sp_format_task sp_parse_task sp_format_tasks sp_parse_tasks sp_Tasks___eq__ sp_Tasks_tasks sp__law_levels_text sp_format_levels sp_parse_levels sp_Levels___eq__ sp_Levels_numbers sp__law_plan_text sp_format_plan sp_parse_plan sp : SpD} (T : Txt K mg) (F__law_some : FnD false P w K mg base 4 (He.ga K "_law_some") sp__law_some) (F__law_numbers : FnD false P w K mg base 3 (He.ga K "_law_numbers") sp__law_numbers) (F__law_plan : FnD false P w K mg base 3 (He.ga K "_law_plan") sp__law_plan) (F_Tasks_of : FnD false P w K mg base 9 (He5.wf K (He.ga K "Tasks") "classmethod" "of") sp_Tasks_of) (F_Levels_of : FnD false P w K mg base 6 (He5.wf K (He.ga K "Levels") "classmethod" "of") sp_Levels_of) (F__law_great : FnD false P w K mg base 3 (He.ga K "_law_great") sp__law_great) (F__law_task_text : FnD false P w K mg base 1 (He.ga K "_law_task_text") sp__law_task_text) (F_format_task : FnD false P w K mg base 7 (He.ga K "format_task") sp_format_task) (F_parse_task : FnD false P w K mg base 6 (He.ga K "parse_task") sp_parse_task) (F_format_tasks : FnD false P w K mg base 2 (He.ga K "format_tasks") sp_format_tasks) (F_parse_tasks : FnD false P w K mg base 10 (He.ga K "parse_tasks") sp_parse_tasks) (F_Tasks___eq__ : FnD false P w K mg base 1 (He.ma K (He.ga K "Tasks") "__eq__") sp_Tasks___eq__) (F_Tasks_tasks : FnD false P w K mg base 1 (rcA "property" (He.ma K (He.ga K "Tasks") "tasks") K) sp_Tasks_tasks) (F__law_levels_text : FnD false P w K mg base 1 (He.ga K "_law_levels_text") sp__law_levels_text) (F_format_levels : FnD false P w K mg base 2 (He.ga K "format_levels") sp_format_levels) (F_parse_levels : FnD false P w K mg base 7 (He.ga K "parse_levels") sp_parse_levels) (F_Levels___eq__ : FnD false P w K mg base 2 (He.ma K (He.ga K "Levels") "__eq__") sp_Levels___eq__) (F_Levels_numbers : FnD false P w K mg base 1 (rcA "property" (He.ma K (He.ga K "Levels") "numbers") K) sp_Levels_numbers) (F__law_plan_text : FnD false P w K mg base 1 (He.ga K "_law_plan_text") sp__law_plan_text) (F_format_plan : FnD false P w K mg base 6 (He.ga K "format_plan") sp_format_plan) (F_parse_plan : FnD false P w K mg base 5 (He.ga K "parse_plan") sp_parse_plan) (pure : ∀ ds M Q E, sp ds M Q E → ds.length = 1 ∧ t__law_right K sp__law_some sp__law_numbers sp__law_plan sp_Tasks_of sp_Levels_of sp__law_great sp__law_task_text sp_format_task sp_parse_task sp_format_tasks sp_parse_tasks sp_Tasks___eq__ sp_Tasks_tasks sp__law_levels_text sp_format_levels sp_parse_levels sp_Levels___eq__ sp_Levels_numbers sp__law_plan_text sp_format_plan sp_parse_plan { nx := fun _ M' => upQ Q .non M', rt := upQ Q, ex := upX E } (startD N__law_right ds) M) : FnD true P w K mg base 11 (He.ga K "_law_right") sp := by
  obtain ⟨fd, F⟩ := T.d__law_right
  exact FnD.mk (ps := ["stream"]) F sc__law_right (F.bindsN fun _ _ _ _ _ _ us hl => match us, hl with | [_], _ => rfl) ⟨_, wk__law_right T F__law_some F__law_numbers F__law_plan F_Tasks_of F_Levels_of F__law_great F__law_task_text F_format_task F_parse_task F_format_tasks F_parse_tasks F_Tasks___eq__ F_Tasks_tasks F__law_levels_text F_format_levels F_parse_levels F_Levels___eq__ F_Levels_numbers F__law_plan_text F_format_plan F_parse_plan, pure⟩
def t_law (K : PySem.W.Frag) (sp__law_stream sp__law_right sp_Tasks_of sp_format_plan sp_format_levels sp_Levels_of sp_format_tasks sp_parse_tasks sp_Tasks___eq__ sp_parse_levels sp_Levels_numbers sp_parse_plan sp__law_plan_text : SpD) : TSD := (tSeqD (tForD (tRng1D (tConsD (tCBD rMax2D (tConsD (tCD (.int 1)) (tConsD (tCBD rMin2D (tConsD (tCD (.int 6)) (tConsD (tCBD rLenD (tConsD (tVarD 0) tNilD)) tNilD))) tNilD))) tNilD)) (gNameD 1) (tSeqD (tAsgD (tCallD sp__law_stream (tConsD (tVarD 0) (tConsD (tVarD 1) tNilD))) (gNameD 2)) (tForD (tRng1D (tConsD (tCD (.int 4)) tNilD)) (gNameD 3) (tIfSD (tNotD (tTestD (tCallD sp__law_right (tConsD (tVarD 2) tNilD)))) (tRetD (tCD (.bl false))) tNextD)))) (tSeqD (tAsgD (tCMethD (He.ga K "Tasks") sp_Tasks_of (tCD (.ref (He.ga K "Tasks"))) (tConsD (tTupD tNilD) tNilD)) (gNameD 4)) (tSeqD (tAsgD (tLstD (tConsD (tCallD sp_format_tasks (tConsD (tVarD 4) tNilD)) (tConsD (tCallD sp_format_levels (tConsD (tCMethD (He.ga K "Levels") sp_Levels_of (tCD (.ref (He.ga K "Levels"))) (tConsD (tVarD 4) (tConsD (tTupD tNilD) tNilD))) tNilD)) (tConsD (tCallD sp_format_plan (tConsD (tVarD 4) (tConsD (tTupD tNilD) tNilD))) tNilD)))) (gNameD 5)) (tSeqD (tIfSD (tOrD (tTestD (tOpD rNeD (tVarD 5) (tOpD rMulD (tLstD (tConsD (tCD (.str "")) tNilD)) (tCD (.int 3))))) (tTestD (tOpD (rOwnD (He.ga K "Tasks") sp_Tasks___eq__ (fun z => !z)) (tCallD sp_parse_tasks (tConsD (tCD (.str "")) tNilD)) (tVarD 4)))) (tRetD (tCD (.bl false))) tNextD) (tSeqD (tIfSD (tOrD (tTestD (tOpD rNeD (tPropD (He.ga K "Levels") sp_Levels_numbers (tCallD sp_parse_levels (tConsD (tVarD 4) (tConsD (tCD (.str "")) tNilD)))) (tTupD tNilD))) (tTestD (tOpD rNeD (tCallD sp_parse_plan (tConsD (tVarD 4) (tConsD (tCD (.str "")) tNilD))) (tTupD tNilD)))) (tRetD (tCD (.bl false))) tNextD) (tSeqD (tAsgD (tTupD (tConsD (tTupD (tConsD (tCD (.str "a")) (tConsD (tCD (.int 100)) (tConsD (tCD (.int 1000)) (tConsD (tCD (.int 20000)) (tConsD (tOpD rPowD (tCD (.int 10)) (tCD (.int 6))) (tConsD (tTupD (tConsD (tTupD (tConsD (tCD (.int 0)) (tConsD (tCD (.int 99)) (tConsD (tCD (.str "l")) tNilD)))) tNilD)) tNilD))))))) tNilD)) (gNameD 6)) (tSeqD (tAsgD (tTupD (tConsD (tTupD (tConsD (tCD (.int 0)) (tConsD (tCD (.str "a")) (tConsD (tCD (.int 100)) tNilD)))) (tConsD (tTupD (tConsD (tCD (.int 19000)) (tConsD (tCD (.str "a")) (tConsD (tCD (.int 1)) tNilD)))) (tConsD (tTupD (tConsD (tCD (.int 20000)) (tConsD (tCD (.str "a")) (tConsD (tCD (.int 100)) tNilD)))) tNilD)))) (gNameD 7)) (tRetD (tOpD rEqD (tCallD sp_parse_plan (tConsD (tCMethD (He.ga K "Tasks") sp_Tasks_of (tCD (.ref (He.ga K "Tasks"))) (tConsD (tVarD 6) tNilD)) (tConsD (tCallD sp__law_plan_text (tConsD (tVarD 7) tNilD)) tNilD))) (tVarD 7))))))))))
theorem wk_law {sp__law_stream sp__law_right sp_Tasks_of sp_format_plan sp_format_levels sp_Levels_of sp_format_tasks sp_parse_tasks sp_Tasks___eq__ sp_parse_levels sp_Levels_numbers sp_parse_plan sp__law_plan_text : SpD} (T : Txt K mg) (F__law_stream : FnD false P w K mg base 1 (He.ga K "_law_stream") sp__law_stream) (F__law_right : FnD true P w K mg base 11 (He.ga K "_law_right") sp__law_right) (F_Tasks_of : FnD false P w K mg base 9 (He5.wf K (He.ga K "Tasks") "classmethod" "of") sp_Tasks_of) (F_format_plan : FnD false P w K mg base 6 (He.ga K "format_plan") sp_format_plan) (F_format_levels : FnD false P w K mg base 2 (He.ga K "format_levels") sp_format_levels) (F_Levels_of : FnD false P w K mg base 6 (He5.wf K (He.ga K "Levels") "classmethod" "of") sp_Levels_of) (F_format_tasks : FnD false P w K mg base 2 (He.ga K "format_tasks") sp_format_tasks) (F_parse_tasks : FnD false P w K mg base 10 (He.ga K "parse_tasks") sp_parse_tasks) (F_Tasks___eq__ : FnD false P w K mg base 1 (He.ma K (He.ga K "Tasks") "__eq__") sp_Tasks___eq__) (F_parse_levels : FnD false P w K mg base 7 (He.ga K "parse_levels") sp_parse_levels) (F_Levels_numbers : FnD false P w K mg base 1 (rcA "property" (He.ma K (He.ga K "Levels") "numbers") K) sp_Levels_numbers) (F_parse_plan : FnD false P w K mg base 5 (He.ga K "parse_plan") sp_parse_plan) (F__law_plan_text : FnD false P w K mg base 1 (He.ga K "_law_plan_text") sp__law_plan_text) : BodyD true P w K mg base 11 (He.ga K "law") N_law "law" (defScope (top 81)) (defBody (top 81)) (t_law K sp__law_stream sp__law_right sp_Tasks_of sp_format_plan sp_format_levels sp_Levels_of sp_format_tasks sp_parse_tasks sp_Tasks___eq__ sp_parse_levels sp_Levels_numbers sp_parse_plan sp__law_plan_text) := fun cdv A outer s H E hr hg => (dss_cons (ds_for (passes_of rfl) rfl (di_range1 T.f_range (da_cons (de_callB (call_max2 rfl) lift_max2 T.f_max bt_max (da_cons de_int (da_cons (de_callB (call_min2 rfl) lift_min2 T.f_min bt_min (da_cons de_int (da_cons (de_callB call_len lift_len T.f_len bt_len (da_cons (dv 0) da_nil)) da_nil))) da_nil))) da_nil)) (dg_name 1 sc_law.nd) (dss_cons (ds_set 2 sc_law.nd (de_call (CalD.fn F__law_stream (hr.mono (by decide)) nog T.k__law_stream (takes_of rfl rfl rfl rfl)) T.g__law_stream (da_cons (dv 0) (da_cons (dv 1) da_nil)))) (dss_one (ds_for (passes_of rfl) rfl (di_range1 T.f_range (da_cons de_int da_nil)) (dg_name 3 sc_law.nd) (dss_one (ds_if (dt_not (dt_val (de_call (CalD.fn F__law_right (hr.mono (by decide)) hg T.k__law_right (takes_of rfl rfl rfl rfl)) T.g__law_right (da_cons (dv 2) da_nil)))) (dss_one (ds_ret de_bl)) dss_nil)))))) (dss_cons (ds_set 4 sc_law.nd (de_cmeth T.r_Tasks T.s_Tasks_of F_Tasks_of (hr.mono (by decide)) nog (takes_of rfl rfl rfl rfl) (de_globA T.g_Tasks) (da_cons (de_tup da_nil) da_nil))) (dss_cons (ds_set 5 sc_law.nd (de_lst (da_cons (de_call (CalD.fn F_format_tasks (hr.mono (by decide)) nog T.k_format_tasks (takes_of rfl rfl rfl rfl)) T.g_format_tasks (da_cons (dv 4) da_nil)) (da_cons (de_call (CalD.fn F_format_levels (hr.mono (by decide)) nog T.k_format_levels (takes_of rfl rfl rfl rfl)) T.g_format_levels (da_cons (de_cmeth T.r_Levels T.s_Levels_of F_Levels_of (hr.mono (by decide)) nog (takes_of rfl rfl rfl rfl) (de_globA T.g_Levels) (da_cons (dv 4) (da_cons (de_tup da_nil) da_nil))) da_nil)) (da_cons (de_call (CalD.fn F_format_plan (hr.mono (by decide)) nog T.k_format_plan (takes_of rfl rfl rfl rfl)) T.g_format_plan (da_cons (dv 4) (da_cons (de_tup da_nil) da_nil))) da_nil))))) (dss_cons (ds_if (dt_w (dw_or (dt_ne (u64 hr) (dv 5) (de_mul (de_lst (da_cons de_str da_nil)) de_int)) (dw_or1 (dt_cmp (op_neOwn T.m_Tasks___eq__.at_ T.m_Tasks___eq__.fn T.k_Tasks.ne T.k_Tasks.cm F_Tasks___eq__ (hr.mono (by decide)) nog) lift_own (de_call (CalD.fn F_parse_tasks (hr.mono (by decide)) nog T.k_parse_tasks (takes_of rfl rfl rfl rfl)) T.g_parse_tasks (da_cons de_str da_nil)) (dv 4) (nomark _))))) (dss_one (ds_ret de_bl)) dss_nil) (dss_cons (ds_if (dt_w (dw_or (dt_ne (u64 hr) (de_prop T.c_Levels T.p_Levels_numbers F_Levels_numbers (hr.mono (by decide)) nog (de_call (CalD.fn F_parse_levels (hr.mono (by decide)) nog T.k_parse_levels (takes_of rfl rfl rfl rfl)) T.g_parse_levels (da_cons (dv 4) (da_cons de_str da_nil)))) (de_tup da_nil)) (dw_or1 (dt_ne (u64 hr) (de_call (CalD.fn F_parse_plan (hr.mono (by decide)) nog T.k_parse_plan (takes_of rfl rfl rfl rfl)) T.g_parse_plan (da_cons (dv 4) (da_cons de_str da_nil))) (de_tup da_nil))))) (dss_one (ds_ret de_bl)) dss_nil) (dss_cons (ds_set 6 sc_law.nd (de_tup (da_cons (de_tup (da_cons de_str (da_cons de_int (da_cons de_int (da_cons de_int (da_cons (de_pow de_int de_int) (da_cons (de_tup (da_cons (de_tup (da_cons de_int (da_cons de_int (da_cons de_str da_nil)))) da_nil)) da_nil))))))) da_nil))) (dss_cons (ds_set 7 sc_law.nd (de_tup (da_cons (de_tup (da_cons de_int (da_cons de_str (da_cons de_int da_nil)))) (da_cons (de_tup (da_cons de_int (da_cons de_str (da_cons de_int da_nil)))) (da_cons (de_tup (da_cons de_int (da_cons de_str (da_cons de_int da_nil)))) da_nil))))) (dss_one (ds_ret (de_eq (u64 hr) (de_call (CalD.fn F_parse_plan (hr.mono (by decide)) nog T.k_parse_plan (takes_of rfl rfl rfl rfl)) T.g_parse_plan (da_cons (de_cmeth T.r_Tasks T.s_Tasks_of F_Tasks_of (hr.mono (by decide)) nog (takes_of rfl rfl rfl rfl) (de_globA T.g_Tasks) (da_cons (dv 6) da_nil)) (da_cons (de_call (CalD.fn F__law_plan_text (hr.mono (by decide)) nog T.k__law_plan_text (takes_of rfl rfl rfl rfl)) T.g__law_plan_text (da_cons (dv 7) da_nil)) da_nil))) (dv 7)))))))))))
theorem ok_law {sp__law_stream sp__law_right sp_Tasks_of sp_format_plan sp_format_levels sp_Levels_of sp_format_tasks sp_parse_tasks sp_Tasks___eq__ sp_parse_levels sp_Levels_numbers sp_parse_plan sp__law_plan_text sp : SpD} (T : Txt K mg) (F__law_stream : FnD false P w K mg base 1 (He.ga K "_law_stream") sp__law_stream) (F__law_right : FnD true P w K mg base 11 (He.ga K "_law_right") sp__law_right) (F_Tasks_of : FnD false P w K mg base 9 (He5.wf K (He.ga K "Tasks") "classmethod" "of") sp_Tasks_of) (F_format_plan : FnD false P w K mg base 6 (He.ga K "format_plan") sp_format_plan) (F_format_levels : FnD false P w K mg base 2 (He.ga K "format_levels") sp_format_levels) (F_Levels_of : FnD false P w K mg base 6 (He5.wf K (He.ga K "Levels") "classmethod" "of") sp_Levels_of) (F_format_tasks : FnD false P w K mg base 2 (He.ga K "format_tasks") sp_format_tasks) (F_parse_tasks : FnD false P w K mg base 10 (He.ga K "parse_tasks") sp_parse_tasks) (F_Tasks___eq__ : FnD false P w K mg base 1 (He.ma K (He.ga K "Tasks") "__eq__") sp_Tasks___eq__) (F_parse_levels : FnD false P w K mg base 7 (He.ga K "parse_levels") sp_parse_levels) (F_Levels_numbers : FnD false P w K mg base 1 (rcA "property" (He.ma K (He.ga K "Levels") "numbers") K) sp_Levels_numbers) (F_parse_plan : FnD false P w K mg base 5 (He.ga K "parse_plan") sp_parse_plan) (F__law_plan_text : FnD false P w K mg base 1 (He.ga K "_law_plan_text") sp__law_plan_text) (pure : ∀ ds M Q E, sp ds M Q E → ds.length = 1 ∧ t_law K sp__law_stream sp__law_right sp_Tasks_of sp_format_plan sp_format_levels sp_Levels_of sp_format_tasks sp_parse_tasks sp_Tasks___eq__ sp_parse_levels sp_Levels_numbers sp_parse_plan sp__law_plan_text { nx := fun _ M' => upQ Q .non M', rt := upQ Q, ex := upX E } (startD N_law ds) M) : FnD true P w K mg base 12 (He.ga K "law") sp := by
  obtain ⟨fd, F⟩ := T.d_law
  exact FnD.mk (ps := ["script"]) F sc_law (F.bindsN fun _ _ _ _ _ _ us hl => match us, hl with | [_], _ => rfl) ⟨_, wk_law T F__law_stream F__law_right F_Tasks_of F_format_plan F_format_levels F_Levels_of F_format_tasks F_parse_tasks F_Tasks___eq__ F_parse_levels F_Levels_numbers F_parse_plan F__law_plan_text, pure⟩
end
end K84

/-! ### K84b -/
set_option Elab.async false
set_option linter.all false
set_option maxRecDepth 100000
set_option maxHeartbeats 4000000
namespace K84
open PySem L2 DL PyProof.Rows

/-! ## what the values are -/
structure Tsk where
  name : Str
  long : Int
  gap : Int
  due : Int
  room : Int
  secs : List (Int × Int × Str)
def secD (s : Int × Int × Str) : D := .tup [.int s.1, .int s.2.1, .str s.2.2]
def tskD (t : Tsk) : D := .tup [.str t.name, .int t.long, .int t.gap, .int t.due, .int t.room, .tup (t.secs.map secD)]
def NameOk (s : Str) : Prop := 1 ≤ s.length ∧ s.length ≤ 8 ∧ ∀ c ∈ s.cps.toList, 97 ≤ c ∧ c ≤ 122
def SecOk (L : Int) (s : Int × Int × Str) : Prop := 0 ≤ s.1 ∧ s.1 < s.2.1 ∧ s.2.1 < L ∧ NameOk s.2.2
def Chain : List (Int × Int × Str) → Prop
  | a :: b :: r => a.2.1 ≤ b.1 ∧ Chain (b :: r)
  | _ => True
structure TskOk (t : Tsk) : Prop where
  name : NameOk t.name
  l1 : 1 ≤ t.long
  l2 : t.long ≤ 100
  g1 : 1 ≤ t.gap
  g2 : t.gap ≤ 1000
  d1 : 1 ≤ t.due
  d2 : t.due ≤ 20000
  r1 : 0 ≤ t.room
  r2 : t.room ≤ 1000000
  few : t.secs.length ≤ 8
  sec : ∀ s ∈ t.secs, SecOk t.long s
  chain : Chain t.secs

/-! ## checks -/
def sp_is_integer : SpD := fun ds M Q _ => ∃ i, ds = [.int i] ∧ Q (.bl true) M
def sp_is_between : SpD := fun ds M Q _ => ∃ i lo hi, ds = [.int i, .int lo, .int hi] ∧ (lo ≤ i ∧ i ≤ hi) ∧ Q (.bl true) M
def sp_is_name : SpD := fun ds M Q _ => ∃ s, ds = [.str s] ∧ NameOk s ∧ Q (.bl true) M
def sp_is_section : SpD := fun ds M Q _ => ∃ s L, ds = [secD s, .int L] ∧ SecOk L s ∧ Q (.bl true) M
def sp_are_sections : SpD := fun ds M Q _ => ∃ ss L, ds = [.tup (ss.map secD), .int L] ∧ ss.length ≤ 8 ∧ (∀ s ∈ ss, SecOk L s) ∧ Chain ss ∧ Q (.bl true) M
def sp_is_task : SpD := fun ds M Q _ => ∃ t, ds = [tskD t] ∧ TskOk t ∧ Q (.bl true) M
def sp_require_task : SpD := fun ds M Q _ => ∃ t, ds = [tskD t] ∧ TskOk t ∧ Q .non M
def sp_require_plain : SpD := fun ds M Q _ => ∃ ts : List Tsk, ds = [.tup (ts.map tskD)] ∧ (∀ t ∈ ts, TskOk t) ∧ (ts.map (·.name)).Nodup ∧ ts.length < 4000 ∧ Q .non M

theorem abc_mem {c : Nat} (h1 : 97 ≤ c) (h2 : c ≤ 122) : c ∈ (Str.ofString "abcdefghijklmnopqrstuvwxyz").cps.toList := by
  have e : (Str.ofString "abcdefghijklmnopqrstuvwxyz").cps.toList = (List.range 26).map (97 + ·) := by decide +kernel
  rw [e, List.mem_map]
  exact ⟨c - 97, List.mem_range.mpr (by omega), by omega⟩
theorem size_of {n : Nat} (h : n ≤ 1000000) : n ≤ sizeLine := by rw [sizeLine_eq]; omega
theorem bls_true {α : Type} (xs : List α) : blsD ([] ++ xs.map fun _ => .bl true) = some (xs.map fun _ => true) := blsD_map (fun _ => true) xs
theorem secD_get1 (s : Int × Int × Str) : atI [D.int s.1, .int s.2.1, .str s.2.2] 1 = some (.int s.2.1) := rfl
section
variable {P : Program} {w : World} {K : PySem.W.Frag} {mg : Str → Option Value} {base : Heap}
theorem ok1 (T : Txt K mg) : FnD false P w K mg base 1 (He.ga K "is_integer") sp_is_integer := by
  refine ok_is_integer T ?_
  rintro ds M Q E ⟨i, rfl, q⟩
  refine ⟨rfl, _, _, true, .ty _, .int i, kit_ty k_int, ?_⟩
  refine ⟨_, _, false, .ty _, .int i, kit_ty k_intbool, ?_⟩
  exact upQ.mk q
theorem ok2 (T : Txt K mg) : FnD false P w K mg base 2 (He.ga K "is_between") sp_is_between := by
  refine ok_is_between T (ok1 T) ?_
  rintro ds M Q E ⟨i, lo, hi, rfl, ⟨h1, h2⟩, q⟩
  refine ⟨rfl, i, rfl, ?_⟩
  conv => whnf; simp only [decide_eq_true h1]; whnf; simp only [decide_eq_true h2]
  exact upQ.mk q
theorem ok3 (T : Txt K mg) : FnD false P w K mg base 1 (He.ga K "is_name") sp_is_name := by
  refine ok_is_name T ?_
  rintro ds M Q E ⟨s, rfl, ⟨h1, h2, h3⟩, q⟩
  have hz : s.length ≤ sizeLine := size_of (by omega)
  refine ⟨rfl, _, _, true, .ty _, .str s, kit_ty k_str, hz, ?_⟩
  have c1 : decide ((1 : Int) ≤ (s.length : Nat)) = true := decide_eq_true (by omega)
  have c2 : decide (((s.length : Nat) : Int) ≤ 8) = true := decide_eq_true (by omega)
  conv => whnf; simp only [c1]; whnf; simp only [c2]
  have hl : (s.cps.toList.map fun c => D.str ⟨#[c]⟩).length ≤ sizeLine := by rw [List.length_map, Array.length_toList]; exact hz
  refine ⟨hl, ?_⟩
  refine lcD_mapT (fun c => D.str ⟨#[c]⟩) (fun _ => .bl true) (fun c hc N n => ?_) ?_
  · refine ⟨c, rfl, ?_⟩
    rw [decide_eq_true (abc_mem (h3 c hc).1 (h3 c hc).2)]
    exact n
  · exact all_lst _ (upQ.mk q)
theorem ok4 (T : Txt K mg) : FnD false P w K mg base 3 (He.ga K "is_section") sp_is_section := by
  refine ok_is_section T (ok2 T) (ok3 T) ?_
  rintro ds M Q E ⟨s, L, rfl, ⟨h1, h2, h3, h4⟩, q⟩
  refine ⟨rfl, _, _, true, .ty _, .tup _, kit_ty k_tuple, ?_⟩
  refine ⟨rfl, ?_⟩
  refine ⟨_, _, _, rfl, ⟨by omega, by omega⟩, ?_⟩
  refine ⟨_, _, _, rfl, ⟨by omega, by omega⟩, ?_⟩
  exact ⟨_, rfl, h4, upQ.mk q⟩
theorem chain_at : ∀ {ss : List (Int × Int × Str)}, Chain ss → ∀ p ∈ ss.zip (ss.drop 1), p.1.2.1 ≤ p.2.1
  | [], _, p, h => by simp at h
  | [a], _, p, h => by simp at h
  | a :: b :: r, c, p, h => by
    have h' : p = (a, b) ∨ p ∈ (b :: r).zip ((b :: r).drop 1) := by simpa using h
    rcases h' with rfl | h'
    · exact c.1
    · exact chain_at c.2 p h'
theorem zipD_map {α β : Type} (f : α → D) (g : β → D) : ∀ (xs : List α) (ys : List β), zipD (xs.map f) (ys.map g) = (xs.zip ys).map fun p => .tup [f p.1, g p.2]
  | [], _ => rfl
  | _ :: _, [] => rfl
  | x :: xs, y :: ys => by
    have := zipD_map f g xs ys
    unfold zipD at this ⊢
    simp only [List.map_cons, List.zipWith_cons_cons, List.zip_cons_cons, this]
theorem cutD_1 {α : Type} (f : α → D) (xs : List α) : DL.cutD (xs.map f) (some 1) none = (xs.drop 1).map f := by
  unfold DL.cutD
  have e1 : HT.sIx (xs.map f).length 0 (some 1) = min 1 xs.length := by rw [List.length_map]; exact HT.sIx_nat xs.length 0 1
  rw [e1, HT.sIx_none, ← List.map_drop, List.length_map]
  cases xs with
  | nil => rfl
  | cons x r =>
    have e2 : min 1 (x :: r).length = 1 := by simp only [List.length_cons]; omega
    rw [e2]
    exact List.take_of_length_le (by simp)
theorem ok5 (T : Txt K mg) : FnD false P w K mg base 4 (He.ga K "are_sections") sp_are_sections := by
  refine ok_are_sections T (ok4 T) ?_
  rintro ds M Q E ⟨ss, L, rfl, h1, h2, h3, q⟩
  have hz : (ss.map secD).length ≤ sizeLine := size_of (by rw [List.length_map]; omega)
  refine ⟨rfl, _, _, true, .ty _, .tup _, kit_ty k_tuple, ?_⟩
  have c1 : decide ((8 : Int) < ((ss.map secD).length : Nat)) = false := decide_eq_false (by rw [List.length_map]; omega)
  conv => whnf; simp only [c1]
  refine ⟨hz, ?_⟩
  refine lcD_mapT secD (fun _ => .bl true) (fun s hs N n => ?_) ?_
  · exact ⟨s, L, rfl, h2 s hs, n⟩
  conv => whnf; simp only [bls_true]; whnf; simp only [all_true]
  refine ⟨rfl, ?_⟩
  rw [cutD_1, zipD_map]
  refine lcD_mapT _ (fun _ => .bl true) (fun p hp N n => ?_) ?_
  · refine ⟨rfl, ?_⟩
    conv => whnf; simp only [decide_eq_true (chain_at h3 p hp)]
    exact n
  · exact all_lst _ (upQ.mk q)
end
end K84

/-! ### K84c -/
set_option Elab.async false
set_option linter.all false
set_option maxRecDepth 100000
set_option maxHeartbeats 4000000
namespace K84
open PySem L2 DL PyProof.Rows

/-! ## general: sets of keys, dicts that grow -/
theorem hasK_not {ks : List Key} {k : Key} (h : k ∉ ks) : hasK ks k = false := by
  unfold hasK
  rw [List.any_eq_false]
  intro x hx e
  exact h (of_decide_eq_true e ▸ hx)
theorem hasK_mem {ks : List Key} {k : Key} (h : k ∈ ks) : hasK ks k = true := by
  unfold hasK
  rw [List.any_eq_true]
  exact ⟨k, h, decide_eq_true rfl⟩
theorem skD_mapT {α : Type} {g : TGD} {te : TD} {vs : List Nat} {σ : SD} {Q : List Key → HD → Prop} {M : HD} (d : α → D) (f : α → Str) : ∀ {as : List α} {ks : List Key}, (∀ a ∈ as, ∀ N : VKD, N (.str (f a)) M → g (d a) (wipeD σ vs) M (fun σ2 M2 => te σ2 M2 N X0) X0) →
    (ks ++ as.map fun a => Sum.inr (f a)).Nodup → Q (ks ++ as.map fun a => Sum.inr (f a)) M → skD g te vs σ Q (as.map d) ks M
  | [], ks, _, _, q => by rw [List.map_nil, List.append_nil] at q; exact q
  | x :: xs, ks, h, nd, q => by
    refine h x List.mem_cons_self _ ?_
    have e : ks ++ (x :: xs).map (fun a => (Sum.inr (f a) : Key)) = (ks ++ [Sum.inr (f x)]) ++ xs.map fun a => Sum.inr (f a) := by simp
    have hn : (Sum.inr (f x) : Key) ∉ ks := fun hm => by
      have := (List.nodup_append.mp nd).2.2 _ hm _ (List.mem_map.mpr ⟨x, List.mem_cons_self, rfl⟩)
      exact this rfl
    show skD g te vs σ Q (xs.map d) (if hasK ks (Sum.inr (f x)) = true then ks else ks ++ [Sum.inr (f x)]) M
    rw [hasK_not hn, if_neg (by decide)]
    rw [e] at nd q
    exact skD_mapT d f (fun a ha => h a (List.mem_cons_of_mem _ ha)) nd q
theorem dcD_mapT {α : Type} {g : TGD} {tk tv : TD} {vs : List Nat} {σ : SD} {Q : List Key → List D → HD → Prop} {M : HD} (d : α → D) (f : α → Str) (v : α → D) : ∀ {as : List α} {ks : List Key} {xs : List D},
    (∀ a ∈ as, ∀ N : D → D → HD → Prop, N (.str (f a)) (v a) M → g (d a) (wipeD σ vs) M (fun σ2 M2 => tk σ2 M2 (fun y M4 => tv σ2 M4 (fun z M5 => N y z M5) X0) X0) X0) →
    (ks ++ as.map fun a => Sum.inr (f a)).Nodup → Q (ks ++ as.map fun a => Sum.inr (f a)) (xs ++ as.map v) M → dcD g tYesD tk tv vs σ Q (as.map d) ks xs M
  | [], ks, xs, _, _, q => by rw [List.map_nil, List.map_nil, List.append_nil, List.append_nil] at q; exact q
  | x :: r, ks, xs, h, nd, q => by
    refine h x List.mem_cons_self (fun y z M5 => match keyD y with
      | some k => dcD g tYesD tk tv vs σ Q (r.map d) (putDk ks xs k z).1 (putDk ks xs k z).2 M5
      | none => False) ?_
    have e : ks ++ (x :: r).map (fun a => (Sum.inr (f a) : Key)) = (ks ++ [Sum.inr (f x)]) ++ r.map fun a => Sum.inr (f a) := by simp
    have e2 : xs ++ (x :: r).map v = (xs ++ [v x]) ++ r.map v := by simp
    have hn : (Sum.inr (f x) : Key) ∉ ks := fun hm => by
      have := (List.nodup_append.mp nd).2.2 _ hm _ (List.mem_map.mpr ⟨x, List.mem_cons_self, rfl⟩)
      exact this rfl
    have ep : putDk ks xs (Sum.inr (f x)) (v x) = (ks ++ [Sum.inr (f x)], xs ++ [v x]) := by
      unfold putDk; rw [hasK_not hn, if_neg (by decide)]
    show dcD g tYesD tk tv vs σ Q (r.map d) (putDk ks xs (Sum.inr (f x)) (v x)).1 (putDk ks xs (Sum.inr (f x)) (v x)).2 M
    rw [ep]
    show dcD g tYesD tk tv vs σ Q (r.map d) (ks ++ [Sum.inr (f x)]) (xs ++ [v x]) M
    rw [e] at nd q
    rw [e2] at q
    exact dcD_mapT d f v (fun a ha => h a (List.mem_cons_of_mem _ ha)) nd q
theorem enumD_map {α : Type} (f : α → D) (xs : List α) : enumD (xs.map f) = xs.zipIdx.map fun p => .tup [.int (p.2 : Nat), f p.1] := by
  unfold enumD
  apply List.ext_getElem?
  intro i
  simp only [List.getElem?_mapIdx, List.getElem?_map, List.getElem?_zipIdx]
  cases xs[i]? <;> simp

section
variable {P : Program} {w : World} {K : PySem.W.Frag} {mg : Str → Option Value} {base : Heap}
theorem ok6 (T : Txt K mg) : FnD false P w K mg base 5 (He.ga K "is_task") sp_is_task := by
  refine ok_is_task T (ok3 T) (ok2 T) (ok5 T) ?_
  rintro ds M Q E ⟨t, rfl, h, q⟩
  refine ⟨rfl, _, _, true, .ty _, .tup _, kit_ty k_tuple, ?_⟩
  refine ⟨rfl, ?_⟩
  refine ⟨_, rfl, h.name, ?_⟩
  refine ⟨_, _, _, rfl, ⟨h.l1, h.l2⟩, ?_⟩
  refine ⟨_, _, _, rfl, ⟨h.g1, h.g2⟩, ?_⟩
  refine ⟨_, _, _, rfl, ⟨h.d1, h.d2⟩, ?_⟩
  refine ⟨_, _, _, rfl, ⟨h.r1, h.r2⟩, ?_⟩
  exact ⟨_, _, rfl, h.few, h.sec, h.chain, upQ.mk q⟩
theorem ok7 (T : Txt K mg) : FnD false P w K mg base 6 (He.ga K "require_task") sp_require_task := by
  refine ok_require_task T (ok6 T) ?_
  rintro ds M Q E ⟨t, rfl, h, q⟩
  exact ⟨rfl, t, rfl, h, upQ.mk q⟩
theorem ok8 (T : Txt K mg) : FnD false P w K mg base 6 (He.ga K "require_plain") sp_require_plain := by
  refine ok_require_plain T (ok6 T) ?_
  rintro ds M Q E ⟨ts, rfl, h, nd, hl, q⟩
  have hz : (ts.map tskD).length ≤ sizeLine := size_of (by rw [List.length_map]; omega)
  refine ⟨rfl, _, _, true, .ty _, .tup _, kit_ty k_tuple, ?_⟩
  refine ⟨hz, ?_⟩
  refine lcD_mapT tskD (fun _ => .bl true) (fun s hs N n => ?_) ?_
  · exact ⟨s, rfl, h s hs, n⟩
  conv => whnf; simp only [bls_true]; whnf; simp only [all_true]
  refine ⟨hz, by rw [List.length_map]; exact hl, ?_⟩
  have nd' : (([] : List Key) ++ ts.map fun a : Tsk => Sum.inr a.name).Nodup := by
    rw [List.nil_append]
    have e : (ts.map fun a : Tsk => (Sum.inr a.name : Key)) = (ts.map (·.name)).map Sum.inr := by rw [List.map_map]; rfl
    rw [e]
    exact List.Pairwise.map _ (fun a b hab e => hab (Sum.inr.inj e)) nd
  refine skD_mapT tskD (·.name) (fun s hs N n => n) nd' ?_
  have c1 : decide (((([] : List Key) ++ ts.map fun a : Tsk => (Sum.inr a.name : Key)).length : Int) < ((ts.map tskD).length : Nat)) = false := decide_eq_false (by simp)
  conv => whnf; simp only [c1]
  exact upQ.mk q

/-! ## the load -/
def loadP : List Tsk → Int × Int → Int × Int
  | [], p => p
  | t :: r, p => loadP r (p.1 * t.gap + t.long * p.2, p.2 * t.gap)
def sp_lowest : SpD := fun ds M Q _ => ∃ t b, ds = [.int t, .int b] ∧ (0 ≤ t ∧ 0 < b) ∧ t < 2 ^ 4000 ∧ b < 2 ^ 4000 ∧ ∀ g : Int, 0 < g → g ∣ t → g ∣ b → Q (.tup [.int (t / g), .int (b / g)]) M
def sp_load_of : SpD := fun ds M Q _ => ∃ ts : List Tsk, ds = [.tup (ts.map tskD)] ∧ (∀ t ∈ ts, TskOk t) ∧ ts.length ≤ 10 ∧ ∀ t b : Int, 0 ≤ t → 0 < b → t < 2 ^ 4000 → b < 2 ^ 4000 → t * (loadP ts (0, 1)).2 = (loadP ts (0, 1)).1 * b → Q (.tup [.int t, .int b]) M
theorem log2_lt {x : Int} {n : Nat} (h0 : 0 ≤ x) (h : x < 2 ^ n) (hn : 0 < n) : x.natAbs.log2 < n := by
  by_cases hx : x.natAbs = 0
  · rw [hx]; simpa using hn
  · rw [Nat.log2_lt hx]
    have : (x.natAbs : Int) < ((2 ^ n : Nat) : Int) := by rw [Int.natAbs_of_nonneg h0]; simpa using h
    exact Int.ofNat_lt.mp this
theorem ok9 (T : Txt K mg) : FnD false P w K mg base 1 (He.ga K "lowest") sp_lowest := by
  refine ok_lowest T ?_
  rintro ds M Q E ⟨t, b, rfl, ⟨h1, h2⟩, h3, h4, q⟩
  refine ⟨rfl, ?_⟩
  refine ⟨fun m σ M' => M = M' ∧ ∃ x y : Int, σ = [some (.int t), some (.int b), some (.int x), some (.int y)] ∧ m = y.toNat ∧ 0 ≤ x ∧ 0 ≤ y ∧ 0 < x + y ∧ (0 < x ∨ 0 < y) ∧ x < 2 ^ 4000 ∧ y < 2 ^ 4000 ∧ ∀ g : Int, g ∣ x → g ∣ y → g ∣ t ∧ g ∣ b,
    ⟨b.toNat, rfl, t, b, rfl, rfl, h1, by omega, by omega, by omega, h3, h4, fun g a c => ⟨a, c⟩⟩, ?_⟩
  rintro m σ M' ⟨rfl, x, y, rfl, rfl, hx, hy, hxy, hor, bx, by_, hg⟩
  by_cases h0 : 0 < y
  · have c1 : decide (0 < y) = true := decide_eq_true h0
    conv => whnf; simp only [c1]
    refine ⟨fun σ M' => M = M' ∧ ∃ x' y' : Int, σ = [some (.int t), some (.int b), some (.int x'), some (.int y')] ∧ y'.toNat < y.toNat ∧ 0 ≤ x' ∧ 0 ≤ y' ∧ 0 < x' + y' ∧ (0 < x' ∨ 0 < y') ∧ x' < 2 ^ 4000 ∧ y' < 2 ^ 4000 ∧ ∀ g : Int, g ∣ x' → g ∣ y' → g ∣ t ∧ g ∣ b, ?_, ?_⟩
    · rintro σ' M2 ⟨rfl, x', y', rfl, hlt, r1, r2, r3, r4, r5, r6, r7⟩
      exact ⟨_, hlt, rfl, x', y', rfl, rfl, r1, r2, r3, r4, r5, r6, r7⟩
    · refine ⟨h0, ?_⟩
      have m1 := Int.emod_nonneg x (by omega : y ≠ 0)
      have m2 := Int.emod_lt_of_pos x h0
      refine ⟨rfl, y, x % y, rfl, by omega, hy, m1, by omega, by omega, by_, by omega, fun g a c => hg g ?_ a⟩
      have e := Int.emod_add_mul_ediv x y
      rw [← e]
      exact Int.dvd_add c (Int.dvd_trans a (Int.dvd_mul_right y _))
  · have c1 : decide (0 < y) = false := decide_eq_false h0
    conv => whnf; simp only [c1]
    have y0 : y = 0 := by omega
    subst y0
    have hd := hg x (Int.dvd_refl x) (Int.dvd_zero x)
    have x0 : 0 < x := by omega
    have lx : x.natAbs.log2 < 9000 := Nat.lt_of_lt_of_le (log2_lt hx bx (by omega)) (by omega)
    exact ⟨⟨x0, lx⟩, ⟨⟨x0, lx⟩, size_of (n := 2) (by decide), upQ.mk (q x x0 hd.1 hd.2)⟩⟩
theorem load_step {t b n p g l d t' b' : Int} (h : t * p = n * b) (hd : 0 < d) (e1 : t * g + l * b = d * t') (e2 : b * g = d * b') : t' * (p * g) = (n * g + l * p) * b' := by
  have k : d * (t' * (p * g)) = d * ((n * g + l * p) * b') := by
    have a1 : d * (t' * (p * g)) = (t * g + l * b) * (p * g) := by rw [e1, Int.mul_assoc]
    have a2 : d * ((n * g + l * p) * b') = (n * g + l * p) * (b * g) := by rw [e2, Int.mul_left_comm]
    have a3 : (t * g) * (p * g) = (n * g) * (b * g) := by
      have : (t * g) * (p * g) = (t * p) * (g * g) := by simp only [Int.mul_assoc, Int.mul_comm, Int.mul_left_comm]
      rw [this, h]
      simp only [Int.mul_assoc, Int.mul_comm, Int.mul_left_comm]
    have a4 : (l * b) * (p * g) = (l * p) * (b * g) := by simp only [Int.mul_assoc, Int.mul_comm, Int.mul_left_comm]
    rw [a1, a2, Int.add_mul, Int.add_mul, a3, a4]
  exact Int.eq_of_mul_eq_mul_left (by omega) k
theorem ok10 (T : Txt K mg) : FnD false P w K mg base 2 (He.ga K "load_of") sp_load_of := by
  refine ok_load_of T (ok9 T) ?_
  rintro ds M Q E ⟨ts, rfl, h, hl, q⟩
  have hz : (ts.map tskD).length ≤ sizeLine := size_of (by rw [List.length_map]; omega)
  refine ⟨rfl, size_of (n := 2) (by decide), rfl, hz, ?_⟩
  refine forD_inv (ts.map tskD) (fun i σ M' => M = M' ∧ ∃ (t b n p X : Int) (u : Option D), σ = [some (.tup (ts.map tskD)), some (.int t), some (.int b), u] ∧ loadP (ts.drop i) (n, p) = loadP ts (0, 1) ∧ t * p = n * b ∧ 0 ≤ t ∧ 0 < b ∧ 0 < p ∧ X = 10 ^ (4 * i) ∧ t ≤ X ∧ b ≤ X) ?_ ?_ ⟨rfl, 0, 1, 0, 1, 1, none, rfl, rfl, rfl, by omega, by omega, by omega, rfl, by omega, by omega⟩
  · rintro i x hx σ M' ⟨rfl, t, b, n, p, X, u, rfl, e1, e2, h1, h2, h3, hX, h4, h5⟩ N hN
    rw [List.getElem?_map] at hx
    cases hy : ts[i]? with
    | none => rw [hy] at hx; cases hx
    | some y =>
      rw [hy] at hx
      cases hx
      obtain ⟨hi, ey⟩ := List.getElem?_eq_some_iff.mp hy
      have hk := h y (ey ▸ List.getElem_mem hi)
      have l1 := hk.l1
      have l2 := hk.l2
      have g1 := hk.g1
      have g2 := hk.g2
      have X2 : (10 : Int) ^ (4 * (i + 1)) = 10000 * X := by
        have : 4 * (i + 1) = 4 * i + 4 := by omega
        rw [this, Int.pow_add, ← hX, Int.mul_comm]
        rfl
      have b1 : t * y.gap ≤ X * 1000 := Int.mul_le_mul h4 g2 (by omega) (by omega)
      have b2 : y.long * b ≤ 100 * X := Int.mul_le_mul l2 h5 (by omega) (by omega)
      have b3 : b * y.gap ≤ X * 1000 := Int.mul_le_mul h5 g2 (by omega) (by omega)
      have b4 : 0 ≤ t * y.gap := Int.mul_nonneg h1 (by omega)
      have b5 : 0 < y.long * b := Int.mul_pos (by omega) h2
      have b6 : 0 < b * y.gap := Int.mul_pos h2 (by omega)
      have b7 : 0 < p * y.gap := Int.mul_pos h3 (by omega)
      have hX40 : X ≤ 10 ^ 40 := by
        rw [hX]
        have := Nat.pow_le_pow_right (show 0 < 10 by decide) (show 4 * i ≤ 40 by omega)
        exact_mod_cast this
      have big : (10000 : Int) * 10 ^ 40 < 2 ^ 4000 := by decide +kernel
      have lt : t.natAbs.log2 < 5000 := Nat.lt_of_lt_of_le (log2_lt (n := 4000) h1 (by omega) (by omega)) (by omega)
      have lb : b.natAbs.log2 < 5000 := Nat.lt_of_lt_of_le (log2_lt (n := 4000) (by omega) (by omega) (by omega)) (by omega)
      have ll : y.long.natAbs.log2 < 5000 := Nat.lt_of_lt_of_le (log2_lt (n := 4000) (by omega) (by omega) (by omega)) (by omega)
      have lg : y.gap.natAbs.log2 < 5000 := Nat.lt_of_lt_of_le (log2_lt (n := 4000) (by omega) (by omega) (by omega)) (by omega)
      refine ⟨by omega, ⟨by omega, ⟨by omega, ?_⟩⟩⟩
      refine ⟨_, _, rfl, ⟨by omega, by omega⟩, by omega, by omega, fun d d0 d1 d2 => ?_⟩
      refine ⟨rfl, ?_⟩
      refine hN _ _ ⟨rfl, (t * y.gap + y.long * b) / d, (b * y.gap) / d, n * y.gap + y.long * p, p * y.gap, _, _, rfl, ?_, ?_, ?_, ?_, b7, rfl, ?_, ?_⟩
      · rw [← e1, List.drop_eq_getElem_cons hi, ey]
        rfl
      · exact load_step e2 d0 (Int.mul_ediv_cancel' d1).symm (Int.mul_ediv_cancel' d2).symm
      · exact Int.ediv_nonneg (by omega) (by omega)
      · exact Int.ediv_pos_of_pos_of_dvd b6 (by omega) d2
      · rw [X2]
        have := Int.ediv_le_self d (show 0 ≤ t * y.gap + y.long * b by omega)
        omega
      · rw [X2]
        have := Int.ediv_le_self d (show 0 ≤ b * y.gap by omega)
        omega
  · rintro σ M' ⟨rfl, t, b, n, p, X, u, rfl, e1, e2, h1, h2, h3, hX, h4, h5⟩
    rw [List.length_map, List.drop_length] at e1
    have e1 : (n, p) = loadP ts (0, 1) := e1
    have hX40 : X ≤ 10 ^ 40 := by
      rw [hX, List.length_map]
      have := Nat.pow_le_pow_right (show 0 < 10 by decide) (show 4 * ts.length ≤ 40 by omega)
      exact_mod_cast this
    have big : (10 : Int) ^ 40 < 2 ^ 4000 := by decide +kernel
    refine ⟨size_of (n := 2) (by decide), upQ.mk (q t b h1 h2 (by omega) (by omega) ?_)⟩
    rw [← e1]
    exact e2
end
end K84

/-! ### K84d -/
set_option Elab.async false
set_option linter.all false
set_option maxRecDepth 100000
set_option maxHeartbeats 4000000
namespace K84
open PySem L2 DL PyProof.Rows

/-! ## dicts -/
theorem getK_mem : ∀ {ks : List Key} {xs : List D} {k : Key}, ks.length = xs.length → k ∈ ks → ∃ d, getK ks xs k = some d
  | [], xs, k, _, h => by simp at h
  | k' :: ks, [], k, hl, _ => by simp at hl
  | k' :: ks, x :: xs, k, hl, h => by
    unfold getK
    by_cases e : k' = k
    · rw [if_pos e]; exact ⟨x, rfl⟩
    · rw [if_neg e]
      exact getK_mem (by simpa using hl) ((List.mem_cons.mp h).resolve_left fun q => e q.symm)
theorem getK_none : ∀ {ks : List Key} {xs : List D} {k : Key}, k ∉ ks → getK ks xs k = none
  | [], xs, k, _ => by unfold getK; rfl
  | k' :: ks, [], k, _ => by unfold getK; rfl
  | k' :: ks, x :: xs, k, h => by
    unfold getK
    rw [if_neg (fun e : k' = k => h (e ▸ List.mem_cons_self))]
    exact getK_none fun z => h (List.mem_cons_of_mem _ z)
theorem getK_app : ∀ {ks : List Key} {xs : List D} {k k' : Key} {v : D}, ks.length = xs.length → k ∉ ks → getK (ks ++ [k]) (xs ++ [v]) k' = if k' = k then some v else getK ks xs k'
  | [], [], k, k', v, _, _ => by
    show (if k = k' then some v else none) = _
    by_cases e : k' = k
    · rw [if_pos e.symm, if_pos e]
    · rw [if_neg (fun q => e q.symm), if_neg e]; rfl
  | [], _ :: _, _, _, _, hl, _ => by simp at hl
  | _ :: _, [], _, _, _, hl, _ => by simp at hl
  | a :: ks, x :: xs, k, k', v, hl, h => by
    show (if a = k' then some x else getK (ks ++ [k]) (xs ++ [v]) k') = if k' = k then some v else (if a = k' then some x else getK ks xs k')
    rw [getK_app (by simpa using hl) fun z => h (List.mem_cons_of_mem _ z)]
    by_cases e : a = k'
    · have : k' ≠ k := fun q => h (by rw [← q, ← e]; exact List.mem_cons_self)
      rw [if_pos e, if_neg this, if_pos e]
    · rw [if_neg e, if_neg e]
theorem getK_upd : ∀ {ks : List Key} {xs : List D} {k k' : Key} {v : D}, ks.length = xs.length → k ∈ ks → getK ks (updK ks xs k v) k' = if k' = k then some v else getK ks xs k'
  | [], _, k, k', v, _, h => by simp at h
  | _ :: _, [], _, _, _, hl, _ => by simp at hl
  | a :: ks, x :: xs, k, k', v, hl, h => by
    show (if a = k' then some (if a = k then v else x) else getK ks (updK ks xs k v) k') = if k' = k then some v else (if a = k' then some x else getK ks xs k')
    by_cases e : a = k'
    · subst e
      rw [if_pos rfl]
      by_cases e2 : a = k
      · rw [if_pos e2, if_pos e2]
      · rw [if_neg e2, if_neg e2, if_pos rfl]
    · rw [if_neg e, if_neg e]
      by_cases hm : k ∈ ks
      · exact getK_upd (by simpa using hl) hm
      · have ea : a = k := ((List.mem_cons.mp h).resolve_right hm).symm
        have hk : k' ≠ k := fun q => e (ea.trans q.symm)
        rw [if_neg hk]
        have eu : ∀ {js : List Key} {ys : List D}, js.length = ys.length → k ∉ js → updK js ys k v = ys := by
          intro js
          induction js with
          | nil => intro ys hy _; cases ys with
            | nil => rfl
            | cons _ _ => simp at hy
          | cons j js ih => intro ys hy hn; cases ys with
            | nil => simp at hy
            | cons y ys =>
              show (if j = k then v else y) :: updK js ys k v = y :: ys
              rw [if_neg (fun q : j = k => hn (q ▸ List.mem_cons_self)), ih (by simpa using hy) fun z => hn (List.mem_cons_of_mem _ z)]
        rw [eu (by simpa using hl) hm]
theorem getK_put {ks : List Key} {xs : List D} {k k' : Key} {v : D} (hl : ks.length = xs.length) : getK (putDk ks xs k v).1 (putDk ks xs k v).2 k' = if k' = k then some v else getK ks xs k' := by
  unfold putDk
  by_cases h : k ∈ ks
  · rw [hasK_mem h, if_pos rfl]; exact getK_upd hl h
  · rw [hasK_not h, if_neg (by decide)]; exact getK_app hl h
theorem len_put {ks : List Key} {xs : List D} {k : Key} {v : D} (hl : ks.length = xs.length) : (putDk ks xs k v).1.length = (putDk ks xs k v).2.length := by
  unfold putDk
  by_cases h : k ∈ ks
  · rw [hasK_mem h, if_pos rfl]; show ks.length = (updK ks xs k v).length; unfold updK; rw [List.length_zipWith, ← hl, Nat.min_self]
  · rw [hasK_not h, if_neg (by decide)]; simp [hl]
theorem strs_put {ss : List Str} {xs : List D} {s : Str} {v : D} : ∃ ss' : List Str, (putDk (ss.map Sum.inr) xs (Sum.inr s) v).1 = ss'.map Sum.inr ∧ ss'.length ≤ ss.length + 1 := by
  unfold putDk
  by_cases h : (Sum.inr s : Key) ∈ ss.map Sum.inr
  · rw [hasK_mem h, if_pos rfl]; exact ⟨ss, rfl, by omega⟩
  · rw [hasK_not h, if_neg (by decide)]; exact ⟨ss ++ [s], by simp, by simp⟩
theorem dcD_any {g : TGD} {tk tv : TD} {vs : List Nat} {σ : SD} {Q : List Key → List D → HD → Prop} {M : HD} : ∀ {zs : List D} {ks : List Key} {xs : List D},
    (∀ z ∈ zs, ∀ N : D → D → HD → Prop, (∀ s y, N (.str s) y M) → g z (wipeD σ vs) M (fun σ2 M2 => tk σ2 M2 (fun y M4 => tv σ2 M4 (fun z M5 => N y z M5) X0) X0) X0) → (∀ ks xs, Q ks xs M) → dcD g tYesD tk tv vs σ Q zs ks xs M
  | [], ks, xs, _, q => q ks xs
  | z :: zs, ks, xs, h, q => by
    refine h z List.mem_cons_self (fun y z M5 => match keyD y with
      | some k => dcD g tYesD tk tv vs σ Q zs (putDk ks xs k z).1 (putDk ks xs k z).2 M5
      | none => False) fun s y => ?_
    exact dcD_any (fun a ha => h a (List.mem_cons_of_mem _ ha)) q
theorem pyds_strs : ∀ ss : List Str, pyds ((ss.map (Sum.inr (α := Int))).map kD) = some (ss.map PyData.str)
  | [] => rfl
  | s :: ss => by
    show (match pyd (.str s), pyds ((ss.map (Sum.inr (α := Int))).map kD) with
      | some p, some ps => some (p :: ps)
      | _, _ => none) = _
    rw [pyds_strs ss]
    rfl
theorem viewDc_upd {M : HD} {a : Addr} {ks : List Key} {xs : List D} : viewDc (updM M a (.dct ks xs)) (.ref a) = some (ks, xs) := by unfold viewDc; simp only [updM_same]
theorem viewL_upd {M : HD} {a : Addr} {xs : List D} : viewL (updM M a (.lst xs)) (.ref a) = some xs := by unfold viewL; simp only [updM_same]
theorem viewS_upd {M : HD} {a : Addr} {xs : List D} : viewS (updM M a (.lst xs)) (.ref a) = some xs := by unfold viewS; simp only [updM_same]
theorem viewQ_upd {M : HD} {a : Addr} {xs : List D} : viewQ (updM M a (.lst xs)) (.ref a) = some xs := by unfold viewQ; simp only [updM_same]
def sp_ceilings_of : SpD := fun ds M Q _ => ∃ ts : List Tsk, ds = [.tup (ts.map tskD)] ∧ (∀ t ∈ ts, TskOk t) ∧ ts.length ≤ 10 ∧ ∀ d, Q d M
section
variable {P : Program} {w : World} {K : PySem.W.Frag} {mg : Str → Option Value} {base : Heap}
theorem ok11 (T : Txt K mg) : FnD false P w K mg base 1 (He.ga K "ceilings_of") sp_ceilings_of := by
  refine ok_ceilings_of T ?_
  rintro ds M Q E ⟨ts, rfl, h, hl, q⟩
  refine ⟨rfl, fun a ha => ?_⟩
  conv => whnf
  rw [enumD_map]
  have hlz : (ts.zipIdx.map fun p => D.tup [.int (p.2 : Nat), tskD p.1]).length = ts.length := by rw [List.length_map, List.length_zipIdx]
  refine forD_inv _ (fun i σ M' => ∃ (u2 u3 u4 u5 u6 : Option D) (ss : List Str) (xs : List D), σ = [some (.tup (ts.map tskD)), some (.ref a), u2, u3, u4, u5, u6] ∧ M' = updM M a (.dct (ss.map Sum.inr) xs) ∧ (ss.map (Sum.inr (α := Int))).length = xs.length ∧ ss.length ≤ 8 * i) ?_ ?_ ⟨none, none, none, none, none, [], [], rfl, rfl, rfl, by simp⟩
  · rintro i x hx σ M' ⟨u2, u3, u4, u5, u6, ss, xs, rfl, rfl, hs, hss⟩ N hN
    rw [List.getElem?_map] at hx
    cases hy : ts.zipIdx[i]? with
    | none => rw [hy] at hx; cases hx
    | some y =>
      rw [hy] at hx
      cases hx
      have hi : i < ts.length := by
        have := (List.getElem?_eq_some_iff.mp hy).1
        rwa [List.length_zipIdx] at this
      have hy1 : y.1 ∈ ts := by
        obtain ⟨hi', ey⟩ := List.getElem?_eq_some_iff.mp hy
        have : y = (ts[i], 0 + i) := by rw [← ey, List.getElem_zipIdx]
        rw [this]
        exact List.getElem_mem hi
      have hk := h y.1 hy1
      have few := hk.few
      have hz : (y.1.secs.map secD).length ≤ sizeLine := size_of (by rw [List.length_map]; omega)
      refine ⟨rfl, hz, ?_⟩
      refine forD_inv _ (fun j σ M' => ∃ (u4 u5 u6 : Option D) (ss : List Str) (xs : List D), σ = [some (.tup (ts.map tskD)), some (.ref a), some (.int (y.2 : Nat)), some (tskD y.1), u4, u5, u6] ∧ M' = updM M a (.dct (ss.map Sum.inr) xs) ∧ (ss.map (Sum.inr (α := Int))).length = xs.length ∧ ss.length ≤ 8 * i + j) ?_ ?_ ⟨u4, u5, u6, ss, xs, rfl, rfl, hs, by omega⟩
      · rintro j z hz σ M' ⟨u4, u5, u6, ss, xs, rfl, rfl, hs, hss⟩ N2 hN2
        have hj : j < (y.1.secs.map secD).length := (List.getElem?_eq_some_iff.mp hz).1
        rw [List.length_map] at hj
        rw [List.getElem?_map] at hz
        cases hw : y.1.secs[j]? with
        | none => rw [hw] at hz; cases hz
        | some s =>
          rw [hw] at hz
          cases hz
          refine ⟨rfl, ?_⟩
          conv => whnf; simp only [updM_same]; whnf
          obtain ⟨ss', e1, e2⟩ := strs_put (ss := ss) (xs := xs) (s := s.2.2) (v := .int (y.2 : Nat))
          have e3 := len_put (k := Sum.inr s.2.2) (v := D.int (y.2 : Nat)) hs
          refine ⟨by rw [List.length_map]; exact size_of (by omega), hN2 _ _ ⟨_, _, _, ss', (putDk (ss.map Sum.inr) xs (Sum.inr s.2.2) (.int (y.2 : Nat))).2, rfl, ?_, ?_, by omega⟩⟩
          · rw [updM_updM, e1]
          · rw [← e1]; exact e3
      · rintro σ M' ⟨u4, u5, u6, ss, xs, rfl, rfl, hs, hss⟩
        rw [List.length_map] at hss
        exact hN _ _ ⟨_, _, _, _, _, ss, xs, rfl, rfl, hs, by omega⟩
  · rintro σ M' ⟨u2, u3, u4, u5, u6, ss, xs, rfl, rfl, hs, hss⟩
    rw [hlz] at hss
    conv => whnf; simp only [viewDc_upd]; whnf
    refine ⟨by rw [List.length_map]; exact size_of (by omega), ?_⟩
    conv => whnf; simp only [pyds_strs]
    have lm : (((ss.map (Sum.inr (α := Int))).map kD).mergeSort leD).length = ss.length := by rw [List.length_mergeSort, List.length_map, List.length_map]
    refine ⟨PySem.W.AllAlike.of fun _ _ => rfl, PySem.W.Sortable.others fun _ => ⟨fun e => (nomatch e), fun _ e => (nomatch e)⟩, fun p hp => ?_, by rw [lm]; exact size_of (by omega), by rw [lm]; exact Nat.lt_of_lt_of_le (by omega : ss.length < 1000) (size_of (by omega)), ?_⟩
    · obtain ⟨s, _, rfl⟩ := List.mem_map.mp hp
      simp [PyData.depth]
    · refine dcD_any (fun z hz N n => ?_) fun ks ys => ⟨M, Sub.upd ha, q _⟩
      have hz' := List.mem_mergeSort.mp hz
      obtain ⟨k, hk, rfl⟩ := List.mem_map.mp hz'
      obtain ⟨s, hs', rfl⟩ := List.mem_map.mp hk
      obtain ⟨d, ed⟩ := getK_mem hs hk
      conv => whnf; simp only [updM_same]; whnf; simp only [viewDc_upd]; whnf; simp only [ed]
      exact n _ _
end
end K84

/-! ### K84e -/
set_option Elab.async false
set_option linter.all false
set_option maxRecDepth 100000
set_option maxHeartbeats 4000000
namespace K84
open PySem L2 DL PyProof.Rows

/-! ## groups of tasks -/
def namesD (ts : List Tsk) : D := .tup (ts.map fun t => .str t.name)
def spotsD (ts : List Tsk) : D := .dct (ts.map fun t => Sum.inr t.name) (ts.zipIdx.map fun p => .int (p.2 : Nat))
def plainD (ts : List Tsk) : D := .tup (ts.map tskD)
def tasksD (C : Addr) (ts : List Tsk) (lk ld : D) : D := .ins C ["own_tasks", "own_names", "own_spots", "own_locks", "own_load"] [plainD ts, namesD ts, spotsD ts, lk, ld]
structure GoodTs (ts : List Tsk) : Prop where
  ok : ∀ t ∈ ts, TskOk t
  nd : (ts.map (·.name)).Nodup
  few : ts.length ≤ 10
  load : 10 * (loadP ts (0, 1)).1 ≤ 9 * (loadP ts (0, 1)).2
theorem loadP_pos : ∀ {ts : List Tsk} {p : Int × Int}, (∀ t ∈ ts, TskOk t) → 0 < p.2 → 0 < (loadP ts p).2
  | [], _, _, h => h
  | t :: r, p, h, hp => loadP_pos (ts := r) (fun x hx => h x (List.mem_cons_of_mem _ hx)) (Int.mul_pos hp (by have := (h t List.mem_cons_self).g1; omega))
theorem put1 {a : D} : putD [] [] "own_tasks" a = ((["own_tasks"] : List Str), [a]) := rfl
theorem put2 {a b : D} : putD ["own_tasks"] [a] "own_names" b = ((["own_tasks", "own_names"] : List Str), [a, b]) := by
  unfold putD; rw [if_neg (by decide)]; rfl
theorem put3 {a b c : D} : putD ["own_tasks", "own_names"] [a, b] "own_spots" c = ((["own_tasks", "own_names", "own_spots"] : List Str), [a, b, c]) := by
  unfold putD; rw [if_neg (by decide)]; unfold putD; rw [if_neg (by decide)]; rfl
theorem put4 {a b c d : D} : putD ["own_tasks", "own_names", "own_spots"] [a, b, c] "own_locks" d = ((["own_tasks", "own_names", "own_spots", "own_locks"] : List Str), [a, b, c, d]) := by
  unfold putD; rw [if_neg (by decide)]; unfold putD; rw [if_neg (by decide)]; unfold putD; rw [if_neg (by decide)]; rfl
theorem put5 {a b c d e : D} : putD ["own_tasks", "own_names", "own_spots", "own_locks"] [a, b, c, d] "own_load" e = ((["own_tasks", "own_names", "own_spots", "own_locks", "own_load"] : List Str), [a, b, c, d, e]) := by
  unfold putD; rw [if_neg (by decide)]; unfold putD; rw [if_neg (by decide)]; unfold putD; rw [if_neg (by decide)]; unfold putD; rw [if_neg (by decide)]; rfl
theorem putN {a b : D} : putD ["own_tasks"] [a] "own_numbers" b = ((["own_tasks", "own_numbers"] : List Str), [a, b]) := by
  unfold putD; rw [if_neg (by decide)]; rfl
theorem look1 {n : List Str} {a : D} {r : List D} : lookD ("own_tasks" :: n) (a :: r) "own_tasks" = some a := by unfold lookD; rw [if_pos rfl]
theorem look2 {n : List Str} {a b : D} {r : List D} : lookD ("own_tasks" :: "own_names" :: n) (a :: b :: r) "own_names" = some b := by
  unfold lookD; rw [if_neg (by decide)]; unfold lookD; rw [if_pos rfl]
theorem look3 {n : List Str} {a b c : D} {r : List D} : lookD ("own_tasks" :: "own_names" :: "own_spots" :: n) (a :: b :: c :: r) "own_spots" = some c := by
  unfold lookD; rw [if_neg (by decide)]; unfold lookD; rw [if_neg (by decide)]; unfold lookD; rw [if_pos rfl]
theorem lookN {n : List Str} {a b : D} {r : List D} : lookD ("own_tasks" :: "own_numbers" :: n) (a :: b :: r) "own_numbers" = some b := by
  unfold lookD; rw [if_neg (by decide)]; unfold lookD; rw [if_pos rfl]

def sp_Tasks___init__ (K : PySem.W.Frag) : SpD := fun ds M Q _ => ∃ a ts, ds = .ref a :: ts.map tskD ∧ GoodTs ts ∧ M a = some (.ins (He.ga K "Tasks") [] []) ∧ ∀ lk ld, Q .non (updM M a (.ins (He.ga K "Tasks") ["own_tasks", "own_names", "own_spots", "own_locks", "own_load"] [plainD ts, namesD ts, spotsD ts, lk, ld]))
def sp_Tasks_of (K : PySem.W.Frag) : SpD := fun ds M Q _ => ∃ ts, ds = [.ref (He.ga K "Tasks"), plainD ts] ∧ GoodTs ts ∧ ∀ lk ld, Q (tasksD (He.ga K "Tasks") ts lk ld) M
theorem keys_eq (ts : List Tsk) : (ts.zipIdx.map fun a : Tsk × Nat => (Sum.inr a.1.name : Key)) = ts.map fun t => Sum.inr t.name := by
  conv => rhs; rw [← List.zipIdx_map_fst 0 ts]
  rw [List.map_map]; rfl
section
variable {P : Program} {w : World} {K : PySem.W.Frag} {mg : Str → Option Value} {base : Heap}
theorem ok12 (T : Txt K mg) : FnD false P w K mg base 7 (He.ma K (He.ga K "Tasks") "__init__") (sp_Tasks___init__ K) := by
  refine ok_Tasks___init__ T (ok8 T) (ok10 T) (ok11 T) ?_
  rintro ds M Q E ⟨a, ts, rfl, G, hM, q⟩
  have few := G.few
  have hz : (ts.map tskD).length ≤ sizeLine := size_of (by rw [List.length_map]; omega)
  show _ ∧ (ts.map tskD).length ≤ sizeLine ∧ t_Tasks___init__ K _ _ _ _ (startD _ [D.ref a, .tup (ts.map tskD)]) M
  refine ⟨by simp, hz, ts, rfl, G.ok, G.nd, by omega, ?_⟩
  have c1 : decide ((10 : Int) < ((ts.map tskD).length : Nat)) = false := decide_eq_false (by rw [List.length_map]; omega)
  conv => whnf; simp only [c1]
  refine ⟨ts, rfl, G.ok, few, fun t b h1 h2 h3 h4 h5 => ?_⟩
  have l1 := log2_lt h1 h3 (by omega)
  have l2 := log2_lt (by omega) h4 (by omega)
  have l9 : (9 : Int).natAbs.log2 < 4 := by decide +kernel
  have l10 : (10 : Int).natAbs.log2 < 4 := by decide +kernel
  refine ⟨by omega, by omega, ?_⟩
  have pp := loadP_pos (ts := ts) (p := (0, 1)) G.ok (by decide)
  have c2 : decide (9 * b < t * 10) = false := by
    refine decide_eq_false fun hlt => ?_
    have k1 : 9 * b * (loadP ts (0, 1)).2 < t * 10 * (loadP ts (0, 1)).2 := Int.mul_lt_mul_of_pos_right hlt pp
    have k2 : t * 10 * (loadP ts (0, 1)).2 = 10 * (loadP ts (0, 1)).1 * b := by
      rw [Int.mul_right_comm, h5, Int.mul_comm, Int.mul_assoc]
    have k3 : 10 * (loadP ts (0, 1)).1 * b ≤ 9 * (loadP ts (0, 1)).2 * b := Int.mul_le_mul_of_nonneg_right G.load (by omega)
    have k4 : 9 * b * (loadP ts (0, 1)).2 = 9 * (loadP ts (0, 1)).2 * b := Int.mul_right_comm _ _ _
    omega
  conv => whnf; simp only [c2]; whnf; simp only [hM]
  refine ⟨⟨T.c_Tasks, T.a_Tasks_own_tasks⟩, by decide, hz, ?_⟩
  refine lcD_mapT tskD (fun t => .str t.name) (fun s hs N n => n) ?_
  conv => whnf; simp only [updM_same, updM_updM, put1]; whnf
  refine ⟨⟨T.c_Tasks, T.a_Tasks_own_names⟩, by decide, ?_⟩
  conv => whnf
  rw [enumD_map]
  refine ⟨by rw [List.length_map, List.length_zipIdx]; exact Nat.lt_of_lt_of_le (by omega : ts.length < 1000) (size_of (by omega)), ?_⟩
  have nd' : (([] : List Key) ++ ts.zipIdx.map fun a : Tsk × Nat => Sum.inr a.1.name).Nodup := by
    rw [List.nil_append]
    have e : (ts.zipIdx.map fun a : Tsk × Nat => (Sum.inr a.1.name : Key)) = (ts.map (·.name)).map Sum.inr := by
      rw [keys_eq, List.map_map]; rfl
    rw [e]
    exact List.Pairwise.map _ (fun a b hab e => hab (Sum.inr.inj e)) G.nd
  refine dcD_mapT _ (fun a : Tsk × Nat => a.1.name) (fun a => .int (a.2 : Nat)) (fun s hs N n => ⟨rfl, n⟩) nd' ?_
  conv => whnf; simp only [updM_same, updM_updM, put1, put2]; whnf
  refine ⟨⟨T.c_Tasks, T.a_Tasks_own_spots⟩, by decide, ?_⟩
  refine ⟨ts, rfl, G.ok, few, fun lk => ?_⟩
  conv => whnf; simp only [updM_same, updM_updM, put1, put2, put3]; whnf
  refine ⟨⟨T.c_Tasks, T.a_Tasks_own_locks⟩, by decide, ?_⟩
  conv => whnf; simp only [updM_same, updM_updM, put1, put2, put3, put4]; whnf
  refine ⟨⟨T.c_Tasks, T.a_Tasks_own_load⟩, by decide, ?_⟩
  simp only [updM_same, updM_updM, put1, put2, put3, put4, put5]
  refine upQ.mk ?_
  have z := q lk (.tup [.int t, .int b])
  unfold spotsD at z
  rw [← keys_eq ts] at z
  exact z
theorem upd_none {M : HD} {a : Addr} {o u : MO} (h : M a = none) : delM (updM (updM M a o) a u) a = M := by
  funext b
  unfold delM updM
  by_cases e : b = a
  · rw [if_pos e, e, h]
  · rw [if_neg e, if_neg e, if_neg e]
theorem ok13 (T : Txt K mg) : FnD false P w K mg base 9 (He5.wf K (He.ga K "Tasks") "classmethod" "of") (sp_Tasks_of K) := by
  refine ok_Tasks_of T (ok8 T) (ok12 T) ?_
  rintro ds M Q E ⟨ts, rfl, G, q⟩
  have few := G.few
  refine ⟨rfl, ts, rfl, G.ok, G.nd, by omega, ?_⟩
  refine ⟨rfl, fun a ha => ?_⟩
  refine ⟨a, ts, by simp, G, updM_same, fun lk ld => ⟨rfl, ?_⟩⟩
  simp only [updM_same, upd_none ha]
  exact ⟨trivial, upQ.mk (q lk ld)⟩
theorem view_tasks {M : HD} {C : Addr} {ts : List Tsk} {lk ld : D} : viewI M (tasksD C ts lk ld) = some (C, (["own_tasks", "own_names", "own_spots", "own_locks", "own_load"] : List Str), [plainD ts, namesD ts, spotsD ts, lk, ld]) := rfl
/-- isinstance(x, Tasks) of such -/
def sp_require_tasks (K : PySem.W.Frag) : SpD := fun ds M Q _ => ∃ ts lk ld, ds = [tasksD (He.ga K "Tasks") ts lk ld] ∧ Q .non M
theorem ok14 (T : Txt K mg) : FnD false P w K mg base 1 (He.ga K "require_tasks") (sp_require_tasks K) := by
  refine ok_require_tasks T ?_
  rintro ds M Q E ⟨ts, lk, ld, rfl, q⟩
  refine ⟨rfl, _, _, true, .own _, .ins view_tasks T.c_Tasks T.k_Tasks.ca T.k_Tasks.cn T.k_Tasks.ct T.k_Tasks.cm, ?_, upQ.mk q⟩
  unfold PySem.W.kitOne; rw [if_pos (beq_self_eq_true _)]
def sp_Tasks___len__ (K : PySem.W.Frag) : SpD := fun ds M Q _ => ∃ ts lk ld, ds = [tasksD (He.ga K "Tasks") ts lk ld] ∧ Q (.int (ts.length : Nat)) M
theorem ok15 (T : Txt K mg) : FnD false P w K mg base 1 (He.ma K (He.ga K "Tasks") "__len__") (sp_Tasks___len__ K) := by
  refine ok_Tasks___len__ T ?_
  rintro ds M Q E ⟨ts, lk, ld, rfl, q⟩
  refine ⟨rfl, ⟨T.c_Tasks, T.a_Tasks_own_tasks⟩, ?_⟩
  conv => whnf; simp only [look1]; whnf
  rw [List.length_map]
  exact upQ.mk q
def sp_Tasks_tasks (K : PySem.W.Frag) : SpD := fun ds M Q _ => ∃ ts lk ld, ds = [tasksD (He.ga K "Tasks") ts lk ld] ∧ Q (plainD ts) M
theorem ok16 (T : Txt K mg) : FnD false P w K mg base 1 (rcA "property" (He.ma K (He.ga K "Tasks") "tasks") K) (sp_Tasks_tasks K) := by
  refine ok_Tasks_tasks T ?_
  rintro ds M Q E ⟨ts, lk, ld, rfl, q⟩
  refine ⟨rfl, ⟨T.c_Tasks, T.a_Tasks_own_tasks⟩, ?_⟩
  conv => whnf; simp only [look1]
  exact upQ.mk q
/-! ## levels -/
def numsD (ns : List Int) : D := .tup (ns.map D.int)
def levelsD (C : Addr) (g : D) (ns : List Int) : D := .ins C ["own_tasks", "own_numbers"] [g, numsD ns]
def LevOk (n : Nat) (ns : List Int) : Prop := ns.length = n ∧ ∀ (i : Nat) x, ns[i]? = some x → (i : Int) ≤ x ∧ x ≤ n - 1
def sp_are_levels (K : PySem.W.Frag) : SpD := fun ds M Q _ => ∃ ts lk ld ns, ds = [tasksD (He.ga K "Tasks") ts lk ld, numsD ns] ∧ ts.length ≤ 10 ∧ LevOk ts.length ns ∧ Q (.bl true) M
theorem ok17 (T : Txt K mg) : FnD false P w K mg base 3 (He.ga K "are_levels") (sp_are_levels K) := by
  refine ok_are_levels T (ok15 T) (ok2 T) ?_
  rintro ds M Q E ⟨ts, lk, ld, ns, rfl, few, ⟨hl, hn⟩, q⟩
  refine ⟨rfl, _, _, true, .ty _, .tup _, kit_ty k_tuple, ?_⟩
  refine ⟨⟨_, _, rfl⟩, ts, lk, ld, rfl, ⟨by omega, by omega⟩, ?_⟩
  have c1 : (((ns.map D.int).length : Nat) : Int) == ((ts.length : Nat) : Int) := by rw [List.length_map, hl]; exact beq_self_eq_true _
  conv => whnf; simp only [c1]; whnf
  rw [enumD_map]
  refine lcD_mapT _ (fun _ => .bl true) (fun p hp N n => ?_) ?_
  · obtain ⟨i, hi, ep⟩ := List.getElem_of_mem hp
    rw [List.length_zipIdx] at hi
    rw [List.getElem_zipIdx] at ep
    have hx := hn i p.1 (by rw [← ep]; simp [hi])
    have h2 : p.2 = i := by rw [← ep]; simp
    refine ⟨rfl, ⟨_, _, rfl⟩, ts, lk, ld, rfl, ⟨by omega, by omega⟩, ?_⟩
    exact ⟨_, _, _, rfl, ⟨by omega, by omega⟩, n⟩
  · conv => whnf; simp only [bls_true]; whnf; simp only [all_true]
    exact upQ.mk q
def sp_Levels___init__ (K : PySem.W.Frag) : SpD := fun ds M Q _ => ∃ a ts lk ld ns, ds = .ref a :: tasksD (He.ga K "Tasks") ts lk ld :: ns.map D.int ∧ ts.length ≤ 10 ∧ LevOk ts.length ns ∧ M a = some (.ins (He.ga K "Levels") [] []) ∧ Q .non (updM M a (.ins (He.ga K "Levels") ["own_tasks", "own_numbers"] [tasksD (He.ga K "Tasks") ts lk ld, numsD ns]))
theorem ok18 (T : Txt K mg) : FnD false P w K mg base 4 (He.ma K (He.ga K "Levels") "__init__") (sp_Levels___init__ K) := by
  refine ok_Levels___init__ T (ok14 T) (ok17 T) ?_
  rintro ds M Q E ⟨a, ts, lk, ld, ns, rfl, few, L, hM, q⟩
  have hz : (ns.map D.int).length ≤ sizeLine := size_of (by rw [List.length_map]; have := L.1; omega)
  show _ ∧ (ns.map D.int).length ≤ sizeLine ∧ t_Levels___init__ K _ _ _ (startD _ [D.ref a, tasksD (He.ga K "Tasks") ts lk ld, .tup (ns.map D.int)]) M
  refine ⟨by simp, hz, ts, lk, ld, rfl, ts, lk, ld, ns, rfl, few, L, ?_⟩
  conv => whnf; simp only [hM]
  refine ⟨⟨T.c_Levels, T.a_Levels_own_tasks⟩, by decide, ?_⟩
  conv => whnf; simp only [updM_same, updM_updM, put1]; whnf
  refine ⟨⟨T.c_Levels, T.a_Levels_own_numbers⟩, by decide, ?_⟩
  simp only [updM_same, updM_updM, put1, putN]
  exact upQ.mk q
def sp_Levels_of (K : PySem.W.Frag) : SpD := fun ds M Q _ => ∃ ts lk ld ns, ds = [.ref (He.ga K "Levels"), tasksD (He.ga K "Tasks") ts lk ld, numsD ns] ∧ ts.length ≤ 10 ∧ LevOk ts.length ns ∧ Q (levelsD (He.ga K "Levels") (tasksD (He.ga K "Tasks") ts lk ld) ns) M
theorem ok19 (T : Txt K mg) : FnD false P w K mg base 6 (He5.wf K (He.ga K "Levels") "classmethod" "of") (sp_Levels_of K) := by
  refine ok_Levels_of T (ok14 T) (ok18 T) ?_
  rintro ds M Q E ⟨ts, lk, ld, ns, rfl, few, L, q⟩
  refine ⟨rfl, ts, lk, ld, rfl, _, _, true, .ty _, .tup _, kit_ty k_tuple, ?_⟩
  refine ⟨rfl, fun a ha => ?_⟩
  refine ⟨a, ts, lk, ld, ns, by simp, few, L, updM_same, rfl, ?_⟩
  simp only [updM_same, upd_none ha]
  exact ⟨trivial, upQ.mk q⟩
theorem view_levels {M : HD} {C : Addr} {g : D} {ns : List Int} : viewI M (levelsD C g ns) = some (C, (["own_tasks", "own_numbers"] : List Str), [g, numsD ns]) := rfl
def sp_require_levels (K : PySem.W.Frag) : SpD := fun ds M Q _ => ∃ g ns, ds = [levelsD (He.ga K "Levels") g ns] ∧ Q .non M
theorem ok20 (T : Txt K mg) : FnD false P w K mg base 1 (He.ga K "require_levels") (sp_require_levels K) := by
  refine ok_require_levels T ?_
  rintro ds M Q E ⟨g, ns, rfl, q⟩
  refine ⟨rfl, _, _, true, .own _, .ins view_levels T.c_Levels T.k_Levels.ca T.k_Levels.cn T.k_Levels.ct T.k_Levels.cm, ?_, upQ.mk q⟩
  unfold PySem.W.kitOne; rw [if_pos (beq_self_eq_true _)]
def sp_Levels_numbers (K : PySem.W.Frag) : SpD := fun ds M Q _ => ∃ g ns, ds = [levelsD (He.ga K "Levels") g ns] ∧ Q (numsD ns) M
theorem ok21 (T : Txt K mg) : FnD false P w K mg base 1 (rcA "property" (He.ma K (He.ga K "Levels") "numbers") K) (sp_Levels_numbers K) := by
  refine ok_Levels_numbers T ?_
  rintro ds M Q E ⟨g, ns, rfl, q⟩
  refine ⟨rfl, ⟨T.c_Levels, T.a_Levels_own_numbers⟩, ?_⟩
  conv => whnf; simp only [lookN]
  exact upQ.mk q
end
end K84

/-! ### K84f -/
set_option Elab.async false
set_option linter.all false
set_option maxRecDepth 100000
set_option maxHeartbeats 4000000
namespace K84
open PySem L2 DL PyProof.Rows

/-! ## the drawn numbers: a stream's list -/
def St (k : Nat) (o : MO) : Prop := ∃ x y c : Int, o = .lst [.int x, .int y, .int c] ∧ 0 ≤ x ∧ x < 10 ^ 600 ∧ 0 ≤ y ∧ y < 2147483423 ∧ 0 ≤ c ∧ c + k ≤ 1000000000
theorem St.le {k j : Nat} {o : MO} (h : St k o) (e : j ≤ k) : St j o := by
  obtain ⟨x, y, c, h1, h2, h3, h4, h5, h6, h7⟩ := h
  exact ⟨x, y, c, h1, h2, h3, h4, h5, h6, by omega⟩
/-- all but the stream stands -/
def Fr (a : Addr) (M M' : HD) : Prop := ∀ c v, c ≠ a → M c = some v → M' c = some v
theorem Fr.refl {a : Addr} {M : HD} : Fr a M M := fun _ _ _ h => h
theorem Fr.trans {a : Addr} {M M' M'' : HD} (h : Fr a M M') (h' : Fr a M' M'') : Fr a M M'' := fun c v hc e => h' c v hc (h c v hc e)
theorem Fr.upd {a : Addr} {M : HD} {o : MO} : Fr a M (updM M a o) := fun c v hc e => by rw [updM_ne hc]; exact e
theorem Fr.new {a b : Addr} {M M' : HD} {o : MO} (h : Fr a M M') (hb : M b = none) : Fr a M (updM M' b o) := fun c v hc e => by
  by_cases q : c = b
  · rw [q, hb] at e; cases e
  · rw [updM_ne q]; exact h c v hc e
theorem Fr.sub {a : Addr} {M M' : HD} {o : MO} (h : Fr a M M') (ha : M' a = some o) : Sub (updM M a o) M' := fun c v e => by
  by_cases q : c = a
  · rw [q, updM_same] at e; rw [q, ha]; exact e
  · rw [updM_ne q] at e; exact h c v q e
theorem viewS_of {M : HD} {a : Addr} {xs : List D} (h : M a = some (.lst xs)) : viewS M (.ref a) = some xs := by unfold viewS; simp only [h]
theorem viewL_of {M : HD} {a : Addr} {xs : List D} (h : M a = some (.lst xs)) : viewL M (.ref a) = some xs := by unfold viewL; simp only [h]
theorem viewQ_of {M : HD} {a : Addr} {xs : List D} (h : M a = some (.lst xs)) : viewQ M (.ref a) = some xs := by unfold viewQ; simp only [h]
theorem log2_of {x : Int} (n : Nat) (h0 : 0 ≤ x) (h : x < 2 ^ n) : x.natAbs.log2 ≤ n := by
  by_cases hx : x.natAbs = 0
  · rw [hx]; simp
  · have : x.natAbs.log2 < n := by
      rw [Nat.log2_lt hx]
      have : (x.natAbs : Int) < ((2 ^ n : Nat) : Int) := by rw [Int.natAbs_of_nonneg h0]; simpa using h
      exact Int.ofNat_lt.mp this
    omega
def sp__law_draw : SpD := fun ds M Q _ => ∃ a o k high, ds = [.ref a, .int high] ∧ M a = some o ∧ St (k + 1) o ∧ 1 ≤ high ∧ high ≤ 10000000 ∧ ∀ r o', 0 ≤ r → r < high → St k o' → Q (.int r) (updM M a o')
section
variable {P : Program} {w : World} {K : PySem.W.Frag} {mg : Str → Option Value} {base : Heap}
theorem ok30 (T : Txt K mg) : FnD false P w K mg base 1 (He.ga K "_law_draw") sp__law_draw := by
  refine ok__law_draw T ?_
  rintro ds M Q E ⟨a, o, k, high, rfl, hM, ⟨x, y, c, rfl, x0, x1, y0, y1, c0, c1⟩, h1, h2, q⟩
  have vS := viewS_of hM
  by_cases hx : 0 < x
  · have t1 : decide (0 < x) = true := decide_eq_true hx
    refine ⟨rfl, ?_⟩
    conv => whnf; simp only [hM]; whnf; simp only [vS]; whnf; simp only [t1]; whnf; simp only [hM]; whnf; simp only [vS]; whnf
    refine ⟨by omega, ?_⟩
    conv => whnf; simp only [hM]; whnf; simp only [vS]; whnf
    refine ⟨⟨by omega, Nat.lt_of_le_of_lt (log2_of 40 (by omega) (by omega)) (by omega)⟩, ?_⟩
    conv => whnf; simp only [hM]; whnf
    have d0 := Int.ediv_nonneg x0 (show 0 ≤ high by omega)
    have d1 := Int.ediv_le_self high x0
    exact upQ.mk (q _ _ (Int.emod_nonneg x (by omega)) (Int.emod_lt_of_pos x (by omega)) ⟨x / high, y, c, rfl, d0, by omega, y0, y1, c0, by omega⟩)
  · have t1 : decide (0 < x) = false := decide_eq_false hx
    refine ⟨rfl, ?_⟩
    have x00 : x = 0 := by omega
    subst x00
    conv => whnf; simp only [hM]; whnf; simp only [vS]; whnf; simp only [t1]; whnf; simp only [hM]; whnf; simp only [vS]; whnf; simp only [hM]; whnf
    have l1 : (1000249 : Int).natAbs.log2 ≤ 40 := log2_of 40 (by omega) (by omega)
    have l2 : (c + 1).natAbs.log2 ≤ 60 := log2_of 60 (by omega) (by omega)
    have vS2 : viewS (updM M a (.lst [D.int 0, .int y, .int (c + 1)])) (.ref a) = some [D.int 0, .int y, .int (c + 1)] := viewS_upd
    have hset : [D.int 0, D.int y, D.int c].set (Int.toNat 2) (D.int (c + 1)) = [D.int 0, D.int y, D.int (c + 1)] := rfl
    conv => simp only [hset, updM_same]; whnf; simp only [vS2]; whnf; simp only [updM_same]; whnf; simp only [vS2]; whnf
    refine ⟨by omega, ?_⟩
    refine ⟨by omega, ?_⟩
    have o0 := Int.emod_nonneg (y + 1000249 * (c + 1)) (show (2305843009213693951 : Int) ≠ 0 by omega)
    have o1 := Int.emod_lt_of_pos (y + 1000249 * (c + 1)) (show (0 : Int) < 2305843009213693951 by omega)
    have l3 := log2_of 61 o0 (by omega)
    refine ⟨by omega, ?_⟩
    refine ⟨by omega, ?_⟩
    have p0 := Int.emod_nonneg (((y + 1000249 * (c + 1)) % 2305843009213693951) * ((y + 1000249 * (c + 1)) % 2305843009213693951)) (show (2305843009213693921 : Int) ≠ 0 by omega)
    have p1 := Int.emod_lt_of_pos (((y + 1000249 * (c + 1)) % 2305843009213693951) * ((y + 1000249 * (c + 1)) % 2305843009213693951)) (show (0 : Int) < 2305843009213693921 by omega)
    have l4 := log2_of 61 p0 (by omega)
    refine ⟨by omega, ?_⟩
    conv => whnf; simp only [updM_same]; whnf; simp only [vS2]; whnf
    have l5 : (6871 : Int).natAbs.log2 ≤ 40 := log2_of 40 (by omega) (by omega)
    refine ⟨by omega, ?_⟩
    refine ⟨by omega, ?_⟩
    refine ⟨⟨by omega, Nat.lt_of_le_of_lt (log2_of 40 (by omega) (by omega)) (by omega)⟩, ?_⟩
    refine ⟨by omega, ?_⟩
    exact upQ.mk (q _ _ (Int.emod_nonneg _ (by omega)) (Int.emod_lt_of_pos _ (by omega)) ⟨0, y, c + 1, rfl, x0, x1, y0, y1, by omega, by omega⟩)
theorem atI_in {α : Type} {xs : List α} {r : Int} (h0 : 0 ≤ r) (h : r < (xs.length : Nat)) : ∃ d, d ∈ xs ∧ xs[r.toNat]? = some d ∧ atI xs r = some d := by
  have hlt : r.toNat < xs.length := by omega
  refine ⟨xs[r.toNat], List.getElem_mem hlt, by simp [hlt], ?_⟩
  have := atI_nat (xs := xs) (j := r.toNat) (v := xs[r.toNat]) (by simp [hlt])
  rwa [Int.toNat_of_nonneg h0] at this
def sp__law_pick : SpD := fun ds M Q _ => ∃ a o k xs, ds = [.ref a, .lst xs] ∧ M a = some o ∧ St (k + 1) o ∧ 1 ≤ xs.length ∧ xs.length ≤ 1000 ∧ ∀ d o', d ∈ xs → St k o' → Q d (updM M a o')
theorem ok31 (T : Txt K mg) : FnD false P w K mg base 2 (He.ga K "_law_pick") sp__law_pick := by
  refine ok__law_pick T (ok30 T) ?_
  rintro ds M Q E ⟨a, o, k, xs, rfl, hM, hs, h1, h2, q⟩
  refine ⟨rfl, a, o, k, _, rfl, hM, hs, by omega, by omega, fun r o' r0 r1 s' => ?_⟩
  obtain ⟨d, hd, _, ed⟩ := atI_in r0 r1
  conv => whnf; simp only [ed]
  exact upQ.mk (q d o' hd s')
theorem rngD_len {i : Int} {n : Nat} : (rngD i n).length = n := by unfold rngD; rw [List.length_map, List.length_range]
theorem rngD_get {i : Int} {n j : Nat} {x : D} (h : (rngD i n)[j]? = some x) : j < n ∧ x = .int (i + (j : Nat)) := by
  unfold rngD at h
  rw [List.getElem?_map] at h
  by_cases hj : j < n
  · rw [List.getElem?_range hj] at h; cases h; exact ⟨hj, rfl⟩
  · rw [List.getElem?_eq_none (by rw [List.length_range]; omega)] at h; cases h
def sp__law_mixed : SpD := fun ds M Q _ => ∃ a o k xs, ds = [.ref a, .lst xs] ∧ M a = some o ∧ St (k + xs.length) o ∧ xs.length ≤ 1000 ∧ ∀ ys o', ys.Perm xs → St k o' → Q (.lst ys) (updM M a o')
theorem ok32 (T : Txt K mg) : FnD false P w K mg base 2 (He.ga K "_law_mixed") sp__law_mixed := by
  refine ok__law_mixed T (ok30 T) ?_
  rintro ds M Q E ⟨a, o, k, xs, rfl, hM, hs, h2, q⟩
  have hz : xs.length ≤ sizeLine := size_of (by omega)
  refine ⟨rfl, fun b hb => ?_⟩
  have hba : b ≠ a := fun e => by rw [e, hM] at hb; cases hb
  refine ⟨by have := hz; exact_mod_cast this, by omega, ?_⟩
  refine lcD_inv _ (fun i acc M' => Fr a M M' ∧ (∃ o', M' a = some o' ∧ St (k + (xs.length - i)) o') ∧ ∃ left, M' b = some (.lst left) ∧ (acc ++ left).Perm xs ∧ acc.length = i) ?_ ?_ ⟨Fr.refl.new hb, ⟨o, by rw [updM_ne (Ne.symm hba)]; exact hM, hs⟩, xs, updM_same, List.Perm.refl _, rfl⟩
  · rintro i x hx acc M' ⟨fr, ⟨o1, ha, s1⟩, left, hl, hp, hlen⟩ N hN
    have hi := (rngD_get hx).1
    have hpl := hp.length_eq
    rw [List.length_append] at hpl
    have hi' : i < xs.length := by omega
    refine ⟨⟨b, left, rfl, hl⟩, ?_⟩
    conv => whnf; simp only [viewS_of hl]; whnf
    refine ⟨a, o1, k + (xs.length - (i + 1)), _, rfl, ha, s1.le (by omega), by omega, by omega, fun r o' r0 r1 s' => ?_⟩
    obtain ⟨d, hd, ed, _⟩ := atI_in r0 r1
    have hl2 : updM M' a o' b = some (.lst left) := by rw [updM_ne hba]; exact hl
    conv => whnf; simp only [hl2]
    refine ⟨⟨r0, r1⟩, ?_⟩
    rw [ed]
    have hlt : r.toNat < left.length := by omega
    refine hN _ _ ⟨?_, ⟨o', by rw [updM_ne (Ne.symm hba), updM_same], s'⟩, left.eraseIdx r.toNat, updM_same, ?_, by rw [List.length_append]; simp [hlen]⟩
    · exact (fr.trans Fr.upd).new hb
    · have e1 : left = left.take r.toNat ++ d :: left.drop (r.toNat + 1) := by
        have : left[r.toNat] = d := by
          have := List.getElem?_eq_some_iff.mp ed
          exact this.2
        rw [← this, ← List.drop_eq_getElem_cons hlt, List.take_append_drop]
      rw [List.eraseIdx_eq_take_drop_succ]
      refine List.Perm.trans ?_ hp
      rw [List.append_assoc]
      refine List.Perm.append_left acc ?_
      conv => rhs; rw [e1]
      show (d :: (left.take r.toNat ++ left.drop (r.toNat + 1))).Perm _
      exact List.perm_middle.symm
  · rintro acc M' ⟨fr, ⟨o1, ha, s1⟩, left, hl, hp, hlen⟩
    rw [rngD_len] at hlen
    have hpl := hp.length_eq
    rw [List.length_append] at hpl
    have hn : acc.length = xs.length := by rw [hlen]; simp
    have : left = [] := List.eq_nil_of_length_eq_zero (by omega)
    subst this
    rw [List.append_nil] at hp
    exact ⟨_, fr.sub ha, q acc o1 hp (s1.le (by omega))⟩
end
end K84

/-! ### K84g -/
set_option Elab.async false
set_option linter.all false
set_option maxRecDepth 100000
set_option maxHeartbeats 4000000
namespace K84
open PySem L2 DL PyProof.Rows

def names16 : List Str := ["a", "aa", "b", "ba", "car", "d", "gap", "k", "late", "map", "none", "row", "task", "x", "y", "zzzzzzzz"]
def nameOkB (s : Str) : Bool := decide (1 ≤ s.length) && (decide (s.length ≤ 8) && s.cps.toList.all fun c => decide (97 ≤ c) && decide (c ≤ 122))
theorem nameOkB_ok {s : Str} (h : nameOkB s = true) : NameOk s := by
  unfold nameOkB at h
  rw [Bool.and_eq_true, Bool.and_eq_true] at h
  refine ⟨of_decide_eq_true h.1, of_decide_eq_true h.2.1, fun c hc => ?_⟩
  have := List.all_eq_true.mp h.2.2 c hc
  rw [Bool.and_eq_true] at this
  exact ⟨of_decide_eq_true this.1, of_decide_eq_true this.2⟩
theorem names16_ok : ∀ s ∈ names16, NameOk s := by
  have h : names16.all nameOkB = true := by decide +kernel
  exact fun s hs => nameOkB_ok (List.all_eq_true.mp h s hs)
theorem names16_nd : names16.Nodup := by decide +kernel
def unS : D → Str
  | .str s => s
  | _ => ""
theorem unS_map (ss : List Str) : (ss.map D.str).map unS = ss := by
  rw [List.map_map]
  exact List.map_id'' (fun _ => rfl) ss
theorem str_perm {ys : List D} {ss : List Str} (h : ys.Perm (ss.map D.str)) : ∃ ns : List Str, ys = ns.map D.str ∧ ns.Perm ss := by
  refine ⟨ys.map unS, ?_, ?_⟩
  · rw [List.map_map]
    have : ∀ y ∈ ys, (D.str ∘ unS) y = y := fun y hy => by
      obtain ⟨s, _, rfl⟩ := List.mem_map.mp (h.mem_iff.mp hy)
      rfl
    rw [List.map_congr_left this]
    simp
  · have := h.map unS
    rwa [unS_map] at this
theorem cutD_take {α : Type} (f : α → D) (xs : List α) (n : Int) (h0 : 0 ≤ n) (h : n ≤ xs.length) : DL.cutD (xs.map f) none (some n) = (xs.take n.toNat).map f := by
  unfold DL.cutD
  obtain ⟨m, rfl⟩ := Int.eq_ofNat_of_zero_le h0
  rw [HT.sIx_nat, HT.sIx_none, List.drop_zero, List.length_map, Nat.sub_zero, ← List.map_take]
  have : min m xs.length = (m : Int).toNat := by omega
  rw [this]
def sp__law_names : SpD := fun ds M Q _ => ∃ a o k much, ds = [.ref a, .int much] ∧ M a = some o ∧ St (k + 16) o ∧ 0 ≤ much ∧ much ≤ 16 ∧ ∀ (ns : List Str) o', (ns.length : Int) = much → ns.Nodup → (∀ s ∈ ns, NameOk s) → St k o' → Q (.lst (ns.map D.str)) (updM M a o')
section
variable {P : Program} {w : World} {K : PySem.W.Frag} {mg : Str → Option Value} {base : Heap}
theorem ok33 (T : Txt K mg) : FnD false P w K mg base 3 (He.ga K "_law_names") sp__law_names := by
  refine ok__law_names T (ok32 T) ?_
  rintro ds M Q E ⟨a, o, k, much, rfl, hM, hs, h0, h1, q⟩
  refine ⟨rfl, size_of (n := 15) (by decide), ?_⟩
  refine ⟨size_of (n := 1) (by decide), ?_⟩
  refine ⟨size_of (n := 16) (by decide), ?_⟩
  refine ⟨a, o, k, names16.map D.str, rfl, hM, hs, by decide, fun ys o' hp s' => ?_⟩
  obtain ⟨ns, rfl, hn⟩ := str_perm hp
  have hl : ns.length = 16 := hn.length_eq
  show upQ Q (.lst (DL.cutD (ns.map D.str) none (some much))) (updM M a o')
  rw [cutD_take _ _ _ h0 (by omega)]
  refine upQ.mk (q _ _ ?_ ?_ ?_ s')
  · rw [List.length_take]; omega
  · exact (hn.nodup_iff.mpr names16_nd).sublist (List.take_sublist _ _)
  · exact fun s hs => names16_ok s (hn.mem_iff.mp (List.mem_of_mem_take hs))

/-! ## sections -/
theorem chain_app : ∀ {ss : List (Int × Int × Str)} {s : Int × Int × Str}, Chain ss → (∀ x ∈ ss, x.2.1 ≤ s.1) → Chain (ss ++ [s])
  | [], _, _, _ => trivial
  | [a], s, _, h => ⟨h a (by simp), trivial⟩
  | a :: b :: r, s, c, h => ⟨c.1, chain_app c.2 fun x hx => h x (List.mem_cons_of_mem _ hx)⟩
def sp__law_sections : SpD := fun ds M Q _ => ∃ a o k high, ∃ ls : List Str, ds = [.ref a, .int high, .lst (ls.map D.str)] ∧ M a = some o ∧ St (k + 10) o ∧ 1 ≤ ls.length ∧ ls.length ≤ 16 ∧ (∀ s ∈ ls, NameOk s) ∧ ∀ ss o', ss.length ≤ 3 → (∀ s ∈ ss, SecOk high s) → Chain ss → St k o' → Q (.tup (ss.map secD)) (updM M a o')
theorem ok34 (T : Txt K mg) : FnD false P w K mg base 3 (He.ga K "_law_sections") sp__law_sections := by
  refine ok__law_sections T (ok31 T) (ok30 T) ?_
  rintro ds M Q E ⟨a, o, k, high, ls, rfl, hM, hs, l1, l2, hn, q⟩
  refine ⟨rfl, size_of (n := 0) (by decide), fun b hb => ?_⟩
  have hba : b ≠ a := fun e => by rw [e, hM] at hb; cases hb
  refine ⟨size_of (n := 6) (by decide), a, o, k + 9, _, rfl, by rw [updM_ne (Ne.symm hba)]; exact hM, hs, by decide, by decide, fun d o1 hd s1 => ?_⟩
  obtain ⟨n, rfl, n0, n3⟩ : ∃ n : Nat, d = .int (n : Int) ∧ 0 ≤ n ∧ n ≤ 3 := by
    simp only [List.mem_cons, List.not_mem_nil, or_false] at hd
    rcases hd with rfl | rfl | rfl | rfl | rfl | rfl
    · exact ⟨0, rfl, by omega, by omega⟩
    · exact ⟨0, rfl, by omega, by omega⟩
    · exact ⟨1, rfl, by omega, by omega⟩
    · exact ⟨1, rfl, by omega, by omega⟩
    · exact ⟨2, rfl, by omega, by omega⟩
    · exact ⟨3, rfl, by omega, by omega⟩
  refine ⟨by rw [sizeLine_eq]; omega, by omega, ?_⟩
  refine forD_inv _ (fun i σ M' => Fr a M M' ∧ (∃ o', M' a = some o' ∧ St (k + 3 * (3 - i)) o') ∧ ∃ (bg : Int) (ss : List (Int × Int × Str)) (u5 u6 : Option D), σ = [some (.ref a), some (.int high), some (.lst (ls.map D.str)), some (.ref b), some (.int bg), u5, u6] ∧ M' b = some (.lst (ss.map secD)) ∧ 0 ≤ bg ∧ (∀ s ∈ ss, s.2.1 ≤ bg) ∧ (∀ s ∈ ss, SecOk high s) ∧ Chain ss ∧ ss.length ≤ i) ?_ ?_
    ⟨(Fr.refl.new hb).trans Fr.upd, ⟨o1, updM_same, s1.le (by omega)⟩, 0, [], none, none, rfl, by rw [updM_ne hba, updM_same]; rfl, by omega, by simp, by simp, trivial, by simp⟩
  · rintro i x hx σ M' ⟨fr, ⟨o2, ha, s2⟩, bg, ss, u5, u6, rfl, hb2, g0, g1, g2, g3, g4⟩ N hN
    obtain ⟨hi, rfl⟩ := rngD_get hx
    have hi3 : i < 3 := by omega
    refine ⟨a, o2, k + 3 * (3 - (i + 1)) + 2, 3, rfl, ha, s2.le (by omega), by omega, by omega, fun r o3 r0 r1 s3 => ?_⟩
    refine ⟨a, o3, k + 3 * (3 - (i + 1)) + 1, 4, rfl, updM_same, s3, by omega, by omega, fun r2 o4 r20 r21 s4 => ?_⟩
    by_cases hlt : bg + r + 1 + r2 < high
    · have t1 : decide (bg + r + 1 + r2 < high) = true := decide_eq_true hlt
      have hb3 : updM (updM M' a o3) a o4 b = some (.lst (ss.map secD)) := by rw [updM_ne hba, updM_ne hba]; exact hb2
      conv => whnf; simp only [t1]
      refine ⟨⟨b, _, rfl, hb3⟩, ?_⟩
      refine ⟨a, o4, k + 3 * (3 - (i + 1)), _, rfl, updM_same, s4, by rw [List.length_map]; exact l1, by rw [List.length_map]; omega, fun d o5 hd s5 => ?_⟩
      obtain ⟨lk, hlk, rfl⟩ := List.mem_map.mp hd
      have hb4 : updM (updM (updM M' a o3) a o4) a o5 b = some (.lst (ss.map secD)) := by rw [updM_ne hba]; exact hb3
      refine ⟨size_of (n := 3) (by decide), ?_⟩
      conv => whnf; simp only [hb4]
      refine ⟨by rw [List.length_map]; exact Nat.lt_of_lt_of_le (by omega : ss.length < 1000) (size_of (by omega)), ?_⟩
      refine hN _ _ ⟨?_, ⟨o5, by rw [updM_ne (Ne.symm hba), updM_same], s5⟩, bg + r + 1 + r2, ss ++ [(bg + r, bg + r + 1 + r2, lk)], _, _, rfl, ?_, by omega, ?_, ?_, chain_app g3 fun x hx => ?_, ?_⟩
      · exact (((fr.trans Fr.upd).trans Fr.upd).trans Fr.upd).new hb
      · rw [updM_same, List.map_append]; rfl
      · intro s hs'
        rcases List.mem_append.mp hs' with h | h
        · have := g1 s h; omega
        · rw [List.mem_singleton.mp h]; exact Int.le_refl _
      · intro s hs'
        rcases List.mem_append.mp hs' with h | h
        · exact g2 s h
        · rw [List.mem_singleton.mp h]; exact ⟨by show 0 ≤ bg + r; omega, by show bg + r < bg + r + 1 + r2; omega, hlt, hn lk hlk⟩
      · have := g1 x hx
        show x.2.1 ≤ bg + r
        omega
      · rw [List.length_append, List.length_singleton]; omega
    · have t1 : decide (bg + r + 1 + r2 < high) = false := decide_eq_false hlt
      conv => whnf; simp only [t1]
      refine hN _ _ ⟨(fr.trans Fr.upd).trans Fr.upd, ⟨o4, updM_same, s4.le (by omega)⟩, bg + r, ss, _, _, rfl, by rw [updM_ne hba, updM_ne hba]; exact hb2, by omega, fun s hs' => ?_, g2, g3, by omega⟩
      have := g1 s hs'
      omega
  · rintro σ M' ⟨fr, ⟨o2, ha, s2⟩, bg, ss, u5, u6, rfl, hb2, g0, g1, g2, g3, g4⟩
    rw [rngD_len] at g4
    conv => whnf; simp only [viewS_of hb2]; whnf
    exact ⟨_, fr.sub ha, q ss o2 (by omega) g2 g3 (s2.le (by omega))⟩

/-! ## levels -/
def sp__law_numbers : SpD := fun ds M Q _ => ∃ a o k, ∃ ts : List Tsk, ds = [.ref a, plainD ts] ∧ M a = some o ∧ St (k + 20) o ∧ ts.length ≤ 10 ∧ ∀ ns o', LevOk ts.length ns → St k o' → Q (numsD ns) (updM M a o')
theorem ok35 (T : Txt K mg) : FnD false P w K mg base 3 (He.ga K "_law_numbers") sp__law_numbers := by
  refine ok__law_numbers T (ok31 T) (ok30 T) ?_
  rintro ds M Q E ⟨a, o, k, ts, rfl, hM, hs, few, q⟩
  refine ⟨rfl, size_of (n := 0) (by decide), fun b hb => ?_⟩
  have hba : b ≠ a := fun e => by rw [e, hM] at hb; cases hb
  have hl : (ts.map tskD).length = ts.length := List.length_map _
  refine ⟨by rw [hl, sizeLine_eq]; omega, by omega, ?_⟩
  rw [hl]
  refine forD_inv _ (fun i σ M' => Fr a M M' ∧ (∃ o', M' a = some o' ∧ St (k + 2 * (ts.length - i)) o') ∧ ∃ (ns : List Int) (u4 : Option D), σ = [some (.ref a), some (plainD ts), some (.int (ts.length : Nat)), some (.ref b), u4] ∧ M' b = some (.lst (ns.map D.int)) ∧ ns.length = i ∧ ∀ (i : Nat) x, ns[i]? = some x → (i : Int) ≤ x ∧ x ≤ ts.length - 1) ?_ ?_
    ⟨Fr.refl.new hb, ⟨o, by rw [updM_ne (Ne.symm hba)]; exact hM, hs.le (by omega)⟩, [], none, by rw [← hl]; rfl, updM_same, rfl, by simp⟩
  · rintro i x hx σ M' ⟨fr, ⟨o2, ha, s2⟩, ns, u4, rfl, hb2, g1, g2⟩ N hN
    obtain ⟨hi, rfl⟩ := rngD_get hx
    have hi' : i < ts.length := by omega
    refine ⟨⟨b, _, rfl, hb2⟩, ?_⟩
    refine ⟨a, o2, k + 2 * (ts.length - (i + 1)) + 1, _, rfl, ha, s2.le (by omega), by omega, by omega, fun r o3 r0 r1 s3 => ?_⟩
    refine ⟨size_of (n := 3) (by decide), ?_⟩
    refine ⟨a, o3, k + 2 * (ts.length - (i + 1)), _, rfl, updM_same, s3, by simp, by simp, fun d o4 hd s4 => ?_⟩
    obtain ⟨n, rfl, n0, n3⟩ : ∃ n : Int, d = .int n ∧ (i : Int) ≤ n ∧ n ≤ ts.length - 1 := by
      simp only [List.mem_cons, List.not_mem_nil, or_false] at hd
      rcases hd with rfl | rfl | rfl
      · exact ⟨_, rfl, by omega, by omega⟩
      · exact ⟨_, rfl, by omega, by omega⟩
      · exact ⟨_, rfl, by omega, by omega⟩
    have hb3 : updM (updM M' a o3) a o4 b = some (.lst (ns.map D.int)) := by rw [updM_ne hba, updM_ne hba]; exact hb2
    conv => whnf; simp only [hb3]
    refine ⟨by rw [List.length_map]; exact Nat.lt_of_lt_of_le (by omega : ns.length < 1000) (size_of (by omega)), ?_⟩
    refine hN _ _ ⟨((fr.trans Fr.upd).trans Fr.upd).new hb, ⟨o4, by rw [updM_ne (Ne.symm hba), updM_same], s4⟩, ns ++ [n], _, rfl, by rw [updM_same, List.map_append]; rfl, by simp [g1], fun j y hy => ?_⟩
    by_cases hj : j < ns.length
    · rw [List.getElem?_append_left hj] at hy
      exact g2 j y hy
    · rw [List.getElem?_append_right (by omega)] at hy
      have : j - ns.length = 0 := by
        cases e : j - ns.length with
        | zero => rfl
        | succ m => rw [e] at hy; simp at hy
      rw [this] at hy
      cases hy
      have : j = i := by omega
      subst this
      exact ⟨n0, n3⟩
  · rintro σ M' ⟨fr, ⟨o2, ha, s2⟩, ns, u4, rfl, hb2, g1, g2⟩
    rw [rngD_len] at g1
    conv => whnf; simp only [viewS_of hb2]; whnf
    exact ⟨_, fr.sub ha, q ns o2 ⟨by rw [g1]; exact Int.toNat_natCast _, g2⟩ (s2.le (by omega))⟩
end
end K84

/-! ### K84i -/
set_option Elab.async false
set_option linter.all false
set_option maxRecDepth 100000
set_option maxHeartbeats 4000000
namespace K84
open PySem L2 DL PyProof.Rows

/-! ## a whole group -/
theorem loadP_app : ∀ {ts : List Tsk} {t : Tsk} {p : Int × Int}, loadP (ts ++ [t]) p = ((loadP ts p).1 * t.gap + t.long * (loadP ts p).2, (loadP ts p).2 * t.gap)
  | [], t, p => rfl
  | x :: r, t, p => loadP_app (ts := r)
theorem load_grow {n p S g l q : Int} (h : 10 * n ≤ S * p) (hp : 0 ≤ p) (hg : 0 ≤ g) (hq : 10 * l ≤ q * g) : 10 * (n * g + l * p) ≤ (S + q) * (p * g) := by
  have a1 : 10 * (n * g) ≤ S * p * g := by
    have := Int.mul_le_mul_of_nonneg_right h hg
    rwa [Int.mul_assoc] at this
  have a2 : 10 * l * p ≤ q * g * p := Int.mul_le_mul_of_nonneg_right hq hp
  have e1 : S * p * g = S * (p * g) := Int.mul_assoc _ _ _
  have e2 : q * g * p = q * (p * g) := by rw [Int.mul_assoc, Int.mul_comm g p]
  have e3 : 10 * l * p = 10 * (l * p) := Int.mul_assoc _ _ _
  rw [Int.mul_add, Int.add_mul]
  omega
theorem sum_set : ∀ {ps : List Int} {i : Nat} {x y : Int}, ps[i]? = some x → (ps.set i y).sum = ps.sum - x + y
  | [], _, _, _, h => by simp at h
  | p :: ps, 0, x, y, h => by
    have : p = x := by simpa using h
    subst this
    simp only [List.set_cons_zero, List.sum_cons]
    omega
  | p :: ps, i + 1, x, y, h => by
    have h' : ps[i]? = some x := by simpa using h
    simp only [List.set_cons_succ, List.sum_cons, sum_set h']
    omega
theorem ixN_at {n j : Nat} (hj : j < n) : ixN n (j : Int) = some j := by
  unfold ixN
  rw [if_pos (by omega), if_pos (by omega)]
  simp
theorem sum_ge : ∀ {ps : List Int} {x : Int}, (∀ p ∈ ps, 1 ≤ p) → x ∈ ps → x ≤ ps.sum ∧ 0 ≤ ps.sum
  | [], _, _, h => by simp at h
  | p :: ps, x, h1, h => by
    have h0 : 0 ≤ ps.sum := by
      cases ps with
      | nil => simp
      | cons q r => exact (sum_ge (x := q) (fun p hp => h1 p (List.mem_cons_of_mem _ hp)) List.mem_cons_self).2
    have hp := h1 p List.mem_cons_self
    rw [List.sum_cons]
    rcases List.mem_cons.mp h with rfl | h
    · exact ⟨by omega, by omega⟩
    · have := (sum_ge (fun p hp => h1 p (List.mem_cons_of_mem _ hp)) h).1
      exact ⟨by omega, by omega⟩
theorem sum_take : ∀ {ps : List Int} {i : Nat} {x : Int}, ps[i]? = some x → (ps.take (i + 1)).sum = (ps.take i).sum + x
  | [], _, _, h => by simp at h
  | p :: ps, 0, x, h => by
    have : p = x := by simpa using h
    subst this
    simp
  | p :: ps, i + 1, x, h => by
    have h' : ps[i]? = some x := by simpa using h
    rw [List.take_succ_cons, List.sum_cons, sum_take h', List.take_succ_cons, List.sum_cons]
    omega
theorem wide_ok {h p : Int} (hp : 1 ≤ p) : 10 * h ≤ p * ((10 * h + p - 1) / p) := by
  have e := Int.emod_add_mul_ediv (10 * h + p - 1) p
  have l := Int.emod_lt_of_pos (10 * h + p - 1) (show 0 < p by omega)
  omega
def sp__law_some : SpD := fun ds M Q _ => ∃ a o k, ds = [.ref a, .int 5] ∧ M a = some o ∧ St (k + 300) o ∧ ∀ ts o', GoodTs ts → ts.length ≤ 5 → St k o' → Q (plainD ts) (updM M a o')
theorem pick_ints {d : D} {xs : List Int} (h : d ∈ xs.map D.int) : ∃ n, d = .int n ∧ n ∈ xs := by
  obtain ⟨n, hn, rfl⟩ := List.mem_map.mp h
  exact ⟨n, rfl, hn⟩
section
variable {P : Program} {w : World} {K : PySem.W.Frag} {mg : Str → Option Value} {base : Heap}
theorem ok36 (T : Txt K mg) : FnD false P w K mg base 4 (He.ga K "_law_some") sp__law_some := by
  refine ok__law_some T (ok30 T) (ok33 T) (ok31 T) (ok34 T) ?_
  rintro ds M Q E ⟨a, o, k, rfl, hM, hs, q⟩
  refine ⟨rfl, a, o, k + 299, _, rfl, hM, hs, by omega, by omega, fun m o1 m0 m1 s1 => ?_⟩
  have m5 : m ≤ 5 := by omega
  refine ⟨size_of (n := 1) (by decide), ⟨by omega, by omega, by simp only [List.length_cons, List.length_nil]; rw [sizeLine_eq]; omega⟩, fun b hb => ?_⟩
  have hba : b ≠ a := fun e => by rw [e, updM_same] at hb; cases hb
  have hMb : M b = none := by rw [updM_ne hba] at hb; exact hb
  have ones : (List.replicate m.toNat [D.int 1]).flatten = (List.replicate m.toNat (1 : Int)).map D.int := by
    induction m.toNat with
    | zero => rfl
    | succ n ih => rw [List.replicate_succ, List.flatten_cons, ih, List.replicate_succ]; rfl
  rw [ones]
  refine ⟨size_of (n := 0) (by decide), fun f hf => ?_⟩
  have hfb : f ≠ b := fun e => by rw [e, updM_same] at hf; cases hf
  have hf2 : updM M a o1 f = none := by rw [updM_ne hfb] at hf; exact hf
  have hfa : f ≠ a := fun e => by rw [e, updM_same] at hf2; cases hf2
  have hMf : M f = none := by rw [updM_ne hfa] at hf2; exact hf2
  have hM4f : ∀ x, updM (updM (updM M a o1) b x) f (.lst []) f = some (.lst []) := fun x => updM_same
  have hif : ∀ (Q : VKD) (E : XD), (∀ n o2, 0 ≤ n → n = 0 ∨ (0 < m ∧ n + m ≤ 9) → St (k + 290) o2 → Q (.int n) (updM (updM (updM (updM M a o1) b (.lst ((List.replicate m.toNat (1 : Int)).map D.int))) f (.lst [])) a o2)) →
      tIfD (tTestD (tOpD rGtD (tVarD 2) (tCD (.int 0)))) (tCallD sp__law_draw (tConsD (tVarD 0) (tConsD (tOpD rSubD (tCD (.int 10)) (tVarD 2)) tNilD))) (tCD (.int 0)) [some (.ref a), some (.int 5), some (.int m), some (.ref b), some (.ref f), none, none, none, none, none, none, none] (updM (updM (updM M a o1) b (.lst ((List.replicate m.toNat (1 : Int)).map D.int))) f (.lst [])) Q E := by
    intro Q E hq
    have ha : updM (updM (updM M a o1) b (.lst ((List.replicate m.toNat (1 : Int)).map D.int))) f (.lst []) a = some o1 := by rw [updM_ne (Ne.symm hfa), updM_ne (Ne.symm hba), updM_same]
    by_cases h0 : 0 < m
    · have t1 : decide (0 < m) = true := decide_eq_true h0
      conv => whnf; simp only [t1]
      exact ⟨a, o1, k + 298, _, rfl, ha, s1.le (by omega), by omega, by omega, fun r o2 r0 r1 s2 => hq r o2 r0 (.inr ⟨h0, by omega⟩) (s2.le (by omega))⟩
    · have t1 : decide (0 < m) = false := decide_eq_false h0
      conv => whnf; simp only [t1]
      have := hq 0 o1 (by omega) (.inl rfl) (s1.le (by omega))
      have e : updM (updM (updM (updM M a o1) b (.lst ((List.replicate m.toNat (1 : Int)).map D.int))) f (.lst [])) a o1 = updM (updM (updM M a o1) b (.lst ((List.replicate m.toNat (1 : Int)).map D.int))) f (.lst []) := by
        funext c
        by_cases hc : c = a
        · rw [hc, updM_same, ha]
        · rw [updM_ne hc]
      rw [e] at this
      exact this
  refine hif _ _ fun n o2 n0 n1 s2 => ?_
  refine ⟨by rw [sizeLine_eq]; omega, by omega, ?_⟩
  refine forD_inv _ (fun i σ M' => Fr a M M' ∧ (∃ o', M' a = some o' ∧ St (k + 270 + (10 - i)) o') ∧ ∃ (ps : List Int) (u5 u6 : Option D), σ = [some (.ref a), some (.int 5), some (.int m), some (.ref b), some (.ref f), u5, u6, none, none, none, none, none] ∧ M' b = some (.lst (ps.map D.int)) ∧ M' f = some (.lst []) ∧ (ps.length : Int) = m ∧ (∀ p ∈ ps, 1 ≤ p) ∧ ps.sum = m + i) ?_ ?_
    ⟨?_, ⟨o2, updM_same, s2.le (by omega)⟩, List.replicate m.toNat (1 : Int), none, none, rfl, ?_, ?_, ?_, ?_, ?_⟩
  · rintro i x hx σ M' ⟨fr, ⟨o3, ha, s3⟩, ps, u5, u6, rfl, hb2, hf2, g1, g2, g3⟩ N hN
    obtain ⟨hi, rfl⟩ := rngD_get hx
    have h0 : 0 < m := by omega
    refine ⟨a, o3, k + 270 + (10 - (i + 1)), m, rfl, ha, s3.le (by omega), by omega, by omega, fun r o4 r0 r1 s4 => ?_⟩
    obtain ⟨j, rfl⟩ := Int.eq_ofNat_of_zero_le r0
    have hj : j < ps.length := by omega
    have hb3 : updM M' a o4 b = some (.lst (ps.map D.int)) := by rw [updM_ne hba]; exact hb2
    have eg : ps[j]? = some ps[j] := by simp [hj]
    have e1 : atI (ps.map D.int) ((j : Nat) : Int) = some (.int ps[j]) := atI_nat (by rw [List.getElem?_map, eg]; rfl)
    have e2 : ixN (ps.map D.int).length ((j : Nat) : Int) = some j := ixN_at (by rw [List.length_map]; exact hj)
    conv => whnf; simp only [hb3]; whnf; simp only [viewS_of hb3]; whnf; simp only [e1]; whnf; simp only [hb3]; whnf; simp only [e2]
    refine hN _ _ ⟨(fr.trans Fr.upd).new hMb, ⟨o4, by rw [updM_ne (Ne.symm hba), updM_same], s4⟩, ps.set j (ps[j] + 1), _, _, rfl, by rw [updM_same, List.map_set], by rw [updM_ne hfb, updM_ne hfa]; exact hf2, by rw [List.length_set]; exact g1, fun p hp => ?_, ?_⟩
    · rcases List.mem_or_eq_of_mem_set hp with h | h
      · exact g2 p h
      · have := g2 _ (List.getElem_mem hj)
        omega
    · rw [sum_set eg, g3]
      omega
  · rintro σ M' ⟨fr, ⟨o3, ha, s3⟩, ps, u5, u6, rfl, hb2, hf2, g1, g2, g3⟩
    rw [rngD_len] at g3
    have g4 : ps.sum ≤ 9 := by
      rcases n1 with h | h
      · subst h
        have : m ≤ 5 := m5
        omega
      · omega
    refine ⟨a, o3, k + 240, 2, rfl, ha, s3.le (by omega), by omega, by omega, fun ls o4 ll lnd lok s4 => ?_⟩
    refine ⟨a, o4, k + 200, m, rfl, updM_same, s4.le (by omega), by omega, by omega, fun ns o5 nl nnd nok s5 => ?_⟩
    conv => whnf
    rw [enumD_map]
    refine forD_inv _ (fun i σ M' => Fr a M M' ∧ (∃ o', M' a = some o' ∧ St (k + 20 * (10 - i)) o') ∧ ∃ (ts : List Tsk) (u6 u8 u9 u10 u11 : Option D), σ = [some (.ref a), some (.int 5), some (.int m), some (.ref b), some (.ref f), u5, u6, some (.lst (ls.map D.str)), u8, u9, u10, u11] ∧ M' b = some (.lst (ps.map D.int)) ∧ M' f = some (.lst (ts.map tskD)) ∧ ts.map (·.name) = ns.take i ∧ (∀ t ∈ ts, TskOk t) ∧ 10 * (loadP ts (0, 1)).1 ≤ (ps.take i).sum * (loadP ts (0, 1)).2) ?_ ?_
      ⟨(fr.trans Fr.upd).trans Fr.upd, ⟨o5, updM_same, s5.le (by omega)⟩, [], _, _, _, _, _, rfl, by rw [updM_ne hba, updM_ne hba]; exact hb2, by rw [updM_ne hfa, updM_ne hfa]; exact hf2, rfl, by simp, by simp [loadP]⟩
    · rintro i x hx σ M' ⟨fr, ⟨o6, ha, s6⟩, ts, u6, u8, u9, u10, u11, rfl, hb3, hf3, i1, i2, i3⟩ N hN
      rw [List.getElem?_map] at hx
      cases hy : ns.zipIdx[i]? with
      | none => rw [hy] at hx; cases hx
      | some y =>
        rw [hy] at hx
        cases hx
        obtain ⟨hi', ey⟩ := List.getElem?_eq_some_iff.mp hy
        have hi : i < ns.length := by rwa [List.length_zipIdx] at hi'
        rw [List.getElem_zipIdx] at ey
        have ey' : y = (ns[i], i) := by rw [← ey]; simp
        subst ey'
        have hip : i < ps.length := by omega
        have eg : ps[i]? = some ps[i] := by simp [hip]
        have p1 := g2 _ (List.getElem_mem hip)
        have p9 := (sum_ge g2 (List.getElem_mem hip)).1
        have e1 : atI (ps.map D.int) ((i : Nat) : Int) = some (.int ps[i]) := atI_nat (by rw [List.getElem?_map, eg]; rfl)
        generalize hpp : ps[i] = pp at *
        -- high
        refine ⟨rfl, size_of (n := 5) (by decide), a, o6, k + 20 * (10 - (i + 1)) + 19, _, rfl, ha, s6.le (by omega), by decide, by decide, fun d o7 hd s7 => ?_⟩
        obtain ⟨h9, rfl, hm⟩ := pick_ints (xs := [1, 2, 4, 6, 9]) hd
        have hh : 1 ≤ h9 ∧ h9 ≤ 9 := by
          simp only [List.mem_cons, List.not_mem_nil, or_false] at hm
          omega
        refine ⟨a, o7, k + 20 * (10 - (i + 1)) + 18, h9, rfl, updM_same, s7, by omega, by omega, fun r o8 r0 r1 s8 => ?_⟩
        have hb4 : updM (updM M' a o7) a o8 b = some (.lst (ps.map D.int)) := by rw [updM_ne hba, updM_ne hba]; exact hb3
        have l10 : (10 : Int).natAbs.log2 ≤ 4 := log2_of 4 (by omega) (by omega)
        have lh : (1 + r).natAbs.log2 ≤ 4 := log2_of 4 (by omega) (by omega)
        have vb := viewS_of hb4
        -- wide
        refine ⟨by omega, ?_⟩
        conv => whnf; simp only [hb4]; whnf; simp only [vb]; whnf; simp only [e1]; whnf; simp only [hb4]; whnf; simp only [vb]; whnf; simp only [e1]; whnf
        refine ⟨⟨by omega, Nat.lt_of_le_of_lt (log2_of 40 (by omega) (by omega)) (by omega)⟩, ?_⟩
        have w1 := wide_ok (h := 1 + r) p1
        have w2 := Int.ediv_le_self pp (show 0 ≤ 10 * (1 + r) + pp - 1 by omega)
        have w3 : 1 ≤ (10 * (1 + r) + pp - 1) / pp := by
          rw [Int.le_ediv_iff_mul_le (by omega)]
          omega
        generalize (10 * (1 + r) + pp - 1) / pp = w0 at *
        refine ⟨size_of (n := 5) (by decide), a, o8, k + 20 * (10 - (i + 1)) + 17, _, rfl, updM_same, s8, by decide, by decide, fun d o9 hd s9 => ?_⟩
        obtain ⟨ex, rfl, hm2⟩ := pick_ints (xs := [0, 0, 1, 3, 7]) hd
        have hex : 0 ≤ ex ∧ ex ≤ 7 := by
          simp only [List.mem_cons, List.not_mem_nil, or_false] at hm2
          omega
        -- due
        have l2 : (2 : Int).natAbs.log2 ≤ 4 := log2_of 4 (by omega) (by omega)
        have lw : (w0 + ex).natAbs.log2 ≤ 10 := log2_of 10 (by omega) (by omega)
        refine ⟨by omega, ?_⟩
        refine ⟨size_of (n := 6) (by decide), a, o9, k + 20 * (10 - (i + 1)) + 16, _, rfl, updM_same, s9, by simp, by simp, fun d o10 hd s10 => ?_⟩
        obtain ⟨sp, rfl, hm3⟩ := pick_ints (xs := [1, 1 + r + 1, 6, 15, 2 * (w0 + ex), 60]) hd
        have hsp : 1 ≤ sp ∧ sp ≤ 1000 := by
          simp only [List.mem_cons, List.not_mem_nil, or_false] at hm3
          omega
        refine ⟨a, o10, k + 20 * (10 - (i + 1)) + 15, sp, rfl, updM_same, s10, by omega, by omega, fun r2 o11 r20 r21 s11 => ?_⟩
        refine ⟨size_of (n := 3) (by decide), a, o11, k + 20 * (10 - (i + 1)) + 14, _, rfl, updM_same, s11, by simp, by simp, fun d o12 hd s12 => ?_⟩
        obtain ⟨due, rfl, hm4⟩ := pick_ints (xs := [1 + r + r2, 1 + r + r2, w0 + ex]) hd
        have hdue : 1 ≤ due ∧ due ≤ 2000 := by
          simp only [List.mem_cons, List.not_mem_nil, or_false] at hm4
          omega
        have hf4 : updM (updM (updM (updM (updM (updM M' a o7) a o8) a o9) a o10) a o11) a o12 f = some (.lst (ts.map tskD)) := by simp only [updM_updM]; rw [updM_ne hfa]; exact hf3
        refine ⟨⟨f, _, rfl, hf4⟩, ?_⟩
        refine ⟨a, o12, k + 20 * (10 - (i + 1)) + 12, 7, rfl, updM_same, s12.le (by omega), by omega, by omega, fun rm o13 rm0 rm1 s13 => ?_⟩
        refine ⟨a, o13, k + 20 * (10 - (i + 1)), 1 + r, ls, rfl, updM_same, s13.le (by omega), by omega, by omega, lok, fun ss o14 sl sok sch s14 => ?_⟩
        refine ⟨size_of (n := 6) (by decide), ?_⟩
        have hf5 : updM (updM (updM (updM (updM (updM (updM (updM M' a o7) a o8) a o9) a o10) a o11) a o12) a o13) a o14 f = some (.lst (ts.map tskD)) := by simp only [updM_updM]; rw [updM_ne hfa]; exact hf3
        have htl : ts.length = i := by
          have := congrArg List.length i1
          rw [List.length_map, List.length_take] at this
          omega
        conv => whnf; simp only [hf5]
        refine ⟨by rw [List.length_map]; exact Nat.lt_of_lt_of_le (by omega : ts.length < 1000) (size_of (by omega)), ?_⟩
        simp only [updM_updM]
        refine hN _ _ ⟨(fr.trans Fr.upd).new hMf, ⟨o14, by rw [updM_ne (Ne.symm hfa), updM_same], s14⟩, ts ++ [⟨ns[i], 1 + r, w0 + ex, due, rm, ss⟩], _, _, _, _, _, rfl, by rw [updM_ne (Ne.symm hfb), updM_ne hba]; exact hb3, by rw [updM_same, List.map_append]; rfl, ?_, ?_, ?_⟩
        · rw [List.map_append, i1, List.take_succ_eq_append_getElem hi]; rfl
        · intro t ht
          rcases List.mem_append.mp ht with h | h
          · exact i2 t h
          · rw [List.mem_singleton.mp h]
            exact ⟨nok _ (List.getElem_mem hi), by show 1 ≤ 1 + r; omega, by show 1 + r ≤ 100; omega, by show 1 ≤ w0 + ex; omega, by show w0 + ex ≤ 1000; omega, hdue.1, by show due ≤ 20000; omega, rm0, by show rm ≤ 1000000; omega, by show ss.length ≤ 8; omega, sok, sch⟩
        · rw [loadP_app, sum_take eg]
          refine load_grow i3 (Int.le_of_lt (loadP_pos i2 (by decide))) (by show 0 ≤ w0 + ex; omega) ?_
          show 10 * (1 + r) ≤ pp * (w0 + ex)
          rw [Int.mul_add pp]
          have := Int.mul_nonneg (show 0 ≤ pp by omega) hex.1
          omega
    · rintro σ M' ⟨fr, ⟨o6, ha, s6⟩, ts, u6, u8, u9, u10, u11, rfl, hb3, hf3, i1, i2, i3⟩
      rw [List.length_map, List.length_zipIdx] at i1 i3
      rw [List.take_length] at i1
      have htl : ts.length = ns.length := by rw [← i1, List.length_map]
      rw [List.take_of_length_le (by omega)] at i3
      conv => whnf; simp only [viewS_of hf3]; whnf
      refine ⟨_, fr.sub ha, q ts o6 ⟨i2, by rw [i1]; exact nnd, by omega, ?_⟩ (by omega) (s6.le (by omega))⟩
      have pp := loadP_pos (ts := ts) (p := (0, 1)) i2 (by decide)
      have := Int.mul_le_mul_of_nonneg_right g4 (Int.le_of_lt pp)
      omega
  · exact ((Fr.upd.new hMb).new hMf).trans Fr.upd
  · rw [updM_ne hba, updM_ne (Ne.symm hfb), updM_same]
  · rw [updM_ne hfa, updM_same]
  · rw [List.length_replicate]; omega
  · intro p hp
    rw [(List.mem_replicate.mp hp).2]
    exact Int.le_refl _
  · have : ∀ n : Nat, (List.replicate n (1 : Int)).sum = n := by
      intro n
      induction n with
      | zero => rfl
      | succ n ih => rw [List.replicate_succ, List.sum_cons, ih]; omega
    rw [this]
    omega
end
end K84

/-! ### K84j -/
set_option Elab.async false
set_option linter.all false
set_option maxRecDepth 100000
set_option maxHeartbeats 4000000
namespace K84
open PySem L2 DL PyProof.Rows

/-! ## plans -/
structure Job where
  tick : Int
  name : Str
  size : Int
def jobD (j : Job) : D := .tup [.int j.tick, .str j.name, .int j.size]
def unJ : D → Job
  | .tup [.int t, .str n, .int s] => ⟨t, n, s⟩
  | _ => ⟨0, "", 0⟩
theorem map_perm {α : Type} {f : α → D} {g : D → α} (hg : ∀ a, g (f a) = a) {ys : List D} {ss : List α} (h : ys.Perm (ss.map f)) : ∃ ns : List α, ys = ns.map f ∧ ns.Perm ss := by
  refine ⟨ys.map g, ?_, ?_⟩
  · rw [List.map_map]
    have : ∀ y ∈ ys, (f ∘ g) y = y := fun y hy => by
      obtain ⟨s, _, rfl⟩ := List.mem_map.mp (h.mem_iff.mp hy)
      show f (g (f s)) = f s
      rw [hg]
    rw [List.map_congr_left this]
    simp
  · have := h.map g
    rw [List.map_map] at this
    have e : ss.map (g ∘ f) = ss := by
      rw [List.map_congr_left (f := g ∘ f) (g := id) (l := ss) (fun a _ => hg a), List.map_id]
    rwa [e] at this
def jobP (j : Job) : PyData := .tuple [.int j.tick, .str j.name, .int j.size]
theorem jobP_ok (j : Job) : pyd (jobD j) = some (jobP j) := rfl
theorem pyds_jobs : ∀ js : List Job, pyds (js.map jobD) = some (js.map jobP)
  | [] => rfl
  | j :: js => by
    show (match pyd (jobD j), pyds (js.map jobD) with
      | some p, some ps => some (p :: ps)
      | _, _ => none) = _
    rw [pyds_jobs js, jobP_ok]
    rfl
theorem jobs_alike (a b : Job) : PySem.W.alike (jobP a) (jobP b) = true := by
  simp [jobP, PySem.W.alike, PySem.W.alikeAll]
theorem toksJ (j : Job) : PySem.W.keyToks (jobP j) = [.inl 1, .inl j.tick, .inl 1, .inr j.name.cps.toList, .inl 1, .inl j.size, .inl 0] := by
  simp [jobP, PySem.W.keyToks, PySem.W.keyToksAll]
theorem job_tick {a b : Job} (h : leD (jobD a) (jobD b) = true) : a.tick ≤ b.tick := by
  by_cases hc : a.tick ≤ b.tick
  · exact hc
  · exfalso
    have e : PyProof.Rows.lexLt itemOrd (PySem.W.keyToks (jobP b)) (PySem.W.keyToks (jobP a)) = true := by
      rw [toksJ, toksJ, lex_cons, lex_cons]
      have h1 : itemOrd.blt (.inl b.tick) (.inl a.tick) = true := decide_eq_true (by omega)
      have h2 : itemOrd.blt (.inl 1 : Int ⊕ List Nat) (.inl 1) = false := itemOrd.irrefl _
      rw [h1, h2]
      rfl
    have h' : (!PyProof.Rows.lexLt itemOrd (PySem.W.keyToks (jobP b)) (PySem.W.keyToks (jobP a))) = true := h
    rw [e] at h'
    cases h'
theorem job_lt {a b : Job} (h : leD (jobD a) (jobD b) = true) (hne : a.tick ≠ b.tick ∨ a.name ≠ b.name) : PySem.W.dataLt (jobP a) (jobP b) = true := by
  have h' : (!PyProof.Rows.lexLt itemOrd (PySem.W.keyToks (jobP b)) (PySem.W.keyToks (jobP a))) = true := h
  have e1 : PyProof.Rows.lexLt itemOrd (PySem.W.keyToks (jobP b)) (PySem.W.keyToks (jobP a)) = false := by simpa using h'
  cases e2 : PySem.W.dataLt (jobP a) (jobP b) with
  | true => rfl
  | false =>
    exfalso
    have e3 : PyProof.Rows.lexLt itemOrd (PySem.W.keyToks (jobP a)) (PySem.W.keyToks (jobP b)) = false := e2
    have e4 := (listOrd itemOrd).total (PySem.W.keyToks (jobP a)) (PySem.W.keyToks (jobP b)) e3 e1
    rw [toksJ, toksJ] at e4
    simp only [List.cons.injEq, Sum.inl.injEq, Sum.inr.injEq, true_and, and_true] at e4
    rcases hne with q | q
    · exact q e4.1
    · exact q (PySem.W.str_of_cps e4.2.1)
/-- two jobs of one task stand apart -/
def Apart (ts : List Tsk) (a b : Job) : Prop := ∀ t ∈ ts, a.name = t.name → b.name = t.name → a.tick + t.gap ≤ b.tick ∨ b.tick + t.gap ≤ a.tick
structure PlanOk (ts : List Tsk) (js : List Job) : Prop where
  ok : ∀ j ∈ js, ∃ t ∈ ts, j.name = t.name ∧ 0 ≤ j.tick ∧ j.tick ≤ 20000 ∧ 1 ≤ j.size ∧ j.size ≤ t.long
  few : js.length ≤ 1000
  lt : js.Pairwise fun a b => PySem.W.dataLt (jobP a) (jobP b) = true
  gap : js.Pairwise fun a b => ∀ t ∈ ts, a.name = t.name → b.name = t.name → a.tick + t.gap ≤ b.tick
theorem plan_sorted {ts : List Tsk} {js : List Job} (hg : ∀ t ∈ ts, 1 ≤ t.gap) (h1 : ∀ j ∈ js, ∃ t ∈ ts, j.name = t.name ∧ 0 ≤ j.tick ∧ j.tick ≤ 20000 ∧ 1 ≤ j.size ∧ j.size ≤ t.long) (h2 : js.length ≤ 1000) (h3 : js.Pairwise (Apart ts)) :
    ∃ ks, (js.map jobD).mergeSort leD = ks.map jobD ∧ PlanOk ts ks := by
  obtain ⟨ks, ek, hp⟩ := map_perm (f := jobD) (g := unJ) (fun a => rfl) (List.mergeSort_perm (js.map jobD) leD)
  refine ⟨ks, ek, ?_⟩
  have sym : ∀ {a b : Job}, Apart ts a b → Apart ts b a := fun h t ht e1 e2 => (h t ht e2 e1).symm
  have ap : ks.Pairwise (Apart ts) := (hp.pairwise_iff sym).mpr h3
  have so : ((js.map jobD).mergeSort leD).Pairwise (fun a b => leD a b = true) := PySem.W.sort_pairwise (le := leD) (PySem.W.sortLe_total (listOrd itemOrd) false fun b => PySem.W.keyToks (encD b)) _
  rw [ek, List.pairwise_map] at so
  have h1' : ∀ j ∈ ks, ∃ t ∈ ts, j.name = t.name ∧ 0 ≤ j.tick ∧ j.tick ≤ 20000 ∧ 1 ≤ j.size ∧ j.size ≤ t.long := fun j hj => h1 j (hp.mem_iff.mp hj)
  have both := List.Pairwise.and ap so
  refine ⟨h1', by rw [hp.length_eq]; exact h2, ?_, ?_⟩
  · refine (List.Pairwise.and_mem.mp both).imp ?_
    rintro a b ⟨ha, hb, r, l⟩
    refine job_lt l ?_
    by_cases hn : a.name = b.name
    · refine .inl fun et => ?_
      obtain ⟨t, ht, e, _⟩ := h1' a ha
      have := r t ht e (hn ▸ e)
      have := hg t ht
      omega
    · exact .inr hn
  · refine both.imp ?_
    rintro a b ⟨r, l⟩ t ht e1 e2
    have := r t ht e1 e2
    have := job_tick l
    have := hg t ht
    omega
def sp__law_plan : SpD := fun ds M Q _ => ∃ a o k ts, ds = [.ref a, plainD ts, .int 30] ∧ M a = some o ∧ St (k + 1000) o ∧ GoodTs ts ∧ ts.length ≤ 5 ∧ ∀ js o', PlanOk ts js → St k o' → Q (.tup (js.map jobD)) (updM M a o')
section
variable {P : Program} {w : World} {K : PySem.W.Frag} {mg : Str → Option Value} {base : Heap}
theorem ok37 (T : Txt K mg) : FnD false P w K mg base 3 (He.ga K "_law_plan") sp__law_plan := by
  refine ok__law_plan T (ok30 T) (ok31 T) ?_
  rintro ds M Q E ⟨a, o, k, ts, rfl, hM, hs, G, few, q⟩
  have hz : (ts.map tskD).length ≤ sizeLine := size_of (by rw [List.length_map]; omega)
  refine ⟨rfl, size_of (n := 0) (by decide), fun f hf => ?_⟩
  have hfa : f ≠ a := fun e => by rw [e, hM] at hf; cases hf
  refine ⟨hz, ?_⟩
  refine forD_inv _ (fun i σ M' => Fr a M M' ∧ (∃ o', M' a = some o' ∧ St (k + 150 * (5 - i)) o') ∧ ∃ (js : List Job) (u4 u5 u6 : Option D), σ = [some (.ref a), some (plainD ts), some (.int 30), some (.ref f), u4, u5, u6] ∧ M' f = some (.lst (js.map jobD)) ∧ js.length ≤ 30 * i ∧ (∀ j ∈ js, ∃ t ∈ ts.take i, j.name = t.name ∧ 0 ≤ j.tick ∧ j.tick ≤ 20000 ∧ 1 ≤ j.size ∧ j.size ≤ t.long) ∧ js.Pairwise (Apart ts)) ?_ ?_
    ⟨Fr.refl.new hf, ⟨o, by rw [updM_ne (Ne.symm hfa)]; exact hM, hs.le (by omega)⟩, [], none, none, none, rfl, updM_same, by simp, by simp, List.Pairwise.nil⟩
  · rintro i x hx σ M' ⟨fr, ⟨o1, ha, s1⟩, js, u4, u5, u6, rfl, hf1, g1, g2, g3⟩ N hN
    rw [List.getElem?_map] at hx
    cases hy : ts[i]? with
    | none => rw [hy] at hx; cases hx
    | some t =>
      rw [hy] at hx
      cases hx
      obtain ⟨hi, et⟩ := List.getElem?_eq_some_iff.mp hy
      have ht : t ∈ ts := et ▸ List.getElem_mem hi
      have tk := G.ok t ht
      have l1 := tk.l1
      have l2 := tk.l2
      have gp := tk.g1
      have nd : ∀ t' ∈ ts.take i, t'.name ≠ t.name := fun t' h' e => by
        obtain ⟨j, hj, ej⟩ := List.getElem_of_mem h'
        rw [List.length_take] at hj
        rw [List.getElem_take] at ej
        have hnd := G.nd
        have := (List.pairwise_iff_getElem.mp hnd) j i (by rw [List.length_map]; omega) (by rw [List.length_map]; exact hi) (by omega)
        rw [List.getElem_map, List.getElem_map, ej, et] at this
        exact this e
      refine ⟨size_of (n := 4) (by decide), a, o1, k + 150 * (5 - (i + 1)) + 149, _, rfl, ha, s1.le (by omega), by decide, by decide, fun d o2 hd s2 => ?_⟩
      obtain ⟨h, rfl, hm⟩ := pick_ints (xs := [1, 2, 9, 30]) hd
      have hh : 1 ≤ h ∧ h ≤ 30 := by
        simp only [List.mem_cons, List.not_mem_nil, or_false] at hm
        omega
      refine ⟨a, o2, k + 150 * (5 - (i + 1)) + 148, h, rfl, updM_same, s2.le (by omega), by omega, by omega, fun tick o3 t0 t1 s3 => ?_⟩
      refine ⟨fun m σ M2 => Fr a M M2 ∧ ∃ tick : Int, m = (30 - tick).toNat ∧ (∃ o', M2 a = some o' ∧ St (k + 150 * (5 - (i + 1)) + 4 * (30 - tick).toNat) o') ∧ ∃ (js : List Job) (u6 : Option D), σ = [some (.ref a), some (plainD ts), some (.int 30), some (.ref f), some (tskD t), some (.int tick), u6] ∧ M2 f = some (.lst (js.map jobD)) ∧ 0 ≤ tick ∧ (js.length : Int) ≤ 30 * i + tick ∧ js.length ≤ 30 * i + 30 ∧ (∀ j ∈ js, ∃ t ∈ ts.take (i + 1), j.name = t.name ∧ 0 ≤ j.tick ∧ j.tick ≤ 20000 ∧ 1 ≤ j.size ∧ j.size ≤ t.long) ∧ js.Pairwise (Apart ts) ∧ ∀ j ∈ js, j.name = t.name → j.tick + t.gap ≤ tick, ⟨_, (fr.trans Fr.upd).trans Fr.upd, tick, rfl, ⟨o3, updM_same, s3.le (by omega)⟩, js, _, rfl, by rw [updM_ne hfa, updM_ne hfa]; exact hf1, t0, by omega, by omega, fun j hj => ?_, g3, fun j hj e => ?_⟩, ?_⟩
      · obtain ⟨t', h', r⟩ := g2 j hj
        exact ⟨t', by rw [List.take_succ_eq_append_getElem hi]; exact List.mem_append_left _ h', r⟩
      · obtain ⟨t', h', r⟩ := g2 j hj
        exact absurd (r.1.symm.trans e) (nd t' h')
      rintro m σ M2 ⟨fr2, tick, rfl, ⟨o4, ha2, s4⟩, js, u6, rfl, hf2, t0, c1, c2, w1, w2, w3⟩
      by_cases hlt : tick < 30
      · have b1 : decide (tick < 30) = true := decide_eq_true hlt
        conv => whnf; simp only [b1]
        refine ⟨a, o4, k + 150 * (5 - (i + 1)) + 4 * (30 - tick).toNat - 1, 12, rfl, ha2, s4.le (by omega), by omega, by omega, fun r o5 r0 r1 s5 => ?_⟩
        by_cases hr : 0 < r
        · have b2 : decide (0 < r) = true := decide_eq_true hr
          conv => whnf; simp only [b2]
          refine ⟨fun σ M2 => Fr a M M2 ∧ ∃ tick' : Int, tick < tick' ∧ (∃ o', M2 a = some o' ∧ St (k + 150 * (5 - (i + 1)) + 4 * (30 - tick').toNat) o') ∧ ∃ (js : List Job) (u6 : Option D), σ = [some (.ref a), some (plainD ts), some (.int 30), some (.ref f), some (tskD t), some (.int tick'), u6] ∧ M2 f = some (.lst (js.map jobD)) ∧ 0 ≤ tick' ∧ (js.length : Int) ≤ 30 * i + tick' ∧ js.length ≤ 30 * i + 30 ∧ (∀ j ∈ js, ∃ t ∈ ts.take (i + 1), j.name = t.name ∧ 0 ≤ j.tick ∧ j.tick ≤ 20000 ∧ 1 ≤ j.size ∧ j.size ≤ t.long) ∧ js.Pairwise (Apart ts) ∧ ∀ j ∈ js, j.name = t.name → j.tick + t.gap ≤ tick', ?_, ?_⟩
          · rintro σ' M3 ⟨fr3, tick', hlt', r1, js, u6, rfl, r2⟩
            exact ⟨(30 - tick').toNat, by omega, fr3, tick', rfl, r1, js, u6, rfl, r2⟩
          have hif : ∀ (Q : VKD) (E : XD), (∀ size o7, 1 ≤ size → size ≤ t.long → St (k + 150 * (5 - (i + 1)) + 4 * (30 - tick).toNat - 3) o7 → Q (.int size) (updM M2 a o7)) →
              tIfD (tTestD (tOpD rGtD (tCallD sp__law_draw (tConsD (tVarD 0) (tConsD (tCD (.int 3)) tNilD))) (tCD (.int 0)))) (tOpD rIxAD (tVarD 4) (tCD (.int 1))) (tOpD rAddD (tCD (.int 1)) (tCallD sp__law_draw (tConsD (tVarD 0) (tConsD (tOpD rIxAD (tVarD 4) (tCD (.int 1))) tNilD)))) [some (.ref a), some (plainD ts), some (.int 30), some (.ref f), some (tskD t), some (.int tick), u6] (updM M2 a o5) Q E := by
            intro Q E hq
            refine ⟨a, o5, k + 150 * (5 - (i + 1)) + 4 * (30 - tick).toNat - 2, 3, rfl, updM_same, s5.le (by omega), by omega, by omega, fun r2 o6 r20 r21 s6 => ?_⟩
            by_cases h2 : 0 < r2
            · have b3 : decide (0 < r2) = true := decide_eq_true h2
              conv => whnf; simp only [b3]
              have := hq t.long o6 l1 (Int.le_refl _) (s6.le (by omega))
              rw [updM_updM]
              exact this
            · have b3 : decide (0 < r2) = false := decide_eq_false h2
              conv => whnf; simp only [b3]
              refine ⟨a, o6, k + 150 * (5 - (i + 1)) + 4 * (30 - tick).toNat - 3, t.long, rfl, updM_same, s6.le (by omega), by omega, by omega, fun r3 o7 r30 r31 s7 => ?_⟩
              have := hq (1 + r3) o7 (by omega) (by omega) s7
              simp only [updM_updM]
              exact this
          refine hif _ _ fun size o7 z1 z2 s7 => ?_
          have hf3 : updM M2 a o7 f = some (.lst (js.map jobD)) := by rw [updM_ne hfa]; exact hf2
          refine ⟨⟨f, _, rfl, hf3⟩, ?_⟩
          refine ⟨size_of (n := 3) (by decide), ?_⟩
          conv => whnf; simp only [hf3]
          refine ⟨by rw [List.length_map]; exact Nat.lt_of_lt_of_le (by omega : js.length < 1000) (size_of (by omega)), ?_⟩
          have ha3 : updM (updM M2 a o7) f (.lst (js.map jobD ++ [jobD ⟨tick, t.name, size⟩])) a = some o7 := by rw [updM_ne (Ne.symm hfa), updM_same]
          refine ⟨size_of (n := 5) (by decide), a, o7, k + 150 * (5 - (i + 1)) + 4 * (30 - tick).toNat - 4, _, rfl, ha3, s7.le (by omega), by decide, by decide, fun d o8 hd s8 => ?_⟩
          obtain ⟨ex, rfl, hm2⟩ := pick_ints (xs := [0, 0, 0, 1, 4]) hd
          have hex : 0 ≤ ex := by
            simp only [List.mem_cons, List.not_mem_nil, or_false] at hm2
            omega
          refine ⟨((fr2.trans Fr.upd).new hf).trans Fr.upd, tick + t.gap + ex, by omega, ⟨o8, updM_same, s8.le (by omega)⟩, js ++ [⟨tick, t.name, size⟩], _, rfl, ?_, by omega, ?_, ?_, fun j hj => ?_, ?_, fun j hj e => ?_⟩
          · rw [updM_ne hfa]
            show updM (updM M2 a o7) f (.lst (js.map jobD ++ [jobD ⟨tick, t.name, size⟩])) f = _
            rw [updM_same, List.map_append]; rfl
          · rw [List.length_append, List.length_singleton]; omega
          · rw [List.length_append, List.length_singleton]; omega
          · rcases List.mem_append.mp hj with h | h
            · exact w1 j h
            · rw [List.mem_singleton.mp h]
              exact ⟨t, by rw [List.take_succ_eq_append_getElem hi, et]; exact List.mem_append_right _ List.mem_cons_self, rfl, t0, by show tick ≤ 20000; omega, z1, z2⟩
          · refine List.pairwise_append.mpr ⟨w2, List.pairwise_singleton _ _, fun j hj j' hj' => ?_⟩
            rw [List.mem_singleton.mp hj']
            intro t' ht' e1 e2
            have e2 : t.name = t'.name := e2
            have et' : t' = t := by
              obtain ⟨u, hu, eu⟩ := List.getElem_of_mem ht'
              have hnd := G.nd
              by_cases hui : u = i
              · subst hui; rw [← eu, et]
              · exfalso
                rcases Nat.lt_or_gt_of_ne hui with hl | hl
                · have := (List.pairwise_iff_getElem.mp hnd) u i (by rw [List.length_map]; exact hu) (by rw [List.length_map]; exact hi) hl
                  rw [List.getElem_map, List.getElem_map, eu, et] at this
                  exact this e2.symm
                · have := (List.pairwise_iff_getElem.mp hnd) i u (by rw [List.length_map]; exact hi) (by rw [List.length_map]; exact hu) hl
                  rw [List.getElem_map, List.getElem_map, eu, et] at this
                  exact this e2
            subst et'
            have := w3 j hj e1
            exact .inl this
          · rcases List.mem_append.mp hj with h | h
            · have := w3 j h e
              omega
            · rw [List.mem_singleton.mp h]
              show tick + t.gap ≤ tick + t.gap + ex
              omega
        · have b2 : decide (0 < r) = false := decide_eq_false hr
          conv => whnf; simp only [b2]
          exact hN _ _ ⟨fr2.trans Fr.upd, ⟨o5, updM_same, s5.le (by omega)⟩, js, _, _, _, rfl, by rw [updM_ne hfa]; exact hf2, by omega, w1, w2⟩
      · have b1 : decide (tick < 30) = false := decide_eq_false hlt
        conv => whnf; simp only [b1]
        exact hN _ _ ⟨fr2, ⟨o4, ha2, s4.le (by omega)⟩, js, _, _, _, rfl, hf2, by omega, w1, w2⟩
  · rintro σ M' ⟨fr, ⟨o1, ha, s1⟩, js, u4, u5, u6, rfl, hf1, g1, g2, g3⟩
    rw [List.length_map] at g1 g2 s1
    obtain ⟨ks, ek, pk⟩ := plan_sorted (ts := ts) (js := js) (fun t ht => (G.ok t ht).g1) (fun j hj => by
      obtain ⟨t, ht, r⟩ := g2 j hj
      exact ⟨t, List.mem_of_mem_take ht, r⟩) (by omega) g3
    conv => whnf; simp only [viewQ_of hf1]; whnf; simp only [pyds_jobs]
    refine ⟨PySem.W.AllAlike.of jobs_alike, PySem.W.Sortable.tuples fun j => ⟨_, _, rfl⟩, fun p hp => ?_, ?_⟩
    · obtain ⟨j, _, rfl⟩ := List.mem_map.mp hp
      simp [jobP, PyData.depth, PyData.depthAll]
    · rw [ek]
      exact ⟨_, fr.sub ha, q ks o1 pk (s1.le (by omega))⟩
end
end K84

/-! ### K84k -/
set_option Elab.async false
set_option linter.all false
set_option maxRecDepth 100000
set_option maxHeartbeats 4000000
namespace K84
open PySem L2 DL PyProof.Rows

def sp__law_stream : SpD := fun ds M Q _ => ∃ (zs : List Int) (at_ : Nat), ds = [.scr (zs.map D.int), .int (at_ : Nat)] ∧ at_ < 10 ∧ ∀ o, St 999999000 o → ∀ a, M a = none → Q (.ref a) (updM M a o)
def sp__law_great : SpD := fun ds M Q _ => ∃ a o k, ds = [.ref a] ∧ M a = some o ∧ St (k + 100) o ∧ ∀ t o', TskOk t → St k o' → Q (tskD t) (updM M a o')
theorem big_eq : ((10 : Int) ^ (Int.toNat 60)) ^ (Int.toNat 10) = 10 ^ 600 := by decide +kernel
section
variable {P : Program} {w : World} {K : PySem.W.Frag} {mg : Str → Option Value} {base : Heap}
theorem ok38 (T : Txt K mg) : FnD false P w K mg base 1 (He.ga K "_law_stream") sp__law_stream := by
  refine ok__law_stream T ?_
  rintro ds M Q E ⟨zs, at_, rfl, hat, q⟩
  have l17 : (17 : Int).natAbs.log2 ≤ 40 := log2_of 40 (by omega) (by omega)
  have la : ((at_ : Nat) : Int).natAbs.log2 ≤ 40 := log2_of 40 (by omega) (by omega)
  have rest : ∀ cell : Int, (tSeqD (tAsgD (tOpD rModD (tCBD rIntD (tConsD (tCBD rAbsD (tConsD (tVarD 2) tNilD)) tNilD)) (tOpD rPowD (tOpD rPowD (tCD (.int 10)) (tCD (.int 60))) (tCD (.int 10)))) (gNameD 3)) (tSeqD (tAsgD (tOpD rAddD (tOpD rAddD (tOpD rAddD (tOpD rMulD (tOpD rModD (tCBD rIntD (tConsD (tVarD 3) tNilD)) (tCD (.int 2147483477))) (tCD (.int 45083))) (tOpD rMulD (tCD (.int 2011)) (tVarD 1))) (tOpD rMulD (tCD (.int 7)) (tCBD rIntD (tConsD (tOpD rLtD (tVarD 2) (tCD (.int 0))) tNilD)))) (tCD (.int 19))) (gNameD 4)) (tRetD (tLstM (tConsD (tCBD rMax2D (tConsD (tCD (.int 0)) (tConsD (tOpD rSubD (tVarD 3) (tOpD rPowD (tCD (.int 10)) (tCD (.int 18)))) tNilD))) (tConsD (tOpD rModD (tCBD rIntD (tConsD (tVarD 4) tNilD)) (tCD (.int 2147483423))) (tConsD (tCD (.int 0)) tNilD))))))) { nx := fun _ M' => upQ Q .non M', rt := upQ Q, ex := upX E }
      [some (.scr (zs.map D.int)), some (.int (at_ : Nat)), some (.int cell), none, none] M := by
    intro cell
    refine ⟨⟨by omega, by decide +kernel⟩, ⟨⟨by omega, by decide +kernel⟩, ?_⟩⟩
    refine ⟨by decide +kernel, ?_⟩
    have B : (0 : Int) < ((10 : Int) ^ (Int.toNat 60)) ^ (Int.toNat 10) := by decide +kernel
    have g0 := Int.emod_nonneg (if cell < 0 then -cell else cell) (show ((10 : Int) ^ (Int.toNat 60)) ^ (Int.toNat 10) ≠ 0 by omega)
    have g1 := Int.emod_lt_of_pos (if cell < 0 then -cell else cell) B
    generalize (if cell < 0 then -cell else cell) % ((10 : Int) ^ (Int.toNat 60)) ^ (Int.toNat 10) = great at *
    refine ⟨by omega, ?_⟩
    have m0 := Int.emod_nonneg great (show (2147483477 : Int) ≠ 0 by omega)
    have m1 := Int.emod_lt_of_pos great (show (0 : Int) < 2147483477 by omega)
    have lm := log2_of 40 m0 (by omega)
    have lk : (45083 : Int).natAbs.log2 ≤ 40 := log2_of 40 (by omega) (by omega)
    have l20 : (2011 : Int).natAbs.log2 ≤ 40 := log2_of 40 (by omega) (by omega)
    have l7 : (7 : Int).natAbs.log2 ≤ 40 := log2_of 40 (by omega) (by omega)
    refine ⟨by omega, by omega, ?_⟩
    have lb : ∀ b : Bool, ((if b = true then 1 else 0 : Int)).natAbs.log2 ≤ 40 := fun b => by cases b <;> exact log2_of 40 (by decide) (by decide)
    have lb' := lb (decide (cell < 0))
    refine ⟨by omega, ?_⟩
    refine ⟨⟨by omega, by decide +kernel⟩, ?_⟩
    refine ⟨by omega, size_of (n := 3) (by decide), fun a ha => upQ.mk (q _ ?_ a ha)⟩
    rw [big_eq] at g1
    have h18 : (0 : Int) ≤ 10 ^ (Int.toNat 18) := by decide +kernel
    refine ⟨_, _, _, rfl, ?_, ?_, Int.emod_nonneg _ (by omega), Int.emod_lt_of_pos _ (by omega), by omega, by omega⟩
    · split <;> omega
    · have : (0 : Int) < 10 ^ 600 := by decide +kernel
      split <;> omega
  refine ⟨rfl, by omega, ?_⟩
  by_cases hlt : (at_ : Int) < ((zs.map D.int).length : Nat)
  · have t1 : decide ((at_ : Int) < ((zs.map D.int).length : Nat)) = true := decide_eq_true hlt
    conv => whnf; simp only [t1]
    have hl : at_ < zs.length := by rw [List.length_map] at hlt; omega
    have e1 : atI (zs.map D.int) ((at_ : Nat) : Int) = some (.int zs[at_]) := atI_nat (by simp [hl])
    conv => whnf; simp only [e1]
    exact rest _
  · have t1 : decide ((at_ : Int) < ((zs.map D.int).length : Nat)) = false := decide_eq_false hlt
    conv => whnf; simp only [t1]
    exact rest _
theorem pick_strs {d : D} {xs : List Str} (h : d ∈ xs.map D.str) : ∃ n, d = .str n ∧ n ∈ xs := by
  obtain ⟨n, hn, rfl⟩ := List.mem_map.mp h
  exact ⟨n, rfl, hn⟩
theorem names_ok {xs : List Str} (h : xs.all nameOkB = true) : ∀ s ∈ xs, NameOk s := fun s hs => nameOkB_ok (List.all_eq_true.mp h s hs)
theorem ok39 (T : Txt K mg) : FnD false P w K mg base 3 (He.ga K "_law_great") sp__law_great := by
  refine ok__law_great T (ok30 T) (ok31 T) ?_
  rintro ds M Q E ⟨a, o, k, rfl, hM, hs, q⟩
  refine ⟨rfl, size_of (n := 0) (by decide), fun f hf => ?_⟩
  have hfa : f ≠ a := fun e => by rw [e, hM] at hf; cases hf
  refine ⟨a, o, k + 99, 9, rfl, by rw [updM_ne (Ne.symm hfa)]; exact hM, hs, by omega, by omega, fun n o1 n0 n1 s1 => ?_⟩
  refine ⟨by rw [sizeLine_eq]; omega, by omega, ?_⟩
  refine forD_inv _ (fun i σ M' => Fr a M M' ∧ (∃ o', M' a = some o' ∧ St (k + 20 + 3 * (8 - i)) o') ∧ ∃ (bg : Int) (ss : List (Int × Int × Str)) (u3 : Option D), σ = [some (.ref a), some (.int bg), some (.ref f), u3, none, none, none, none] ∧ M' f = some (.lst (ss.map secD)) ∧ 0 ≤ bg ∧ bg ≤ 11 * i ∧ (∀ s ∈ ss, s.2.1 ≤ bg) ∧ (∀ s ∈ ss, 0 ≤ s.1 ∧ s.1 < s.2.1 ∧ NameOk s.2.2) ∧ Chain ss ∧ ss.length ≤ i) ?_ ?_
    ⟨(Fr.refl.new hf).trans Fr.upd, ⟨o1, updM_same, s1.le (by omega)⟩, 0, [], none, rfl, by rw [updM_ne hfa, updM_same]; rfl, by omega, by omega, by simp, by simp, trivial, by simp⟩
  · rintro i x hx σ M' ⟨fr, ⟨o2, ha, s2⟩, bg, ss, u3, rfl, hf2, g0, g00, g1, g2, g3, g4⟩ N hN
    obtain ⟨hi, rfl⟩ := rngD_get hx
    have hi8 : i < 8 := by omega
    refine ⟨a, o2, k + 20 + 3 * (8 - (i + 1)) + 2, 3, rfl, ha, s2.le (by omega), by omega, by omega, fun r o3 r0 r1 s3 => ?_⟩
    refine ⟨⟨f, _, rfl, by rw [updM_ne hfa]; exact hf2⟩, ?_⟩
    refine ⟨a, o3, k + 20 + 3 * (8 - (i + 1)) + 1, 9, rfl, updM_same, s3, by omega, by omega, fun r2 o4 r20 r21 s4 => ?_⟩
    refine ⟨size_of (n := 3) (by decide), a, o4, k + 20 + 3 * (8 - (i + 1)), _, rfl, updM_same, s4, by decide, by decide, fun d o5 hd s5 => ?_⟩
    obtain ⟨lk, rfl, hlk⟩ := pick_strs (xs := ["a", "zzzzzzzz", "lock"]) hd
    have lok := names_ok (xs := ["a", "zzzzzzzz", "lock"]) (by decide +kernel) lk hlk
    have hf3 : updM (updM (updM M' a o3) a o4) a o5 f = some (.lst (ss.map secD)) := by rw [updM_ne hfa, updM_ne hfa, updM_ne hfa]; exact hf2
    refine ⟨size_of (n := 3) (by decide), ?_⟩
    conv => whnf; simp only [hf3]
    refine ⟨by rw [List.length_map]; exact Nat.lt_of_lt_of_le (by omega : ss.length < 1000) (size_of (by omega)), ?_⟩
    have vS : viewS (updM (updM (updM (updM M' a o3) a o4) a o5) f (.lst (ss.map secD ++ [D.tup [.int (bg + r), .int (bg + r + 1 + r2), .str lk]]))) (.ref f) = some (ss.map secD ++ [D.tup [.int (bg + r), .int (bg + r + 1 + r2), .str lk]]) := viewS_upd
    conv => whnf; simp only [updM_same]; whnf; simp only [vS]; whnf; simp only [atI_last]
    refine hN _ _ ⟨(((fr.trans Fr.upd).trans Fr.upd).trans Fr.upd).new hf, ⟨o5, by rw [updM_ne (Ne.symm hfa), updM_same], s5⟩, bg + r + 1 + r2, ss ++ [(bg + r, bg + r + 1 + r2, lk)], _, rfl, ?_, by omega, by omega, ?_, ?_, chain_app g3 fun x hx => ?_, ?_⟩
    · rw [updM_same, List.map_append]; rfl
    · intro s hs'
      rcases List.mem_append.mp hs' with h | h
      · have := g1 s h; omega
      · rw [List.mem_singleton.mp h]; exact Int.le_refl _
    · intro s hs'
      rcases List.mem_append.mp hs' with h | h
      · exact g2 s h
      · rw [List.mem_singleton.mp h]; exact ⟨by show 0 ≤ bg + r; omega, by show bg + r < bg + r + 1 + r2; omega, lok⟩
    · have := g1 x hx
      show x.2.1 ≤ bg + r
      omega
    · rw [List.length_append, List.length_singleton]; omega
  · rintro σ M' ⟨fr, ⟨o2, ha, s2⟩, bg, ss, u3, rfl, hf2, g0, g00, g1, g2, g3, g4⟩
    rw [rngD_len] at g4 g00
    have hbg : bg ≤ 88 := by omega
    refine ⟨size_of (n := 2) (by decide), a, o2, k + 19, _, rfl, ha, s2.le (by omega), by simp, by simp, fun d o3 hd s3 => ?_⟩
    obtain ⟨high, rfl, hm⟩ := pick_ints (xs := [100, 1 + if bg > 1 then bg else 1]) hd
    have hh : 1 ≤ high ∧ high ≤ 100 := by
      simp only [List.mem_cons, List.not_mem_nil, or_false] at hm
      split at hm <;> omega
    refine ⟨a, o3, k + 18, 20000, rfl, updM_same, s3, by omega, by omega, fun r o4 r0 r1 s4 => ?_⟩
    refine ⟨size_of (n := 3) (by decide), a, o4, k + 17, _, rfl, updM_same, s4, by simp, by simp, fun d o5 hd s5 => ?_⟩
    obtain ⟨due, rfl, hm2⟩ := pick_ints (xs := [1, 20000, 1 + r]) hd
    have hdue : 1 ≤ due ∧ due ≤ 20000 := by
      simp only [List.mem_cons, List.not_mem_nil, or_false] at hm2
      omega
    have p6 : (10 : Int) ^ Int.toNat 6 = 1000000 := by decide +kernel
    refine ⟨⟨by omega, by decide +kernel⟩, ⟨⟨by omega, by decide +kernel⟩, ?_⟩⟩
    refine ⟨a, o5, k + 16, _, rfl, updM_same, s5, by rw [p6]; omega, by rw [p6]; omega, fun r3 o6 r30 r31 s6 => ?_⟩
    rw [p6] at r31
    refine ⟨size_of (n := 3) (by decide), a, o6, k + 15, _, rfl, updM_same, s6, by simp, by simp, fun d o7 hd s7 => ?_⟩
    obtain ⟨room, rfl, hm3⟩ := pick_ints (xs := [0, (10 : Int) ^ Int.toNat 6, r3]) hd
    rw [p6] at hm3
    have hroom : 0 ≤ room ∧ room ≤ 1000000 := by
      simp only [List.mem_cons, List.not_mem_nil, or_false] at hm3
      omega
    refine ⟨size_of (n := 4) (by decide), a, o7, k + 14, _, rfl, updM_same, s7, by simp, by simp, fun d o8 hd s8 => ?_⟩
    obtain ⟨nm, rfl, hm4⟩ := pick_strs (xs := ["a", "zzzzzzzz", "step", "late"]) hd
    have nok := names_ok (xs := ["a", "zzzzzzzz", "step", "late"]) (by decide +kernel) nm hm4
    have hf3 : updM (updM (updM (updM (updM (updM M' a o3) a o4) a o5) a o6) a o7) a o8 f = some (.lst (ss.map secD)) := by simp only [updM_updM]; rw [updM_ne hfa]; exact hf2
    conv => whnf; simp only [viewS_of hf3]; whnf
    refine ⟨size_of (n := 6) (by decide), ?_⟩
    have z := q ⟨nm, if bg + 1 > high then bg + 1 else high, 1000, due, room, ss⟩ o8 ⟨nok, ?_, ?_, by show (1 : Int) ≤ 1000; omega, by show (1000 : Int) ≤ 1000; omega, hdue.1, hdue.2, hroom.1, hroom.2, by show ss.length ≤ 8; omega, fun s hs => ?_, g3⟩ (s8.le (by omega))
    · simp only [updM_updM]
      exact ⟨_, (fr.trans Fr.upd).sub updM_same, z⟩
    · show 1 ≤ (if bg + 1 > high then bg + 1 else high)
      split <;> omega
    · show (if bg + 1 > high then bg + 1 else high) ≤ 100
      split <;> omega
    · have h1 := g1 s hs
      obtain ⟨h2, h3, h4⟩ := g2 s hs
      refine ⟨h2, h3, ?_, h4⟩
      show s.2.1 < (if bg + 1 > high then bg + 1 else high)
      split <;> omega
end
end K84

/-! ### K84l -/
set_option Elab.async false
set_option linter.all false
set_option maxRecDepth 100000
set_option maxHeartbeats 400000
namespace K84
open PySem L2 DL PyProof.Rows TL

/-! ## texts of numbers -/
def numS (i : Int) : Str := toString i
theorem tl_numS (n : Nat) : tl (numS (n : Int)) = numL n := tl_num n
theorem numS_of {i : Int} (h : 0 ≤ i) : tl (numS i) = numL i.toNat := by
  obtain ⟨n, rfl⟩ := Int.eq_ofNat_of_zero_le h
  exact tl_num n
theorem numS_len {i : Int} {k : Nat} (hk : 0 < k) (h0 : 0 ≤ i) (h : i < 10 ^ k) : (numS i).length ≤ k := by
  rw [len_tl, numS_of h0]
  refine numL_len hk ?_
  have : ((i.toNat : Nat) : Int) < ((10 ^ k : Nat) : Int) := by rw [Int.toNat_of_nonneg h0]; simpa using h
  exact Int.ofNat_lt.mp this
theorem numS_pos {i : Int} (h0 : 0 ≤ i) : 1 ≤ (numS i).length := by
  rw [len_tl, numS_of h0]
  exact List.length_pos_iff.mpr (numL_ne _)
theorem numS_free {i : Int} {s : Nat} (h0 : 0 ≤ i) (h : s < 48 ∨ 57 < s) : s ∉ tl (numS i) := by
  rw [numS_of h0]; exact numL_free h
theorem numS_int {i : Int} (h0 : 0 ≤ i) (h : i < 10 ^ 7) : intText? (numS i) = some i := by
  obtain ⟨n, rfl⟩ := Int.eq_ofNat_of_zero_le h0
  refine int_num ?_
  have := numS_len (k := 7) (by omega) h0 h
  rw [len_tl, tl_numS] at this
  omega
theorem log_small {i : Int} (h0 : 0 ≤ i) (h : i < 10 ^ 7) : i.natAbs.log2 < 1920 := Nat.lt_of_le_of_lt (log2_of 40 h0 (by omega)) (by omega)
theorem digits_mem {c : Nat} (h1 : 48 ≤ c) (h2 : c ≤ 57) : c ∈ (Str.ofString "0123456789").cps.toList := by
  have e : (Str.ofString "0123456789").cps.toList = (List.range 10).map (48 + ·) := by decide +kernel
  rw [e, List.mem_map]
  exact ⟨c - 48, List.mem_range.mpr (by omega), by omega⟩
theorem name_free {s : Str} {c : Nat} (h : NameOk s) (hc : c < 97 ∨ 122 < c) : c ∉ tl s := fun hm => by
  have := h.2.2 c hm
  omega
theorem tl_sp : tl (Str.ofString " ") = 32 :: [] := by decide +kernel
theorem tl_ds : tl (Str.ofString "-") = 45 :: [] := by decide +kernel
theorem tl_nl : tl (Str.ofString "\n") = 10 :: [] := by decide +kernel
theorem tl_cs : tl (Str.ofString ", ") = 44 :: [32] := by decide +kernel
theorem empty_app (x : Str) : Str.empty ++ x = x := ext_tl (by rw [tl_append]; rfl)
theorem app_assoc (x y z : Str) : x ++ y ++ z = x ++ (y ++ z) := ext_tl (by simp only [tl_append, List.append_assoc])
theorem len_app (x y : Str) : (x ++ y).length = x.length + y.length := by rw [len_tl, len_tl, len_tl, tl_append, List.length_append]
theorem sum_le {xs : List Str} {B : Nat} (h : ∀ x ∈ xs, x.length ≤ B) : (xs.map (·.length)).sum ≤ xs.length * B := by
  induction xs with
  | nil => simp
  | cons x r ih =>
    have h1 := h x List.mem_cons_self
    have h2 := ih fun y hy => h y (List.mem_cons_of_mem _ hy)
    rw [List.map_cons, List.sum_cons, List.length_cons, Nat.add_mul]
    omega
theorem joinL_len (S : List Nat) : ∀ ps : List (List Nat), (joinL S ps).length ≤ (ps.map (·.length)).sum + ps.length * S.length
  | [] => by simp [joinL]
  | [p] => by simp [joinL]
  | p :: q :: r => by
    have ih := joinL_len S (q :: r)
    show (p ++ (S ++ joinL S (q :: r))).length ≤ _
    rw [List.length_append, List.length_append, List.map_cons, List.sum_cons, List.length_cons, Nat.add_mul]
    omega
theorem join_len (y : Str) (ps : List Str) : (Txt.join y ps).length ≤ (ps.map (·.length)).sum + ps.length * y.length := by
  rw [join_eq, len_tl, tl_join]
  refine Nat.le_trans (joinL_len _ _) ?_
  rw [List.map_map, List.length_map, len_tl y]
  have : ((fun x : List Nat => x.length) ∘ tl) = fun x : Str => x.length := by funext x; exact (len_tl x).symm
  rw [this]
  exact Nat.le_refl _
/-! ## the text of a task -/
def spanS (s : Int × Int × Str) : Str := numS s.1 ++ "-" ++ numS s.2.1
def wordsS (t : Tsk) : List Str := t.name :: numS t.long :: numS t.gap :: numS t.due :: numS t.room :: t.secs.flatMap fun s => [s.2.2, spanS s]
def taskS (t : Tsk) : Str := Txt.join " " (wordsS t)
theorem words_len (t : Tsk) (h : TskOk t) : (wordsS t).length ≤ 21 := by
  have e : (t.secs.flatMap fun s => [s.2.2, spanS s]).length = 2 * t.secs.length := by
    induction t.secs with
    | nil => rfl
    | cons s r ih => rw [List.flatMap_cons, List.length_append, ih, List.length_cons]; simp; omega
  have := h.few
  simp only [wordsS, List.length_cons, e]
  omega
theorem words_short (t : Tsk) (h : TskOk t) : ∀ x ∈ wordsS t, x.length ≤ 20 := by
  intro x hx
  have l1 := h.l1
  have l2 := h.l2
  have g1 := h.g1
  have g2 := h.g2
  have d1 := h.d1
  have d2 := h.d2
  have r1 := h.r1
  have r2 := h.r2
  simp only [wordsS, List.mem_cons] at hx
  rcases hx with rfl | rfl | rfl | rfl | rfl | hx
  · have := h.name.2.1; omega
  · have := numS_len (i := t.long) (k := 7) (by omega) (by omega) (by omega); omega
  · have := numS_len (i := t.gap) (k := 7) (by omega) (by omega) (by omega); omega
  · have := numS_len (i := t.due) (k := 7) (by omega) (by omega) (by omega); omega
  · have := numS_len (i := t.room) (k := 7) (by omega) (by omega) (by omega); omega
  · obtain ⟨s, hs, hx⟩ := List.mem_flatMap.mp hx
    obtain ⟨s1, s2, s3, s4⟩ := h.sec s hs
    simp only [List.mem_cons, List.not_mem_nil, or_false] at hx
    rcases hx with rfl | rfl
    · have := s4.2.1; omega
    · have a := numS_len (i := s.1) (k := 7) (by omega) (by omega) (by omega)
      have b := numS_len (i := s.2.1) (k := 7) (by omega) (by omega) (by omega)
      have c : (Str.ofString "-").length = 1 := by decide +kernel
      unfold spanS
      rw [len_app, len_app]
      omega
theorem words_free (t : Tsk) (h : TskOk t) : ∀ x ∈ wordsS t, (∀ c ∈ tl x, c = 45 ∨ (48 ≤ c ∧ c ≤ 57) ∨ (97 ≤ c ∧ c ≤ 122)) := by
  have num : ∀ i : Int, 0 ≤ i → ∀ c ∈ tl (numS i), c = 45 ∨ (48 ≤ c ∧ c ≤ 57) ∨ (97 ≤ c ∧ c ≤ 122) := fun i hi c hc => by
    by_cases h : c < 48 ∨ 57 < c
    · exact absurd hc (numS_free hi h)
    · omega
  have nm : ∀ s, NameOk s → ∀ c ∈ tl s, c = 45 ∨ (48 ≤ c ∧ c ≤ 57) ∨ (97 ≤ c ∧ c ≤ 122) := fun s hs c hc => by
    have := hs.2.2 c hc
    omega
  intro x hx
  have l1 := h.l1
  have g1 := h.g1
  have d1 := h.d1
  have r1 := h.r1
  simp only [wordsS, List.mem_cons] at hx
  rcases hx with rfl | rfl | rfl | rfl | rfl | hx
  · exact nm _ h.name
  · exact num _ (by omega)
  · exact num _ (by omega)
  · exact num _ (by omega)
  · exact num _ (by omega)
  · obtain ⟨s, hs, hx⟩ := List.mem_flatMap.mp hx
    obtain ⟨s1, s2, s3, s4⟩ := h.sec s hs
    simp only [List.mem_cons, List.not_mem_nil, or_false] at hx
    rcases hx with rfl | rfl
    · exact nm _ s4
    · intro c hc
      unfold spanS at hc
      rw [tl_append, tl_append, tl_ds] at hc
      rcases List.mem_append.mp hc with hc | hc
      · rcases List.mem_append.mp hc with hc | hc
        · exact num _ (by omega) c hc
        · exact .inl (List.mem_singleton.mp hc)
      · exact num _ (by omega) c hc
theorem words_join (t : Tsk) (h : TskOk t) : ((wordsS t).map (·.length)).sum + (wordsS t).length * (Str.ofString " ").length ≤ 16777216 := by
  have a := sum_le (words_short t h)
  have b := words_len t h
  have c : (Str.ofString " ").length = 1 := by decide +kernel
  rw [c]
  omega
theorem task_len (t : Tsk) (h : TskOk t) : (taskS t).length ≤ 500 := by
  have z := join_len " " (wordsS t)
  have a := sum_le (words_short t h)
  have b := words_len t h
  have c : (Str.ofString " ").length = 1 := by decide +kernel
  unfold taskS
  rw [c] at z
  omega
theorem joinL_mem {S : List Nat} {c : Nat} : ∀ {ps : List (List Nat)}, c ∈ joinL S ps → c ∈ S ∨ ∃ p ∈ ps, c ∈ p
  | [], h => by simp [joinL] at h
  | [p], h => .inr ⟨p, List.mem_cons_self, h⟩
  | p :: q :: r, h => by
    have h : c ∈ p ++ (S ++ joinL S (q :: r)) := h
    rcases List.mem_append.mp h with h | h
    · exact .inr ⟨p, List.mem_cons_self, h⟩
    · rcases List.mem_append.mp h with h | h
      · exact .inl h
      · rcases joinL_mem h with h | ⟨p', hp, h⟩
        · exact .inl h
        · exact .inr ⟨p', List.mem_cons_of_mem _ hp, h⟩
theorem task_nl (t : Tsk) (h : TskOk t) : 10 ∉ tl (taskS t) := fun hm => by
  unfold taskS at hm
  rw [join_eq, tl_join] at hm
  rcases joinL_mem hm with hm | ⟨p, hp, hm⟩
  · rw [tl_sp] at hm; simp at hm
  · obtain ⟨x, hx, rfl⟩ := List.mem_map.mp hp
    have := words_free t h x hx 10 hm
    omega
theorem task_split (t : Tsk) (h : TskOk t) : Txt.split (taskS t) " " = wordsS t := by
  unfold taskS
  refine split_join tl_sp (by decide +kernel) (by simp [wordsS]) fun p hp hm => ?_
  have := words_free t h p hp 32 hm
  omega
end K84

/-! ### K84m -/
set_option Elab.async false
set_option linter.all false
set_option maxRecDepth 100000
set_option maxHeartbeats 400000
namespace K84
open PySem L2 DL PyProof.Rows TL

def sp_require_text : SpD := fun ds M Q _ => ∃ s, ds = [.str s] ∧ Q .non M
def sp_number_in : SpD := fun ds M Q _ => ∃ i : Int, ds = [.str (numS i)] ∧ 0 ≤ i ∧ i < 10 ^ 7 ∧ Q (.int i) M
def sp_pair_in : SpD := fun ds M Q _ => ∃ s : Int × Int × Str, ds = [.str (spanS s)] ∧ 0 ≤ s.1 ∧ s.1 < 10 ^ 7 ∧ 0 ≤ s.2.1 ∧ s.2.1 < 10 ^ 7 ∧ Q (.tup [.int s.1, .int s.2.1]) M
def sp_task_text : SpD := fun ds M Q _ => ∃ t, ds = [tskD t] ∧ TskOk t ∧ Q (.str (taskS t)) M
section
variable {P : Program} {w : World} {K : PySem.W.Frag} {mg : Str → Option Value} {base : Heap}
theorem ok40 (T : Txt K mg) : FnD false P w K mg base 1 (He.ga K "require_text") sp_require_text := by
  refine ok_require_text T ?_
  rintro ds M Q E ⟨s, rfl, q⟩
  exact ⟨rfl, _, _, true, .ty _, .str s, kit_ty k_str, upQ.mk q⟩
theorem ok41 (T : Txt K mg) : FnD false P w K mg base 1 (He.ga K "number_in") sp_number_in := by
  refine ok_number_in T ?_
  rintro ds M Q E ⟨i, rfl, h0, h1, q⟩
  have hl := numS_len (k := 7) (by omega) h0 h1
  have hp := numS_pos h0
  have hz : (numS i).length ≤ sizeLine := size_of (by omega)
  refine ⟨rfl, hz, ?_⟩
  have c1 : decide ((1 : Int) ≤ ((numS i).length : Nat)) = true := decide_eq_true (by omega)
  have c2 : decide ((((numS i).length : Nat) : Int) ≤ 40) = true := decide_eq_true (by omega)
  conv => whnf; simp only [c1]; whnf; simp only [c2]
  have hl2 : ((numS i).cps.toList.map fun c => D.str ⟨#[c]⟩).length ≤ sizeLine := by rw [List.length_map, Array.length_toList]; exact hz
  refine ⟨hl2, ?_⟩
  refine lcD_mapT (fun c => D.str ⟨#[c]⟩) (fun _ => .bl true) (fun c hc N n => ?_) ?_
  · refine ⟨c, rfl, ?_⟩
    have hd : ¬ (c < 48 ∨ 57 < c) := fun h => numS_free h0 h hc
    rw [decide_eq_true (digits_mem (by omega) (by omega))]
    exact n
  · conv => whnf; simp only [bls_true]; whnf; simp only [all_true]
    exact ⟨i, numS_int h0 h1, by omega, upQ.mk q⟩
theorem ok42 (T : Txt K mg) : FnD false P w K mg base 2 (He.ga K "pair_in") sp_pair_in := by
  refine ok_pair_in T (ok41 T) ?_
  rintro ds M Q E ⟨s, rfl, h0, h1, h2, h3, q⟩
  have a := numS_len (i := s.1) (k := 7) (by omega) h0 h1
  have b := numS_len (i := s.2.1) (k := 7) (by omega) h2 h3
  have c : (Str.ofString "-").length = 1 := by decide +kernel
  have e : Txt.partition (spanS s) "-" = (numS s.1, Str.ofString "-", numS s.2.1) := partition_app tl_ds (numS_free h0 (by omega))
  refine ⟨rfl, trivial, ⟨rfl, ?_⟩, ?_⟩
  · unfold spanS
    rw [len_app, len_app]
    exact size_of (by omega)
  rw [e]
  refine ⟨rfl, ?_⟩
  have c1 : ((Str.ofString "-") == (Str.ofString "")) = false := by decide +kernel
  conv => whnf; simp only [c1]
  refine ⟨s.1, rfl, h0, h1, s.2.1, rfl, h2, h3, size_of (n := 2) (by decide), upQ.mk q⟩
theorem wordsS_eq (t : Tsk) : wordsS t = [t.name] ++ ([t.long, t.gap, t.due, t.room].map numS ++ t.secs.flatMap fun s => [s.2.2, spanS s]) := rfl
theorem span_short {s : Int × Int × Str} {L : Int} (h : SecOk L s) (hL : L ≤ 100) : (spanS s).length ≤ 20 ∧ (numS s.1).length ≤ 7 ∧ (numS s.2.1).length ≤ 7 := by
  obtain ⟨s1, s2, s3, s4⟩ := h
  have a := numS_len (i := s.1) (k := 7) (by omega) (by omega) (by omega)
  have b := numS_len (i := s.2.1) (k := 7) (by omega) (by omega) (by omega)
  have c : (Str.ofString "-").length = 1 := by decide +kernel
  unfold spanS
  rw [len_app, len_app]
  omega
theorem nums_log {t : Tsk} (h : TskOk t) : ∀ i ∈ [t.long, t.gap, t.due, t.room], i.natAbs.log2 < 1920 := fun i hi => by
  have l1 := h.l1
  have l2 := h.l2
  have g1 := h.g1
  have g2 := h.g2
  have d1 := h.d1
  have d2 := h.d2
  have r1 := h.r1
  have r2 := h.r2
  simp only [List.mem_cons, List.not_mem_nil, or_false] at hi
  rcases hi with rfl | rfl | rfl | rfl <;> exact log_small (by omega) (by omega)
theorem part_len (t : Tsk) (h : TskOk t) (i : Nat) : ([t.name] ++ ([t.long, t.gap, t.due, t.room].map numS ++ (t.secs.take i).flatMap fun s => [s.2.2, spanS s])).length ≤ 21 := by
  have e : ∀ l : List (Int × Int × Str), (l.flatMap fun s => [s.2.2, spanS s]).length = 2 * l.length := fun l => by
    induction l with
    | nil => rfl
    | cons s r ih => rw [List.flatMap_cons, List.length_append, ih, List.length_cons]; simp; omega
  have := h.few
  rw [List.length_append, List.length_append, e, List.length_take]
  simp
  omega
theorem ok43 (T : Txt K mg) : FnD false P w K mg base 1 (He.ga K "task_text") sp_task_text := by
  refine ok_task_text T ?_
  rintro ds M Q E ⟨t, rfl, h, q⟩
  refine ⟨rfl, rfl, ?_⟩
  refine ⟨size_of (n := 4) (by decide), size_of (n := 4) (by decide), ?_⟩
  refine lcD_mapT (as := [t.long, t.gap, t.due, t.room]) D.int (fun i => .str (numS i)) (fun i hi N n => ⟨nums_log h i hi, n⟩) ?_
  refine ⟨size_of (n := 5) (by decide), fun b hb => ?_⟩
  have few := h.few
  have hz : (t.secs.map secD).length ≤ sizeLine := size_of (by rw [List.length_map]; omega)
  refine ⟨hz, ?_⟩
  refine forD_inv _ (fun i σ M' => M' = updM M b (.lst (([t.name] ++ ([t.long, t.gap, t.due, t.room].map numS ++ (t.secs.take i).flatMap fun s => [s.2.2, spanS s])).map D.str)) ∧ ∃ u8 u9 u10 u11 : Option D, σ = [some (tskD t), some (.str t.name), some (.int t.long), some (.int t.gap), some (.int t.due), some (.int t.room), some (.tup (t.secs.map secD)), some (.ref b), u8, u9, u10, u11]) ?_ ?_
    ⟨rfl, none, none, none, none, rfl⟩
  · rintro i x hx σ M' ⟨rfl, u8, u9, u10, u11, rfl⟩ N hN
    rw [List.getElem?_map] at hx
    cases hy : t.secs[i]? with
    | none => rw [hy] at hx; cases hx
    | some s =>
      rw [hy] at hx
      cases hx
      obtain ⟨hi, es⟩ := List.getElem?_eq_some_iff.mp hy
      have so := h.sec s (es ▸ List.getElem_mem hi)
      obtain ⟨z1, z2, z3⟩ := span_short so h.l2
      obtain ⟨s1, s2, s3, s4⟩ := so
      have l2 := h.l2
      have pl := part_len t h i
      have c : (Str.ofString "-").length = 1 := by decide +kernel
      have z2' : (Str.ofString (toString s.1)).length ≤ 7 := z2
      have z3' : (Str.ofString (toString s.2.1)).length ≤ 7 := z3
      refine ⟨rfl, ⟨b, _, rfl, updM_same⟩, ?_⟩
      refine ⟨log_small s1 (by omega), by rw [len_app]; exact size_of (by have : Str.empty.length = 0 := rfl; omega), by rw [len_app, len_app]; exact size_of (by have : Str.empty.length = 0 := rfl; omega), log_small (by omega) (by omega), by rw [len_app, len_app, len_app]; exact size_of (by have : Str.empty.length = 0 := rfl; omega), ?_⟩
      refine ⟨size_of (n := 2) (by decide), ?_⟩
      conv => whnf; simp only [updM_same]; whnf
      refine ⟨by rw [List.length_map]; exact size_of (by simp only [List.length_cons, List.length_nil]; omega), hN _ _ ⟨?_, _, _, _, _, rfl⟩⟩
      rw [updM_updM, List.take_succ_eq_append_getElem hi, es, List.flatMap_append, ← List.append_assoc, ← List.append_assoc, ← List.append_assoc, List.map_append]
      have e2 : Str.empty ++ numS s.1 ++ "-" ++ numS s.2.1 = spanS s := by rw [empty_app]; rfl
      show updM M b (.lst (_ ++ [D.str s.2.2, D.str (Str.empty ++ numS s.1 ++ "-" ++ numS s.2.1)])) = _
      rw [e2]
      simp only [List.map_append, List.flatMap_cons, List.flatMap_nil, List.append_nil, List.append_assoc]
      rfl
  · rintro σ M' ⟨rfl, u8, u9, u10, u11, rfl⟩
    rw [List.length_map, List.take_length, ← wordsS_eq]
    refine ⟨trivial, ?_⟩
    conv => whnf; simp only [viewS_upd]; whnf; simp only [strsD_map]; whnf
    exact ⟨words_join t h, M, Sub.upd hb, q⟩
theorem ok44 (T : Txt K mg) : FnD false P w K mg base 7 (He.ga K "format_task") sp_task_text := by
  refine ok_format_task T (ok7 T) (ok43 T) ?_
  rintro ds M Q E ⟨t, rfl, h, q⟩
  exact ⟨rfl, t, rfl, h, t, rfl, h, upQ.mk q⟩
end
end K84

/-! ### K84n -/
set_option Elab.async false
set_option linter.all false
set_option maxRecDepth 100000
set_option maxHeartbeats 400000
namespace K84
open PySem L2 DL PyProof.Rows TL

section
variable {P : Program} {w : World} {K : PySem.W.Frag} {mg : Str → Option Value} {base : Heap}
theorem ok45 (T : Txt K mg) : FnD false P w K mg base 1 (He.ga K "_law_task_text") sp_task_text := by
  refine ok__law_task_text T ?_
  rintro ds M Q E ⟨t, rfl, h, q⟩
  refine ⟨rfl, size_of (n := 1) (by decide), size_of (n := 4) (by decide), ?_⟩
  refine lcD_mapT (as := [t.long, t.gap, t.due, t.room]) D.int (fun i => .str (numS i)) (fun i hi N n => ⟨nums_log h i hi, n⟩) ?_
  refine ⟨size_of (n := 5) (by decide), ?_⟩
  have few := h.few
  have hz : (t.secs.map secD).length ≤ sizeLine := size_of (by rw [List.length_map]; omega)
  refine ⟨hz, ?_⟩
  refine forD_inv _ (fun i σ M' => M = M' ∧ ∃ u2 u3 u4 u5 : Option D, σ = [some (tskD t), some (.lst (([t.name] ++ ([t.long, t.gap, t.due, t.room].map numS ++ (t.secs.take i).flatMap fun s => [s.2.2, spanS s])).map D.str)), u2, u3, u4, u5]) ?_ ?_
    ⟨rfl, none, none, none, none, rfl⟩
  · rintro i x hx σ M' ⟨rfl, u2, u3, u4, u5, rfl⟩ N hN
    rw [List.getElem?_map] at hx
    cases hy : t.secs[i]? with
    | none => rw [hy] at hx; cases hx
    | some s =>
      rw [hy] at hx
      cases hx
      obtain ⟨hi, es⟩ := List.getElem?_eq_some_iff.mp hy
      have so := h.sec s (es ▸ List.getElem_mem hi)
      obtain ⟨z1, z2, z3⟩ := span_short so h.l2
      obtain ⟨s1, s2, s3, s4⟩ := so
      have l2 := h.l2
      have pl := part_len t h i
      have c : (Str.ofString "-").length = 1 := by decide +kernel
      have z2' : (Str.ofString (toString s.1)).length ≤ 7 := z2
      have z3' : (Str.ofString (toString s.2.1)).length ≤ 7 := z3
      refine ⟨rfl, ?_⟩
      refine ⟨log_small s1 (by omega), size_of (by omega), log_small (by omega) (by omega), by rw [len_app]; exact size_of (by omega), size_of (n := 2) (by decide), ?_⟩
      refine ⟨by rw [List.length_map]; exact size_of (by simp only [List.length_cons, List.length_nil]; omega), hN _ _ ⟨rfl, u2, some (.int s.1), some (.int s.2.1), some (.str s.2.2), ?_⟩⟩
      rw [List.take_succ_eq_append_getElem hi, es, List.flatMap_append]
      simp only [List.map_append, List.flatMap_cons, List.flatMap_nil, List.append_nil, ← List.append_assoc]
      rfl
  · rintro σ M' ⟨rfl, u2, u3, u4, u5, rfl⟩
    rw [List.length_map, List.take_length, ← wordsS_eq]
    refine ⟨trivial, ?_⟩
    conv => whnf; simp only [strsD_map]; whnf
    exact ⟨words_join t h, upQ.mk q⟩
/-! ## a task's text read back -/
def restS (t : Tsk) : List Str := numS t.long :: numS t.gap :: numS t.due :: numS t.room :: t.secs.flatMap fun s => [s.2.2, spanS s]
theorem rest_eq (t : Tsk) : wordsS t = t.name :: restS t := rfl
theorem rest4 (t : Tsk) : DL.cutD ((restS t).map D.str) none (some 4) = [t.long, t.gap, t.due, t.room].map fun i => .str (numS i) := by
  rw [cutD_take D.str (restS t) 4 (by omega) (by simp [restS]; omega)]
  rfl
theorem pick_of {xs : List D} {lo : Int} {n : Nat} {js : List Nat} (hn : xs.length = n) (e : sliceRange (sliceBounds (some lo) none (some 2) n).1 (sliceBounds (some lo) none (some 2) n).2.1 (sliceBounds (some lo) none (some 2) n).2.2 = js) : pickL xs (some lo) none (some 2) = js.filterMap (xs[·]?) := by
  subst hn
  unfold pickL
  rw [e]
theorem restL (t : Tsk) (h : t.secs.length ≤ 8) : pickL ((restS t).map D.str) (some 4) none (some 2) = t.secs.map fun s => .str s.2.2 := by
  unfold restS
  generalize t.secs = l at *
  match l, h with
  | [], _ => exact (pick_of (n := 4) (js := []) rfl (by decide +kernel)).trans rfl
  | [_], _ => exact (pick_of (n := 6) (js := [4]) rfl (by decide +kernel)).trans rfl
  | [_, _], _ => exact (pick_of (n := 8) (js := [4, 6]) rfl (by decide +kernel)).trans rfl
  | [_, _, _], _ => exact (pick_of (n := 10) (js := [4, 6, 8]) rfl (by decide +kernel)).trans rfl
  | [_, _, _, _], _ => exact (pick_of (n := 12) (js := [4, 6, 8, 10]) rfl (by decide +kernel)).trans rfl
  | [_, _, _, _, _], _ => exact (pick_of (n := 14) (js := [4, 6, 8, 10, 12]) rfl (by decide +kernel)).trans rfl
  | [_, _, _, _, _, _], _ => exact (pick_of (n := 16) (js := [4, 6, 8, 10, 12, 14]) rfl (by decide +kernel)).trans rfl
  | [_, _, _, _, _, _, _], _ => exact (pick_of (n := 18) (js := [4, 6, 8, 10, 12, 14, 16]) rfl (by decide +kernel)).trans rfl
  | [_, _, _, _, _, _, _, _], _ => exact (pick_of (n := 20) (js := [4, 6, 8, 10, 12, 14, 16, 18]) rfl (by decide +kernel)).trans rfl
  | _ :: _ :: _ :: _ :: _ :: _ :: _ :: _ :: _ :: _, h => simp at h
theorem restP (t : Tsk) (h : t.secs.length ≤ 8) : pickL ((restS t).map D.str) (some 5) none (some 2) = t.secs.map fun s => .str (spanS s) := by
  unfold restS
  generalize t.secs = l at *
  match l, h with
  | [], _ => exact (pick_of (n := 4) (js := []) rfl (by decide +kernel)).trans rfl
  | [_], _ => exact (pick_of (n := 6) (js := [5]) rfl (by decide +kernel)).trans rfl
  | [_, _], _ => exact (pick_of (n := 8) (js := [5, 7]) rfl (by decide +kernel)).trans rfl
  | [_, _, _], _ => exact (pick_of (n := 10) (js := [5, 7, 9]) rfl (by decide +kernel)).trans rfl
  | [_, _, _, _], _ => exact (pick_of (n := 12) (js := [5, 7, 9, 11]) rfl (by decide +kernel)).trans rfl
  | [_, _, _, _, _], _ => exact (pick_of (n := 14) (js := [5, 7, 9, 11, 13]) rfl (by decide +kernel)).trans rfl
  | [_, _, _, _, _, _], _ => exact (pick_of (n := 16) (js := [5, 7, 9, 11, 13, 15]) rfl (by decide +kernel)).trans rfl
  | [_, _, _, _, _, _, _], _ => exact (pick_of (n := 18) (js := [5, 7, 9, 11, 13, 15, 17]) rfl (by decide +kernel)).trans rfl
  | [_, _, _, _, _, _, _, _], _ => exact (pick_of (n := 20) (js := [5, 7, 9, 11, 13, 15, 17, 19]) rfl (by decide +kernel)).trans rfl
  | _ :: _ :: _ :: _ :: _ :: _ :: _ :: _ :: _ :: _, h => simp at h
theorem zipD_self {α : Type} (f g : α → D) : ∀ xs : List α, zipD (xs.map f) (xs.map g) = xs.map fun x => .tup [f x, g x]
  | [] => rfl
  | x :: xs => by
    have := zipD_self f g xs
    unfold zipD at this ⊢
    simp only [List.map_cons, List.zipWith_cons_cons, this]
def sp_parse_task : SpD := fun ds M Q _ => ∃ t, ds = [.str (taskS t)] ∧ TskOk t ∧ Q (tskD t) M
theorem ok46 (T : Txt K mg) : FnD false P w K mg base 6 (He.ga K "parse_task") sp_parse_task := by
  refine ok_parse_task T (ok40 T) (ok41 T) (ok42 T) (ok6 T) (ok43 T) ?_
  rintro ds M Q E ⟨t, rfl, h, q⟩
  have few := h.few
  have tl := task_len t h
  have wl := words_len t h
  have l1 := h.l1
  have l2 := h.l2
  have g1 := h.g1
  have g2 := h.g2
  have d1 := h.d1
  have d2 := h.d2
  have r1 := h.r1
  have r2 := h.r2
  refine ⟨rfl, _, rfl, trivial, ⟨rfl, size_of (by omega), by rw [task_split t h]; exact size_of (by omega)⟩, ?_⟩
  rw [task_split t h, rest_eq]
  conv => whnf; simp only [rest4]
  refine ⟨size_of (n := 4) (by decide), ?_⟩
  refine lcD_mapT (as := [t.long, t.gap, t.due, t.room]) (fun i => D.str (numS i)) D.int (fun i hi N n => ⟨i, rfl, ?_, ?_, n⟩) ?_
  · simp only [List.mem_cons, List.not_mem_nil, or_false] at hi
    omega
  · simp only [List.mem_cons, List.not_mem_nil, or_false] at hi
    omega
  conv => whnf; simp only [restL t few, restP t few]
  refine ⟨by decide, size_of (by rw [List.length_map]; omega), ?_⟩
  conv => whnf
  refine ⟨by decide, size_of (by rw [restP t few, List.length_map]; omega), size_of (by rw [restP t few, List.length_map]; omega), ?_⟩
  rw [restP t few]
  refine lcD_mapT (fun s => D.str (spanS s)) (fun s => .tup [.int s.1, .int s.2.1]) (fun s hs N n => ?_) ?_
  · obtain ⟨s1, s2, s3, s4⟩ := h.sec s hs
    exact ⟨s, rfl, by omega, by omega, by omega, by omega, n⟩
  refine ⟨rfl, ?_⟩
  simp only [List.nil_append, zipD_self]
  refine lcD_mapT (fun s : Int × Int × Str => D.tup [.str s.2.2, .tup [.int s.1, .int s.2.1]]) secD (fun s hs N n => ⟨rfl, size_of (n := 3) (by decide), n⟩) ?_
  refine ⟨size_of (n := 6) (by decide), ?_⟩
  refine ⟨t, rfl, h, t, rfl, h, ?_⟩
  have c1 : (taskS t == taskS t) = true := beq_self_eq_true _
  conv => whnf; simp only [c1]
  exact upQ.mk q
def groupS (ts : List Tsk) : Str := Txt.join "\n" (ts.map taskS)
def sp_format_tasks (K : PySem.W.Frag) : SpD := fun ds M Q _ => ∃ ts lk ld, ds = [tasksD (He.ga K "Tasks") ts lk ld] ∧ (∀ t ∈ ts, TskOk t) ∧ ts.length ≤ 10 ∧ Q (.str (groupS ts)) M
theorem group_join {ts : List Tsk} (h : ∀ t ∈ ts, TskOk t) (few : ts.length ≤ 10) : ((ts.map taskS).map (·.length)).sum + (ts.map taskS).length * (Str.ofString "\n").length ≤ 16777216 := by
  have a := sum_le (xs := ts.map taskS) (B := 500) (fun x hx => by
    obtain ⟨t, ht, rfl⟩ := List.mem_map.mp hx
    exact task_len t (h t ht))
  have c : (Str.ofString "\n").length = 1 := by decide +kernel
  rw [c]
  rw [List.length_map] at a ⊢
  omega
theorem ok47 (T : Txt K mg) : FnD false P w K mg base 2 (He.ga K "format_tasks") (sp_format_tasks K) := by
  refine ok_format_tasks T (ok14 T) (ok43 T) ?_
  rintro ds M Q E ⟨ts, lk, ld, rfl, h, few, q⟩
  have hz : (ts.map tskD).length ≤ sizeLine := size_of (by rw [List.length_map]; omega)
  refine ⟨rfl, ts, lk, ld, rfl, trivial, ⟨T.c_Tasks, T.a_Tasks_own_tasks⟩, ?_⟩
  conv => whnf; simp only [look1]; whnf
  refine ⟨hz, ?_⟩
  refine lcD_mapT tskD (D.str ∘ taskS) (fun t ht N n => ⟨t, rfl, h t ht, n⟩) ?_
  rw [List.nil_append, ← List.map_map]
  conv => whnf; simp only [strsD_map]; whnf
  exact ⟨group_join h few, upQ.mk q⟩
/-! ## lines -/
def sp_lines_in : SpD := fun ds M Q _ => ∃ xs : List Str, ds = [.str (Txt.join "\n" xs)] ∧ xs.length ≤ 1000 ∧ (∀ x ∈ xs, 10 ∉ tl x ∧ 1 ≤ x.length ∧ x.length ≤ 500) ∧ Q (.lst (xs.map D.str)) M
theorem join_ne {y x : Str} {r : List Str} (h : 1 ≤ x.length) : (Txt.join y (x :: r) == Str.ofString "") = false := by
  rw [beq_eq_false_iff_ne]
  intro e
  have e1 := congrArg tl e
  rw [join_eq, tl_join] at e1
  have e2 : tl (Str.ofString "") = [] := by decide +kernel
  rw [e2] at e1
  have hx : tl x ≠ [] := fun q => by rw [len_tl, q] at h; simp at h
  cases r with
  | nil => exact hx e1
  | cons z r =>
    have e1 : tl x ++ (tl y ++ joinL (tl y) ((z :: r).map tl)) = [] := e1
    exact hx (List.append_eq_nil_iff.mp e1).1
theorem ok48 (T : Txt K mg) : FnD false P w K mg base 1 (He.ga K "lines_in") sp_lines_in := by
  refine ok_lines_in T ?_
  rintro ds M Q E ⟨xs, rfl, hl, hx, q⟩
  cases xs with
  | nil =>
    have c1 : (Txt.join "\n" [] == Str.ofString "") = true := by decide +kernel
    refine ⟨rfl, ?_⟩
    conv => whnf; simp only [c1]
    exact ⟨size_of (n := 0) (by decide), upQ.mk q⟩
  | cons x r =>
    have c1 : (Txt.join "\n" (x :: r) == Str.ofString "") = false := join_ne (hx x List.mem_cons_self).2.1
    refine ⟨rfl, ?_⟩
    conv => whnf; simp only [c1]
    have e : Txt.split (Txt.join "\n" (x :: r)) "\n" = x :: r := split_join tl_nl (by decide +kernel) (by simp) fun p hp => (hx p hp).1
    have a := sum_le (xs := x :: r) (B := 500) fun x hx' => (hx x hx').2.2
    have b := join_len "\n" (x :: r)
    have c : (Str.ofString "\n").length = 1 := by decide +kernel
    rw [c] at b
    refine ⟨trivial, ⟨rfl, size_of (by omega), by rw [e]; exact size_of (by omega)⟩, ?_⟩
    rw [e]
    exact upQ.mk q
def sp_parse_tasks (K : PySem.W.Frag) : SpD := fun ds M Q _ => ∃ ts, ds = [.str (groupS ts)] ∧ GoodTs ts ∧ ∀ lk ld, Q (tasksD (He.ga K "Tasks") ts lk ld) M
theorem ok49 (T : Txt K mg) : FnD false P w K mg base 10 (He.ga K "parse_tasks") (sp_parse_tasks K) := by
  refine ok_parse_tasks T (ok40 T) (ok48 T) (ok46 T) (ok13 T) ?_
  rintro ds M Q E ⟨ts, rfl, G, q⟩
  have few := G.few
  refine ⟨rfl, _, rfl, ts.map taskS, rfl, by rw [List.length_map]; omega, fun x hx => ?_, ?_⟩
  · obtain ⟨t, ht, rfl⟩ := List.mem_map.mp hx
    have h := G.ok t ht
    refine ⟨task_nl t h, ?_, task_len t h⟩
    have : tl (taskS t) ≠ [] := fun e => by
      have hn := h.name.1
      have z := tl_join " " (wordsS t)
      have e : tl (Txt.join " " (wordsS t)) = [] := e
      rw [join_eq, z] at e
      have e : tl t.name ++ (tl " " ++ joinL (tl " ") ((restS t).map tl)) = [] := e
      have := (List.append_eq_nil_iff.mp e).1
      rw [len_tl, this] at hn
      simp at hn
    rw [len_tl]
    exact List.length_pos_iff.mpr this
  refine ⟨by rw [List.length_map, List.length_map]; exact size_of (by omega), ?_⟩
  rw [List.map_map]
  refine lcD_mapT (D.str ∘ taskS) tskD (fun t ht N n => ⟨t, rfl, G.ok t ht, n⟩) ?_
  exact ⟨rfl, ts, rfl, G, fun lk ld => upQ.mk (q lk ld)⟩
end
end K84

/-! ### K84o -/
set_option Elab.async false
set_option linter.all false
set_option maxRecDepth 100000
set_option maxHeartbeats 400000
namespace K84
open PySem L2 DL PyProof.Rows TL

/-! ## trees that read as plain data -/
structure Fit (d : D) (p : PyData) (B k : Nat) : Prop where
  py : pyd d = some p
  lay : p.canLay0 = true
  show_ : p.showable = true
  nod : p.hasDict = false
  dep : p.depth ≤ k
  len : p.shown.length ≤ B
theorem Fit.mono {d : D} {p : PyData} {B k B' k' : Nat} (h : Fit d p B k) (h1 : B ≤ B') (h2 : k ≤ k') : Fit d p B' k' := ⟨h.py, h.lay, h.show_, h.nod, Nat.le_trans h.dep h2, Nat.le_trans h.len h1⟩
theorem Fit.int {i : Int} (h0 : 0 ≤ i) (h : i < 10 ^ 7) : Fit (.int i) (.int i) 82 0 := by
  refine ⟨rfl, by simp [PyData.canLay0], ?_, by simp [PyData.hasDict], by simp [PyData.depth], ?_⟩
  · simp only [PyData.showable]
    exact decide_eq_true (log_small h0 h)
  · simp only [PyData.shown]
    have := numS_len (k := 7) (by omega) h0 h
    exact Nat.le_trans this (by omega)
theorem Fit.name {s : Str} (h : NameOk s) : Fit (.str s) (.str s) 82 0 := by
  have hs : ∀ c ∈ s.cps.toList, c < 16 ^ 8 := fun c hc => by have := h.2.2 c hc; omega
  refine ⟨rfl, ?_, by simp [PyData.showable], by simp [PyData.hasDict], by simp [PyData.depth], ?_⟩
  · simp only [PyData.canLay0]
    show PySem.PyData.strOk s = true
    unfold PySem.PyData.strOk
    rw [Array.all_eq_true_iff_forall_mem]
    intro c hc
    have := h.2.2 c (Array.mem_toList_iff.mpr hc)
    exact decide_eq_true (by omega)
  · simp only [PyData.shown]
    have := PySem.StrLaws.reprText_len s hs
    have := h.2.1
    omega
theorem tuple_len (ts : List Str) : (tupleText ts).length ≤ 3 + piled ts := by
  unfold tupleText
  rw [len_app, len_app]
  have e1 : ((("(" : String) : Str)).length = 1 := rfl
  have e3 : (((if ts.length == 1 then ",)" else ")" : String) : Str)).length ≤ 2 := by split <;> decide
  by_cases h : ts = []
  · subst h
    have : (Str.join ", " []).length = 0 := rfl
    omega
  · have := join_length_add ts h
    omega
theorem Fit.tup {α : Type} {f : α → D} {g : α → PyData} {B k : Nat} {xs : List α} (h : ∀ a ∈ xs, Fit (f a) (g a) B k) : Fit (.tup (xs.map f)) (.tuple (xs.map g)) (3 + xs.length * (B + 2)) (k + 1) := by
  have h1 : pyds (xs.map f) = some (xs.map g) := by
    induction xs with
    | nil => rfl
    | cons x r ih =>
      show (match pyd (f x), pyds (r.map f) with
        | some p, some ps => some (p :: ps)
        | _, _ => none) = _
      rw [(h x List.mem_cons_self).py, ih fun a ha => h a (List.mem_cons_of_mem _ ha)]
      rfl
  have h2 : PyData.canLayAll0 (xs.map g) = true := by
    induction xs with
    | nil => simp [PyData.canLayAll0]
    | cons x r ih =>
      have hr := fun a ha => h a (List.mem_cons_of_mem x ha)
      have h1r : pyds (r.map f) = some (r.map g) := by
        have h1 : (match pyd (f x), pyds (r.map f) with
          | some p, some ps => some (p :: ps)
          | _, _ => none) = some (g x :: r.map g) := h1
        rw [(h x List.mem_cons_self).py] at h1
        cases e : pyds (r.map f) with
        | none => rw [e] at h1; cases h1
        | some ps => rw [e] at h1; cases h1; rfl
      simp only [List.map_cons, PyData.canLayAll0, (h x List.mem_cons_self).lay, ih hr h1r, Bool.and_self]
  clear h1 h2
  have all : pyds (xs.map f) = some (xs.map g) ∧ PyData.canLayAll0 (xs.map g) = true ∧ PyData.showableAll (xs.map g) = true ∧ PyData.hasDictAll (xs.map g) = false ∧ PyData.depthAll (xs.map g) ≤ k ∧ piled (PyData.shownAll (xs.map g)) ≤ xs.length * (B + 2) := by
    induction xs with
    | nil => exact ⟨rfl, by simp [PyData.canLayAll0], by simp [PyData.showableAll], by simp [PyData.hasDictAll], by simp [PyData.depthAll], by simp [PyData.shownAll, piled]⟩
    | cons x r ih =>
      obtain ⟨i1, i2, i3, i4, i5, i6⟩ := ih fun a ha => h a (List.mem_cons_of_mem _ ha)
      have hx := h x List.mem_cons_self
      refine ⟨?_, ?_, ?_, ?_, ?_, ?_⟩
      · show (match pyd (f x), pyds (r.map f) with
          | some p, some ps => some (p :: ps)
          | _, _ => none) = _
        rw [hx.py, i1]
        rfl
      · simp only [List.map_cons, PyData.canLayAll0, hx.lay, i2, Bool.and_self]
      · simp only [List.map_cons, PyData.showableAll, hx.show_, i3, Bool.and_self]
      · simp only [List.map_cons, PyData.hasDictAll, hx.nod, i4, Bool.or_self]
      · simp only [List.map_cons, PyData.depthAll]
        exact Nat.max_le.mpr ⟨hx.dep, i5⟩
      · simp only [List.map_cons, PyData.shownAll, piled_cons, List.length_cons, Nat.add_mul]
        have := hx.len
        omega
  obtain ⟨i1, i2, i3, i4, i5, i6⟩ := all
  refine ⟨?_, ?_, ?_, ?_, ?_, ?_⟩
  · show (pyds (xs.map f)).map PyData.tuple = _
    rw [i1]; rfl
  · simp only [PyData.canLay0]; exact i2
  · simp only [PyData.showable]; exact i3
  · simp only [PyData.hasDict]; exact i4
  · simp only [PyData.depth]; omega
  · simp only [PyData.shown]
    exact Nat.le_trans (tuple_len _) (by omega)
def secP (s : Int × Int × Str) : PyData := .tuple [.int s.1, .int s.2.1, .str s.2.2]
theorem fit_sec {s : Int × Int × Str} {L : Int} (h : SecOk L s) (hL : L ≤ 100) : Fit (secD s) (secP s) 255 1 := by
  obtain ⟨s1, s2, s3, s4⟩ := h
  refine (Fit.tup (xs := [(D.int s.1, PyData.int s.1), (D.int s.2.1, PyData.int s.2.1), (D.str s.2.2, PyData.str s.2.2)]) (f := Prod.fst) (g := Prod.snd) (B := 82) (k := 0) fun a ha => ?_).mono (by simp) (by decide)
  simp only [List.mem_cons, List.not_mem_nil, or_false] at ha
  rcases ha with rfl | rfl | rfl
  · exact Fit.int (by omega) (by omega)
  · exact Fit.int (by omega) (by omega)
  · exact Fit.name s4
def tskP (t : Tsk) : PyData := .tuple [.str t.name, .int t.long, .int t.gap, .int t.due, .int t.room, .tuple (t.secs.map secP)]
theorem fit_task {t : Tsk} (h : TskOk t) : Fit (tskD t) (tskP t) 20000 3 := by
  have few := h.few
  have l1 := h.l1
  have l2 := h.l2
  have g1 := h.g1
  have g2 := h.g2
  have d1 := h.d1
  have d2 := h.d2
  have r1 := h.r1
  have r2 := h.r2
  have fs := (Fit.tup (f := secD) (g := secP) (xs := t.secs) (B := 255) (k := 1) fun s hs => fit_sec (h.sec s hs) l2).mono (B' := 3000) (k' := 2) (by omega) (by omega)
  refine (Fit.tup (xs := [(D.str t.name, PyData.str t.name), (D.int t.long, PyData.int t.long), (D.int t.gap, PyData.int t.gap), (D.int t.due, PyData.int t.due), (D.int t.room, PyData.int t.room), (D.tup (t.secs.map secD), PyData.tuple (t.secs.map secP))]) (f := Prod.fst) (g := Prod.snd) (B := 3000) (k := 2) fun a ha => ?_).mono (by simp) (by decide)
  simp only [List.mem_cons, List.not_mem_nil, or_false] at ha
  rcases ha with rfl | rfl | rfl | rfl | rfl | rfl
  · exact (Fit.name h.name).mono (by omega) (by omega)
  · exact (Fit.int (by omega) (by omega)).mono (by omega) (by omega)
  · exact (Fit.int (by omega) (by omega)).mono (by omega) (by omega)
  · exact (Fit.int (by omega) (by omega)).mono (by omega) (by omega)
  · exact (Fit.int (by omega) (by omega)).mono (by omega) (by omega)
  · exact fs
theorem fit_group {ts : List Tsk} (h : ∀ t ∈ ts, TskOk t) (few : ts.length ≤ 10) : Fit (.tup (ts.map tskD)) (.tuple (ts.map tskP)) 1000000 4 :=
  (Fit.tup (f := tskD) (g := tskP) (B := 20000) (k := 3) fun t ht => fit_task (h t ht)).mono (by omega) (by omega)
theorem fit_nums {ns : List Int} {n : Nat} (h : LevOk n ns) (few : n ≤ 10) : Fit (.tup (ns.map D.int)) (.tuple (ns.map PyData.int)) 1000000 4 := by
  obtain ⟨h1, h2⟩ := h
  refine (Fit.tup (f := D.int) (g := PyData.int) (B := 82) (k := 0) fun x hx => ?_).mono (by omega) (by omega)
  obtain ⟨i, hi, rfl⟩ := List.getElem_of_mem hx
  have := h2 i ns[i] (by simp [hi])
  exact Fit.int (by omega) (by omega)
theorem fit_plan {ts : List Tsk} {js : List Job} (G : ∀ t ∈ ts, TskOk t) (h : PlanOk ts js) : Fit (.tup (js.map jobD)) (.tuple (js.map jobP)) 1000000 4 := by
  have few := h.few
  refine (Fit.tup (f := jobD) (g := jobP) (B := 255) (k := 1) fun j hj => ?_).mono (by omega) (by omega)
  obtain ⟨t, ht, e, j1, j2, j3, j4⟩ := h.ok j hj
  have k := G t ht
  have l2 := k.l2
  refine (Fit.tup (xs := [(D.int j.tick, PyData.int j.tick), (D.str j.name, PyData.str j.name), (D.int j.size, PyData.int j.size)]) (f := Prod.fst) (g := Prod.snd) (B := 82) (k := 0) fun a ha => ?_).mono (by simp) (by decide)
  simp only [List.mem_cons, List.not_mem_nil, or_false] at ha
  rcases ha with rfl | rfl | rfl
  · exact Fit.int (by omega) (by omega)
  · exact Fit.name (e ▸ k.name)
  · exact Fit.int (by omega) (by omega)
theorem Fit.shaped {d : D} {p : PyData} {B k : Nat} (h : Fit d p B k) (hk : k ≤ 64) : SeqAt.shaped p = true := by
  unfold SeqAt.shaped
  rw [h.lay, decide_eq_true (Nat.le_trans h.dep hk)]
  rfl
theorem Fit.eqv {d : D} {p : PyData} {B k : Nat} (h : Fit d p B k) : PyData.eqv p p = true := SeqAt.eqv_refl p h.lay
theorem rep_tup {xs : List D} {p : PyData} {B k : Nat} {M : HD} {Q : VKD} (h : Fit (.tup xs) p B k) (hB : B ≤ 1000000) (hk : k ≤ 64) (q : Q (.str p.shown) M) : rReprD [.tup xs] M Q := ⟨p, h.py, h.show_, h.nod, Nat.le_trans h.dep (by omega), Nat.le_trans h.len (size_of hB), q⟩
end K84

/-! ### K84p -/
set_option Elab.async false
set_option linter.all false
set_option maxRecDepth 100000
set_option maxHeartbeats 400000
namespace K84
open PySem L2 DL PyProof.Rows TL

def sp_Tasks___eq__ (K : PySem.W.Frag) : SpD := fun ds M Q _ => ∃ ts lk ld lk' ld', ds = [tasksD (He.ga K "Tasks") ts lk ld, tasksD (He.ga K "Tasks") ts lk' ld'] ∧ (∀ t ∈ ts, TskOk t) ∧ ts.length ≤ 10 ∧ Q (.bl true) M
def sp_Levels___eq__ (K : PySem.W.Frag) : SpD := fun ds M Q _ => ∃ ts lk ld lk' ld' ns, ds = [levelsD (He.ga K "Levels") (tasksD (He.ga K "Tasks") ts lk ld) ns, levelsD (He.ga K "Levels") (tasksD (He.ga K "Tasks") ts lk' ld') ns] ∧ (∀ t ∈ ts, TskOk t) ∧ ts.length ≤ 10 ∧ LevOk ts.length ns ∧ Q (.bl true) M
def partS (p : Tsk × Int) : Str := p.1.name ++ " " ++ numS p.2
def levS (ts : List Tsk) (ns : List Int) : Str := Txt.join ", " ((ts.zip ns).map partS)
theorem zip_ok {ts : List Tsk} {ns : List Int} (h : ∀ t ∈ ts, TskOk t) (few : ts.length ≤ 10) (L : LevOk ts.length ns) {p : Tsk × Int} (hp : p ∈ ts.zip ns) : NameOk p.1.name ∧ 0 ≤ p.2 ∧ p.2 < 10 := by
  obtain ⟨i, hi, e⟩ := List.getElem_of_mem hp
  rw [List.getElem_zip] at e
  rw [List.length_zip] at hi
  have h1 : ts[i] = p.1 := by rw [← e]
  have h2 : ns[i] = p.2 := by rw [← e]
  have := L.2 i ns[i] (by simp)
  refine ⟨(h p.1 (h1 ▸ List.getElem_mem (by omega))).name, by omega, by omega⟩
theorem part_short {p : Tsk × Int} (h : NameOk p.1.name ∧ 0 ≤ p.2 ∧ p.2 < 10) : (partS p).length ≤ 20 ∧ 1 ≤ (partS p).length ∧ 44 ∉ tl (partS p) ∧ (numS p.2).length ≤ 7 := by
  have c : (Str.ofString " ").length = 1 := by decide +kernel
  have a := numS_len (i := p.2) (k := 7) (by omega) h.2.1 (by omega)
  have b := h.1.2.1
  unfold partS
  rw [len_app, len_app]
  refine ⟨by omega, by omega, fun hm => ?_, a⟩
  rw [tl_append, tl_append, tl_sp] at hm
  rcases List.mem_append.mp hm with hm | hm
  · rcases List.mem_append.mp hm with hm | hm
    · exact name_free h.1 (by omega) hm
    · simp at hm
  · exact numS_free h.2.1 (by omega) hm
theorem lev_join {ts : List Tsk} {ns : List Int} (h : ∀ t ∈ ts, TskOk t) (few : ts.length ≤ 10) (L : LevOk ts.length ns) : (((ts.zip ns).map partS).map (·.length)).sum + ((ts.zip ns).map partS).length * (Str.ofString ", ").length ≤ 1000 := by
  have a := sum_le (xs := (ts.zip ns).map partS) (B := 20) (fun x hx => by
    obtain ⟨p, hp, rfl⟩ := List.mem_map.mp hx
    exact (part_short (zip_ok h few L hp)).1)
  have c : (Str.ofString ", ").length = 2 := by decide +kernel
  rw [c]
  have : (ts.zip ns).length ≤ 10 := by rw [List.length_zip]; omega
  rw [List.length_map] at a ⊢
  omega
theorem rpart {a : Str} {i : Int} (h0 : 0 ≤ i) : (Txt.rpartition (a ++ " " ++ numS i) " ").2.2 = numS i := by
  have hy : tl (Str.ofString " ") ≠ [] := by rw [tl_sp]; simp
  have c : (Str.ofString " ").length = 1 := by decide +kernel
  have ex : tl (a ++ " " ++ numS i) = tl a ++ (32 :: tl (numS i)) := by rw [tl_append, tl_append, tl_sp, List.append_assoc]; rfl
  have at0 : StrLaws.At (a ++ " " ++ numS i) " " (a ++ " " ++ numS i).length (tl a).length := by
    rw [at_iff hy, ex, List.drop_left, tl_sp]
    rfl
  have no : ∀ k, (tl a).length < k → ¬ StrLaws.At (a ++ " " ++ numS i) " " (a ++ " " ++ numS i).length k := fun k hk h => by
    rw [at_iff hy, ex, tl_sp, List.drop_append, List.drop_eq_nil_of_le (by omega), List.nil_append] at h
    obtain ⟨m, hm⟩ : ∃ m, k - (tl a).length = m + 1 := ⟨k - (tl a).length - 1, by omega⟩
    rw [hm, List.drop_succ_cons] at h
    have h' : ((tl (numS i)).drop m).take 1 = [32] := eq_of_beq h
    have : (32 : Nat) ∈ tl (numS i) := List.mem_of_mem_drop (List.mem_of_mem_take (h' ▸ List.mem_singleton.mpr rfl))
    exact numS_free h0 (by omega) this
  unfold Txt.rpartition
  rcases StrLaws.last_spec (a ++ " " ++ numS i) " " with ⟨_, h⟩ | ⟨k, e, h, hk⟩
  · exact absurd at0 (h _)
  · have ek : k = (tl a).length := by
      rcases Nat.lt_trichotomy k (tl a).length with hl | hl | hl
      · exact absurd at0 (hk _ hl)
      · exact hl
      · exact absurd h (no _ hl)
    rw [e]
    show Builtin.Str.strSub (a ++ " " ++ numS i) (k + (Str.ofString " ").length) (a ++ " " ++ numS i).length = _
    refine ext_tl ?_
    rw [tl_strSub_end, ex, c, ek, List.drop_append, List.drop_eq_nil_of_le (by omega), List.nil_append]
    have : (tl a).length + 1 - (tl a).length = 1 := by omega
    rw [this]
    rfl
section
variable {P : Program} {w : World} {K : PySem.W.Frag} {mg : Str → Option Value} {base : Heap}
theorem ok50 (T : Txt K mg) : FnD false P w K mg base 1 (He.ma K (He.ga K "Tasks") "__eq__") (sp_Tasks___eq__ K) := by
  refine ok_Tasks___eq__ T ?_
  rintro ds M Q E ⟨ts, lk, ld, lk', ld', rfl, h, few, q⟩
  have F := fit_group h few
  have py : pyd (plainD ts) = some (.tuple (ts.map tskP)) := F.py
  refine ⟨rfl, _, _, true, .own _, .ins view_tasks T.c_Tasks T.k_Tasks.ca T.k_Tasks.cn T.k_Tasks.ct T.k_Tasks.cm, ?_, ⟨T.c_Tasks, T.a_Tasks_own_tasks⟩, ?_⟩
  · unfold PySem.W.kitOne; rw [if_pos (beq_self_eq_true _)]
  conv => whnf; simp only [look1]
  refine ⟨⟨T.c_Tasks, T.a_Tasks_own_tasks⟩, ?_⟩
  conv => whnf; simp only [look1]; whnf; simp only [py]
  refine ⟨F.shaped (by omega), F.shaped (by omega), ?_⟩
  rw [F.eqv]
  exact upQ.mk q
theorem ok51 (T : Txt K mg) : FnD false P w K mg base 2 (He.ma K (He.ga K "Levels") "__eq__") (sp_Levels___eq__ K) := by
  refine ok_Levels___eq__ T (ok50 T) ?_
  rintro ds M Q E ⟨ts, lk, ld, lk', ld', ns, rfl, h, few, L, q⟩
  have F := fit_nums L few
  have py : pyd (numsD ns) = some (.tuple (ns.map PyData.int)) := F.py
  refine ⟨rfl, _, _, true, .own _, .ins view_levels T.c_Levels T.k_Levels.ca T.k_Levels.cn T.k_Levels.ct T.k_Levels.cm, ?_, ⟨T.c_Levels, T.a_Levels_own_tasks⟩, ?_⟩
  · unfold PySem.W.kitOne; rw [if_pos (beq_self_eq_true _)]
  conv => whnf; simp only [look1]
  refine ⟨⟨T.c_Levels, T.a_Levels_own_tasks⟩, ?_⟩
  conv => whnf; simp only [look1]
  refine ⟨⟨⟨_, _, rfl⟩, ⟨_, _, rfl⟩⟩, ts, lk, ld, lk', ld', rfl, h, few, ⟨T.c_Levels, T.a_Levels_own_numbers⟩, ?_⟩
  conv => whnf; simp only [lookN]
  refine ⟨⟨T.c_Levels, T.a_Levels_own_numbers⟩, ?_⟩
  conv => whnf; simp only [lookN]; whnf; simp only [py]
  refine ⟨F.shaped (by omega), F.shaped (by omega), ?_⟩
  rw [F.eqv]
  exact upQ.mk q
/-! ## the text of levels -/
def sp_levels_text (K : PySem.W.Frag) : SpD := fun ds M Q _ => ∃ ts lk ld ns, ds = [levelsD (He.ga K "Levels") (tasksD (He.ga K "Tasks") ts lk ld) ns] ∧ (∀ t ∈ ts, TskOk t) ∧ ts.length ≤ 10 ∧ LevOk ts.length ns ∧ Q (.str (levS ts ns)) M
theorem ok52 (T : Txt K mg) : FnD false P w K mg base 1 (He.ga K "levels_text") (sp_levels_text K) := by
  refine ok_levels_text T ?_
  rintro ds M Q E ⟨ts, lk, ld, ns, rfl, h, few, L, q⟩
  refine ⟨rfl, ⟨T.c_Levels, T.a_Levels_own_tasks⟩, ?_⟩
  conv => whnf; simp only [look1]
  refine ⟨⟨T.c_Tasks, T.a_Tasks_own_names⟩, ?_⟩
  conv => whnf; simp only [look2]
  refine ⟨by first | rfl | trivial, ⟨T.c_Levels, T.a_Levels_own_numbers⟩, ?_⟩
  conv => whnf; simp only [lookN]
  refine ⟨by first | rfl | trivial, ?_⟩
  simp only [zipD_map]
  refine lcD_mapT _ (D.str ∘ partS) (fun p hp N n => ?_) ?_
  · have z := zip_ok h few L hp
    obtain ⟨z1, z2, z3, z4⟩ := part_short z
    have z4' : (Str.ofString (toString p.2)).length ≤ 7 := z4
    have nl := z.1.2.1
    have c : (Str.ofString " ").length = 1 := by decide +kernel
    have c0 : Str.empty.length = 0 := rfl
    refine ⟨rfl, size_of (by omega), by rw [len_app]; exact size_of (by omega), by rw [len_app, len_app]; exact size_of (by omega), log_small z.2.1 (by omega), by rw [len_app, len_app, len_app]; exact size_of (by omega), ?_⟩
    have e : Str.empty ++ p.1.name ++ " " ++ numS p.2 = partS p := by rw [empty_app]; rfl
    have n' : N (.str (Str.empty ++ p.1.name ++ " " ++ numS p.2)) M := by rw [e]; exact n
    exact n'
  · rw [List.nil_append, ← List.map_map]
    conv => whnf; simp only [strsD_map]; whnf
    exact ⟨Nat.le_trans (lev_join h few L) (by omega), upQ.mk q⟩
def sp__law_levels_text : SpD := fun ds M Q _ => ∃ ts ns, ds = [plainD ts, numsD ns] ∧ (∀ t ∈ ts, TskOk t) ∧ ts.length ≤ 10 ∧ LevOk ts.length ns ∧ Q (.str (levS ts ns)) M
theorem ok53 (T : Txt K mg) : FnD false P w K mg base 1 (He.ga K "_law_levels_text") sp__law_levels_text := by
  refine ok__law_levels_text T ?_
  rintro ds M Q E ⟨ts, ns, rfl, h, few, L, q⟩
  refine ⟨rfl, trivial, rfl, ?_⟩
  simp only [zipD_map]
  refine lcD_mapT _ (D.str ∘ partS) (fun p hp N n => ?_) ?_
  · have z := zip_ok h few L hp
    obtain ⟨z1, z2, z3, z4⟩ := part_short z
    have z4' : (Str.ofString (toString p.2)).length ≤ 7 := z4
    have nl := z.1.2.1
    have c : (Str.ofString " ").length = 1 := by decide +kernel
    refine ⟨rfl, size_of (by omega), log_small z.2.1 (by omega), by rw [len_app]; exact size_of (by omega), n⟩
  · rw [List.nil_append, ← List.map_map]
    conv => whnf; simp only [strsD_map]; whnf
    exact ⟨Nat.le_trans (lev_join h few L) (by omega), upQ.mk q⟩
theorem ok54 (T : Txt K mg) : FnD false P w K mg base 2 (He.ga K "format_levels") (sp_levels_text K) := by
  refine ok_format_levels T (ok20 T) (ok52 T) ?_
  rintro ds M Q E ⟨ts, lk, ld, ns, rfl, h, few, L, q⟩
  exact ⟨rfl, _, _, rfl, ts, lk, ld, ns, rfl, h, few, L, upQ.mk q⟩
def sp_parse_levels (K : PySem.W.Frag) : SpD := fun ds M Q _ => ∃ ts lk ld ns, ds = [tasksD (He.ga K "Tasks") ts lk ld, .str (levS ts ns)] ∧ (∀ t ∈ ts, TskOk t) ∧ ts.length ≤ 10 ∧ LevOk ts.length ns ∧ Q (levelsD (He.ga K "Levels") (tasksD (He.ga K "Tasks") ts lk ld) ns) M
theorem zip_snd {ts : List Tsk} {ns : List Int} (h : ns.length = ts.length) : (ts.zip ns).map (fun p => D.int p.2) = ns.map D.int := by
  have : (ts.zip ns).map (fun p => D.int p.2) = ((ts.zip ns).map Prod.snd).map D.int := by rw [List.map_map]; rfl
  rw [this, List.map_snd_zip (by omega)]
theorem ok55 (T : Txt K mg) : FnD false P w K mg base 7 (He.ga K "parse_levels") (sp_parse_levels K) := by
  refine ok_parse_levels T (ok14 T) (ok40 T) (ok41 T) (ok19 T) (ok52 T) ?_
  rintro ds M Q E ⟨ts, lk, ld, ns, rfl, h, few, L, q⟩
  have hif : ∀ (Q : VKD) (E : XD), Q (.lst (((ts.zip ns).map partS).map D.str)) M → tIfD (tTestD (tOpD rNeD (tVarD 1) (tCD (.str "")))) (tM1D rSplitD (tVarD 1) (tCD (.str ", "))) (tLstD tNilD) [some (tasksD (He.ga K "Tasks") ts lk ld), some (.str (levS ts ns)), none, none, none, none] M Q E := by
    intro Q E q
    have ll : ((ts.zip ns).map partS).length ≤ 10 := by rw [List.length_map, List.length_zip]; omega
    have jl := join_len ", " ((ts.zip ns).map partS)
    have j2 := lev_join h few L
    have hp : ∀ x ∈ (ts.zip ns).map partS, 1 ≤ x.length ∧ 44 ∉ tl x := fun x hx => by
      obtain ⟨p, hp, rfl⟩ := List.mem_map.mp hx
      have z := part_short (zip_ok h few L hp)
      exact ⟨z.2.1, z.2.2.1⟩
    unfold levS
    generalize (ts.zip ns).map partS = xs at *
    cases xs with
    | nil =>
      have c1 : (Txt.join ", " [] == Str.ofString "") = true := by decide +kernel
      conv => whnf; simp only [c1]
      exact ⟨size_of (n := 0) (by decide), q⟩
    | cons x r =>
      have c1 : (Txt.join ", " (x :: r) == Str.ofString "") = false := join_ne (hp x List.mem_cons_self).1
      conv => whnf; simp only [c1]
      have e : Txt.split (Txt.join ", " (x :: r)) ", " = x :: r := split_join tl_cs (by decide +kernel) (by simp) fun p hp' => (hp p hp').2
      refine ⟨trivial, ⟨rfl, size_of (by omega), by rw [e]; exact size_of (by omega)⟩, ?_⟩
      rw [e]
      exact q
  refine ⟨rfl, ts, lk, ld, rfl, _, rfl, ?_⟩
  refine hif _ _ ?_
  have ll : (((ts.zip ns).map partS).map D.str).length ≤ 10 := by rw [List.length_map, List.length_map, List.length_zip]; omega
  refine ⟨size_of (by omega), ?_⟩
  rw [List.map_map]
  refine lcD_mapT (D.str ∘ partS) (fun p => .int p.2) (fun p hp N n => ?_) ?_
  · have z := zip_ok h few L hp
    have z2 := part_short z
    refine ⟨trivial, ⟨rfl, size_of (by have := z2.1; show (partS p).length ≤ _; omega)⟩, ?_⟩
    refine ⟨p.2, ?_, z.2.1, by omega, n⟩
    show [D.str (Txt.rpartition (p.1.name ++ " " ++ numS p.2) " ").2.2] = _
    rw [rpart z.2.1]
  · rw [List.nil_append, zip_snd L.1]
    refine ⟨rfl, ts, lk, ld, ns, rfl, few, L, ?_⟩
    refine ⟨ts, lk, ld, ns, rfl, h, few, L, ?_⟩
    have c1 : (levS ts ns == levS ts ns) = true := beq_self_eq_true _
    conv => whnf; simp only [c1]
    exact upQ.mk q
end
end K84

/-! ### K84q -/
set_option Elab.async false
set_option linter.all false
set_option maxRecDepth 100000
set_option maxHeartbeats 400000
namespace K84
open PySem L2 DL PyProof.Rows TL

theorem spot_aux : ∀ {ts : List Tsk} {n i : Nat} {t : Tsk}, (ts.map (·.name)).Nodup → ts[i]? = some t → getK (ts.map fun t => Sum.inr t.name) ((ts.zipIdx n).map fun p => D.int (p.2 : Nat)) (Sum.inr t.name) = some (.int ((n + i : Nat) : Int))
  | [], _, _, _, _, h => by simp at h
  | x :: r, n, 0, t, nd, h => by
    have : x = t := by simpa using h
    subst this
    show (if (Sum.inr x.name : Key) = Sum.inr x.name then some (D.int ((n : Nat) : Int)) else _) = _
    rw [if_pos rfl]
    rfl
  | x :: r, n, i + 1, t, nd, h => by
    have h' : r[i]? = some t := by simpa using h
    have hne : (Sum.inr x.name : Key) ≠ Sum.inr t.name := fun e => by
      have e := Sum.inr.inj e
      have := (List.nodup_cons.mp nd).1
      refine this ?_
      exact List.mem_map.mpr ⟨t, List.mem_of_getElem? h', e.symm⟩
    show (if (Sum.inr x.name : Key) = Sum.inr t.name then _ else getK (r.map fun t => Sum.inr t.name) ((r.zipIdx (n + 1)).map fun p => D.int (p.2 : Nat)) (Sum.inr t.name)) = _
    rw [if_neg hne, spot_aux (List.nodup_cons.mp nd).2 h']
    congr 2
    omega
theorem spot_get {ts : List Tsk} {i : Nat} {t : Tsk} (nd : (ts.map (·.name)).Nodup) (h : ts[i]? = some t) : getK (ts.map fun t => Sum.inr t.name) (ts.zipIdx.map fun p => D.int (p.2 : Nat)) (Sum.inr t.name) = some (.int ((i : Nat) : Int)) := by
  have := spot_aux (n := 0) nd h
  rwa [Nat.zero_add] at this
def sp_is_job (K : PySem.W.Frag) : SpD := fun ds M Q _ => ∃ ts lk ld j, ds = [tasksD (He.ga K "Tasks") ts lk ld, jobD j] ∧ (ts.map (·.name)).Nodup ∧ (∃ t ∈ ts, j.name = t.name ∧ 0 ≤ j.tick ∧ j.tick ≤ 20000 ∧ 1 ≤ j.size ∧ j.size ≤ t.long) ∧ Q (.bl true) M
section
variable {P : Program} {w : World} {K : PySem.W.Frag} {mg : Str → Option Value} {base : Heap}
theorem view_spots {M : HD} {ts : List Tsk} : viewDc M (spotsD ts) = some (ts.map (fun t => Sum.inr t.name), ts.zipIdx.map fun p => D.int (p.2 : Nat)) := rfl
theorem ok60 (T : Txt K mg) : FnD false P w K mg base 3 (He.ga K "is_job") (sp_is_job K) := by
  refine ok_is_job T (ok2 T) ?_
  rintro ds M Q E ⟨ts, lk, ld, j, rfl, nd, ⟨t, ht, en, j1, j2, j3, j4⟩, q⟩
  obtain ⟨i, hi⟩ := List.getElem?_of_mem ht
  have sg := spot_get nd hi
  rw [← en] at sg
  have e1 : atI (ts.map tskD) ((i : Nat) : Int) = some (tskD t) := atI_nat (by rw [List.getElem?_map, hi]; rfl)
  refine ⟨rfl, _, _, true, .ty _, .tup _, kit_ty k_tuple, ?_⟩
  refine ⟨_, _, _, rfl, ⟨j1, j2⟩, ?_⟩
  refine ⟨_, _, true, .ty _, .str j.name, kit_ty k_str, ?_⟩
  refine ⟨⟨T.c_Tasks, T.a_Tasks_own_spots⟩, ?_⟩
  conv => whnf; simp only [look3]; whnf; simp only [view_spots]; whnf; simp only [sg]; whnf
  refine ⟨⟨T.c_Tasks, T.a_Tasks_own_tasks⟩, ?_⟩
  conv => whnf; simp only [look1]
  refine ⟨⟨T.c_Tasks, T.a_Tasks_own_spots⟩, ?_⟩
  conv => whnf; simp only [look3]; whnf; simp only [view_spots]; whnf; simp only [sg]; whnf; simp only [e1]; whnf
  exact ⟨_, _, _, rfl, ⟨j3, j4⟩, upQ.mk q⟩
def sp_have_gaps (K : PySem.W.Frag) : SpD := fun ds M Q _ => ∃ ts lk ld js, ds = [tasksD (He.ga K "Tasks") ts lk ld, .tup (js.map jobD)] ∧ (ts.map (·.name)).Nodup ∧ PlanOk ts js ∧ Q (.bl true) M
theorem ok61 (T : Txt K mg) : FnD false P w K mg base 1 (He.ga K "have_gaps") (sp_have_gaps K) := by
  refine ok_have_gaps T ?_
  rintro ds M Q E ⟨ts, lk, ld, js, rfl, nd, PL, q⟩
  have few := PL.few
  have hz : (js.map jobD).length ≤ sizeLine := size_of (by rw [List.length_map]; omega)
  refine ⟨rfl, fun a ha => ⟨hz, ?_⟩⟩
  refine forD_inv _ (fun i σ M' => ∃ (ks : List Key) (xs : List D) (u3 u4 u5 : Option D), σ = [some (tasksD (He.ga K "Tasks") ts lk ld), some (.tup (js.map jobD)), some (.ref a), u3, u4, u5] ∧ M' = updM M a (.dct ks xs) ∧ ks.length = xs.length ∧ ks.length ≤ i ∧ ∀ s d, getK ks xs (Sum.inr s) = some d → ∃ j ∈ js.take i, j.name = s ∧ d = .int j.tick) ?_ ?_
    ⟨[], [], none, none, none, rfl, rfl, rfl, by simp, fun s d e => by simp [getK] at e⟩
  · rintro i x hx σ M' ⟨ks, xs, u3, u4, u5, rfl, rfl, hl, hk, hg⟩ N hN
    rw [List.getElem?_map] at hx
    cases hy : js[i]? with
    | none => rw [hy] at hx; cases hx
    | some j =>
      rw [hy] at hx
      cases hx
      obtain ⟨hi, ej⟩ := List.getElem?_eq_some_iff.mp hy
      obtain ⟨t, ht, en, j1, j2, j3, j4⟩ := PL.ok j (ej ▸ List.getElem_mem hi)
      obtain ⟨u, hu⟩ := List.getElem?_of_mem ht
      have sg := spot_get nd hu
      rw [← en] at sg
      have e1 : atI (ts.map tskD) ((u : Nat) : Int) = some (tskD t) := atI_nat (by rw [List.getElem?_map, hu]; rfl)
      have vd : viewDc (updM M a (.dct ks xs)) (.ref a) = some (ks, xs) := viewDc_upd
      have fin : N [some (tasksD (He.ga K "Tasks") ts lk ld), some (.tup (js.map jobD)), some (.ref a), some (.int j.tick), some (.str j.name), some (.int j.size)] (updM (updM M a (.dct ks xs)) a (.dct (putDk ks xs (Sum.inr j.name) (.int j.tick)).1 (putDk ks xs (Sum.inr j.name) (.int j.tick)).2)) := by
        refine hN _ _ ⟨_, _, _, _, _, rfl, updM_updM, len_put hl, Nat.le_trans len_putDk (by omega), fun s d e => ?_⟩
        rw [getK_put hl] at e
        by_cases hs : (Sum.inr s : Key) = Sum.inr j.name
        · rw [if_pos hs] at e
          cases e
          exact ⟨j, by rw [List.take_succ_eq_append_getElem hi, ej]; exact List.mem_append_right _ List.mem_cons_self, (Sum.inr.inj hs).symm, rfl⟩
        · rw [if_neg hs] at e
          obtain ⟨j', h', r⟩ := hg s d e
          exact ⟨j', by rw [List.take_succ_eq_append_getElem hi]; exact List.mem_append_left _ h', r⟩
      refine ⟨rfl, ?_⟩
      cases hgk : getK ks xs (Sum.inr j.name) with
      | none =>
        conv => whnf; simp only [vd]; whnf; simp only [hgk]; whnf; simp only [updM_same]; whnf
        exact ⟨size_of (by omega), fin⟩
      | some d =>
        obtain ⟨j', hj', ej', rfl⟩ := hg _ _ hgk
        have gp : j'.tick + t.gap ≤ j.tick := by
          obtain ⟨v, hv, ev⟩ := List.getElem_of_mem hj'
          rw [List.length_take] at hv
          rw [List.getElem_take] at ev
          have := (List.pairwise_iff_getElem.mp PL.gap) v i (by omega) hi (by omega)
          rw [ev, ej] at this
          exact this t ht (ej'.trans en) en
        have c1 : decide (j.tick < j'.tick + t.gap) = false := decide_eq_false (by omega)
        conv => whnf; simp only [vd]; whnf; simp only [hgk]; whnf; simp only [updM_same]; whnf; simp only [vd]; whnf; simp only [hgk]; whnf
        refine ⟨⟨T.c_Tasks, T.a_Tasks_own_tasks⟩, ?_⟩
        conv => whnf; simp only [look1]
        refine ⟨⟨T.c_Tasks, T.a_Tasks_own_spots⟩, ?_⟩
        conv => whnf; simp only [look3]; whnf; simp only [view_spots]; whnf; simp only [sg]; whnf; simp only [e1]; whnf; simp only [c1]; whnf; simp only [updM_same]; whnf
        exact ⟨size_of (by omega), fin⟩
  · rintro σ M' ⟨ks, xs, u3, u4, u5, rfl, rfl, hl, hk, hg⟩
    exact ⟨M, Sub.upd ha, q⟩
def sp_is_plan_in (K : PySem.W.Frag) : SpD := fun ds M Q _ => ∃ ts lk ld js, ds = [tasksD (He.ga K "Tasks") ts lk ld, .tup (js.map jobD)] ∧ (ts.map (·.name)).Nodup ∧ PlanOk ts js ∧ Q (.bl true) M
theorem ok62 (T : Txt K mg) : FnD false P w K mg base 4 (He.ga K "is_plan_in") (sp_is_plan_in K) := by
  refine ok_is_plan_in T (ok60 T) (ok61 T) ?_
  rintro ds M Q E ⟨ts, lk, ld, js, rfl, nd, PL, q⟩
  have few := PL.few
  have hz : (js.map jobD).length ≤ sizeLine := size_of (by rw [List.length_map]; omega)
  refine ⟨rfl, _, _, true, .ty _, .tup _, kit_ty k_tuple, hz, ?_⟩
  refine lcD_mapT jobD (fun _ => .bl true) (fun j hj N n => ⟨ts, lk, ld, j, rfl, nd, PL.ok j hj, n⟩) ?_
  conv => whnf; simp only [bls_true]; whnf; simp only [all_true]
  refine ⟨by first | rfl | trivial, ?_⟩
  simp only [cutD_1, zipD_map]
  refine lcD_mapT _ (fun _ => .bl true) (fun p hp N n => ?_) ?_
  · have l : PySem.W.dataLt (jobP p.1) (jobP p.2) = true := by
      obtain ⟨i, hi, e⟩ := List.getElem_of_mem hp
      rw [List.length_zip, List.length_drop] at hi
      rw [List.getElem_zip, List.getElem_drop] at e
      have := (List.pairwise_iff_getElem.mp PL.lt) i (1 + i) (by omega) (by omega) (by omega)
      rw [← e]
      exact this
    refine ⟨rfl, ?_⟩
    refine ⟨jobs_alike p.1 p.2, fun e => (nomatch e), ?_, ?_⟩
    · show (jobP p.1).depth ≤ 100
      simp [jobP, PyData.depth, PyData.depthAll]
    · show N (.bl (PySem.W.dataLt (jobP p.1) (jobP p.2))) M
      rw [l]
      exact n
  · conv => whnf; simp only [bls_true]; whnf; simp only [all_true]
    exact ⟨ts, lk, ld, js, rfl, nd, PL, upQ.mk q⟩
def sp_require_plan (K : PySem.W.Frag) : SpD := fun ds M Q _ => ∃ ts lk ld js, ds = [tasksD (He.ga K "Tasks") ts lk ld, .tup (js.map jobD)] ∧ (ts.map (·.name)).Nodup ∧ PlanOk ts js ∧ Q .non M
theorem ok63 (T : Txt K mg) : FnD false P w K mg base 5 (He.ga K "require_plan") (sp_require_plan K) := by
  refine ok_require_plan T (ok62 T) ?_
  rintro ds M Q E ⟨ts, lk, ld, js, rfl, nd, PL, q⟩
  exact ⟨rfl, ts, lk, ld, js, rfl, nd, PL, upQ.mk q⟩
end
end K84

/-! ### K84r -/
set_option Elab.async false
set_option linter.all false
set_option maxRecDepth 100000
set_option maxHeartbeats 400000
namespace K84
open PySem L2 DL PyProof.Rows TL

def JobOk (j : Job) : Prop := NameOk j.name ∧ 0 ≤ j.tick ∧ j.tick ≤ 20000 ∧ 1 ≤ j.size ∧ j.size ≤ 100
theorem jobs_ok {ts : List Tsk} {js : List Job} (h : ∀ t ∈ ts, TskOk t) (p : PlanOk ts js) : ∀ j ∈ js, JobOk j := fun j hj => by
  obtain ⟨t, ht, e, j1, j2, j3, j4⟩ := p.ok j hj
  have k := h t ht
  have := k.l2
  exact ⟨e ▸ k.name, j1, j2, j3, by omega⟩
def jobS (j : Job) : Str := numS j.tick ++ " " ++ j.name ++ " " ++ numS j.size
def planS (js : List Job) : Str := Txt.join "\n" (js.map jobS)
theorem job_short {j : Job} (h : JobOk j) : (jobS j).length ≤ 30 ∧ 1 ≤ (jobS j).length ∧ (numS j.tick).length ≤ 7 ∧ (numS j.size).length ≤ 7 ∧ j.name.length ≤ 8 := by
  obtain ⟨h1, h2, h3, h4, h5⟩ := h
  have a := numS_len (i := j.tick) (k := 7) (by omega) h2 (by omega)
  have b := numS_len (i := j.size) (k := 7) (by omega) (by omega) (by omega)
  have n := h1.2.1
  have c : (Str.ofString " ").length = 1 := by decide +kernel
  unfold jobS
  rw [len_app, len_app, len_app, len_app]
  exact ⟨by omega, by omega, a, b, n⟩
theorem job_words (j : Job) : jobS j = Txt.join " " [numS j.tick, j.name, numS j.size] := by
  refine ext_tl ?_
  rw [join_eq, tl_join]
  unfold jobS
  show tl (numS j.tick ++ " " ++ j.name ++ " " ++ numS j.size) = tl (numS j.tick) ++ (tl " " ++ (tl j.name ++ (tl " " ++ tl (numS j.size))))
  simp only [tl_append, List.append_assoc]
theorem job_split {j : Job} (h : JobOk j) : Txt.split (jobS j) " " = [numS j.tick, j.name, numS j.size] := by
  obtain ⟨h1, h2, h3, h4, h5⟩ := h
  rw [job_words]
  refine split_join tl_sp (by decide +kernel) (by simp) fun p hp => ?_
  simp only [List.mem_cons, List.not_mem_nil, or_false] at hp
  rcases hp with rfl | rfl | rfl
  · exact numS_free h2 (by omega)
  · exact name_free h1 (by omega)
  · exact numS_free (by omega) (by omega)
theorem job_nl {j : Job} (h : JobOk j) : 10 ∉ tl (jobS j) := fun hm => by
  obtain ⟨h1, h2, h3, h4, h5⟩ := h
  unfold jobS at hm
  simp only [tl_append, tl_sp, List.mem_append] at hm
  rcases hm with (((hm | hm) | hm) | hm) | hm
  · exact numS_free h2 (by omega) hm
  · simp at hm
  · exact name_free h1 (by omega) hm
  · simp at hm
  · exact numS_free (by omega) (by omega) hm
theorem plan_join {js : List Job} (h : ∀ j ∈ js, JobOk j) (few : js.length ≤ 1000) : ((js.map jobS).map (·.length)).sum + (js.map jobS).length * (Str.ofString "\n").length ≤ 16777216 := by
  have a := sum_le (xs := js.map jobS) (B := 30) (fun x hx => by
    obtain ⟨j, hj, rfl⟩ := List.mem_map.mp hx
    exact (job_short (h j hj)).1)
  have c : (Str.ofString "\n").length = 1 := by decide +kernel
  rw [c]
  rw [List.length_map] at a ⊢
  omega
def sp_plan_lines : SpD := fun ds M Q _ => ∃ js : List Job, ds = [.tup (js.map jobD)] ∧ (∀ j ∈ js, JobOk j) ∧ js.length ≤ 1000 ∧ Q (.lst ((js.map jobS).map D.str)) M
def sp__law_plan_text : SpD := fun ds M Q _ => ∃ js : List Job, ds = [.tup (js.map jobD)] ∧ (∀ j ∈ js, JobOk j) ∧ js.length ≤ 1000 ∧ Q (.str (planS js)) M
section
variable {P : Program} {w : World} {K : PySem.W.Frag} {mg : Str → Option Value} {base : Heap}
theorem ok70 (T : Txt K mg) : FnD false P w K mg base 1 (He.ga K "plan_lines") sp_plan_lines := by
  refine ok_plan_lines T ?_
  rintro ds M Q E ⟨js, rfl, h, few, q⟩
  have hz : (js.map jobD).length ≤ sizeLine := size_of (by rw [List.length_map]; omega)
  refine ⟨rfl, hz, ?_⟩
  refine lcD_mapT jobD (D.str ∘ jobS) (fun j hj N n => ?_) ?_
  · obtain ⟨z1, z2, z3, z4, z5⟩ := job_short (h j hj)
    obtain ⟨h1, h2, h3, h4, h5⟩ := h j hj
    have z3' : (Str.ofString (toString j.tick)).length ≤ 7 := z3
    have z4' : (Str.ofString (toString j.size)).length ≤ 7 := z4
    have c : (Str.ofString " ").length = 1 := by decide +kernel
    have c0 : Str.empty.length = 0 := rfl
    refine ⟨rfl, log_small h2 (by omega), ?_⟩
    refine ⟨by rw [len_app]; exact size_of (by omega), by rw [len_app, len_app]; exact size_of (by omega), size_of (by omega), by rw [len_app, len_app, len_app]; exact size_of (by omega), by rw [len_app, len_app, len_app, len_app]; exact size_of (by omega), log_small (by omega) (by omega), by rw [len_app, len_app, len_app, len_app, len_app]; exact size_of (by omega), ?_⟩
    have e : Str.empty ++ numS j.tick ++ " " ++ j.name ++ " " ++ numS j.size = jobS j := by rw [empty_app]; rfl
    have n' : N (.str (Str.empty ++ numS j.tick ++ " " ++ j.name ++ " " ++ numS j.size)) M := by rw [e]; exact n
    exact n'
  · rw [List.nil_append, ← List.map_map]
    exact upQ.mk q
theorem ok71 (T : Txt K mg) : FnD false P w K mg base 1 (He.ga K "_law_plan_text") sp__law_plan_text := by
  refine ok__law_plan_text T ?_
  rintro ds M Q E ⟨js, rfl, h, few, q⟩
  have hz : (js.map jobD).length ≤ sizeLine := size_of (by rw [List.length_map]; omega)
  refine ⟨rfl, trivial, hz, ?_⟩
  refine lcD_mapT jobD (D.str ∘ jobS) (fun j hj N n => ?_) ?_
  · obtain ⟨z1, z2, z3, z4, z5⟩ := job_short (h j hj)
    obtain ⟨h1, h2, h3, h4, h5⟩ := h j hj
    have z3' : (Str.ofString (toString j.tick)).length ≤ 7 := z3
    have z4' : (Str.ofString (toString j.size)).length ≤ 7 := z4
    have c : (Str.ofString " ").length = 1 := by decide +kernel
    refine ⟨rfl, log_small h2 (by omega), size_of (by omega), by rw [len_app]; exact size_of (by omega), by rw [len_app, len_app]; exact size_of (by omega), log_small (by omega) (by omega), by rw [len_app, len_app, len_app]; exact size_of (by omega), n⟩
  · rw [List.nil_append, ← List.map_map]
    conv => whnf; simp only [strsD_map]; whnf
    exact ⟨plan_join h few, upQ.mk q⟩
def sp_format_plan (K : PySem.W.Frag) : SpD := fun ds M Q _ => ∃ ts lk ld js, ds = [tasksD (He.ga K "Tasks") ts lk ld, .tup (js.map jobD)] ∧ GoodTs ts ∧ PlanOk ts js ∧ Q (.str (planS js)) M
theorem ok72 (T : Txt K mg) : FnD false P w K mg base 6 (He.ga K "format_plan") (sp_format_plan K) := by
  refine ok_format_plan T (ok14 T) (ok63 T) (ok70 T) ?_
  rintro ds M Q E ⟨ts, lk, ld, js, rfl, G, PL, q⟩
  have jo := jobs_ok G.ok PL
  refine ⟨rfl, ts, lk, ld, rfl, ts, lk, ld, js, rfl, G.nd, PL, trivial, js, rfl, jo, PL.few, ?_⟩
  conv => whnf; simp only [strsD_map]; whnf
  exact ⟨plan_join jo PL.few, upQ.mk q⟩
def sp_job_in : SpD := fun ds M Q _ => ∃ j : Job, ds = [.str (jobS j)] ∧ JobOk j ∧ Q (jobD j) M
theorem ok73 (T : Txt K mg) : FnD false P w K mg base 2 (He.ga K "job_in") sp_job_in := by
  refine ok_job_in T (ok41 T) ?_
  rintro ds M Q E ⟨j, rfl, h, q⟩
  have z := job_short h
  have e := job_split h
  obtain ⟨h1, h2, h3, h4, h5⟩ := h
  refine ⟨rfl, trivial, ⟨rfl, size_of (by omega), by rw [e]; exact size_of (n := 3) (by decide)⟩, ?_⟩
  rw [e]
  refine ⟨j.tick, rfl, h2, by omega, j.size, rfl, by omega, by omega, size_of (n := 3) (by decide), upQ.mk q⟩
def sp_parse_plan (K : PySem.W.Frag) : SpD := fun ds M Q _ => ∃ ts lk ld js, ds = [tasksD (He.ga K "Tasks") ts lk ld, .str (planS js)] ∧ GoodTs ts ∧ PlanOk ts js ∧ Q (.tup (js.map jobD)) M
theorem ok74 (T : Txt K mg) : FnD false P w K mg base 5 (He.ga K "parse_plan") (sp_parse_plan K) := by
  refine ok_parse_plan T (ok14 T) (ok40 T) (ok48 T) (ok73 T) (ok62 T) (ok70 T) ?_
  rintro ds M Q E ⟨ts, lk, ld, js, rfl, G, PL, q⟩
  have jo := jobs_ok G.ok PL
  have few := PL.few
  refine ⟨rfl, ts, lk, ld, rfl, _, rfl, js.map jobS, rfl, by rw [List.length_map]; omega, fun x hx => ?_, ?_⟩
  · obtain ⟨j, hj, rfl⟩ := List.mem_map.mp hx
    have z := job_short (jo j hj)
    exact ⟨job_nl (jo j hj), z.2.1, by omega⟩
  refine ⟨by rw [List.length_map, List.length_map]; exact size_of (by omega), ?_⟩
  rw [List.map_map]
  refine lcD_mapT (D.str ∘ jobS) jobD (fun j hj N n => ⟨j, rfl, jo j hj, n⟩) ?_
  refine ⟨ts, lk, ld, js, rfl, G.nd, PL, trivial, js, rfl, jo, PL.few, ?_⟩
  conv => whnf; simp only [strsD_map]; whnf
  refine ⟨plan_join jo PL.few, ?_⟩
  have c1 : (planS js == planS js) = true := beq_self_eq_true _
  unfold planS at c1
  conv => whnf; simp only [planS, c1]
  exact upQ.mk q
end
end K84

/-! ### K84s -/
set_option Elab.async false
set_option linter.all false
set_option maxRecDepth 100000
set_option maxHeartbeats 1000000
namespace K84
open PySem L2 DL PyProof.Rows TL

def sp__law_right : SpD := fun ds M Q _ => ∃ a o k, ds = [.ref a] ∧ M a = some o ∧ St (k + 2000) o ∧ ∀ o', St k o' → Q (.bl true) (updM M a o')
section
variable {P : Program} {w : World} {K : PySem.W.Frag} {mg : Str → Option Value} {base : Heap}
theorem ok80 (T : Txt K mg) : FnD true P w K mg base 11 (He.ga K "_law_right") sp__law_right := by
  refine ok__law_right T (ok36 T) (ok35 T) (ok37 T) (ok13 T) (ok19 T) (ok39 T) (ok45 T) (ok44 T) (ok46 T) (ok47 T) (ok49 T) (ok50 T) (ok16 T) (ok53 T) (ok54 T) (ok55 T) (ok51 T) (ok21 T) (ok71 T) (ok72 T) (ok74 T) ?_
  rintro ds M Q E ⟨a, o, k, rfl, hM, hs, q⟩
  refine ⟨rfl, a, o, k + 1700, rfl, hM, hs.le (by omega), fun ts o1 G few s1 => ?_⟩
  have few10 : ts.length ≤ 10 := by omega
  refine ⟨a, o1, k + 1600, ts, rfl, updM_same, s1.le (by omega), few10, fun ns o2 L s2 => ?_⟩
  refine ⟨a, o2, k + 500, ts, rfl, updM_same, s2.le (by omega), G, few, fun js o3 PL s3 => ?_⟩
  refine ⟨rfl, ts, rfl, G, fun lk ld => ?_⟩
  refine ⟨rfl, ts, lk, ld, ns, rfl, few10, L, ?_⟩
  refine ⟨a, o3, k, rfl, updM_same, s3.le (by omega), fun t o4 tk s4 => ?_⟩
  refine ⟨size_of (n := 1) (by decide), ?_⟩
  have jo := jobs_ok G.ok PL
  simp only [updM_updM]
  refine ⟨by rw [List.length_map]; exact size_of (by simp only [List.length_cons, List.length_nil]; omega), ?_⟩
  have em : ts.map tskD ++ [tskD t] = (ts ++ [t]).map tskD := by rw [List.map_append]; rfl
  have eA : ∀ x : Str, (x == x) = true := fun x => beq_self_eq_true _
  rw [em]
  refine ⟨by rw [List.length_map, List.length_append]; exact size_of (by simp only [List.length_cons, List.length_nil]; omega), ?_⟩
  have all : ∀ x ∈ ts ++ [t], TskOk x := fun x hx => by
    rcases List.mem_append.mp hx with h | h
    · exact G.ok x h
    · rw [List.mem_singleton.mp h]; exact tk
  refine forD_inv _ (fun i σ M' => updM M a o4 = M' ∧ ∃ u6 u7 : Option D, σ = [some (.ref a), some (plainD ts), some (numsD ns), some (.tup (js.map jobD)), some (tasksD (He.ga K "Tasks") ts lk ld), some (levelsD (He.ga K "Levels") (tasksD (He.ga K "Tasks") ts lk ld) ns), u6, u7]) ?_ ?_ ⟨rfl, none, none, rfl⟩
  · rintro i x hx σ M' ⟨rfl, u6, u7, rfl⟩ N hN
    rw [List.getElem?_map] at hx
    cases hy : (ts ++ [t])[i]? with
    | none => rw [hy] at hx; cases hx
    | some y =>
      rw [hy] at hx
      cases hx
      have hk := all y (List.mem_of_getElem? hy)
      have F := fit_task hk
      have c1 := eA (taskS y)
      have c2 := eA (tskP y).shown
      refine ⟨y, rfl, hk, y, rfl, hk, ?_⟩
      conv => whnf; simp only [c1]
      refine ⟨y, rfl, hk, ?_⟩
      refine ⟨_, F.py, F.show_, F.nod, Nat.le_trans F.dep (by omega), Nat.le_trans F.len (size_of (by omega)), ?_⟩
      refine ⟨_, F.py, F.show_, F.nod, Nat.le_trans F.dep (by omega), Nat.le_trans F.len (size_of (by omega)), ?_⟩
      generalize (tskP y).shown = sh at *
      conv => whnf; simp only [c2]
      exact hN _ _ ⟨rfl, _, _, rfl⟩
  · rintro σ M' ⟨rfl, u6, u7, rfl⟩
    have hz : (ts.map tskD).length ≤ sizeLine := size_of (by rw [List.length_map]; omega)
    have F := fit_group G.ok few10
    have FN := fit_nums L few10
    have FP := fit_plan G.ok PL
    have c1 := eA (groupS ts)
    have c2 := eA (PyData.tuple (ts.map tskP)).shown
    have c3 := eA (levS ts ns)
    have c4 := eA (planS js)
    have c5 := eA (PyData.tuple (js.map jobP)).shown
    refine ⟨trivial, hz, ?_⟩
    refine lcD_mapT tskD (D.str ∘ taskS) (fun x hx N n => ⟨x, rfl, G.ok x hx, n⟩) ?_
    rw [List.nil_append, ← List.map_map]
    conv => whnf; simp only [strsD_map]; whnf
    refine ⟨group_join G.ok few10, ?_⟩
    refine ⟨ts, lk, ld, rfl, G.ok, few10, ?_⟩
    have c1' : (groupS ts == Txt.join (Str.ofString "\n") (ts.map taskS)) = true := c1
    conv => whnf; simp only [c1']
    refine ⟨ts, rfl, G, fun lk2 ld2 => ?_⟩
    refine ⟨⟨⟨_, _, rfl⟩, ⟨_, _, rfl⟩⟩, ts, _, _, _, _, rfl, G.ok, few10, ?_⟩
    refine ⟨ts, rfl, G, fun lk3 ld3 => ?_⟩
    refine ⟨⟨_, _, rfl⟩, ts, _, _, rfl, ?_⟩
    refine ⟨_, F.py, F.show_, F.nod, Nat.le_trans F.dep (by omega), Nat.le_trans F.len (size_of (by omega)), ?_⟩
    refine ⟨_, F.py, F.show_, F.nod, Nat.le_trans F.dep (by omega), Nat.le_trans F.len (size_of (by omega)), ?_⟩
    generalize (PyData.tuple (ts.map tskP)).shown = sh at *
    conv => whnf; simp only [c2]
    refine ⟨ts, ns, rfl, G.ok, few10, L, ?_⟩
    refine ⟨ts, lk, ld, ns, rfl, G.ok, few10, L, ?_⟩
    conv => whnf; simp only [c3]
    refine ⟨ts, lk, ld, ns, rfl, G.ok, few10, L, ?_⟩
    refine ⟨⟨⟨_, _, rfl⟩, ⟨_, _, rfl⟩⟩, ts, _, _, _, _, ns, rfl, G.ok, few10, L, ?_⟩
    refine ⟨ts, lk, ld, ns, rfl, G.ok, few10, L, ?_⟩
    refine ⟨⟨_, _, rfl⟩, _, ns, rfl, ?_⟩
    have py : pyd (numsD ns) = some (.tuple (ns.map PyData.int)) := FN.py
    conv => whnf; simp only [py]
    refine ⟨FN.shaped (by omega), FN.shaped (by omega), ?_⟩
    rw [FN.eqv]
    refine ⟨js, rfl, jo, PL.few, ?_⟩
    refine ⟨ts, lk, ld, js, rfl, G, PL, ?_⟩
    conv => whnf; simp only [c4]
    refine ⟨ts, lk, ld, js, rfl, G, PL, ?_⟩
    refine ⟨_, FP.py, FP.show_, FP.nod, Nat.le_trans FP.dep (by omega), Nat.le_trans FP.len (size_of (by omega)), ?_⟩
    refine ⟨_, FP.py, FP.show_, FP.nod, Nat.le_trans FP.dep (by omega), Nat.le_trans FP.len (size_of (by omega)), ?_⟩
    generalize (PyData.tuple (js.map jobP)).shown = sh at *
    conv => whnf; simp only [c5]
    exact upQ.mk (q o4 s4)
end
end K84

/-! ### K84t -/
set_option Elab.async false
set_option linter.all false
set_option maxRecDepth 100000
set_option maxHeartbeats 1000000
namespace K84
open PySem L2 DL PyProof.Rows TL

theorem good0 : GoodTs [] := ⟨by simp, by simp, by simp, by decide⟩
theorem lev0 : LevOk 0 [] := ⟨rfl, by simp⟩
theorem plan0 : PlanOk [] [] := ⟨by simp, by simp, .nil, .nil⟩
theorem s0 : groupS [] = Str.ofString "" := by decide +kernel
theorem s1 : levS [] [] = Str.ofString "" := by decide +kernel
theorem s2 : planS [] = Str.ofString "" := by decide +kernel
def greatT : Tsk := ⟨"a", 100, 1000, 20000, (10 : Int) ^ Int.toNat 6, [(0, 99, "l")]⟩
def greatJ : List Job := [⟨0, "a", 100⟩, ⟨19000, "a", 1⟩, ⟨20000, "a", 100⟩]
theorem great_ok : TskOk greatT := by
  have p6 : (10 : Int) ^ Int.toNat 6 = 1000000 := by decide +kernel
  refine ⟨nameOkB_ok (by decide +kernel), by decide, by decide, by decide, by decide, by decide, by decide, ?_, ?_, by decide, ?_, trivial⟩
  · show 0 ≤ (10 : Int) ^ Int.toNat 6
    omega
  · show (10 : Int) ^ Int.toNat 6 ≤ 1000000
    omega
  · intro s hs
    rw [List.mem_singleton.mp hs]
    exact ⟨by decide, by decide, by decide, nameOkB_ok (by decide +kernel)⟩
theorem great_good : GoodTs [greatT] := by
  refine ⟨fun t ht => by rw [List.mem_singleton.mp ht]; exact great_ok, by simp, by simp, ?_⟩
  show 10 * (0 * greatT.gap + greatT.long * 1) ≤ 9 * (1 * greatT.gap)
  decide
theorem great_plan : PlanOk [greatT] greatJ := by
  refine ⟨fun j hj => ⟨greatT, List.mem_singleton.mpr rfl, ?_⟩, by decide, ?_, ?_⟩
  · simp only [greatJ, List.mem_cons, List.not_mem_nil, or_false] at hj
    rcases hj with rfl | rfl | rfl
    · exact ⟨rfl, by decide, by decide, by decide, by decide⟩
    · exact ⟨rfl, by decide, by decide, by decide, by decide⟩
    · exact ⟨rfl, by decide, by decide, by decide, by decide⟩
  · refine .cons (fun b hb => ?_) (.cons (fun b hb => ?_) (.cons (fun b hb => by simp at hb) .nil))
    · simp only [List.mem_cons, List.not_mem_nil, or_false] at hb
      rcases hb with rfl | rfl <;> decide +kernel
    · simp only [List.mem_cons, List.not_mem_nil, or_false] at hb
      subst hb
      decide +kernel
  · refine .cons (fun b hb t ht _ _ => ?_) (.cons (fun b hb t ht _ _ => ?_) (.cons (fun b hb => by simp at hb) .nil))
    · rw [List.mem_singleton.mp ht]
      simp only [List.mem_cons, List.not_mem_nil, or_false] at hb
      rcases hb with rfl | rfl <;> decide
    · rw [List.mem_singleton.mp ht]
      simp only [List.mem_cons, List.not_mem_nil, or_false] at hb
      subst hb
      decide
def sp_law : SpD := fun ds M Q _ => ∃ zs : List Int, ds = [.scr (zs.map D.int)] ∧ Q (.bl true) M
section
variable {P : Program} {w : World} {K : PySem.W.Frag} {mg : Str → Option Value} {base : Heap}
theorem ok81 (T : Txt K mg) : FnD true P w K mg base 12 (He.ga K "law") sp_law := by
  refine ok_law T (ok38 T) (ok80 T) (ok13 T) (ok72 T) (ok54 T) (ok19 T) (ok47 T) (ok49 T) (ok50 T) (ok55 T) (ok21 T) (ok74 T) (ok71 T) ?_
  rintro ds M Q E ⟨zs, rfl, q⟩
  refine ⟨rfl, ?_⟩
  conv => whnf
  generalize hn : (if (if ((List.map D.int zs).length : Int) < 6 then ((List.map D.int zs).length : Int) else 6) > 1 then (if ((List.map D.int zs).length : Int) < 6 then ((List.map D.int zs).length : Int) else 6) else 1) = n at *
  have n6 : n ≤ 6 ∧ 1 ≤ n := by
    rw [← hn]
    split <;> split <;> omega
  refine ⟨by rw [sizeLine_eq]; omega, by omega, ?_⟩
  refine forD_inv _ (fun i σ M' => Sub M M' ∧ ∃ u1 u2 u3 : Option D, σ = [some (.scr (zs.map D.int)), u1, u2, u3, none, none, none, none]) ?_ ?_ ⟨Sub.refl M, none, none, none, rfl⟩
  · rintro i x hx σ M' ⟨sb, u1, u2, u3, rfl⟩ N hN
    obtain ⟨hi, rfl⟩ := rngD_get hx
    refine ⟨zs, i, by simp, by omega, fun o hs a ha => ?_⟩
    refine ⟨by rw [sizeLine_eq]; omega, by omega, ?_⟩
    refine forD_inv _ (fun j σ M2 => Sub M' M2 ∧ (∃ o', M2 a = some o' ∧ St (10000 * (4 - j)) o') ∧ ∃ u1 u3 : Option D, σ = [some (.scr (zs.map D.int)), u1, some (.ref a), u3, none, none, none, none]) ?_ ?_ ⟨Sub.upd ha, ⟨o, updM_same, hs.le (by omega)⟩, _, _, rfl⟩
    · rintro j y hy σ M2 ⟨sb2, ⟨o2, ha2, s2⟩, u1, u3, rfl⟩ N2 hN2
      obtain ⟨hj, rfl⟩ := rngD_get hy
      have hj4 : j < 4 := by omega
      refine ⟨a, o2, 10000 * (4 - (j + 1)), rfl, ha2, s2.le (by omega), fun o3 s3 => ?_⟩
      refine hN2 _ _ ⟨fun c v e => ?_, ⟨o3, updM_same, s3⟩, _, _, rfl⟩
      by_cases hc : c = a
      · rw [hc, ha] at e; cases e
      · rw [updM_ne hc]; exact sb2 c v e
    · rintro σ M2 ⟨sb2, _, u1, u3, rfl⟩
      exact hN _ _ ⟨sb.trans sb2, _, _, _, rfl⟩
  · rintro σ M' ⟨sb, u1, u2, u3, rfl⟩
    refine ⟨rfl, size_of (n := 0) (by decide), [], rfl, good0, fun lk ld => ?_⟩
    refine ⟨[], lk, ld, rfl, by simp, by simp, ?_⟩
    refine ⟨rfl, size_of (n := 0) (by decide), [], lk, ld, [], rfl, by simp, lev0, ?_⟩
    refine ⟨[], lk, ld, [], rfl, by simp, by simp, lev0, ?_⟩
    refine ⟨size_of (n := 0) (by decide), [], lk, ld, [], rfl, good0, plan0, ?_⟩
    refine ⟨size_of (n := 3) (by decide), ?_⟩
    rw [s0, s1, s2]
    refine ⟨size_of (n := 1) (by decide), ⟨by omega, by omega, size_of (n := 3) (by decide)⟩, ?_⟩
    refine ⟨by decide +kernel, by decide +kernel, ?_⟩
    have c1 : PyData.eqv (.list [.str (Str.ofString ""), .str (Str.ofString ""), .str (Str.ofString "")]) (.list [.str (Str.ofString ""), .str (Str.ofString ""), .str (Str.ofString "")]) = true := by decide +kernel
    conv => whnf; simp only [c1]
    refine ⟨[], by rw [s0], good0, fun lk2 ld2 => ?_⟩
    refine ⟨⟨⟨_, _, rfl⟩, ⟨_, _, rfl⟩⟩, [], _, _, _, _, rfl, by simp, by simp, ?_⟩
    refine ⟨[], lk, ld, [], by rw [s1], by simp, by simp, lev0, ?_⟩
    refine ⟨⟨_, _, rfl⟩, _, [], rfl, size_of (n := 0) (by decide), ?_⟩
    refine ⟨by decide +kernel, by decide +kernel, ?_⟩
    have c2 : PyData.eqv (.tuple []) (.tuple []) = true := by decide +kernel
    conv => whnf; simp only [c2]
    refine ⟨[], lk, ld, [], by rw [s2], good0, plan0, size_of (n := 0) (by decide), ?_⟩
    refine ⟨by decide +kernel, by decide +kernel, ?_⟩
    conv => whnf; simp only [c2]
    refine ⟨⟨by omega, by decide +kernel⟩, ?_⟩
    refine ⟨size_of (n := 3) (by decide), size_of (n := 1) (by decide), size_of (n := 6) (by decide), size_of (n := 1) (by decide), ?_⟩
    refine ⟨size_of (n := 3) (by decide), size_of (n := 3) (by decide), size_of (n := 3) (by decide), size_of (n := 3) (by decide), ?_⟩
    refine ⟨rfl, [greatT], rfl, great_good, fun lk3 ld3 => ?_⟩
    refine ⟨greatJ, rfl, jobs_ok great_good.ok great_plan, by decide, ?_⟩
    refine ⟨[greatT], lk3, ld3, greatJ, rfl, great_good, great_plan, ?_⟩
    have F := fit_plan great_good.ok great_plan
    refine ⟨F.shaped (by omega), F.shaped (by omega), ?_⟩
    have z : upQ Q (.bl (PyData.eqv (.tuple (greatJ.map jobP)) (.tuple (greatJ.map jobP)))) M' := by
      rw [F.eqv]
      exact ⟨M, sb, q⟩
    exact z
end
end K84

/-! ### K84h -/
set_option Elab.async false
set_option linter.all false
set_option maxRecDepth 100000
set_option maxHeartbeats 0
namespace K84
open PySem PySem.Spec PyProof.Rows L2 DL
abbrev R : PySem.W.OpenRow := PySem.W.OpenLaw.row PySem.Challenge.rw_holdlevels_k84_texts_of_tasks_levels_and
abbrev hk : PySem.W.Hook := hookM 6 fa fx fn
def ob (s : PySem.W.SharedT) : He.AlD := seenM 6 fa fx fn (HandSHeadRun.getT s)
theorem ob_eq (s : PySem.W.SharedT) : ob s = hk.obs s.abs := seenM_eq (HandSHeadRun.getT_eq s)
def names1 : List PySem.Str := [("_wall" : PySem.Str), ("HoldError" : PySem.Str), ("InvalidTask" : PySem.Str), ("InvalidTasks" : PySem.Str), ("InvalidLevels" : PySem.Str), ("InvalidPlan" : PySem.Str), ("InvalidOperation" : PySem.Str), ("ParseError" : PySem.Str), ("UnknownName" : PySem.Str), ("TooMany" : PySem.Str), ("Overload" : PySem.Str), ("MAX_LONGEST" : PySem.Str), ("MAX_GAP" : PySem.Str), ("MAX_DEADLINE" : PySem.Str), ("MAX_ROOM" : PySem.Str), ("MAX_SECTIONS" : PySem.Str), ("MAX_NAME" : PySem.Str), ("LETTERS" : PySem.Str), ("is_integer" : PySem.Str), ("is_between" : PySem.Str), ("is_name" : PySem.Str), ("is_section" : PySem.Str), ("are_sections" : PySem.Str), ("is_task" : PySem.Str), ("require_task" : PySem.Str), ("MAX_LOAD" : PySem.Str), ("lowest" : PySem.Str), ("load_of" : PySem.Str), ("ceilings_of" : PySem.Str), ("require_plain" : PySem.Str), ("Tasks" : PySem.Str), ("require_tasks" : PySem.Str), ("require_name" : PySem.Str), ("MAX_TICK" : PySem.Str), ("is_job" : PySem.Str), ("have_gaps" : PySem.Str), ("is_plan_in" : PySem.Str), ("require_plan" : PySem.Str)]
def names2 : List PySem.Str := [("are_levels" : PySem.Str), ("Levels" : PySem.Str), ("require_levels" : PySem.Str), ("levels_in" : PySem.Str), ("MOST_DIGITS" : PySem.Str), ("DIGITS" : PySem.Str), ("number_in" : PySem.Str), ("pair_in" : PySem.Str), ("require_text" : PySem.Str), ("lines_in" : PySem.Str), ("task_text" : PySem.Str), ("format_task" : PySem.Str), ("parse_task" : PySem.Str), ("format_tasks" : PySem.Str), ("parse_tasks" : PySem.Str), ("levels_text" : PySem.Str), ("format_levels" : PySem.Str), ("parse_levels" : PySem.Str), ("plan_lines" : PySem.Str), ("job_in" : PySem.Str), ("format_plan" : PySem.Str), ("parse_plan" : PySem.Str), ("_law_stream" : PySem.Str), ("_law_draw" : PySem.Str), ("_law_pick" : PySem.Str), ("_law_mixed" : PySem.Str), ("_law_names" : PySem.Str), ("_law_sections" : PySem.Str), ("_law_some" : PySem.Str), ("_law_numbers" : PySem.Str), ("_law_plan" : PySem.Str), ("_law_task_text" : PySem.Str), ("_law_plan_text" : PySem.Str), ("_law_levels_text" : PySem.Str), ("_law_great" : PySem.Str), ("_law_right" : PySem.Str)]
def names : List PySem.Str := names1 ++ names2
theorem run (w : World) : HandSHeadRun.RunEq R (PySem.W.view R.prog [81]) hk ob 20000 names w := by
  intro os
  kernel_rfl
end K84

/-! ### K84u -/
set_option Elab.async false
set_option linter.all false
set_option maxRecDepth 100000
set_option maxHeartbeats 4000000
open PySem PySem.W PySem.Calls PyProof.Rows
theorem PySem.Challenge.cw_holdlevels_k84_texts_of_tasks_levels_and_holds : PySem.Challenge.rw_holdlevels_k84_texts_of_tasks_levels_and.Holds := by
  w_on; o_law
  refine HandSHeadRun.head_any (r := OpenLaw.row PySem.Challenge.rw_holdlevels_k84_texts_of_tasks_levels_and) (q := view (OpenLaw.row PySem.Challenge.rw_holdlevels_k84_texts_of_tasks_levels_and).prog [81]) (H := K84.hk) (ob := K84.ob) (M := 20000) (loose := K84.names) (d := HandSHeadRun.topDef (OpenLaw.row PySem.Challenge.rw_holdlevels_k84_texts_of_tasks_levels_and).prog 81) (kwd := []) K84.ob_eq
    (by kernel_rfl) (fun s => by kernel_rfl) K84.run (by kernel_rfl) (by kernel_rfl) (by kernel_rfl) (by rfl) (by first | assumption | decide +kernel) (by decide +kernel) ⟨rfl, rfl, rfl, rfl, rfl, by decide +kernel⟩ ?hw ?hc
  case hw => w_witness2
  case hc =>
    refine DL.walk_ofD (l := PySem.Challenge.rw_holdlevels_k84_texts_of_tasks_levels_and) (n := 63) (k := 12) rfl (by decide) (by kernel_rfl) ⟨rfl, by decide, by decide⟩ ?F
    intro w mg fa h Y G hmg0
    obtain ⟨K, KX, c⟩ := Y
    have hmg : mg ("law" : PySem.Str) = some (.ref fa) := by
      have e : (HandSHeadRun.topDef (OpenLaw.row PySem.Challenge.rw_holdlevels_k84_texts_of_tasks_levels_and).prog 81).name = ("law" : PySem.Str) := by kernel_rfl
      rw [← e]
      exact hmg0
    have T := K84.txt_of KX G c
    have e := hmg.symm.trans T.g_law
    cases e
    exact ⟨K, K84.sp_law, KX, fun ns _ => ⟨ns, rfl, rfl⟩, fun base _ _ => K84.ok81 T⟩
