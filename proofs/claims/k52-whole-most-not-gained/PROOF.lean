import PyProof.Rows.All
import HandS.ForMost
import HandS.ForExc
import HandS.TupAny
import HandS.Wide
import HandS.ExcInit
import HandS.ExcIs
import HandS.ExcField
import KE.KExcIs
import HandS.Defaults
import HandS.IsInst
import HandS.Deep
import HandS.More
import KE.GoesEnum
import HandS.Rev
import HandS.Style
import HandS.Conv
import HandS.Set
import HandS.SetFor
import HandS.SetBool
import HandS.TupSets
import KE.SortData
import HandS.Small
import HandS.Strs
import HandS.WideBits
import HandS.Text
import HandS.CallSlots
import HandS.TupMul
import KE.KDictCopyH
import KE.KDictSum
import PyProof.WalkInts
import PyProof.SeqI3
import PySem.Challenge.RW_manyjudges_k52_whole_most_not_gained
set_option Elab.async false
set_option autoImplicit false
set_option linter.all false
set_option maxRecDepth 100000
set_option maxHeartbeats 4000000
/-! The data of the program, without a heap; how it lies in the heap; an evaluator of bodies over it, proved over the hand layer. -/
namespace MJ
open PySem PySem.Spec PyProof.Rows L2

inductive D where
  | non | bl (b : Bool) | int (i : Int) | str (x : Str)
  | tup (ds : List D) | lst (ds : List D) | dic (ks ds : List D) | obj (c : Str) (ns : List Str) (ds : List D) | nms (zs : List Str)

def kD : Key → D
  | .inl i => .int i
  | .inr x => .str x

section
variable (K : PySem.W.Frag) (mg : Str → Option Value) (H : Hp)
mutual
def Rp : D → V → Prop
  | .non, v => v = .non
  | .bl b, v => v = .bl b
  | .int i, v => v = .int i
  | .str x, v => v = .str x
  | .tup ds, v => ∃ a xs, v = .ref a ∧ SqT K H a xs ∧ Rps ds xs
  | .lst ds, v => ∃ a xs, v = .ref a ∧ SqL K H a xs ∧ Rps ds xs
  | .dic ks ds, v => ∃ a es, v = .ref a ∧ H a = some (.dK es) ∧ (es.map fun e => kD e.1) = ks ∧ Rps ds (es.map (·.2))
  | .obj c ns ds, v => ∃ a C dx fs, v = .ref a ∧ mg c = some (.ref C) ∧ H a = some (.ins C dx fs) ∧ fs.map (·.1) = ns ∧ Rps ds (fs.map (·.2))
  | .nms zs, v => ∃ a o, v = .ref a ∧ H a = some (.frz o (.tup (zs.map V.str))) ∧ o.dict = none
def Rps : List D → List V → Prop
  | [], xs => xs = []
  | d :: ds, xs => ∃ v vs, xs = v :: vs ∧ Rp d v ∧ Rps ds vs
end
/-- what a mutable thing of one's own holds -/
def RpO : D → HO → Prop
  | .lst ds, o => ∃ xs, o = .lst xs ∧ Rps K mg H ds xs
  | .dic ks ds, o => ∃ es, o = .dK es ∧ (es.map fun e => kD e.1) = ks ∧ Rps K mg H ds (es.map (·.2))
  | _, _ => False
end

section
variable {K : PySem.W.Frag} {mg : Str → Option Value} {H H' : Hp}
theorem _root_.L2.Same.seqT {a : Addr} {xs : List V} (e : Same H H') (h : SqT K H a xs) : SqT K H' a xs := by
  rcases h with (h | ⟨o, h⟩) | h
  · exact .inl (.inl (e _ _ h))
  · exact .inl (.inr ⟨o, e _ _ h⟩)
  · exact .inr h
mutual
theorem Rp.mono (s : Same H H') : ∀ {d : D} {v : V}, Rp K mg H d v → Rp K mg H' d v
  | .non, _, h => by simpa only [Rp] using h
  | .bl _, _, h => by simpa only [Rp] using h
  | .int _, _, h => by simpa only [Rp] using h
  | .str _, _, h => by simpa only [Rp] using h
  | .tup ds, v, h => by
    simp only [Rp] at h ⊢
    obtain ⟨a, xs, e, q, r⟩ := h
    exact ⟨a, xs, e, s.seqT q, Rps.mono s r⟩
  | .lst ds, v, h => by
    simp only [Rp] at h ⊢
    obtain ⟨a, xs, e, q, r⟩ := h
    exact ⟨a, xs, e, s.seq q, Rps.mono s r⟩
  | .dic ks ds, v, h => by
    simp only [Rp] at h ⊢
    obtain ⟨a, xs, e, q, k, r⟩ := h
    exact ⟨a, xs, e, s _ _ q, k, Rps.mono s r⟩
  | .obj c ns ds, v, h => by
    simp only [Rp] at h ⊢
    obtain ⟨a, C, dx, fs, e, m, q, k, r⟩ := h
    exact ⟨a, C, dx, fs, e, m, s _ _ q, k, Rps.mono s r⟩
  | .nms zs, v, h => by
    simp only [Rp] at h ⊢
    obtain ⟨a, o, e, q, k⟩ := h
    exact ⟨a, o, e, s _ _ q, k⟩
theorem Rps.mono (s : Same H H') : ∀ {ds : List D} {vs : List V}, Rps K mg H ds vs → Rps K mg H' ds vs
  | [], _, h => by simpa only [Rps] using h
  | d :: ds, xs, h => by
    simp only [Rps] at h ⊢
    obtain ⟨v, vs, e, r, rs⟩ := h
    exact ⟨v, vs, e, Rp.mono s r, Rps.mono s rs⟩
end
theorem RpO.mono (s : Same H H') {d : D} {o : HO} (h : RpO K mg H d o) : RpO K mg H' d o := by
  cases d with
  | lst ds => obtain ⟨xs, e, r⟩ := h; exact ⟨xs, e, r.mono s⟩
  | dic ks ds => obtain ⟨es, e, k, r⟩ := h; exact ⟨es, e, k, r.mono s⟩
  | _ => exact h.elim
theorem RpO.rp {d : D} {o : HO} {a : Addr} (h : RpO K mg H d o) (e : H a = some o) : Rp K mg H d (.ref a) := by
  cases d with
  | lst ds => obtain ⟨xs, rfl, r⟩ := h; simp only [Rp]; exact ⟨a, xs, rfl, .of e, r⟩
  | dic ks ds => obtain ⟨es, rfl, k, r⟩ := h; simp only [Rp]; exact ⟨a, es, rfl, e, k, r⟩
  | _ => exact h.elim

theorem Rps.len : ∀ {ds : List D} {vs : List V}, Rps K mg H ds vs → vs.length = ds.length
  | [], _, h => by simp only [Rps] at h; subst h; rfl
  | d :: ds, xs, h => by
    simp only [Rps] at h
    obtain ⟨v, vs, rfl, _, rs⟩ := h
    simp [Rps.len rs]
theorem Rps.get : ∀ {ds : List D} {vs : List V} {i : Nat} {d : D}, Rps K mg H ds vs → ds[i]? = some d → ∃ v, vs[i]? = some v ∧ Rp K mg H d v
  | [], _, _, _, _, e => by simp at e
  | d :: ds, xs, 0, d', h, e => by
    simp only [Rps] at h
    obtain ⟨v, vs, rfl, r, rs⟩ := h
    simp at e
    subst e
    exact ⟨v, rfl, r⟩
  | d :: ds, xs, i + 1, d', h, e => by
    simp only [Rps] at h
    obtain ⟨v, vs, rfl, r, rs⟩ := h
    simp at e
    obtain ⟨w, h1, h2⟩ := Rps.get rs e
    exact ⟨w, by simpa using h1, h2⟩
theorem Rps.get' {ds : List D} {vs : List V} {i : Nat} {v : V} (h : Rps K mg H ds vs) (e : vs[i]? = some v) : ∃ d, ds[i]? = some d ∧ Rp K mg H d v := by
  have hl := h.len
  have hi : i < vs.length := (List.getElem?_eq_some_iff.mp e).1
  obtain ⟨w, h1, h2⟩ := h.get (List.getElem?_eq_getElem (l := ds) (i := i) (by omega))
  rw [e] at h1
  cases h1
  exact ⟨_, List.getElem?_eq_getElem (l := ds) (i := i) (by omega), h2⟩
theorem Rps.nil : Rps K mg H [] [] := by simp only [Rps]
theorem Rps.cons {d : D} {ds : List D} {v : V} {vs : List V} (r : Rp K mg H d v) (rs : Rps K mg H ds vs) : Rps K mg H (d :: ds) (v :: vs) := by
  simp only [Rps]; exact ⟨v, vs, rfl, r, rs⟩
theorem Rps.append : ∀ {ds es : List D} {vs us : List V}, Rps K mg H ds vs → Rps K mg H es us → Rps K mg H (ds ++ es) (vs ++ us)
  | [], _, _, _, h, g => by simp only [Rps] at h; subst h; exact g
  | d :: ds, _, _, _, h, g => by
    simp only [Rps] at h
    obtain ⟨v, vs, rfl, r, rs⟩ := h
    exact Rps.cons r (rs.append g)
theorem Rps.take : ∀ (n : Nat) {ds : List D} {vs : List V}, Rps K mg H ds vs → Rps K mg H (ds.take n) (vs.take n)
  | 0, _, _, _ => by simpa using Rps.nil
  | n + 1, [], _, h => by simp only [Rps] at h; subst h; exact Rps.nil
  | n + 1, d :: ds, _, h => by
    simp only [Rps] at h
    obtain ⟨v, vs, rfl, r, rs⟩ := h
    exact Rps.cons r (rs.take n)
theorem Rps.drop : ∀ (n : Nat) {ds : List D} {vs : List V}, Rps K mg H ds vs → Rps K mg H (ds.drop n) (vs.drop n)
  | 0, _, _, h => by simpa using h
  | n + 1, [], _, h => by simp only [Rps] at h; subst h; exact Rps.nil
  | n + 1, d :: ds, _, h => by
    simp only [Rps] at h
    obtain ⟨v, vs, rfl, r, rs⟩ := h
    exact rs.drop n
theorem Rps.set : ∀ (n : Nat) {ds : List D} {vs : List V} {d : D} {v : V}, Rps K mg H ds vs → Rp K mg H d v → Rps K mg H (ds.set n d) (vs.set n v)
  | _, [], _, _, _, h, _ => by simp only [Rps] at h; subst h; exact Rps.nil
  | 0, d :: ds, _, _, _, h, q => by
    simp only [Rps] at h
    obtain ⟨v, vs, rfl, r, rs⟩ := h
    exact Rps.cons q rs
  | n + 1, d :: ds, _, _, _, h, q => by
    simp only [Rps] at h
    obtain ⟨v, vs, rfl, r, rs⟩ := h
    exact Rps.cons r (rs.set n q)
theorem Rps.reverse : ∀ {ds : List D} {vs : List V}, Rps K mg H ds vs → Rps K mg H ds.reverse vs.reverse
  | [], _, h => by simp only [Rps] at h; subst h; exact Rps.nil
  | d :: ds, _, h => by
    simp only [Rps] at h
    obtain ⟨v, vs, rfl, r, rs⟩ := h
    rw [List.reverse_cons, List.reverse_cons]
    exact rs.reverse.append (.cons r .nil)
end

/-! ### the shared part Hs of the heap H, and how both grow -/
structure Ext (Hs H Hs' H' : Hp) : Prop where
  s : Same Hs Hs'
  h : Same H H'
  i : Same Hs' H'
  o : ∀ a, Hs a = none → H a ≠ none → Hs' a = none
section
variable {K : PySem.W.Frag} {mg : Str → Option Value} {Hs H Hs1 H1 Hs2 H2 : Hp}
theorem Ext.rfl (i : Same Hs H) : Ext Hs H Hs H := ⟨.refl _, .refl _, i, fun _ h _ => h⟩
theorem Ext.trans (a : Ext Hs H Hs1 H1) (b : Ext Hs1 H1 Hs2 H2) : Ext Hs H Hs2 H2 :=
  ⟨a.s.trans b.s, a.h.trans b.h, b.i, fun x h n => b.o x (a.o x h n) fun z => n (a.h.free z)⟩
theorem same_new {H : Hp} {p : Addr} (h : H p = none) (o : HO) : Same H (upd H p o) := fun b u q => by rw [upd_ne (ne_of_none q h)]; exact q
/-- a new object, shared at once -/
theorem Ext.new (e : Ext Hs H Hs1 H1) {p : Addr} (h : H1 p = none) (o : HO) : Ext Hs H (upd Hs1 p o) (upd H1 p o) := by
  have h1 : Hs1 p = none := e.i.free h
  refine ⟨e.s.trans (same_new h1 o), e.h.trans (same_new h o), fun b u q => ?_, fun a h2 n => ?_⟩
  · by_cases z : b = p
    · subst z; rw [upd_same] at q ⊢; exact q
    · rw [upd_ne z] at q ⊢; exact e.i _ _ q
  · have z : a ≠ p := fun z => by subst z; exact n (e.h.free h)
    rw [upd_ne z]; exact e.o a h2 n
/-- a new object, not shared -/
theorem Ext.own (e : Ext Hs H Hs1 H1) {p : Addr} (h : H1 p = none) (o : HO) : Ext Hs H Hs1 (upd H1 p o) :=
  ⟨e.s, e.h.trans (same_new h o), e.i.trans (same_new h o), e.o⟩
/-- a new object of one's own is shared -/
theorem Ext.share (e : Ext Hs H Hs1 H1) {p : Addr} {o : HO} (n : H p = none) (f : Hs1 p = none) (h : H1 p = some o) : Ext Hs H (upd Hs1 p o) H1 := by
  refine ⟨e.s.trans (same_new f o), e.h, fun b u q => ?_, fun a h2 m => ?_⟩
  · by_cases z : b = p
    · subst z; rw [upd_same] at q; rw [h]; exact q
    · rw [upd_ne z] at q; exact e.i _ _ q
  · have z : a ≠ p := fun z => by subst z; exact m n
    rw [upd_ne z]; exact e.o a h2 m
/-- an object of one's own is changed -/
theorem Ext.write (e : Ext Hs H Hs1 H1) {p : Addr} {o : HO} (n : H p = none) (f : Hs1 p = none) : Ext Hs H Hs1 (upd H1 p o) := by
  refine ⟨e.s, fun b u q => ?_, fun b u q => ?_, e.o⟩
  · rw [upd_ne (ne_of_none q n)]; exact e.h _ _ q
  · rw [upd_ne (ne_of_none q f)]; exact e.i _ _ q
end

/-! ### results -/
/-- a value's standing: shared; new and one's own; borrowed -/
inductive Fr where
  | sh | fr | bo
  deriving DecidableEq
inductive Res (α : Type) where
  | ok (a : α)
  | ex (c : Str) (ds : List D)
  | bad
def Res.bind {α β : Type} (r : Res α) (f : α → Res β) : Res β := match r with
  | .ok a => f a
  | .ex c ds => .ex c ds
  | .bad => .bad
@[simp] theorem Res.bind_ok {α β : Type} (a : α) (f : α → Res β) : (Res.ok a).bind f = f a := rfl
@[simp] theorem Res.bind_ex {α β : Type} (c : Str) (ds : List D) (f : α → Res β) : (Res.ex c ds : Res α).bind f = .ex c ds := rfl
@[simp] theorem Res.bind_bad {α β : Type} (f : α → Res β) : (Res.bad : Res α).bind f = .bad := rfl
section
variable (K : PySem.W.Frag) (mg : Str → Option Value)
/-- a value that may be one's own: what lies in it is shared -/
def View (Hs H : Hp) : D → V → Prop
  | .lst ds, v => ∃ a xs, v = .ref a ∧ SqL K H a xs ∧ Rps K mg Hs ds xs
  | .dic ks ds, v => ∃ a es, v = .ref a ∧ H a = some (.dK es) ∧ (es.map fun e => kD e.1) = ks ∧ Rps K mg Hs ds (es.map (·.2))
  | d, v => Rp K mg Hs d v
def Rs (H Hs' H' : Hp) : D × Fr → V → Prop
  | (d, .sh), v => Rp K mg Hs' d v
  | (d, .fr), v => ∃ a o, v = .ref a ∧ H a = none ∧ Hs' a = none ∧ H' a = some o ∧ RpO K mg Hs' d o
  | (d, .bo), v => View K mg Hs' H' d v
/-- the fields that an exception's class of the program's own keeps -/
def fldsOf (c : Str) : List Str := if c = "Barred" then ["part"] else if c = "BadRow" then ["number"] else []
/-- an exception of the program's own -/
def RpX (c : Str) (ds : List D) (Hs : Hp) (cls : Value) (dd : Option Addr) (H : Hp) : Prop :=
  ∃ C, mg c = some (.ref C) ∧ cls = .ref C ∧ ((ds = [] ∧ dd = none) ∨ ∃ dx fs, dd = some dx ∧ H dx = some (.xd fs) ∧ Rps K mg Hs ds (fs.map (·.2)) ∧ fs.map (·.1) = fldsOf c)
end
section
variable {K : PySem.W.Frag} {mg : Str → Option Value} {Hs H Hs1 H1 Hs2 H2 : Hp}
theorem Rp.view {d : D} {v : V} (h : Rp K mg Hs d v) (i : Same Hs H) : View K mg Hs H d v := by
  cases d with
  | lst ds => simp only [Rp] at h; obtain ⟨a, xs, e, q, r⟩ := h; exact ⟨a, xs, e, i.seq q, r⟩
  | dic ks ds => simp only [Rp] at h; obtain ⟨a, es, e, q, k, r⟩ := h; exact ⟨a, es, e, i _ _ q, k, r⟩
  | _ => exact h
theorem RpO.view {d : D} {o : HO} {a : Addr} (h : RpO K mg Hs d o) (e : H a = some o) : View K mg Hs H d (.ref a) := by
  cases d with
  | lst ds => obtain ⟨xs, rfl, r⟩ := h; exact ⟨a, xs, rfl, .of e, r⟩
  | dic ks ds => obtain ⟨es, rfl, k, r⟩ := h; exact ⟨a, es, rfl, e, k, r⟩
  | _ => exact h.elim
theorem View.rp {d : D} {v : V} (h : View K mg Hs H d v) (i : Same Hs H) : Rp K mg H d v := by
  cases d with
  | lst ds => obtain ⟨a, xs, e, q, r⟩ := h; simp only [Rp]; exact ⟨a, xs, e, q, r.mono i⟩
  | dic ks ds => obtain ⟨a, es, e, q, k, r⟩ := h; simp only [Rp]; exact ⟨a, es, e, q, k, r.mono i⟩
  | _ => exact Rp.mono i h
theorem View.grow {d : D} {v : V} (h : View K mg Hs H d v) (s : Same Hs Hs1) (g : Same H H1) : View K mg Hs1 H1 d v := by
  cases d with
  | lst ds => obtain ⟨a, xs, e, q, r⟩ := h; exact ⟨a, xs, e, g.seq q, r.mono s⟩
  | dic ks ds => obtain ⟨a, es, e, q, k, r⟩ := h; exact ⟨a, es, e, g _ _ q, k, r.mono s⟩
  | _ => exact Rp.mono s h
theorem Rs.view {r : D × Fr} {v : V} (h : Rs K mg H Hs1 H1 r v) (i : Same Hs1 H1) : View K mg Hs1 H1 r.1 v := by
  obtain ⟨d, f⟩ := r
  cases f with
  | sh => exact Rp.view h i
  | fr =>
    obtain ⟨a, o, rfl, _, _, e, r⟩ := h
    exact r.view e
  | bo => exact h
/-- any value but a borrowed one is shared -/
theorem Rs.share {r : D × Fr} {v : V} (h : Rs K mg H Hs1 H1 r v) (e : Ext Hs H Hs1 H1) (n : r.2 ≠ .bo) : ∃ Hs2, Ext Hs H Hs2 H1 ∧ Same Hs1 Hs2 ∧ Rp K mg Hs2 r.1 v := by
  obtain ⟨d, f⟩ := r
  cases f with
  | sh => exact ⟨Hs1, e, .refl _, h⟩
  | fr =>
    obtain ⟨a, o, rfl, n1, n2, e1, r⟩ := h
    exact ⟨_, e.share n1 n2 e1, same_new n2 o, (r.mono (same_new n2 o)).rp upd_same⟩
  | bo => exact absurd rfl n
end

/-! ### slots -/
inductive Sl where
  | no | sh (d : D) | ow (d : D)
section
variable (K : PySem.W.Frag) (mg : Str → Option Value)
def SlOk (H0 Hs H : Hp) : Sl → Option V → Prop
  | .no, _ => True
  | .sh d, x => ∃ v, x = some v ∧ Rp K mg Hs d v
  | .ow d, x => ∃ a o, x = some (.ref a) ∧ H0 a = none ∧ Hs a = none ∧ H a = some o ∧ RpO K mg Hs d o
def isOw : Sl → Bool
  | .ow _ => true
  | _ => false
/-- the slots' data ρ, in the state (σ, H), with Hs shared; (Hs0, H0): the entry -/
structure Ok (Hs0 H0 Hs H : Hp) (ρ : List Sl) (σ : L2.St) : Prop where
  ext : Ext Hs0 H0 Hs H
  len : ρ.length = σ.length
  at_ : ∀ (i : Nat) (sl : Sl) (x : Option V), ρ[i]? = some sl → σ[i]? = some x → SlOk K mg H0 Hs H sl x
  apart : ∀ (i j : Nat) (sl sl' : Sl) (a : Addr), i ≠ j → ρ[i]? = some sl → ρ[j]? = some sl' → isOw sl = true → isOw sl' = true → σ[i]? = some (some (.ref a)) → σ[j]? ≠ some (some (.ref a))
end
section
variable {K : PySem.W.Frag} {mg : Str → Option Value} {Hs0 H0 Hs H Hs1 H1 Hs2 H2 : Hp} {ρ : List Sl} {σ : L2.St}
theorem SlOk.ext {sl : Sl} {x : Option V} (h : SlOk K mg H0 Hs H sl x) (e : Ext Hs H Hs1 H1) : SlOk K mg H0 Hs1 H1 sl x := by
  cases sl with
  | no => trivial
  | sh d => obtain ⟨v, rfl, r⟩ := h; exact ⟨v, rfl, r.mono e.s⟩
  | ow d =>
    obtain ⟨a, o, rfl, n0, n1, e1, r⟩ := h
    exact ⟨a, o, rfl, n0, e.o a n1 (by rw [e1]; simp), e.h _ _ e1, r.mono e.s⟩
theorem Ok.grow (h : Ok K mg Hs0 H0 Hs H ρ σ) (e : Ext Hs H Hs1 H1) : Ok K mg Hs0 H0 Hs1 H1 ρ σ :=
  ⟨h.ext.trans e, h.len, fun i sl x h1 h2 => (h.at_ i sl x h1 h2).ext e, h.apart⟩
theorem Ok.same (h : Ok K mg Hs0 H0 Hs H ρ σ) : Same Hs H := h.ext.i
theorem Ok.has (h : Ok K mg Hs0 H0 Hs H ρ σ) {i : Nat} {sl : Sl} (e : ρ[i]? = some sl) : ∃ x, σ[i]? = some x ∧ SlOk K mg H0 Hs H sl x := by
  have hi : i < σ.length := by rw [← h.len]; exact (List.getElem?_eq_some_iff.mp e).1
  exact ⟨σ[i], List.getElem?_eq_getElem hi, h.at_ i sl _ e (List.getElem?_eq_getElem hi)⟩
/-- a slot is set, to something shared or forgotten -/
theorem Ok.set (h : Ok K mg Hs0 H0 Hs H ρ σ) {sl : Sl} {x : Option V} (i : Nat) (q : SlOk K mg H0 Hs H sl x) (n : isOw sl = true → ∀ j sl' a, j ≠ i → ρ[j]? = some sl' → isOw sl' = true → x = some (.ref a) → σ[j]? ≠ some (some (.ref a))) :
    Ok K mg Hs0 H0 Hs H (ρ.set i sl) (σ.set i x) := by
  refine ⟨h.ext, by simpa using h.len, fun j sl' y h1 h2 => ?_, fun j k sl1 sl2 a njk h1 h2 o1 o2 h3 => ?_⟩
  · by_cases z : i = j
    · subst z
      have hi : i < ρ.length := by simpa using (List.getElem?_eq_some_iff.mp h1).1
      rw [List.getElem?_set_self hi] at h1
      rw [List.getElem?_set_self (by rw [← h.len]; exact hi)] at h2
      cases h1; cases h2
      exact q
    · rw [List.getElem?_set_ne z] at h1 h2
      exact h.at_ j sl' y h1 h2
  · by_cases zj : i = j
    · subst zj
      have hi : i < ρ.length := by simpa using (List.getElem?_eq_some_iff.mp h1).1
      rw [List.getElem?_set_self hi] at h1
      rw [List.getElem?_set_self (by rw [← h.len]; exact hi)] at h3
      rw [List.getElem?_set_ne njk] at h2 ⊢
      cases h1; cases h3
      exact n o1 k sl2 a (Ne.symm njk) h2 o2 rfl
    · rw [List.getElem?_set_ne zj] at h1 h3
      by_cases zk : i = k
      · subst zk
        have hi : i < ρ.length := by simpa using (List.getElem?_eq_some_iff.mp h2).1
        rw [List.getElem?_set_self hi] at h2
        rw [List.getElem?_set_self (by rw [← h.len]; exact hi)]
        cases h2
        intro z
        cases z
        exact n o2 j sl1 a njk h1 o1 rfl h3
      · rw [List.getElem?_set_ne zk] at h2 ⊢
        exact h.apart j k sl1 sl2 a njk h1 h2 o1 o2 h3
theorem Ok.setSh (h : Ok K mg Hs0 H0 Hs H ρ σ) {d : D} {v : V} (i : Nat) (q : Rp K mg Hs d v) : Ok K mg Hs0 H0 Hs H (ρ.set i (.sh d)) (σ.set i (some v)) :=
  h.set i ⟨v, rfl, q⟩ (fun z => by cases z)
theorem Ok.setNo (h : Ok K mg Hs0 H0 Hs H ρ σ) (i : Nat) (x : Option V) : Ok K mg Hs0 H0 Hs H (ρ.set i .no) (σ.set i x) :=
  h.set i trivial (fun z => by cases z)
end
end MJ

namespace MJ
open PySem PySem.Spec PyProof.Rows L2

abbrev Calls := Str → List D → Res (D × Bool)
/-- what a law's text asks of the module beside its defs -/
inductive Fact
  | yn (x : Str)
  | exo (x fld : Str)
  | exm (c y : Str) (b : Bool)
  | exf (c : Str)
  | isx (c y : Str) (b : Bool)
  | isv (c : Str) (t : String) (b : Bool)
  | cls (c : Str)
  deriving DecidableEq
structure Cf where
  N : List Str
  sc : Scope
  fs : List Str
  cells : List Str
  d1 : List Str := []
  fx : List Fact := []
  top : Bool := false
  ms : List (Str × Str × Str) := []
def flag : Bool → Fr
  | true => .fr
  | false => .sh
/-- what a call of f is worth -/
def spEv (K : PySem.W.Frag) (mg : Str → Option Value) (call : Calls) (f : Str) : Sp := fun vs H Q E => ∃ Hs ds, Same Hs H ∧ Rps K mg Hs ds vs ∧ match call f ds with
  | .ok (d, b) => ∀ v Hs' H', Ext Hs H Hs' H' → Rs K mg H Hs' H' (d, flag b) v → Q v H'
  | .ex c es => ∀ cls dd Hs' H', Ext Hs H Hs' H' → RpX K mg c es Hs' cls dd H' → E cls dd H'
  | .bad => False
/-- x is the dict {True: 'y', False: 'n'} of the module -/
def YnAt (K : PySem.W.Frag) (mg : Str → Option Value) (x : Str) : Prop := ∃ (a : Addr) (n : Nat) (h1 h2 : Int) (t1 t2 : Tok), mg x = some (.ref a) ∧ K.lookup a = some ⟨.type "dict", none, .dict #[⟨h1, .bool true, .str "y" t1⟩, ⟨h2, .bool false, .str "n" t2⟩] n, #[]⟩ ∧ h1 = 1 ∧ h2 = 0
/-- what the __init__ of an exception's own class keeps: its one argument, as the field fld -/
def spExo (K : PySem.W.Frag) (fld : Str) : Sp := fun vs H Q _ => ∃ (a C : Addr) (v : V), vs = [.ref a, v] ∧ OexC K C ∧ PySem.W.findIn K (.ref C) fld = some none ∧ H a = some (exo a C none) ∧
  ∀ dx, H dx = none → dx ≠ a → Q .non (upd (upd H dx (exd dx [(fld, v)])) a (exo a C (some dx)))
/-- x is an exception's class of the program's own, with such an __init__ -/
def ExoAt (K : PySem.W.Frag) (mg : Str → Option Value) (x fld : Str) : Prop := ∃ (C fI : Addr) (fd : FuncData) (p : Str), mg x = some (.ref C) ∧ OexC K C ∧ PySem.W.findIn K (.ref C) "__init__" = some (some (.ref fI)) ∧
  PySem.W.typeIn K (.ref fI) = some (.type "function") ∧ PySem.W.findIn K (.ref C) fld = some none ∧ Binds K fd ["self", p] [] ∧ ∀ (P : Program) (w : World) (base : Heap), FnOk P w K mg base L2.CX0 1 fI fd ["self", p] (spExo K fld)
/-- an exception of the class c is one that y names (or is not) -/
def ExmAt (K : PySem.W.Frag) (mg : Str → Option Value) (c y : Str) (b : Bool) : Prop := ∃ C Y : Addr, mg c = some (.ref C) ∧ mg y = some (.ref Y) ∧ PySem.W.exmOne K (.ref C) (.ref Y) = some b
/-- what the class of an exception must have, for its fields to be read and its kind to be asked -/
structure ExfC (K : PySem.W.Frag) (C : Addr) : Prop where
  xf : XfC K C
  cl : (PySem.W.clsIn K C).isSome = true
  ha : PySem.W.findIn K (.ref C) "__class__" = some (some (.builtin "object.__class__"))
  hn : PySem.W.specialIn K (.builtin "object.__class__") "__get__" = some (some (.builtin "getset_descriptor.__get__"))
  ht : PySem.W.takesIn K (.builtin "object.__class__") = some true
  hm : PySem.W.mroIn K C (.type "object") = some true
def ExfAt (K : PySem.W.Frag) (mg : Str → Option Value) (c : Str) : Prop := ∃ C : Addr, mg c = some (.ref C) ∧ ExfC K C
/-- an exception of the class c is an instance of y (or is not) -/
def IsxAt (K : PySem.W.Frag) (mg : Str → Option Value) (c y : Str) (b : Bool) : Prop := ∃ C Y : Addr, mg c = some (.ref C) ∧ mg y = some (.ref Y) ∧ PySem.W.kitOne K (.ref C) (.ref Y) = some b
def IsvAt (K : PySem.W.Frag) (mg : Str → Option Value) (c : Str) (t : String) (b : Bool) : Prop := ∃ C : Addr, mg c = some (.ref C) ∧ mg t = none ∧ PySem.W.kitOne K (.ref C) (.type t) = some b
/-- c is a class of the program's own that is made by c(), without an __init__ -/
def ClsAt (K : PySem.W.Frag) (mg : Str → Option Value) (c : Str) : Prop := ∃ C : Addr, mg c = some (.ref C) ∧ PySem.W.makesIn K C = true ∧ PySem.W.keepIn K (.ref C) = true ∧ PySem.W.findIn K (.ref C) "__init__" = some (some (.builtin "object.__init__"))
def Fact.holds (K : PySem.W.Frag) (mg : Str → Option Value) : Fact → Prop
  | .yn x => YnAt K mg x
  | .exo x fld => ExoAt K mg x fld
  | .exm c y b => ExmAt K mg c y b
  | .exf c => ExfAt K mg c
  | .isx c y b => IsxAt K mg c y b
  | .isv c t b => IsvAt K mg c t b
  | .cls c => ClsAt K mg c
/-- the built-ins' names: none of them is the program's own -/
def bnames : List Str := ["len", "range", "tuple", "list", "sorted", "set", "min", "max", "sum", "abs", "int", "str", "bool", "isinstance", "enumerate", "zip", "reversed", "dict"]
structure Good (X : Cx) (W : WX) (cf : Cf) (call : Calls) : Prop where
  mark : call "!" [] ≠ .bad → Room 2 X.A
  meth : ∀ p ∈ cf.ms, ∃ k a fd ps C, X.mg p.1 = some (.ref C) ∧ Cls X.K C ∧ Meth X.K C p.2.1 a ∧ FnOk X.prog X.w X.K X.mg X.base (L2.CX X.prog X.w) k a fd ps (spEv X.K X.mg call p.2.2) ∧ Room k X.A ∧ Binds X.K fd ps []
  top : cf.top = true → X.stack = X.env :: X.outer ∧ X.env.frame = some X.env.locals
  fx : ∀ φ ∈ cf.fx, φ.holds X.K X.mg
  hN : X.N = cf.N
  nd : cf.N.Nodup
  sc : X.env.scope = cf.sc
  calm : X.calm = true
  units : X.A.units + 100 < cLine
  blt : ∀ x ∈ bnames, X.mg x = none
  tk : Takes X W
  kind : X.env.scope.kind = .function
  fn : ∀ x ∈ cf.cells, X.fn x = true
  call1 : ∀ f ∈ cf.d1, ∃ k a fd ps ds, FnOk X.prog X.w X.K X.mg X.base (L2.CX X.prog X.w) k a fd ps (spEv X.K X.mg call f) ∧ Room k X.A ∧ X.mg f = some (.ref a) ∧ PySem.W.keepIn X.K (.ref a) = true ∧ Vals [V.non] ds ∧ Binds X.K fd ps ds
  call : ∀ f ∈ cf.fs, ∃ k a fd ps, FnOk X.prog X.w X.K X.mg X.base (L2.CX X.prog X.w) k a fd ps (spEv X.K X.mg call f) ∧ Room k X.A ∧ X.mg f = some (.ref a) ∧ PySem.W.keepIn X.K (.ref a) = true ∧ Binds X.K fd ps []

section
variable (X : Cx) (W : WX)
def PostE (Hs H : Hp) (σ : L2.St) (Q : VK) : Res (D × Fr) → Prop
  | .ok r => ∀ v Hs' H', Ext Hs H Hs' H' → Rs X.K X.mg H Hs' H' r v → Q v H'
  | .ex c es => ∀ cls dd Hs' H', Ext Hs H Hs' H' → RpX X.K X.mg c es Hs' cls dd H' → W cls dd σ H'
  | .bad => False
def ArgP (b : Bool) (Hs H : Hp) (d : D) (v : V) : Prop := if b = true then View X.K X.mg Hs H d v else Rp X.K X.mg Hs d v
def PostD (b : Bool) (Hs H : Hp) (σ : L2.St) (Q : VK) : Res D → Prop
  | .ok d => ∀ v Hs' H', Ext Hs H Hs' H' → ArgP X b Hs' H' d v → Q v H'
  | .ex c es => ∀ cls dd Hs' H', Ext Hs H Hs' H' → RpX X.K X.mg c es Hs' cls dd H' → W cls dd σ H'
  | .bad => False
inductive ArgPs (b : Bool) (Hs H : Hp) : List D → List V → Prop
  | nil : ArgPs b Hs H [] []
  | cons {d : D} {ds : List D} {v : V} {vs : List V} : ArgP X b Hs H d v → ArgPs b Hs H ds vs → ArgPs b Hs H (d :: ds) (v :: vs)
def PostA (b : Bool) (Hs H : Hp) (σ : L2.St) (Q : List V → Hp → Prop) : Res (List D) → Prop
  | .ok ds => ∀ vs Hs' H', Ext Hs H Hs' H' → ArgPs X b Hs' H' ds vs → Q vs H'
  | .ex c es => ∀ cls dd Hs' H', Ext Hs H Hs' H' → RpX X.K X.mg c es Hs' cls dd H' → W cls dd σ H'
  | .bad => False
abbrev OK (Hs0 H0 Hs H : Hp) (ρ : List Sl) (σ : L2.St) : Prop := Ok X.K X.mg Hs0 H0 Hs H ρ σ
def JE (x : Expr) (f : List Sl → Res (D × Fr)) : Prop :=
  ∃ t, PE X x t ∧ ∀ Hs0 H0 Hs H ρ σ Q, OK X Hs0 H0 Hs H ρ σ → PostE X W Hs H σ Q (f ρ) → t σ H Q
def JD (b : Bool) (x : Expr) (f : List Sl → Res D) : Prop :=
  ∃ t, PE X x t ∧ ∀ Hs0 H0 Hs H ρ σ Q, OK X Hs0 H0 Hs H ρ σ → PostD X W b Hs H σ Q (f ρ) → t σ H Q
def JA (b : Bool) (xs : List Expr) (f : List Sl → Res (List D)) : Prop :=
  ∃ t, PA X xs t ∧ ∀ Hs0 H0 Hs H ρ σ Q, OK X Hs0 H0 Hs H ρ σ → PostA X W b Hs H σ Q (f ρ) → t σ H Q
end
def argR (b : Bool) (r : Res (D × Fr)) : Res D := r.bind fun p => if b = true ∨ p.2 ≠ .bo then .ok p.1 else .bad
section
variable {X : Cx} {W : WX} {Hs0 H0 Hs H Hs1 H1 Hs2 H2 : Hp} {σ : L2.St}
theorem ArgP.grow {b : Bool} {d : D} {v : V} (h : ArgP X b Hs H d v) (e : Ext Hs H Hs1 H1) : ArgP X b Hs1 H1 d v := by
  unfold ArgP at h ⊢
  cases b with
  | true => simp only [if_true] at h ⊢; exact h.grow e.s e.h
  | false => simp only [Bool.false_eq_true, if_false] at h ⊢; exact h.mono e.s
theorem ArgP.view {b : Bool} {d : D} {v : V} (h : ArgP X b Hs H d v) (i : Same Hs H) : View X.K X.mg Hs H d v := by
  unfold ArgP at h
  cases b with
  | true => simpa using h
  | false => simp only [Bool.false_eq_true, if_false] at h; exact h.view i
theorem ArgP.int {b : Bool} {i : Int} {v : V} (h : ArgP X b Hs H (.int i) v) : v = .int i := by
  cases b <;> simpa [ArgP, View, Rp] using h
theorem ArgP.bl {b k : Bool} {v : V} (h : ArgP X b Hs H (.bl k) v) : v = .bl k := by
  cases b <;> simpa [ArgP, View, Rp] using h
theorem ArgP.str {b : Bool} {z : Str} {v : V} (h : ArgP X b Hs H (.str z) v) : v = .str z := by
  cases b <;> simpa [ArgP, View, Rp] using h
theorem ArgP.non {b : Bool} {v : V} (h : ArgP X b Hs H .non v) : v = .non := by
  cases b <;> simpa [ArgP, View, Rp] using h
theorem ArgP.tup {b : Bool} {ds : List D} {v : V} (h : ArgP X b Hs H (.tup ds) v) : ∃ a xs, v = .ref a ∧ SqT X.K Hs a xs ∧ Rps X.K X.mg Hs ds xs := by
  cases b <;> simpa [ArgP, View, Rp] using h
theorem ArgP.lst {b : Bool} {ds : List D} {v : V} (h : ArgP X b Hs H (.lst ds) v) (i : Same Hs H) : ∃ a xs, v = .ref a ∧ SqL X.K H a xs ∧ Rps X.K X.mg Hs ds xs := h.view i
theorem ArgP.sh {d : D} {v : V} (h : ArgP X false Hs H d v) : Rp X.K X.mg Hs d v := by simpa [ArgP] using h
theorem ArgPs.grow {b : Bool} : ∀ {ds : List D} {vs : List V}, ArgPs X b Hs H ds vs → Ext Hs H Hs1 H1 → ArgPs X b Hs1 H1 ds vs
  | _, _, .nil, _ => .nil
  | _, _, .cons h t, e => .cons (h.grow e) (t.grow e)
theorem ArgPs.sh : ∀ {ds : List D} {vs : List V}, ArgPs X false Hs H ds vs → Rps X.K X.mg Hs ds vs
  | _, _, .nil => .nil
  | _, _, .cons h t => .cons h.sh t.sh
/-- the posts, from the state behind a step -/
theorem PostE.back {Q : VK} {r : Res (D × Fr)} (h : PostE X W Hs H σ Q r) (e : Ext Hs H Hs1 H1) : PostE X W Hs1 H1 σ Q r := by
  cases r with
  | ok r =>
    intro v Hs' H' e' q
    refine h v Hs' H' (e.trans e') ?_
    obtain ⟨d, f⟩ := r
    cases f with
    | fr => obtain ⟨a, o, e1, n, n2, e2, r⟩ := q; exact ⟨a, o, e1, e.h.free n, n2, e2, r⟩
    | _ => exact q
  | ex c es => exact fun cls dd Hs' H' e' q => h cls dd Hs' H' (e.trans e') q
  | bad => exact h
theorem PostA.back {b : Bool} {Q : List V → Hp → Prop} {r : Res (List D)} (h : PostA X W b Hs H σ Q r) (e : Ext Hs H Hs1 H1) : PostA X W b Hs1 H1 σ Q r := by
  cases r with
  | ok r => exact fun v Hs' H' e' q => h v Hs' H' (e.trans e') q
  | ex c es => exact fun cls dd Hs' H' e' q => h cls dd Hs' H' (e.trans e') q
  | bad => exact h
theorem JE.arg {x : Expr} {f : List Sl → Res (D × Fr)} (j : JE X W x f) (b : Bool) : JD X W b x (fun ρ => argR b (f ρ)) := by
  obtain ⟨t, p, q⟩ := j
  refine ⟨t, p, fun Hs0 H0 Hs H ρ σ Q ok h => q Hs0 H0 Hs H ρ σ Q ok ?_⟩
  replace h : PostD X W b Hs H σ Q (argR b (f ρ)) := h
  cases e : f ρ with
  | ex c es => rw [e] at h; exact h
  | bad => rw [e] at h; exact h
  | ok r =>
    rw [e] at h
    intro v Hs' H' ex rs
    simp only [argR, Res.bind_ok] at h
    by_cases c : b = true ∨ r.2 ≠ .bo
    · rw [if_pos c] at h
      cases b with
      | true => exact h v Hs' H' ex (by simpa [ArgP] using rs.view ex.i)
      | false =>
        obtain ⟨Hs2, e2, s2, r2⟩ := rs.share ex (by simpa using c)
        exact h v Hs2 H' e2 (by simpa [ArgP] using r2)
    · rw [if_neg c] at h; exact h.elim
/-- two arguments, then an operation -/
theorem seq2 {b1 b2 : Bool} {ta tb : TE} {fa fb : List Sl → Res D} {g : D → D → Res (D × Fr)} {ρ : List Sl} {Q : VK} {R : V → V → Hp → Prop}
    (qa : ∀ Hs0 H0 Hs H ρ σ Q, OK X Hs0 H0 Hs H ρ σ → PostD X W b1 Hs H σ Q (fa ρ) → ta σ H Q)
    (qb : ∀ Hs0 H0 Hs H ρ σ Q, OK X Hs0 H0 Hs H ρ σ → PostD X W b2 Hs H σ Q (fb ρ) → tb σ H Q)
    (ok : OK X Hs0 H0 Hs H ρ σ) (h : PostE X W Hs H σ Q ((fa ρ).bind fun d => (fb ρ).bind fun e => g d e))
    (hR : ∀ d e x y Hs' H', Ext Hs H Hs' H' → ArgP X b1 Hs' H' d x → ArgP X b2 Hs' H' e y → PostE X W Hs' H' σ Q (g d e) → R x y H') :
    ta σ H fun x H1 => tb σ H1 fun y H2 => R x y H2 := by
  refine qa Hs0 H0 Hs H ρ σ _ ok ?_
  cases ea : fa ρ with
  | bad => rw [ea] at h; exact h
  | ex c es => rw [ea] at h; exact h
  | ok d =>
    rw [ea, Res.bind_ok] at h
    intro x Hs1 H1 e1 p1
    refine qb Hs0 H0 Hs1 H1 ρ σ _ (ok.grow e1) ?_
    cases eb : fb ρ with
    | bad => rw [eb] at h; exact h
    | ex c es => rw [eb] at h; exact fun cls dd Hs' H' e' q => h cls dd Hs' H' (e1.trans e') q
    | ok e =>
      rw [eb, Res.bind_ok] at h
      intro y Hs2 H2 e2 p2
      exact hR d e x y Hs2 H2 (e1.trans e2) (p1.grow e2) p2 (h.back (e1.trans e2))
/-- one argument, then an operation -/
theorem seq1 {b1 : Bool} {ta : TE} {fa : List Sl → Res D} {g : D → Res (D × Fr)} {ρ : List Sl} {Q : VK} {R : V → Hp → Prop}
    (qa : ∀ Hs0 H0 Hs H ρ σ Q, OK X Hs0 H0 Hs H ρ σ → PostD X W b1 Hs H σ Q (fa ρ) → ta σ H Q)
    (ok : OK X Hs0 H0 Hs H ρ σ) (h : PostE X W Hs H σ Q ((fa ρ).bind g))
    (hR : ∀ d x Hs' H', Ext Hs H Hs' H' → ArgP X b1 Hs' H' d x → PostE X W Hs' H' σ Q (g d) → R x H') :
    ta σ H fun x H1 => R x H1 := by
  refine qa Hs0 H0 Hs H ρ σ _ ok ?_
  cases ea : fa ρ with
  | bad => rw [ea] at h; exact h
  | ex c es => rw [ea] at h; exact h
  | ok d =>
    rw [ea, Res.bind_ok] at h
    intro x Hs1 H1 e1 p1
    exact hR d x Hs1 H1 e1 p1 (h.back e1)
end

/-! ### operations by value -/
/-- g, on data, says what r wants -/
def Op2 (X : Cx) (b1 b2 : Bool) (r : R2) (g : D → D → Res (D × Fr)) : Prop :=
  ∀ (W : WX) Hs H σ d e x y Q, Same Hs H → ArgP X b1 Hs H d x → ArgP X b2 Hs H e y → PostE X W Hs H σ Q (g d e) → r x y H Q
theorem je_op {X : Cx} {W : WX} {b1 b2 : Bool} {op : Operator} {r : R2} {g : D → D → Res (D × Fr)} {a b : Expr} {pos : Pos} {fa fb : List Sl → Res (D × Fr)} (ho : OpR X (binaryOp op) r) (hg : Op2 X b1 b2 r g) (ja : JE X W a fa) (jb : JE X W b fb) :
    JE X W (.BinOp a op b pos) fun ρ => (argR b1 (fa ρ)).bind fun d => (argR b2 (fb ρ)).bind fun e => g d e := by
  obtain ⟨ta, pa, qa⟩ := ja.arg b1
  obtain ⟨tb, pb, qb⟩ := jb.arg b2
  refine ⟨_, pe_op ho pa pb, fun Hs0 H0 Hs H ρ σ Q ok h => ?_⟩
  exact seq2 qa qb ok h fun d e x y Hs' H' ex p1 p2 h' => hg W Hs' H' σ d e x y Q ex.i p1 p2 h'
theorem je_cmp {X : Cx} {W : WX} {b1 b2 : Bool} {op : CmpOp} {r : R2} {g : D → D → Res (D × Fr)} {a b : Expr} {pos : Pos} {fa fb : List Sl → Res (D × Fr)} (ho : OpR X (compareOp op) r) (hg : Op2 X b1 b2 r g) (ja : JE X W a fa) (jb : JE X W b fb) (hm : behindInMarks op b = false) :
    JE X W (.Compare a [op] [b] pos) fun ρ => (argR b1 (fa ρ)).bind fun d => (argR b2 (fb ρ)).bind fun e => g d e := by
  obtain ⟨ta, pa, qa⟩ := ja.arg b1
  obtain ⟨tb, pb, qb⟩ := jb.arg b2
  refine ⟨_, pe_cmpR ho pa pb hm, fun Hs0 H0 Hs H ρ σ Q ok h => ?_⟩
  exact seq2 qa qb ok h fun d e x y Hs' H' ex p1 p2 h' => hg W Hs' H' σ d e x y Q ex.i p1 p2 h'
theorem je_ix {X : Cx} {W : WX} {b1 b2 : Bool} {r : R2} {g : D → D → Res (D × Fr)} {a b : Expr} {pos : Pos} {fa fb : List Sl → Res (D × Fr)} (ho : IxR X r) (hg : Op2 X b1 b2 r g) (ja : JE X W a fa) (jb : JE X W b fb) (hs : PlainIx b) :
    JE X W (.Subscript a b pos) fun ρ => (argR b1 (fa ρ)).bind fun d => (argR b2 (fb ρ)).bind fun e => g d e := by
  obtain ⟨ta, pa, qa⟩ := ja.arg b1
  obtain ⟨tb, pb, qb⟩ := jb.arg b2
  refine ⟨_, pe_ix ho pa pb hs, fun Hs0 H0 Hs H ρ σ Q ok h => ?_⟩
  exact seq2 qa qb ok h fun d e x y Hs' H' ex p1 p2 h' => hg W Hs' H' σ d e x y Q ex.i p1 p2 h'

/-! ### argument lists -/
def noStar : Expr → Bool
  | .Starred _ _ => false
  | _ => true
theorem starEach_cons {e : Expr} {es : List Expr} {env : Env} (h : noStar e = true) : starEach (e :: es) env = (false, eval e env) :: starEach es env := by
  cases e <;> first | rfl | (simp [noStar] at h)
theorem no_star {env : Env} {pos : Pos} : ∀ {es : List Expr}, es.all noStar = true → (backTo pos (starEach es env)).any (·.1) = false
  | [], _ => rfl
  | e :: es, h => by
    rw [List.all_cons, Bool.and_eq_true] at h
    rw [starEach_cons h.1]
    show (false || (backTo pos (starEach es env)).any (·.1)) = false
    rw [no_star h.2]; rfl
theorem ja_nil {X : Cx} {W : WX} {b : Bool} : JA X W b [] fun _ => .ok [] :=
  ⟨tNil, pa_nil, fun Hs0 H0 Hs H ρ σ Q ok h => h [] Hs H (.rfl ok.same) .nil⟩
theorem ja_cons {X : Cx} {W : WX} {b : Bool} {x : Expr} {xs : List Expr} {f : List Sl → Res D} {fs : List Sl → Res (List D)} (h1 : JD X W b x f) (h2 : JA X W b xs fs) (hs : noStar x = true) :
    JA X W b (x :: xs) fun ρ => (f ρ).bind fun d => (fs ρ).bind fun ds => .ok (d :: ds) := by
  obtain ⟨ta, pa, qa⟩ := h1
  obtain ⟨tb, pb, qb⟩ := h2
  refine ⟨_, pa_cons pa pb (starEach_cons hs), fun Hs0 H0 Hs H ρ σ Q ok h => ?_⟩
  replace h : PostA X W b Hs H σ Q ((f ρ).bind fun d => (fs ρ).bind fun ds => .ok (d :: ds)) := h
  refine qa Hs0 H0 Hs H ρ σ _ ok ?_
  cases ea : f ρ with
  | bad => rw [ea] at h; exact h
  | ex c es => rw [ea] at h; exact h
  | ok d =>
    rw [ea, Res.bind_ok] at h
    intro v Hs1 H1 e1 p1
    refine qb Hs0 H0 Hs1 H1 ρ σ _ (ok.grow e1) ?_
    cases eb : fs ρ with
    | bad => rw [eb] at h; exact h
    | ex c es => rw [eb] at h; exact fun cls dd Hs' H' e' q => h cls dd Hs' H' (e1.trans e') q
    | ok ds =>
      rw [eb, Res.bind_ok] at h
      exact fun vs Hs2 H2 e2 p2 => h (v :: vs) Hs2 H2 (e1.trans e2) (.cons (p1.grow e2) p2)
/-- the arguments, then something by them -/
theorem seqA {X : Cx} {W : WX} {Hs0 H0 Hs H : Hp} {σ : L2.St} {b : Bool} {ta : TA} {fa : List Sl → Res (List D)} {g : List D → Res (D × Fr)} {ρ : List Sl} {Q : VK} {R : List V → Hp → Prop}
    (qa : ∀ Hs0 H0 Hs H ρ σ Q, OK X Hs0 H0 Hs H ρ σ → PostA X W b Hs H σ Q (fa ρ) → ta σ H Q)
    (ok : OK X Hs0 H0 Hs H ρ σ) (h : PostE X W Hs H σ Q ((fa ρ).bind g))
    (hR : ∀ ds vs Hs' H', Ext Hs H Hs' H' → ArgPs X b Hs' H' ds vs → PostE X W Hs' H' σ Q (g ds) → R vs H') :
    ta σ H fun x H1 => R x H1 := by
  refine qa Hs0 H0 Hs H ρ σ _ ok ?_
  cases ea : fa ρ with
  | bad => rw [ea] at h; exact h
  | ex c es => rw [ea] at h; exact h
  | ok d =>
    rw [ea, Res.bind_ok] at h
    intro x Hs1 H1 e1 p1
    exact hR d x Hs1 H1 e1 p1 (h.back e1)
def OpN (X : Cx) (b : Bool) (r : List V → Hp → VK → Prop) (g : List D → Res (D × Fr)) : Prop :=
  ∀ (W : WX) Hs H σ ds vs Q, Same Hs H → ArgPs X b Hs H ds vs → PostE X W Hs H σ Q (g ds) → r vs H Q
theorem Vis_of {sc : Scope} {x : Str} (h : (sc.names.lookup x == some .local || sc.names.lookup x == some .cell || sc.names.lookup x == some .free) = true) : Vis sc x := by
  unfold Vis
  simp only [Bool.or_eq_true, beq_iff_eq] at h
  rcases h with (h | h) | h
  · exact .inl h
  · exact .inr (.inl h)
  · exact .inr (.inr h)
end MJ

namespace MJ
open PySem PySem.Spec PyProof.Rows L2

/-- an expression: what it is worth, which text it is, and that this text is worth it -/
structure CE where
  ev : Calls → List Sl → Res (D × Fr)
  chk : Cf → Expr → Bool
  star : ∀ cf x, chk cf x = true → noStar x = true
  ok : ∀ {X W cf call}, Good X W cf call → ∀ x, chk cf x = true → JE X W x (ev call)
structure CEs where
  ev : Bool → Calls → List Sl → Res (List D)
  chk : Cf → List Expr → Bool
  star : ∀ cf x, chk cf x = true → x.all noStar = true
  ok : ∀ {X W cf call}, Good X W cf call → ∀ b x, chk cf x = true → JA X W b x (ev b call)
def CE.arg (e : CE) (b : Bool) (call : Calls) (ρ : List Sl) : Res D := argR b (e.ev call ρ)
def CEs.nil : CEs where
  ev := fun _ _ _ => .ok []
  chk := fun _ x => x.isEmpty
  star := fun _ x h => by cases x with | nil => rfl | cons => cases h
  ok := fun _ b x h => by cases x with | nil => exact ja_nil | cons => cases h
def CEs.cons (e : CE) (es : CEs) : CEs where
  ev := fun b call ρ => (e.arg b call ρ).bind fun d => (es.ev b call ρ).bind fun ds => .ok (d :: ds)
  chk := fun cf x => match x with
    | a :: r => e.chk cf a && es.chk cf r
    | _ => false
  star := fun cf x h => by
    cases x with
    | nil => cases h
    | cons a r =>
      simp only [Bool.and_eq_true] at h
      rw [List.all_cons, e.star cf a h.1, es.star cf r h.2]; rfl
  ok := fun g b x h => by
    cases x with
    | nil => cases h
    | cons a r =>
      simp only [Bool.and_eq_true] at h
      exact ja_cons ((e.ok g a h.1).arg b) (es.ok g b r h.2) (e.star _ a h.1)

/-! ### names, constants -/
def slD : Sl → Res (D × Fr)
  | .sh d => .ok (d, .sh)
  | .ow d => .ok (d, .bo)
  | .no => .bad
def chkVar (cf : Cf) (i : Nat) (x : Str) : Bool := decide (cf.N[i]? = some x) && (cf.sc.names.lookup x == some .local || cf.sc.names.lookup x == some .cell || cf.sc.names.lookup x == some .free) && !(x == ("__debug__" : Str)) && !(x == ("__classdict__" : Str))
def CE.var (i : Nat) : CE where
  ev := fun _ ρ => slD (ρ.getD i .no)
  chk := fun cf x => match x with
    | .Name x _ => chkVar cf i x
    | _ => false
  star := fun cf x h => by cases x <;> first | rfl | cases h
  ok := fun {X W cf call} g x h => by
    cases x with
    | Name x pos =>
      simp only [chkVar, Bool.and_eq_true, decide_eq_true_eq, Bool.not_eq_true'] at h
      obtain ⟨⟨⟨h1, h2⟩, h3⟩, h4⟩ := h
      refine ⟨_, pe_var (X := X) (i := i) (by rw [g.hN]; exact h1) (by rw [g.sc]; exact Vis_of h2) h3 h4, fun Hs0 H0 Hs H ρ σ Q ok h => ?_⟩
      replace h : PostE X W Hs H σ Q (slD (ρ.getD i .no)) := h
      cases e : ρ[i]? with
      | none => rw [List.getD_eq_getElem?_getD, e] at h; exact h.elim
      | some sl =>
        rw [List.getD_eq_getElem?_getD, e] at h
        obtain ⟨y, ey, oy⟩ := ok.has e
        cases sl with
        | no => exact h.elim
        | sh d =>
          obtain ⟨v, rfl, r⟩ := oy
          exact ⟨v, ey, h v Hs H (.rfl ok.same) r⟩
        | ow d =>
          obtain ⟨a, o, rfl, n0, n1, e1, r⟩ := oy
          exact ⟨_, ey, h _ Hs H (.rfl ok.same) (r.view e1)⟩
    | _ => cases h
def chkC (c : Const) : Expr → Bool
  | .Constant k _ _ => decide (k = c)
  | _ => false
def CE.int (n : Int) : CE where
  ev := fun _ _ => .ok (.int n, .sh)
  chk := fun _ x => chkC (.int n) x
  star := fun cf x h => by cases x <;> first | rfl | cases h
  ok := fun {X W cf call} g x h => by
    cases x with
    | Constant k j pos =>
      simp only [chkC, decide_eq_true_eq] at h
      subst h
      exact ⟨_, pe_int, fun Hs0 H0 Hs H ρ σ Q ok h => h _ Hs H (.rfl ok.same) (by simp [Rs, Rp])⟩
    | _ => cases h
def CE.bl (b : Bool) : CE where
  ev := fun _ _ => .ok (.bl b, .sh)
  chk := fun _ x => chkC (.bool b) x
  star := fun cf x h => by cases x <;> first | rfl | cases h
  ok := fun {X W cf call} g x h => by
    cases x with
    | Constant k j pos =>
      simp only [chkC, decide_eq_true_eq] at h
      subst h
      exact ⟨_, pe_bl, fun Hs0 H0 Hs H ρ σ Q ok h => h _ Hs H (.rfl ok.same) (by simp [Rs, Rp])⟩
    | _ => cases h
def CE.non : CE where
  ev := fun _ _ => .ok (.non, .sh)
  chk := fun _ x => chkC .none x
  star := fun cf x h => by cases x <;> first | rfl | cases h
  ok := fun {X W cf call} g x h => by
    cases x with
    | Constant k j pos =>
      simp only [chkC, decide_eq_true_eq] at h
      subst h
      exact ⟨_, pe_non, fun Hs0 H0 Hs H ρ σ Q ok h => h _ Hs H (.rfl ok.same) (by simp [Rs, Rp])⟩
    | _ => cases h
def CE.str (s : Str) : CE where
  ev := fun _ _ => .ok (.str s, .sh)
  chk := fun _ x => chkC (.str s) x
  star := fun cf x h => by cases x <;> first | rfl | cases h
  ok := fun {X W cf call} g x h => by
    cases x with
    | Constant k j pos =>
      simp only [chkC, decide_eq_true_eq] at h
      subst h
      exact ⟨_, pe_str, fun Hs0 H0 Hs H ρ σ Q ok h => h _ Hs H (.rfl ok.same) (by simp [Rs, Rp])⟩
    | _ => cases h

/-! ### operators, comparisons, subscripts, by a rule on values -/
/-- a rule of two values: its data's function, and why -/
structure B2 (sem : Value → Value → Sem Value) where
  b1 : Bool
  b2 : Bool
  g : D → D → Res (D × Fr)
  ok : ∀ X : Cx, X.calm = true → X.A.units + 100 < cLine → ∃ r, OpR X sem r ∧ Op2 X b1 b2 r g
def B2.run {sem : Value → Value → Sem Value} (o : B2 sem) (a b : CE) (call : Calls) (ρ : List Sl) : Res (D × Fr) := (a.arg o.b1 call ρ).bind fun d => (b.arg o.b2 call ρ).bind fun e => o.g d e
def CE.op (op : Operator) (o : B2 (binaryOp op)) (a b : CE) : CE where
  ev := o.run a b
  chk := fun cf x => match x with
    | .BinOp l p r _ => decide (p = op) && a.chk cf l && b.chk cf r
    | _ => false
  star := fun cf x h => by cases x <;> first | rfl | cases h
  ok := fun {X W cf call} g x h => by
    cases x with
    | BinOp l p r pos =>
      simp only [Bool.and_eq_true, decide_eq_true_eq] at h
      obtain ⟨⟨rfl, h1⟩, h2⟩ := h
      obtain ⟨r, ho, hg⟩ := o.ok X g.calm g.units
      exact je_op ho hg (a.ok g l h1) (b.ok g _ h2)
    | _ => cases h
def noSet : Expr → Bool
  | .Set _ _ _ => false
  | _ => true
theorem noSet_mark {op : CmpOp} {e : Expr} (h : noSet e = true) : behindInMarks op e = false := by
  cases e <;> first | rfl | (simp [noSet] at h)
def CE.cmp (op : CmpOp) (o : B2 (compareOp op)) (a b : CE) : CE where
  ev := o.run a b
  chk := fun cf x => match x with
    | .Compare l [p] [r] _ => decide (p = op) && a.chk cf l && b.chk cf r && noSet r
    | _ => false
  star := fun cf x h => by cases x <;> first | rfl | cases h
  ok := fun {X W cf call} g x h => by
    split at h
    · simp only [Bool.and_eq_true, decide_eq_true_eq] at h
      obtain ⟨⟨⟨rfl, h1⟩, h2⟩, h3⟩ := h
      obtain ⟨r, ho, hg⟩ := o.ok X g.calm g.units
      exact je_cmp ho hg (a.ok g _ h1) (b.ok g _ h2) (noSet_mark h3)
    · cases h
structure I2 where
  b1 : Bool
  b2 : Bool
  g : D → D → Res (D × Fr)
  ok : ∀ X : Cx, X.calm = true → X.A.units + 100 < cLine → ∃ r, IxR X r ∧ Op2 X b1 b2 r g
def I2.run (o : I2) (a b : CE) (call : Calls) (ρ : List Sl) : Res (D × Fr) := (a.arg o.b1 call ρ).bind fun d => (b.arg o.b2 call ρ).bind fun e => o.g d e
def noSlice : Expr → Bool
  | .Slice _ _ _ _ => false
  | _ => true
theorem noSlice_ix {e : Expr} (h : noSlice e = true) : PlainIx e := by
  intro o i
  cases e <;> first | rfl | (simp [noSlice] at h)
def CE.ix (o : I2) (a b : CE) : CE where
  ev := o.run a b
  chk := fun cf x => match x with
    | .Subscript l r _ => a.chk cf l && b.chk cf r && noSlice r
    | _ => false
  star := fun cf x h => by cases x <;> first | rfl | cases h
  ok := fun {X W cf call} g x h => by
    split at h
    · simp only [Bool.and_eq_true, decide_eq_true_eq] at h
      obtain ⟨⟨h1, h2⟩, h3⟩ := h
      obtain ⟨r, ho, hg⟩ := o.ok X g.calm g.units
      exact je_ix ho hg (a.ok g _ h1) (b.ok g _ h2) (noSlice_ix h3)
    · cases h
/-- -a -/
def CE.neg (a : CE) : CE where
  ev := fun call ρ => (a.arg true call ρ).bind fun d => match d with
    | .int i => .ok (.int (-i), .sh)
    | _ => .bad
  chk := fun cf x => match x with
    | .UnaryOp .USub l _ => a.chk cf l
    | _ => false
  star := fun cf x h => by cases x <;> first | rfl | cases h
  ok := fun {X W cf call} g x h => by
    split at h
    · obtain ⟨ta, pa, qa⟩ := (a.ok g _ h).arg true
      refine ⟨_, pe_un un_neg pa, fun Hs0 H0 Hs H ρ σ Q ok h => ?_⟩
      refine seq1 (ta := ta) (R := fun x H1 => rU (fun i => .int (-i)) x H1 Q) (g := fun d => match d with
        | .int i => .ok (.int (-i), .sh)
        | _ => .bad) qa ok h fun d x Hs' H' e p h' => ?_
      cases d with
      | int i => exact ⟨i, by simpa [ArgP, View, Rp] using p, h' _ Hs' H' (.rfl e.i) (by simp [Rs, Rp])⟩
      | _ => exact h'.elim
    · cases h

/-! ### displays -/
def CE.tup (es : CEs) : CE where
  ev := fun call ρ => (es.ev false call ρ).bind fun ds => if ds.length ≤ sizeLine then .ok (.tup ds, .sh) else .bad
  chk := fun cf x => match x with
    | .Tuple l _ _ => es.chk cf l
    | _ => false
  star := fun cf x h => by cases x <;> first | rfl | cases h
  ok := fun {X W cf call} g x h => by
    split at h
    · obtain ⟨t, pa, qa⟩ := es.ok g false _ h
      refine ⟨_, pe_tup pa, fun Hs0 H0 Hs H ρ σ Q ok h => ?_⟩
      refine seqA (g := fun ds => if ds.length ≤ sizeLine then .ok (.tup ds, .sh) else .bad) qa ok h fun ds vs Hs' H' e p h' => ?_
      have rs := p.sh
      by_cases c : ds.length ≤ sizeLine
      · rw [if_pos c] at h'
        refine ⟨by rw [rs.len]; exact c, fun q nq => ?_⟩
        have n1 := e.i.free nq
        refine h' _ (upd Hs' q (.tup vs)) _ ((Ext.rfl e.i).new nq _) ?_
        show Rp _ _ _ (.tup ds) _
        simp only [Rp]
        exact ⟨q, vs, rfl, .of upd_same, rs.mono (same_new n1 _)⟩
      · rw [if_neg c] at h'; exact h'.elim
    · cases h
def CE.lst (es : CEs) : CE where
  ev := fun call ρ => (es.ev false call ρ).bind fun ds => if ds.length ≤ sizeLine then .ok (.lst ds, .fr) else .bad
  chk := fun cf x => match x with
    | .List l _ => es.chk cf l
    | _ => false
  star := fun cf x h => by cases x <;> first | rfl | cases h
  ok := fun {X W cf call} g x h => by
    split at h
    · obtain ⟨t, pa, qa⟩ := es.ok g false _ h
      refine ⟨_, pe_lst pa, fun Hs0 H0 Hs H ρ σ Q ok h => ?_⟩
      refine seqA (g := fun ds => if ds.length ≤ sizeLine then .ok (.lst ds, .fr) else .bad) qa ok h fun ds vs Hs' H' e p h' => ?_
      have rs := p.sh
      by_cases c : ds.length ≤ sizeLine
      · rw [if_pos c] at h'
        refine ⟨by rw [rs.len]; exact c, fun q nq => ?_⟩
        exact h' _ Hs' _ ((Ext.rfl e.i).own nq _) ⟨q, _, rfl, nq, e.i.free nq, upd_same, vs, rfl, rs⟩
      · rw [if_neg c] at h'; exact h'.elim
    · cases h

/-! ### calls -/
def glob (cf : Cf) (x : Str) : Bool := cf.sc.names.lookup x == some .globalImplicit
theorem Good.gl {X : Cx} {W : WX} {cf : Cf} {call : Calls} {x : Str} (g : Good X W cf call) (h : glob cf x = true) : Gl X x := by
  show X.env.scope.names.lookup x = _
  rw [g.sc]
  exact beq_iff_eq.mp h
def toE (r : Res (D × Bool)) : Res (D × Fr) := r.bind fun p => .ok (p.1, flag p.2)
/-- a def of the program, called with at least one argument -/
def CE.call (f : Str) (es : CEs) : CE where
  ev := fun call ρ => (es.ev false call ρ).bind fun ds => toE (call f ds)
  chk := fun cf x => match x with
    | .Call (.Name y _) (a :: r) [] _ => decide (y = f) && glob cf f && es.chk cf (a :: r) && !(f == ("__debug__" : Str)) && decide (f ∈ cf.fs)
    | _ => false
  star := fun cf x h => by cases x <;> first | rfl | cases h
  ok := fun {X W cf call} g x h => by
    split at h
    · simp only [Bool.and_eq_true, decide_eq_true_eq, Bool.not_eq_true'] at h
      obtain ⟨⟨⟨⟨rfl, h1⟩, h2⟩, h3⟩, h4⟩ := h
      rename_i y _ a r pos
      have hst := es.star cf (a :: r) h2
      rw [List.all_cons, Bool.and_eq_true] at hst
      obtain ⟨t, pa, qa⟩ := es.ok g false _ h2
      obtain ⟨k, ad, fd, ps, F, hr, hm, hk, hb⟩ := g.call y h4
      refine ⟨_, pe_callS F hr (g.gl h1) hm hk hb (fun σ => passAt g.tk σ) pa h3 (starEach_cons hst.1) (no_star hst.2), fun Hs0 H0 Hs H ρ σ Q ok h => ?_⟩
      refine seqA (g := fun ds => toE (call y ds)) qa ok h fun ds vs Hs' H' e p h' => ?_
      refine ⟨Hs', ds, e.i, p.sh, ?_⟩
      cases ec : call y ds with
      | bad => rw [ec] at h'; exact h'
      | ex c es => rw [ec] at h'; exact h'
      | ok q => rw [ec] at h'; exact h'
    · cases h
end MJ

namespace MJ
open PySem PySem.Spec PyProof.Rows L2

/-! ### tests -/
section
variable (X : Cx) (W : WX)
def PostT (Hs H : Hp) (σ : L2.St) (Q : Bool → Hp → Prop) : Res Bool → Prop
  | .ok b => ∀ Hs' H', Ext Hs H Hs' H' → Q b H'
  | .ex c es => ∀ cls dd Hs' H', Ext Hs H Hs' H' → RpX X.K X.mg c es Hs' cls dd H' → W cls dd σ H'
  | .bad => False
def JT (x : Expr) (f : List Sl → Res Bool) : Prop :=
  ∃ t, PT X x t ∧ ∀ Hs0 H0 Hs H ρ σ Q, OK X Hs0 H0 Hs H ρ σ → PostT X W Hs H σ Q (f ρ) → t σ H Q
def JW (x : Expr) (f : List Sl → Res Bool) : Prop :=
  ∃ t, PW X x t ∧ ∀ Hs0 H0 Hs H ρ σ Q, OK X Hs0 H0 Hs H ρ σ → PostT X W Hs H σ Q (f ρ) → t σ H Q
end
def toB (r : Res (D × Fr)) : Res Bool := r.bind fun p => match p.1 with
  | .bl b => .ok b
  | _ => .bad
section
variable {X : Cx} {W : WX} {Hs H Hs1 H1 : Hp} {σ : L2.St}
theorem PostT.back {Q : Bool → Hp → Prop} {r : Res Bool} (h : PostT X W Hs H σ Q r) (e : Ext Hs H Hs1 H1) : PostT X W Hs1 H1 σ Q r := by
  cases r with
  | ok r => exact fun Hs' H' e' => h Hs' H' (e.trans e')
  | ex c es => exact fun cls dd Hs' H' e' q => h cls dd Hs' H' (e.trans e') q
  | bad => exact h
/-- a value that is a truth -/
theorem asB {Q : Bool → Hp → Prop} {ta : TE} {f : List Sl → Res (D × Fr)} {Hs0 H0 : Hp} {ρ : List Sl}
    (qa : ∀ Hs0 H0 Hs H ρ σ Q, OK X Hs0 H0 Hs H ρ σ → PostE X W Hs H σ Q (f ρ) → ta σ H Q) (ok : OK X Hs0 H0 Hs H ρ σ) (h : PostT X W Hs H σ Q (toB (f ρ))) :
    ta σ H fun x H' => ∃ k, x = .bl k ∧ Q k H' := by
  refine qa Hs0 H0 Hs H ρ σ _ ok ?_
  cases e : f ρ with
  | bad => rw [e] at h; exact h
  | ex c es => rw [e] at h; exact h
  | ok p =>
    obtain ⟨d, fl⟩ := p
    rw [e] at h
    intro v Hs' H' ex rs
    have hv := rs.view ex.i
    cases d with
    | bl b => exact ⟨b, by simpa [View, Rp] using hv, h Hs' H' ex⟩
    | _ => exact h.elim
end
/-- a test -/
structure CT where
  ev : Calls → List Sl → Res Bool
  chk : Cf → Expr → Bool
  ok : ∀ {X W cf call}, Good X W cf call → ∀ x, chk cf x = true → JT X W x (ev call)
def plainT : Expr → Bool
  | .Name _ _ => true
  | .Call _ _ _ _ => true
  | .Subscript _ _ _ => true
  | .Attribute _ _ _ => true
  | .Constant _ _ _ => true
  | _ => false
def CT.val (e : CE) : CT where
  ev := fun call ρ => toB (e.ev call ρ)
  chk := fun cf x => plainT x && e.chk cf x
  ok := fun {X W cf call} g x h => by
    simp only [Bool.and_eq_true] at h
    obtain ⟨t, p, q⟩ := e.ok g x h.2
    refine ⟨_, pt_val p (fun whole => ?_), fun Hs0 H0 Hs H ρ σ Q ok h => asB q ok h⟩
    revert h
    cases x <;> first | (intro _; rfl) | (intro h; exact absurd h.1 (by simp [plainT]))
def CT.cmp (op : CmpOp) (o : B2 (compareOp op)) (a b : CE) : CT where
  ev := fun call ρ => toB (o.run a b call ρ)
  chk := (CE.cmp op o a b).chk
  ok := fun {X W cf call} g x h => by
    have h0 := h
    simp only [CE.cmp] at h
    split at h
    · simp only [Bool.and_eq_true, decide_eq_true_eq] at h
      obtain ⟨⟨⟨rfl, h1⟩, h2⟩, h3⟩ := h
      obtain ⟨r, ho, hg⟩ := o.ok X g.calm g.units
      obtain ⟨ta, pa, qa⟩ := (a.ok g _ h1).arg o.b1
      obtain ⟨tb, pb, qb⟩ := (b.ok g _ h2).arg o.b2
      refine ⟨_, pt_cmpR ho pa pb (noSet_mark h3), fun Hs0 H0 Hs H ρ σ Q ok h => ?_⟩
      refine asB (f := o.run a b call) (fun Hs0 H0 Hs H ρ σ Q ok h => ?_) ok h
      exact seq2 qa qb ok h fun d e x y Hs' H' ex p1 p2 h' => hg W Hs' H' σ d e x y Q ex.i p1 p2 h'
    · cases h
def CT.not (a : CT) : CT where
  ev := fun call ρ => (a.ev call ρ).bind fun b => .ok (!b)
  chk := fun cf x => match x with
    | .UnaryOp .Not l _ => a.chk cf l
    | _ => false
  ok := fun {X W cf call} g x h => by
    split at h
    · obtain ⟨t, p, q⟩ := a.ok g _ h
      refine ⟨_, pt_not p, fun Hs0 H0 Hs H ρ σ Q ok h => ?_⟩
      refine q Hs0 H0 Hs H ρ σ _ ok ?_
      dsimp only at h
      revert h
      cases a.ev call ρ <;> exact fun h => h
    · cases h
/-- the rest of an and, of an or -/
structure CW (op : PySem.BoolOp) where
  ev : Calls → List Sl → Res Bool
  chk : Cf → List Expr → Bool
  ok : ∀ {X W cf call}, Good X W cf call → ∀ x pos, chk cf x = true → x ≠ [] ∧ JW X W (.BoolOp op x pos) (ev call)
def CW.and1 (a : CT) : CW .And where
  ev := a.ev
  chk := fun cf x => match x with
    | [l] => a.chk cf l
    | _ => false
  ok := fun {X W cf call} g x pos h => by
    split at h
    · obtain ⟨t, p, q⟩ := a.ok g _ h
      exact ⟨by simp, _, pw_and1 p, q⟩
    · cases h
def CW.or1 (a : CT) : CW .Or where
  ev := a.ev
  chk := fun cf x => match x with
    | [l] => a.chk cf l
    | _ => false
  ok := fun {X W cf call} g x pos h => by
    split at h
    · obtain ⟨t, p, q⟩ := a.ok g _ h
      exact ⟨by simp, _, pw_or1 p, q⟩
    · cases h
def CW.and (a : CT) (r : CW .And) : CW .And where
  ev := fun call ρ => (a.ev call ρ).bind fun b => if b = true then r.ev call ρ else .ok false
  chk := fun cf x => match x with
    | l :: ls => a.chk cf l && r.chk cf ls
    | _ => false
  ok := fun {X W cf call} g x pos h => by
    split at h
    · simp only [Bool.and_eq_true] at h
      obtain ⟨t, p, q⟩ := a.ok g _ h.1
      obtain ⟨ne, t2, p2, q2⟩ := r.ok g _ pos h.2
      rename_i l ls
      cases ls with
      | nil => exact absurd rfl ne
      | cons l2 ls =>
        refine ⟨by simp, _, pw_and p p2, fun Hs0 H0 Hs H ρ σ Q ok h => ?_⟩
        refine q Hs0 H0 Hs H ρ σ _ ok ?_
        dsimp only at h
        revert h
        cases a.ev call ρ with
        | bad => exact fun h => h
        | ex c es => exact fun h => h
        | ok b =>
          rw [Res.bind_ok]
          intro h Hs' H' e
          cases b with
          | true =>
            rw [if_pos rfl] at h ⊢
            exact q2 Hs0 H0 Hs' H' ρ σ Q (ok.grow e) (h.back e)
          | false =>
            rw [if_neg Bool.false_ne_true] at h ⊢
            exact h Hs' H' e
    · cases h
def CW.or (a : CT) (r : CW .Or) : CW .Or where
  ev := fun call ρ => (a.ev call ρ).bind fun b => if b = true then .ok true else r.ev call ρ
  chk := fun cf x => match x with
    | l :: ls => a.chk cf l && r.chk cf ls
    | _ => false
  ok := fun {X W cf call} g x pos h => by
    split at h
    · simp only [Bool.and_eq_true] at h
      obtain ⟨t, p, q⟩ := a.ok g _ h.1
      obtain ⟨ne, t2, p2, q2⟩ := r.ok g _ pos h.2
      rename_i l ls
      cases ls with
      | nil => exact absurd rfl ne
      | cons l2 ls =>
        refine ⟨by simp, _, pw_or p p2, fun Hs0 H0 Hs H ρ σ Q ok h => ?_⟩
        refine q Hs0 H0 Hs H ρ σ _ ok ?_
        dsimp only at h
        revert h
        cases a.ev call ρ with
        | bad => exact fun h => h
        | ex c es => exact fun h => h
        | ok b =>
          rw [Res.bind_ok]
          intro h Hs' H' e
          cases b with
          | true =>
            rw [if_pos rfl] at h ⊢
            exact h Hs' H' e
          | false =>
            rw [if_neg Bool.false_ne_true] at h ⊢
            exact q2 Hs0 H0 Hs' H' ρ σ Q (ok.grow e) (h.back e)
    · cases h
def CT.bop {op : PySem.BoolOp} (r : CW op) : CT where
  ev := r.ev
  chk := fun cf x => match x with
    | .BoolOp p l _ => decide (p = op) && r.chk cf l
    | _ => false
  ok := fun {X W cf call} g x h => by
    split at h
    · simp only [Bool.and_eq_true, decide_eq_true_eq] at h
      obtain ⟨rfl, h⟩ := h
      obtain ⟨_, t, p, q⟩ := r.ok g _ _ h
      exact ⟨_, p.pt, q⟩
    · cases h

/-! ### and, or, not as values (truths), a if t else b -/
structure CV (op : PySem.BoolOp) where
  ev : Calls → List Sl → Res (D × Fr)
  chk : Cf → List Expr → Bool
  ok : ∀ {X W cf call}, Good X W cf call → ∀ x pos, chk cf x = true → x ≠ [] ∧ JE X W (.BoolOp op x pos) (ev call)
def CV.one (op : PySem.BoolOp) (a : CE) : CV op where
  ev := a.ev
  chk := fun cf x => match x with
    | [l] => a.chk cf l
    | _ => false
  ok := fun {X W cf call} g x pos h => by
    split at h
    · obtain ⟨t, p, q⟩ := a.ok g _ h
      exact ⟨by simp, _, pe_one p, q⟩
    · cases h
def CV.and (a : CE) (r : CV .And) : CV .And where
  ev := fun call ρ => (toB (a.ev call ρ)).bind fun b => if b = true then r.ev call ρ else .ok (.bl false, .sh)
  chk := fun cf x => match x with
    | l :: ls => a.chk cf l && r.chk cf ls
    | _ => false
  ok := fun {X W cf call} g x pos h => by
    split at h
    · simp only [Bool.and_eq_true] at h
      obtain ⟨t, p, q⟩ := a.ok g _ h.1
      obtain ⟨ne, t2, p2, q2⟩ := r.ok g _ pos h.2
      rename_i l ls
      cases ls with
      | nil => exact absurd rfl ne
      | cons l2 ls =>
        refine ⟨by simp, _, pe_and p p2, fun Hs0 H0 Hs H ρ σ Q ok h => ?_⟩
        refine asB (f := a.ev call) (Q := fun c H1 => if c = true then t2 σ H1 Q else Q (.bl false) H1) q ok ?_
        dsimp only at h
        revert h
        cases toB (a.ev call ρ) with
        | bad => exact fun h => h
        | ex c es => exact fun h => h
        | ok b =>
          intro h Hs' H' e
          rw [Res.bind_ok] at h
          cases b with
          | true =>
            rw [if_pos rfl] at h ⊢
            exact q2 Hs0 H0 Hs' H' ρ σ Q (ok.grow e) (h.back e)
          | false =>
            rw [if_neg Bool.false_ne_true] at h ⊢
            exact h _ Hs' H' e (by simp [Rs, Rp])
    · cases h
def CV.or (a : CE) (r : CV .Or) : CV .Or where
  ev := fun call ρ => (toB (a.ev call ρ)).bind fun b => if b = true then .ok (.bl true, .sh) else r.ev call ρ
  chk := fun cf x => match x with
    | l :: ls => a.chk cf l && r.chk cf ls
    | _ => false
  ok := fun {X W cf call} g x pos h => by
    split at h
    · simp only [Bool.and_eq_true] at h
      obtain ⟨t, p, q⟩ := a.ok g _ h.1
      obtain ⟨ne, t2, p2, q2⟩ := r.ok g _ pos h.2
      rename_i l ls
      cases ls with
      | nil => exact absurd rfl ne
      | cons l2 ls =>
        refine ⟨by simp, _, pe_or p p2, fun Hs0 H0 Hs H ρ σ Q ok h => ?_⟩
        refine asB (f := a.ev call) (Q := fun c H1 => if c = true then Q (.bl true) H1 else t2 σ H1 Q) q ok ?_
        dsimp only at h
        revert h
        cases toB (a.ev call ρ) with
        | bad => exact fun h => h
        | ex c es => exact fun h => h
        | ok b =>
          intro h Hs' H' e
          rw [Res.bind_ok] at h
          cases b with
          | true =>
            rw [if_pos rfl] at h ⊢
            exact h _ Hs' H' e (by simp [Rs, Rp])
          | false =>
            rw [if_neg Bool.false_ne_true] at h ⊢
            exact q2 Hs0 H0 Hs' H' ρ σ Q (ok.grow e) (h.back e)
    · cases h
def CE.bop {op : PySem.BoolOp} (r : CV op) : CE where
  ev := r.ev
  chk := fun cf x => match x with
    | .BoolOp p l _ => decide (p = op) && r.chk cf l
    | _ => false
  star := fun cf x h => by cases x <;> first | rfl | cases h
  ok := fun {X W cf call} g x h => by
    split at h
    · simp only [Bool.and_eq_true, decide_eq_true_eq] at h
      obtain ⟨rfl, h⟩ := h
      exact (r.ok g _ _ h).2
    · cases h
def CE.not (a : CE) : CE where
  ev := fun call ρ => (toB (a.ev call ρ)).bind fun b => .ok (.bl (!b), .sh)
  chk := fun cf x => match x with
    | .UnaryOp .Not l _ => a.chk cf l
    | _ => false
  star := fun cf x h => by cases x <;> first | rfl | cases h
  ok := fun {X W cf call} g x h => by
    split at h
    · obtain ⟨t, p, q⟩ := a.ok g _ h
      refine ⟨_, pe_not p, fun Hs0 H0 Hs H ρ σ Q ok h => ?_⟩
      refine asB (f := a.ev call) (Q := fun c H1 => Q (.bl (!c)) H1) q ok ?_
      dsimp only at h
      revert h
      cases toB (a.ev call ρ) with
      | bad => exact fun h => h
      | ex c es => exact fun h => h
      | ok b => exact fun h Hs' H' e => h _ Hs' H' e (by simp [Rs, Rp])
    · cases h
def CE.ite (c : CT) (a b : CE) : CE where
  ev := fun call ρ => (c.ev call ρ).bind fun k => if k = true then a.ev call ρ else b.ev call ρ
  chk := fun cf x => match x with
    | .IfExp t l r _ => c.chk cf t && a.chk cf l && b.chk cf r
    | _ => false
  star := fun cf x h => by cases x <;> first | rfl | cases h
  ok := fun {X W cf call} g x h => by
    split at h
    · simp only [Bool.and_eq_true] at h
      obtain ⟨⟨h1, h2⟩, h3⟩ := h
      obtain ⟨t, p, q⟩ := c.ok g _ h1
      obtain ⟨t2, p2, q2⟩ := a.ok g _ h2
      obtain ⟨t3, p3, q3⟩ := b.ok g _ h3
      refine ⟨_, pe_ifExp p p2 p3, fun Hs0 H0 Hs H ρ σ Q ok h => ?_⟩
      refine q Hs0 H0 Hs H ρ σ _ ok ?_
      dsimp only at h
      revert h
      cases c.ev call ρ with
      | bad => exact fun h => h
      | ex c es => exact fun h => h
      | ok k =>
        intro h Hs' H' e
        rw [Res.bind_ok] at h
        cases k with
        | true =>
          rw [if_pos rfl] at h ⊢
          exact q2 Hs0 H0 Hs' H' ρ σ Q (ok.grow e) (h.back e)
        | false =>
          rw [if_neg Bool.false_ne_true] at h ⊢
          exact q3 Hs0 H0 Hs' H' ρ σ Q (ok.grow e) (h.back e)
    · cases h
end MJ

namespace MJ
open PySem PySem.Spec PyProof.Rows L2

/-! ### what is walked -/
section
variable (X : Cx) (W : WX)
def Yields (J : It) (Hs H : Hp) (ds : List D) : Prop :=
  ∀ Hs2 H2, Same Hs Hs2 → Same Hs2 H2 → (∀ i, ds.length ≤ i → J.stop i H2) ∧ ∀ i d, ds[i]? = some d → J.go i H2 ∧ ∀ x H3, J.yld i H2 x H3 → ∃ Hs3, Ext Hs2 H2 Hs3 H3 ∧ Rp X.K X.mg Hs3 d x
def PostI (Hs H : Hp) (σ : L2.St) (R : It → Hp → Prop) : Res (List D) → Prop
  | .ok ds => ∀ J Hs' H', Ext Hs H Hs' H' → Yields X J Hs' H' ds → R J H'
  | .ex c es => ∀ cls dd Hs' H', Ext Hs H Hs' H' → RpX X.K X.mg c es Hs' cls dd H' → W cls dd σ H'
  | .bad => False
def JI (tg x : Expr) (f : List Sl → Res (List D)) : Prop :=
  ∃ t, PI X tg x t ∧ ∀ Hs0 H0 Hs H ρ σ R, OK X Hs0 H0 Hs H ρ σ → PostI X W Hs H σ R (f ρ) → t σ H R
end
structure CI where
  ev : Calls → List Sl → Res (List D)
  chk : Cf → Expr → Expr → Bool
  ok : ∀ {X W cf call}, Good X W cf call → ∀ tg x, chk cf tg x = true → noSet x = true ∧ JI X W tg x (ev call)
theorem _root_.L2.PI.or {X : Cx} {tg x : Expr} {t u : TI} (h : PI X tg x t) (g : PI X tg x u) : PI X tg x fun σ H R => t σ H R ∨ u σ H R :=
  ⟨fun pins s σ H R I q => q.elim (fun q => h.run pins s σ H R I q) fun q => g.run pins s σ H R I q⟩
theorem yields_list {X : Cx} {Hs H : Hp} {a : Addr} {xs : List V} {ds : List D} (i : Same Hs H) (q : SqL X.K Hs a xs) (r : Rps X.K X.mg Hs ds xs) : Yields X (Itl X.K a) Hs H ds := by
  intro Hs2 H2 s1 s2
  have q2 := s2.seq (s1.seq q)
  refine ⟨fun i hi => ⟨xs, q2, by rw [r.len]; exact hi⟩, fun i d e => ?_⟩
  obtain ⟨v, e1, r1⟩ := r.get e
  refine ⟨⟨xs, v, q2, e1⟩, fun x H3 y => ?_⟩
  obtain ⟨rfl, y⟩ := y
  have e2 := y xs q2
  rw [e1] at e2
  cases e2
  exact ⟨Hs2, .rfl s2, r1.mono s1⟩
theorem yields_tup {X : Cx} {Hs H : Hp} {a : Addr} {xs : List V} {ds : List D} (i : Same Hs H) (q : SqT X.K Hs a xs) (r : Rps X.K X.mg Hs ds xs) : Yields X (Itt X.K a) Hs H ds := by
  intro Hs2 H2 s1 s2
  have q2 := s2.seqT (s1.seqT q)
  refine ⟨fun i hi => ⟨xs, q2, by rw [r.len]; exact hi⟩, fun i d e => ?_⟩
  obtain ⟨v, e1, r1⟩ := r.get e
  refine ⟨⟨xs, v, q2, e1⟩, fun x H3 y => ?_⟩
  obtain ⟨rfl, y⟩ := y
  have e2 := y xs q2
  rw [e1] at e2
  cases e2
  exact ⟨Hs2, .rfl s2, r1.mono s1⟩
def chars (z : Str) : List D := z.cps.toList.map fun c => .str ⟨#[c]⟩
theorem yields_str {X : Cx} {Hs H : Hp} {z : Str} : Yields X (Its z) Hs H (chars z) := by
  intro Hs2 H2 s1 s2
  refine ⟨fun i hi => ?_, fun i d e => ?_⟩
  · show z.cps.size ≤ i
    simpa [chars] using hi
  · simp only [chars, List.getElem?_map, Option.map_eq_some_iff] at e
    obtain ⟨c, e1, rfl⟩ := e
    have e1' : z.cps[i]? = some c := by simpa using e1
    have hi : i < z.cps.size := (Array.getElem?_eq_some_iff.mp e1').1
    refine ⟨hi, fun x H3 y => ?_⟩
    obtain ⟨rfl, c', e2, rfl⟩ := y
    rw [e1'] at e2
    cases e2
    exact ⟨Hs2, .rfl s2, by simp [Rp]⟩
theorem Rp.nms {K : PySem.W.Frag} {mg : Str → Option Value} {H : Hp} {zs : List Str} {v : V} (h : Rp K mg H (.nms zs) v) : ∃ a xs, v = .ref a ∧ SqT K H a xs ∧ Rps K mg H (zs.map .str) xs := by
  simp only [Rp] at h
  obtain ⟨a, o, rfl, q, _⟩ := h
  refine ⟨a, _, rfl, .inl (.inr ⟨o, q⟩), ?_⟩
  clear q
  induction zs with
  | nil => exact .nil
  | cons z zs ih => exact .cons (by simp [Rp]) ih
def items : D → Res (List D)
  | .lst ds => .ok ds
  | .tup ds => .ok ds
  | .nms zs => .ok (zs.map .str)
  | .str z => .ok (chars z)
  | _ => .bad
/-- over a list, a tuple, a text -/
def CI.seq (e : CE) : CI where
  ev := fun call ρ => (e.arg false call ρ).bind items
  chk := fun cf tg x => e.chk cf x && noSet x
  ok := fun {X W cf call} g tg x h => by
    simp only [Bool.and_eq_true] at h
    obtain ⟨t, p, q⟩ := (e.ok g x h.1).arg false
    refine ⟨h.2, _, ((pi_list p).or (pi_tup p)).or (pi_str p), fun Hs0 H0 Hs H ρ σ R ok h => ?_⟩
    dsimp only at h
    have key : ∀ r, argR false (e.ev call ρ) = r → PostI X W Hs H σ R (r.bind items) → (iList X.K t σ H R ∨ iTup X.K t σ H R) ∨ iStr t σ H R := by
      intro r er h
      have go : ∀ Q, PostD X W false Hs H σ Q r → t σ H Q := fun Q z => q Hs0 H0 Hs H ρ σ Q ok (by dsimp only; rw [er]; exact z)
      cases r with
      | bad => exact h.elim
      | ex c es => exact .inl (.inl (go _ h))
      | ok d =>
        cases d with
        | lst ds =>
          refine .inl (.inl (go _ fun v Hs' H' e' p' => ?_))
          have p2 := p'.sh
          simp only [Rp] at p2
          obtain ⟨a, xs, rfl, q2, r2⟩ := p2
          exact ⟨a, rfl, ⟨xs, e'.i.seq q2⟩, h _ Hs' H' e' (yields_list e'.i q2 r2)⟩
        | tup ds =>
          refine .inl (.inr (go _ fun v Hs' H' e' p' => ?_))
          have p2 := p'.sh
          simp only [Rp] at p2
          obtain ⟨a, xs, rfl, q2, r2⟩ := p2
          exact ⟨a, rfl, ⟨xs, e'.i.seqT q2⟩, h _ Hs' H' e' (yields_tup e'.i q2 r2)⟩
        | nms zs =>
          refine .inl (.inr (go _ fun v Hs' H' e' p' => ?_))
          obtain ⟨a, xs, rfl, q2, r2⟩ := p'.sh.nms
          exact ⟨a, rfl, ⟨xs, e'.i.seqT q2⟩, h _ Hs' H' e' (yields_tup e'.i q2 r2)⟩
        | str z =>
          refine .inr (go _ fun v Hs' H' e' p' => ?_)
          have p2 := p'.sh
          simp only [Rp] at p2
          exact ⟨z, p2, h _ Hs' H' e' yields_str⟩
        | _ => exact h.elim
    exact key _ rfl h
def rangeD (lo : Int) (n : Nat) : List D := (List.range n).map fun i => .int (lo + (i : Nat))
theorem yields_range {X : Cx} {Hs H : Hp} {lo : Int} {n : Nat} : Yields X (Itr lo n) Hs H (rangeD lo n) := by
  intro Hs2 H2 s1 s2
  refine ⟨fun i hi => ?_, fun i d e => ?_⟩
  · show n ≤ i
    simpa [rangeD] using hi
  · simp only [rangeD, List.getElem?_map, Option.map_eq_some_iff] at e
    obtain ⟨j, hj', rfl⟩ := e
    have hj : i < n := by simpa using (List.getElem?_eq_some_iff.mp hj').1
    rw [List.getElem?_range hj] at hj'
    obtain rfl : i = j := Option.some.inj hj'
    refine ⟨hj, fun x H3 y => ?_⟩
    obtain ⟨rfl, rfl⟩ := y
    exact ⟨Hs2, .rfl s2, by simp [Rp]⟩
theorem chk_glob_blt {X : Cx} {W : WX} {cf : Cf} {call : Calls} (g : Good X W cf call) {x : Str} (h : x ∈ bnames) : X.mg x = none := g.blt x h
def small62 (i : Int) : Bool := decide (i.natAbs < 4611686018427387904)
theorem small62_iff {i : Int} (h : small62 i = true) : -(2 ^ 62) ≤ i ∧ i < 2 ^ 62 := by
  simp only [small62, decide_eq_true_eq] at h
  omega
def CI.range1 (a : CE) : CI where
  ev := fun call ρ => (a.arg true call ρ).bind fun d => match d with
    | .int j => if small62 j = true then .ok (rangeD 0 j.toNat) else .bad
    | _ => .bad
  chk := fun cf tg x => match x with
    | .Call (.Name y _) [l] [] _ => decide (y = ("range" : Str)) && glob cf ("range" : Str) && a.chk cf l
    | _ => false
  ok := fun {X W cf call} g tg x h => by
    split at h
    · simp only [Bool.and_eq_true, decide_eq_true_eq] at h
      obtain ⟨⟨rfl, h1⟩, h2⟩ := h
      have hst := a.star _ _ h2
      obtain ⟨t, p, q⟩ := ja_cons ((a.ok g _ h2).arg true) ja_nil hst
      refine ⟨rfl, _, pi_range1 (g.gl h1) (g.blt _ (by decide +kernel)) p (by rw [starEach_cons hst]; rfl), fun Hs0 H0 Hs H ρ σ R ok h => ?_⟩
      dsimp only at h
      refine q Hs0 H0 Hs H ρ σ _ ok ?_
      dsimp only
      revert h
      show PostI X W Hs H σ R ((argR true (a.ev call ρ)).bind _) → _
      cases argR true (a.ev call ρ) with
      | bad => exact fun h => h
      | ex c es => exact fun h => h
      | ok d =>
        cases d with
        | int j =>
          simp only [Res.bind_ok]
          intro h vs Hs' H' e ps
          by_cases c : small62 j = true
          · rw [if_pos c] at h
            cases ps with
            | cons p1 p2 =>
              cases p2
              have p1' := p1.int
              replace c := small62_iff c
              exact ⟨j, by rw [p1'], c.1, c.2, h _ Hs' H' e yields_range⟩
          · rw [if_neg c] at h; exact h.elim
        | _ => exact fun h => h.elim
    · cases h
def CI.range2 (a b : CE) : CI where
  ev := fun call ρ => (a.arg true call ρ).bind fun d => (b.arg true call ρ).bind fun e => match d, e with
    | .int i, .int j => if small62 i = true ∧ small62 j = true then .ok (rangeD i (j - i).toNat) else .bad
    | _, _ => .bad
  chk := fun cf tg x => match x with
    | .Call (.Name y _) [l, r] [] _ => decide (y = ("range" : Str)) && glob cf ("range" : Str) && a.chk cf l && b.chk cf r
    | _ => false
  ok := fun {X W cf call} g tg x h => by
    split at h
    · simp only [Bool.and_eq_true, decide_eq_true_eq] at h
      obtain ⟨⟨⟨rfl, h1⟩, h2⟩, h3⟩ := h
      have hst := a.star _ _ h2
      have hst2 := b.star _ _ h3
      obtain ⟨t, p, q⟩ := ja_cons ((a.ok g _ h2).arg true) (ja_cons ((b.ok g _ h3).arg true) ja_nil hst2) hst
      refine ⟨rfl, _, pi_range2 (g.gl h1) (g.blt _ (by decide +kernel)) p (by rw [starEach_cons hst, starEach_cons hst2]; rfl) (by rw [starEach_cons hst2]; rfl), fun Hs0 H0 Hs H ρ σ R ok h => ?_⟩
      dsimp only at h
      refine q Hs0 H0 Hs H ρ σ _ ok ?_
      dsimp only
      revert h
      show PostI X W Hs H σ R ((argR true (a.ev call ρ)).bind fun d => (argR true (b.ev call ρ)).bind _) → _
      cases argR true (a.ev call ρ) with
      | bad => exact fun h => h
      | ex c es => exact fun h => h
      | ok d =>
        simp only [Res.bind_ok]
        cases argR true (b.ev call ρ) with
        | bad => exact fun h => h
        | ex c es => exact fun h => h
        | ok e =>
          simp only [Res.bind_ok]
          cases d with
          | int i =>
            cases e with
            | int j =>
              dsimp only
              intro h vs Hs' H' e ps
              by_cases c : small62 i = true ∧ small62 j = true
              · rw [if_pos c] at h
                cases ps with
                | cons p1 p2 =>
                  cases p2 with
                  | cons p2 p3 =>
                    cases p3
                    have p1' := p1.int
                    have p2' := p2.int
                    replace c := And.intro (small62_iff c.1) (small62_iff c.2)
                    exact ⟨i, j, by rw [p1', p2'], ⟨c.1.1, c.1.2, c.2.1, c.2.2⟩, h _ Hs' H' e yields_range⟩
              · rw [if_neg c] at h; exact h.elim
            | _ => exact fun h => h.elim
          | _ => exact fun h => h.elim
    · cases h

/-! ### targets -/
/-- τ is σ but for the slots vs -/
def OnlyAt (vs : List Nat) (σ τ : L2.St) : Prop := τ.length = σ.length ∧ ∀ i, i ∉ vs → τ[i]? = σ[i]?
section
variable (X : Cx)
def PostG (vs : List Nat) (Hs0 H0 Hs H : Hp) (σ : L2.St) (Q : L2.St → Hp → Prop) : Res (List Sl) → Prop
  | .ok ρ' => ∀ τ, OK X Hs0 H0 Hs H ρ' τ → OnlyAt vs σ τ → Q τ H
  | _ => False
end
structure CG where
  ev : D → List Sl → Res (List Sl)
  slots : List Nat
  chk : Cf → Expr → Bool
  ok : ∀ {X W cf call}, Good X W cf call → ∀ x, chk cf x = true → ∃ t, PG X x t ∧ ∀ Hs0 H0 Hs H ρ σ d v Q, OK X Hs0 H0 Hs H ρ σ → Rp X.K X.mg Hs d v → PostG X slots Hs0 H0 Hs H σ Q (ev d ρ) → t v σ H Q
def chkLoc (cf : Cf) (i : Nat) (x : Str) : Bool := decide (cf.N[i]? = some x) && (cf.sc.names.lookup x == some .local || (cf.sc.names.lookup x == some .cell && decide (x ∈ cf.cells)))
theorem Good.loc {X : Cx} {W : WX} {cf : Cf} {call : Calls} {i : Nat} {x : Str} (g : Good X W cf call) (h : chkLoc cf i x = true) :
    X.N[i]? = some x ∧ Loc X.env.scope x ∧ (X.fn x = true ∨ X.env.scope.names.lookup x = some .local) := by
  simp only [chkLoc, Bool.and_eq_true, Bool.or_eq_true, decide_eq_true_eq, beq_iff_eq] at h
  obtain ⟨h1, h2⟩ := h
  refine ⟨by rw [g.hN]; exact h1, ?_, ?_⟩
  · rw [g.sc]; exact h2.imp id (·.1)
  · rcases h2 with h2 | ⟨_, h2⟩
    · exact .inr (by rw [g.sc]; exact h2)
    · exact .inl (g.fn _ h2)
theorem Good.nodup {X : Cx} {W : WX} {cf : Cf} {call : Calls} (g : Good X W cf call) : X.N.Nodup := by rw [g.hN]; exact g.nd
def CG.name (i : Nat) : CG where
  ev := fun d ρ => .ok (ρ.set i (.sh d))
  slots := [i]
  chk := fun cf x => match x with
    | .Name y _ => chkLoc cf i y
    | _ => false
  ok := fun {X W cf call} g x h => by
    split at h
    · obtain ⟨h1, h2, h3⟩ := g.loc h
      refine ⟨_, pg_name g.nodup h1 h2 h3, fun Hs0 H0 Hs H ρ σ d v Q ok r h => ?_⟩
      exact h _ (ok.setSh i r) ⟨by simp, fun j hj => List.getElem?_set_ne (by intro z; subst z; exact hj (by simp))⟩
    · cases h
/-- names, one beside another -/
structure CGs where
  ev : List D → List Sl → Res (List Sl)
  slots : List Nat
  n : Nat
  chk : Cf → List Expr → Bool
  ok : ∀ {X W cf call}, Good X W cf call → ∀ x, chk cf x = true → (assignEach x X.env).length = n ∧ (assignEach x X.env).findIdx? (·.1) = none ∧ ∃ t, PGs X x t ∧ ∀ Hs0 H0 Hs H ρ σ ds vs Q, OK X Hs0 H0 Hs H ρ σ → Rps X.K X.mg Hs ds vs → PostG X slots Hs0 H0 Hs H σ Q (ev ds ρ) → t vs σ H Q
def CGs.nil : CGs where
  ev := fun ds ρ => match ds with
    | [] => .ok ρ
    | _ => .bad
  slots := []
  n := 0
  chk := fun _ x => x.isEmpty
  ok := fun {X W cf call} g x h => by
    cases x with
    | nil =>
      refine ⟨rfl, rfl, _, pgs_nil, fun Hs0 H0 Hs H ρ σ ds vs Q ok r h => ?_⟩
      cases ds with
      | nil =>
        simp only [Rps] at r
        exact ⟨r, h σ ok ⟨rfl, fun _ _ => rfl⟩⟩
      | cons => exact h.elim
    | cons => cases h
def CGs.cons (i : Nat) (r : CGs) : CGs where
  ev := fun ds ρ => match ds with
    | d :: ds => r.ev ds (ρ.set i (.sh d))
    | [] => .bad
  slots := i :: r.slots
  n := r.n + 1
  chk := fun cf x => match x with
    | .Name y _ :: l => chkLoc cf i y && r.chk cf l
    | _ => false
  ok := fun {X W cf call} g x h => by
    split at h
    · simp only [Bool.and_eq_true] at h
      obtain ⟨h1, h2, h3⟩ := g.loc h.1
      obtain ⟨e1, e2, t, p, q⟩ := r.ok g _ h.2
      rename_i y pos l
      have es : assignEach (.Name y pos :: l) X.env = (false, assign (.Name y pos) X.env) :: assignEach l X.env := rfl
      refine ⟨by rw [es, List.length_cons, e1], by rw [es, List.findIdx?_cons]; simp [e2], _, pgs_cons (pg_name g.nodup h1 h2 h3) p, fun Hs0 H0 Hs H ρ σ ds vs Q ok rs h => ?_⟩
      cases ds with
      | nil => exact h.elim
      | cons d ds =>
        simp only [Rps] at rs
        obtain ⟨v, vs', rfl, r1, r2⟩ := rs
        refine ⟨v, vs', rfl, ?_⟩
        refine q Hs0 H0 Hs H _ _ ds vs' Q (ok.setSh i r1) r2 ?_
        dsimp only at h
        revert h
        cases r.ev ds (ρ.set i (.sh d)) with
        | ok ρ' =>
          intro h τ o1 o2
          refine h τ o1 ⟨o2.1.trans (by simp), fun j hj => ?_⟩
          simp only [List.mem_cons, not_or] at hj
          rw [o2.2 j hj.2, List.getElem?_set_ne (Ne.symm hj.1)]
        | _ => exact fun h => h.elim
    · cases h
def CG.tup (gs : CGs) : CG where
  ev := fun d ρ => match d with
    | .tup ds => if ds.length = gs.n then gs.ev ds ρ else .bad
    | _ => .bad
  slots := gs.slots
  chk := fun cf x => match x with
    | .Tuple l _ _ => gs.chk cf l
    | _ => false
  ok := fun {X W cf call} g x h => by
    split at h
    · obtain ⟨e1, e2, t, p, q⟩ := gs.ok g _ h
      refine ⟨_, pg_tup g.calm p e1 e2, fun Hs0 H0 Hs H ρ σ d v Q ok r h => ?_⟩
      cases d with
      | tup ds =>
        dsimp only at h
        by_cases c : ds.length = gs.n
        · rw [if_pos c] at h
          simp only [Rp] at r
          obtain ⟨a, xs, rfl, q1, r1⟩ := r
          exact ⟨a, xs, rfl, ok.same.seqT q1, by rw [r1.len, c], q Hs0 H0 Hs H ρ σ ds xs Q ok r1 h⟩
        · rw [if_neg c] at h; exact h.elim
      | _ => exact h.elim
    · cases h
end MJ

namespace MJ
open PySem PySem.Spec PyProof.Rows L2

/-! ### list comprehensions -/
def wipeSl (ρ : List Sl) : List Nat → List Sl
  | [] => ρ
  | v :: vs => (wipeSl ρ vs).set v .no
theorem Ok.wipe {K : PySem.W.Frag} {mg : Str → Option Value} {Hs0 H0 Hs H : Hp} {ρ : List Sl} {σ : L2.St} (h : Ok K mg Hs0 H0 Hs H ρ σ) : ∀ vs, Ok K mg Hs0 H0 Hs H (wipeSl ρ vs) (wipe σ vs)
  | [] => h
  | v :: vs => (h.wipe vs).setNo v none
theorem wipe_in {σ : L2.St} {i : Nat} : ∀ {vs : List Nat}, i ∈ vs → (wipe σ vs)[i]? = if i < σ.length then some none else none
  | [], h => by cases h
  | v :: vs, h => by
    unfold wipe
    by_cases e : v = i
    · subst e
      by_cases hv : v < σ.length
      · rw [List.getElem?_set_self (by rw [wipe_length]; exact hv), if_pos hv]
      · rw [List.getElem?_eq_none (by rw [List.length_set, wipe_length]; omega), if_neg hv]
    · rw [List.getElem?_set_ne e]
      exact wipe_in ((List.mem_cons.mp h).resolve_left fun z => e z.symm)
theorem wipe_only {σ τ : L2.St} {us vs : List Nat} (h : OnlyAt us σ τ) (s : ∀ i ∈ us, i ∈ vs) : wipe τ vs = wipe σ vs := by
  apply List.ext_getElem?
  intro i
  by_cases hi : i ∈ vs
  · rw [wipe_in hi, wipe_in hi, h.1]
  · rw [wipe_out hi, wipe_out hi, h.2 i fun z => hi (s i z)]
theorem wipe_wipe {σ : L2.St} {vs : List Nat} : wipe (wipe σ vs) vs = wipe σ vs := by
  apply List.ext_getElem?
  intro i
  by_cases hi : i ∈ vs
  · rw [wipe_in hi, wipe_in hi, wipe_length]
  · rw [wipe_out hi]
def lcFold (f : D → Res (Option D)) : List D → Res (List D)
  | [] => .ok []
  | d :: ds => (f d).bind fun o => (lcFold f ds).bind fun r => .ok (o.toList ++ r)
def noEx {α : Type} : Res α → Res α
  | .ok a => .ok a
  | _ => .bad
theorem lcFold_append (f : D → Res (Option D)) : ∀ (a b : List D), lcFold f (a ++ b) = (lcFold f a).bind fun x => (lcFold f b).bind fun y => .ok (x ++ y)
  | [], b => by cases h : lcFold f b <;> simp [lcFold, h]
  | d :: a, b => by
    show (f d).bind (fun o => (lcFold f (a ++ b)).bind fun r => .ok (o.toList ++ r)) = ((f d).bind fun o => (lcFold f a).bind fun r => .ok (o.toList ++ r)).bind fun x => (lcFold f b).bind fun y => .ok (x ++ y)
    rw [lcFold_append f a b]
    cases f d <;> simp only [Res.bind_ok, Res.bind_ex, Res.bind_bad]
    cases lcFold f a <;> simp only [Res.bind_ok, Res.bind_ex, Res.bind_bad]
    cases lcFold f b <;> simp only [Res.bind_ok, Res.bind_ex, Res.bind_bad, List.append_assoc]
theorem lcFold_ok_append {f : D → Res (Option D)} {a b : List D} {out : List D} (h : lcFold f (a ++ b) = .ok out) : ∃ x y, lcFold f a = .ok x ∧ lcFold f b = .ok y ∧ out = x ++ y := by
  rw [lcFold_append] at h
  cases ea : lcFold f a with
  | ok x =>
    rw [ea, Res.bind_ok] at h
    cases eb : lcFold f b with
    | ok y => rw [eb, Res.bind_ok] at h; cases h; exact ⟨x, y, rfl, rfl, rfl⟩
    | ex c es => rw [eb] at h; cases h
    | bad => rw [eb] at h; cases h
  | ex c es => rw [ea] at h; cases h
  | bad => rw [ea] at h; cases h
theorem lcFold_one {f : D → Res (Option D)} {d : D} {y : List D} (h : lcFold f [d] = .ok y) : ∃ o, f d = .ok o ∧ y = o.toList := by
  unfold lcFold at h
  cases e : f d with
  | ok o => rw [e] at h; simp [lcFold] at h; exact ⟨o, rfl, h.symm⟩
  | ex c es => rw [e] at h; cases h
  | bad => rw [e] at h; cases h
/-- the tests of a clause -/
structure CIf where
  ev : Calls → List Sl → Res Bool
  chk : Cf → List Expr → Bool
  ok : ∀ {X W cf call}, Good X W cf call → ∀ x, chk cf x = true → ∃ t, PTs X x t ∧ ∀ Hs0 H0 Hs H ρ σ Q, OK X Hs0 H0 Hs H ρ σ → PostT X W Hs H σ Q (ev call ρ) → t σ H Q
def CIf.no : CIf where
  ev := fun _ _ => .ok true
  chk := fun _ x => x.isEmpty
  ok := fun {X W cf call} g x h => by
    cases x with
    | nil => exact ⟨_, pts_nil, fun Hs0 H0 Hs H ρ σ Q ok h => h Hs H (.rfl ok.same)⟩
    | cons => cases h
def CIf.one (c : CT) : CIf where
  ev := c.ev
  chk := fun cf x => match x with
    | [l] => c.chk cf l
    | _ => false
  ok := fun {X W cf call} g x h => by
    split at h
    · obtain ⟨t, p, q⟩ := c.ok g _ h
      exact ⟨_, pts_one p, q⟩
    · cases h
def Cf.blk (cf : Cf) (scope : Scope) : Cf := { N := cf.N, sc := relS scope cf.sc, fs := cf.fs, cells := (scope.names.filter fun y => y.2 == .cell && scope.names.lookup y.1 == some .cell).map (·.1), d1 := cf.d1, fx := cf.fx, ms := cf.ms }
theorem Good.blk {X : Cx} {W : WX} {cf : Cf} {call : Calls} (g : Good X W cf call) {scope : Scope} (hk : scope.kind = .function) (s : Shared) (H : Hp) (C : Addr) (cl : List (Str × Addr)) (fp : List Addr) :
    Good (X.blk s H scope (compEnvC scope cl C X.env) fp) (fun _ _ _ _ => False) (cf.blk scope) call where
  mark := g.mark
  meth := g.meth
  top := fun h => absurd h (by simp [Cf.blk])
  fx := g.fx
  hN := g.hN
  nd := g.nd
  sc := by
    show relS scope X.env.scope = relS scope cf.sc
    rw [g.sc]
  calm := g.calm
  units := g.units
  blt := g.blt
  tk := takes0
  kind := hk
  fn := fun x hx => by
    simp only [Cf.blk, List.mem_map, List.mem_filter, Bool.and_eq_true] at hx
    obtain ⟨y, ⟨_, _, h⟩, rfl⟩ := hx
    exact h
  call1 := g.call1
  call := g.call
def lcBody (g : CG) (c : CIf) (e : CE) (call : Calls) (ρ : List Sl) (d : D) : Res (Option D) :=
  noEx ((g.ev d ρ).bind fun ρ' => (c.ev call ρ').bind fun b => if b = true then (e.arg false call ρ').bind fun y => .ok (some y) else .ok none)
def chkLc (own : List (Str × Nat)) (g : CG) (it : CI) (c : CIf) (e : CE) (cf : Cf) : Expr → Bool
  | .ListComp elt [⟨tg, iter, ifs, 0⟩] scope _ => blkC cf.N cf.sc scope own && it.chk cf tg iter && g.chk (cf.blk scope) tg && c.chk (cf.blk scope) ifs && e.chk (cf.blk scope) elt && decide (∀ i ∈ g.slots, i ∈ own.map (·.2))
  | _ => false
theorem noSet_folded {e : Expr} (h : noSet e = true) (env : Env) : ∀ x, foldedSetIterable e env x = pure x := by
  intro x
  cases e <;> first | rfl | (simp [noSet] at h)
section
variable (X : Cx) (W : WX)
/-- readings that lean on the data alone -/
def cE (f : List Sl → Res (D × Fr)) : TE := fun σ H Q => ∃ Hs0 H0 Hs ρ, OK X Hs0 H0 Hs H ρ σ ∧ PostE X W Hs H σ Q (f ρ)
def cD (b : Bool) (f : List Sl → Res D) : TE := fun σ H Q => ∃ Hs0 H0 Hs ρ, OK X Hs0 H0 Hs H ρ σ ∧ PostD X W b Hs H σ Q (f ρ)
def cT (f : List Sl → Res Bool) : TT := fun σ H Q => ∃ Hs0 H0 Hs ρ, OK X Hs0 H0 Hs H ρ σ ∧ PostT X W Hs H σ Q (f ρ)
def cG (g : CG) : TG := fun v σ H Q => ∃ Hs0 H0 Hs ρ d, OK X Hs0 H0 Hs H ρ σ ∧ Rp X.K X.mg Hs d v ∧ PostG X g.slots Hs0 H0 Hs H σ Q (g.ev d ρ)
end
theorem JD.can {X : Cx} {W : WX} {b : Bool} {x : Expr} {f : List Sl → Res D} (j : JD X W b x f) : PE X x (cD X W b f) := by
  obtain ⟨t, p, q⟩ := j
  exact ⟨fun pins s σ H Q I ⟨Hs0, H0, Hs, ρ, ok, h⟩ => p.run pins s σ H Q I (q _ _ _ _ _ _ _ ok h)⟩
theorem CIf.can {X : Cx} {W : WX} {cf : Cf} {call : Calls} (c : CIf) (g : Good X W cf call) {x : List Expr} (h : c.chk cf x = true) : PTs X x (cT X W (c.ev call)) := by
  obtain ⟨t, p, q⟩ := c.ok g x h
  exact ⟨fun pins s σ H Q I ⟨Hs0, H0, Hs, ρ, ok, h⟩ => p.run pins s σ H Q I (q _ _ _ _ _ _ _ ok h)⟩
theorem CG.can {X : Cx} {W : WX} {cf : Cf} {call : Calls} (c : CG) (g : Good X W cf call) {x : Expr} (h : c.chk cf x = true) : PG X x (cG X c) := by
  obtain ⟨t, p, q⟩ := c.ok g x h
  exact ⟨fun pins s σ H v u Q I r ⟨Hs0, H0, Hs, ρ, d, ok, r2, h⟩ => p.run pins s σ H v u Q I r (q _ _ _ _ _ _ _ _ _ ok r2 h)⟩
def lcRes (g : CG) (it : CI) (c : CIf) (e : CE) (vs : List Nat) (call : Calls) (ρ : List Sl) : Res (D × Fr) :=
  (it.ev call ρ).bind fun ds => (lcFold (lcBody g c e call (wipeSl ρ vs)) ds).bind fun out => if out.length ≤ sizeLine then .ok (.lst out, .fr) else .bad
theorem noEx_ok {α : Type} {r : Res α} {a : α} (h : noEx r = .ok a) : r = .ok a := by
  cases r with
  | ok b => exact h
  | ex c es => cases h
  | bad => cases h
/-- what a comprehension's reading asks -/
theorem lc_go {X : Cx} {W : WX} {call : Calls} {vs : List Nat} {g : CG} {it : CI} {c : CIf} {e : CE} {wi : TI}
    (qi : ∀ Hs0 H0 Hs H ρ σ R, OK X Hs0 H0 Hs H ρ σ → PostI X W Hs H σ R (it.ev call ρ) → wi σ H R) (h6 : ∀ i ∈ g.slots, i ∈ vs)
    {Hs0 H0 Hs H : Hp} {ρ : List Sl} {σ : L2.St} {Q : VK} (ok : OK X Hs0 H0 Hs H ρ σ) (h : PostE X W Hs H σ Q (lcRes g it c e vs call ρ)) :
    tLc wi (cG X g) (cT X (fun _ _ _ _ => False) (c.ev call)) (cD X (fun _ _ _ _ => False) false (e.arg false call)) vs σ H Q := by
  refine qi Hs0 H0 Hs H ρ σ _ ok ?_
  unfold lcRes at h
  cases ei : it.ev call ρ with
  | bad => rw [ei] at h; exact h
  | ex c es => rw [ei] at h; exact h
  | ok ds =>
    rw [ei, Res.bind_ok] at h
    intro J Hs1 H1 e1 Y D1 nD
    cases ef : lcFold (lcBody g c e call (wipeSl ρ vs)) ds with
    | bad => rw [ef] at h; exact h.elim
    | ex c es =>
      -- the body's exceptions are not carried
      exfalso
      have no : ∀ (l : List D) c es, lcFold (lcBody g ‹CIf› e call (wipeSl ρ vs)) l ≠ .ex c es := by
        intro l
        induction l with
        | nil => intro c es z; cases z
        | cons d l ih =>
          intro c' es' z
          unfold lcFold at z
          cases eb : lcBody g ‹CIf› e call (wipeSl ρ vs) d with
          | ok o =>
            rw [eb, Res.bind_ok] at z
            cases el : lcFold (lcBody g ‹CIf› e call (wipeSl ρ vs)) l with
            | ok r => rw [el] at z; cases z
            | ex c2 es2 => exact ih _ _ el
            | bad => rw [el] at z; cases z
          | ex c2 es2 =>
            unfold lcBody at eb
            revert eb
            cases (g.ev d (wipeSl ρ vs)).bind fun ρ' => (CIf.ev ‹CIf› call ρ').bind fun b => if b = true then (e.arg false call ρ').bind fun y => Res.ok (some y) else Res.ok none <;> (intro eb; cases eb)
          | bad => rw [eb] at z; cases z
      exact no ds _ _ ef
    | ok out =>
      rw [ef, Res.bind_ok] at h
      by_cases hz : out.length ≤ sizeLine
      · rw [if_pos hz] at h
        have okB : ∀ {Hs2 H2 : Hp}, Ext Hs1 H1 Hs2 H2 → OK X Hs0 H0 Hs2 H2 (wipeSl ρ vs) (wipe σ vs) := fun e2 => ((ok.grow e1).grow e2).wipe vs
        refine ⟨fun i m H' => m = ds.length - i ∧ i ≤ ds.length ∧ ∃ Hs' o acc, Ext Hs1 H1 Hs' H' ∧ Hs' D1 = none ∧ H' D1 = some (.lst acc) ∧ lcFold (lcBody g c e call (wipeSl ρ vs)) (ds.take i) = .ok o ∧ Rps X.K X.mg Hs' o acc, ⟨ds.length, by simp, Nat.zero_le _, Hs1, [], [], (Ext.rfl e1.i).own nD _, e1.i.free nD, upd_same, rfl, .nil⟩, ?_⟩
        rintro i m H2 ⟨rfl, hi, Hs2, o, acc, e2, n2, a2, f2, r2⟩
        obtain ⟨ystop, ygo⟩ := Y Hs2 H2 e2.s e2.i
        by_cases hlt : i < ds.length
        · obtain ⟨go, yl⟩ := ygo i ds[i] (List.getElem?_eq_getElem hlt)
          refine .inr ⟨go, fun H' => ∃ Hs' o acc, Ext Hs1 H1 Hs' H' ∧ Hs' D1 = none ∧ H' D1 = some (.lst acc) ∧ lcFold (lcBody g c e call (wipeSl ρ vs)) (ds.take (i + 1)) = .ok o ∧ Rps X.K X.mg Hs' o acc, fun H' q => ⟨ds.length - (i + 1), by omega, rfl, hlt, q⟩, fun x H3 y => ?_⟩
          obtain ⟨Hs3, e3, r3⟩ := yl x H3 y
          have e13 := e2.trans e3
          -- this turn's outcome
          have split : ds = ds.take i ++ [ds[i]] ++ ds.drop (i + 1) := by
            rw [List.append_assoc, List.singleton_append, ← List.drop_eq_getElem_cons hlt, List.take_append_drop]
          have take1 : ds.take (i + 1) = ds.take i ++ [ds[i]] := by rw [List.take_succ_eq_append_getElem hlt]
          rw [split] at ef
          obtain ⟨x1, y1, g1, _, _⟩ := lcFold_ok_append ef
          obtain ⟨x2, y2, g2, g3, g4⟩ := lcFold_ok_append g1
          rw [f2] at g2
          cases g2
          obtain ⟨oo, g5, g6⟩ := lcFold_one g3
          have f3 : lcFold (lcBody g c e call (wipeSl ρ vs)) (ds.take (i + 1)) = .ok (o ++ oo.toList) := by
            rw [take1, g1, g4, g6]
          have hle : (o ++ oo.toList).length ≤ out.length := by
            have q1 : lcFold (lcBody g c e call (wipeSl ρ vs)) (ds.take i ++ [ds[i]] ++ ds.drop (i + 1)) = .ok out := ef
            obtain ⟨u1, u2, v1, v2, v3⟩ := lcFold_ok_append q1
            rw [g1] at v1
            cases v1
            rw [v3, g4, g6]
            simp
          have body := noEx_ok g5
          refine ⟨Hs0, H0, Hs3, wipeSl ρ vs, ds[i], okB e13, r3, ?_⟩
          cases eg : g.ev ds[i] (wipeSl ρ vs) with
          | bad => rw [eg] at body; cases body
          | ex c es => rw [eg] at body; cases body
          | ok ρ' =>
            rw [eg, Res.bind_ok] at body
            intro τ okT only
            refine ⟨(wipe_only only h6).trans wipe_wipe, Hs0, H0, Hs3, ρ', okT, ?_⟩
            cases ec : c.ev call ρ' with
            | bad => rw [ec] at body; cases body
            | ex c es => rw [ec] at body; cases body
            | ok b =>
              rw [ec, Res.bind_ok] at body
              intro Hs4 H4 e4
              cases b with
              | false =>
                rw [if_neg Bool.false_ne_true] at body ⊢
                cases body
                refine ⟨Hs4, o, acc, e13.trans e4, (e3.trans e4).o D1 n2 (by rw [a2]; simp), e4.h _ _ (e3.h _ _ a2), by simpa using f3, r2.mono (e3.s.trans e4.s)⟩
              | true =>
                rw [if_pos rfl] at body ⊢
                refine ⟨Hs0, H0, Hs4, ρ', okT.grow e4, ?_⟩
                cases ee : e.arg false call ρ' with
                | bad => rw [ee] at body; cases body
                | ex c es => rw [ee] at body; cases body
                | ok d' =>
                  rw [ee, Res.bind_ok] at body
                  cases body
                  intro v Hs5 H5 e5 p5
                  have e35 := e3.trans (e4.trans e5)
                  have a5 : H5 D1 = some (.lst acc) := e35.h _ _ a2
                  have n5 : Hs5 D1 = none := e35.o D1 n2 (by rw [a2]; simp)
                  have hl : acc.length = o.length := r2.len
                  refine ⟨acc, a5, ?_, Hs5, o ++ [d'], acc ++ [v], ((e2.trans e35).write nD n5), n5, upd_same, by simpa using f3, (r2.mono e35.s).append (.cons p5.sh .nil)⟩
                  simp at hle
                  omega
        · refine .inl ⟨ystop i (by omega), ?_⟩
          have ei : ds.take i = ds := List.take_of_length_le (by omega)
          rw [ei] at f2
          rw [f2] at ef
          cases ef
          refine h (.ref D1) Hs2 H2 (e1.trans e2) ⟨D1, _, rfl, e1.h.free nD, n2, a2, acc, rfl, r2⟩
      · rw [if_neg hz] at h; exact h.elim
def CE.lc (own : List (Str × Nat)) (g : CG) (it : CI) (c : CIf) (e : CE) : CE where
  ev := lcRes g it c e (own.map (·.2))
  chk := chkLc own g it c e
  star := fun cf x h => by cases x <;> first | rfl | cases h
  ok := fun {X W cf call} gd x h => by
    unfold chkLc at h
    split at h
    · simp only [Bool.and_eq_true, decide_eq_true_eq] at h
      obtain ⟨⟨⟨⟨⟨h1, h2⟩, h3⟩, h4⟩, h5⟩, h6⟩ := h
      obtain ⟨ns, wi, pi, qi⟩ := it.ok gd _ _ h2
      have hk := (blkOk_by h1).kind
      refine ⟨_, pe_lc (wi := wi) (g := cG X g) (tt := cT X (fun _ _ _ _ => False) (c.ev call)) (te := cD X (fun _ _ _ _ => False) false (e.arg false call)) gd.calm gd.nodup pi (blkOk_by (by rw [gd.hN, gd.sc]; exact h1))
        (fun s H C cl fp => g.can (gd.blk hk s H C cl fp) h3) (fun s H C cl fp => c.can (gd.blk hk s H C cl fp) h4) (fun s H C cl fp => ((e.ok (gd.blk hk s H C cl fp) _ h5).arg false).can) (noSet_folded ns X.env), fun Hs0 H0 Hs H ρ σ Q ok h => ?_⟩
      exact lc_go qi h6 ok h
    · cases h
end MJ

namespace MJ
open PySem PySem.Spec PyProof.Rows L2

/-! ### statements -/
inductive Fl where
  | nx (ρ : List Sl) | rt (d : D) (own : Bool) | bk (ρ : List Sl) | ct (ρ : List Sl) | ex (c : Str) (ds : List D) (ρ : List Sl)
theorem Ext.via {Hs0 H0 Hs H Hs' H' : Hp} (a : Ext Hs0 H0 Hs H) (b : Ext Hs H0 Hs' H') : Ext Hs0 H0 Hs' H' :=
  ⟨a.s.trans b.s, b.h, b.i, fun x n m => b.o x (a.o x n m) m⟩
theorem Ext.base {Hs0 H0 Hs H : Hp} (a : Ext Hs0 H0 Hs H) : Ext Hs H0 Hs H := ⟨.refl _, a.h, a.i, fun _ n _ => n⟩
section
variable {K : PySem.W.Frag} {mg : Str → Option Value} {Hs0 H0 Hs H Hs' H' : Hp} {ρ ρ' : List Sl} {σ σ' : L2.St}
theorem Ok.base (h : Ok K mg Hs0 H0 Hs H ρ σ) : Ok K mg Hs H0 Hs H ρ σ := ⟨h.ext.base, h.len, h.at_, h.apart⟩
theorem Ok.via (e : Ext Hs0 H0 Hs H) (h : Ok K mg Hs H0 Hs' H' ρ' σ') : Ok K mg Hs0 H0 Hs' H' ρ' σ' := ⟨e.via h.ext, h.len, h.at_, h.apart⟩
end
section
variable (X : Cx) (W : WX)
def PostS (Hs0 H0 : Hp) (D : Ends) : Option Fl → Prop
  | some (.nx ρ) => ∀ Hs H σ, OK X Hs0 H0 Hs H ρ σ → D.nx σ H
  | some (.bk ρ) => ∀ Hs H σ, OK X Hs0 H0 Hs H ρ σ → D.bk σ H
  | some (.ct ρ) => ∀ Hs H σ, OK X Hs0 H0 Hs H ρ σ → D.ct σ H
  | some (.rt d b) => ∀ v Hs H, Ext Hs0 H0 Hs H → Rs X.K X.mg H0 Hs H (d, flag b) v → D.rt v H
  | some (.ex c es ρ) => ∀ cls dd Hs H σ, OK X Hs0 H0 Hs H ρ σ → RpX X.K X.mg c es Hs cls dd H → W cls dd σ H
  | none => False
def J1 (x : Stmt) (f : List Sl → Option Fl) : Prop :=
  ∃ t, PS X x t ∧ ∀ Hs0 H0 Hs H ρ σ D, OK X Hs0 H0 Hs H ρ σ → PostS X W Hs0 H0 D (f ρ) → t D σ H
def JS (x : List Stmt) (f : List Sl → Option Fl) : Prop :=
  ∃ t, PSs X x t ∧ ∀ Hs0 H0 Hs H ρ σ D, OK X Hs0 H0 Hs H ρ σ → PostS X W Hs0 H0 D (f ρ) → t D σ H
end
theorem PostS.rebase {X : Cx} {W : WX} {Hs0 H0 Hs H : Hp} {D : Ends} {r : Option Fl} (e : Ext Hs0 H0 Hs H) (h : PostS X W Hs0 H0 D r) : PostS X W Hs H0 D r := by
  match r, h with
  | some (.nx ρ), h => exact fun Hs' H' σ o => h Hs' H' σ (o.via e)
  | some (.bk ρ), h => exact fun Hs' H' σ o => h Hs' H' σ (o.via e)
  | some (.ct ρ), h => exact fun Hs' H' σ o => h Hs' H' σ (o.via e)
  | some (.rt d b), h => exact fun v Hs' H' o => h v Hs' H' (e.via o)
  | some (.ex c es ρ), h => exact fun cls dd Hs' H' σ o => h cls dd Hs' H' σ (o.via e)
  | none, h => exact h.elim
/-- an expression's outcome in a statement -/
def stR {α : Type} (r : Res α) (ρ : List Sl) (k : α → Option Fl) : Option Fl := match r with
  | .ok a => k a
  | .ex c es => some (.ex c es ρ)
  | .bad => none
@[simp] theorem stR_ok {α : Type} (a : α) (ρ : List Sl) (k : α → Option Fl) : stR (.ok a) ρ k = k a := rfl
section
variable {X : Cx} {W : WX} {Hs0 H0 Hs H : Hp} {ρ : List Sl} {σ : L2.St} {D : Ends}
theorem st_ex {c : Str} {es : List MJ.D} (ok : OK X Hs0 H0 Hs H ρ σ) (h : PostS X W Hs0 H0 D (some (.ex c es ρ))) : ∀ cls dd Hs' H', Ext Hs H Hs' H' → RpX X.K X.mg c es Hs' cls dd H' → W cls dd σ H' :=
  fun cls dd Hs' H' e r => h cls dd Hs' H' σ (ok.grow e) r
/-- an expression, then what follows its value -/
theorem stE {f : List Sl → Res (MJ.D × Fr)} {te : TE} {k : MJ.D × Fr → Option Fl} {R : V → Hp → Prop}
    (q : ∀ Hs0 H0 Hs H ρ σ Q, OK X Hs0 H0 Hs H ρ σ → PostE X W Hs H σ Q (f ρ) → te σ H Q) (ok : OK X Hs0 H0 Hs H ρ σ) (h : PostS X W Hs0 H0 D (stR (f ρ) ρ k))
    (hR : ∀ p v Hs' H', Ext Hs H Hs' H' → Rs X.K X.mg H Hs' H' p v → PostS X W Hs0 H0 D (k p) → R v H') : te σ H R := by
  refine q Hs0 H0 Hs H ρ σ _ ok ?_
  cases e : f ρ with
  | bad => rw [e] at h; exact h
  | ex c es => rw [e] at h; exact st_ex ok h
  | ok p => rw [e] at h; exact fun v Hs' H' ex rs => hR p v Hs' H' ex rs h
theorem stD {b : Bool} {f : List Sl → Res MJ.D} {te : TE} {k : MJ.D → Option Fl} {R : V → Hp → Prop}
    (q : ∀ Hs0 H0 Hs H ρ σ Q, OK X Hs0 H0 Hs H ρ σ → PostD X W b Hs H σ Q (f ρ) → te σ H Q) (ok : OK X Hs0 H0 Hs H ρ σ) (h : PostS X W Hs0 H0 D (stR (f ρ) ρ k))
    (hR : ∀ p v Hs' H', Ext Hs H Hs' H' → ArgP X b Hs' H' p v → PostS X W Hs0 H0 D (k p) → R v H') : te σ H R := by
  refine q Hs0 H0 Hs H ρ σ _ ok ?_
  cases e : f ρ with
  | bad => rw [e] at h; exact h
  | ex c es => rw [e] at h; exact st_ex ok h
  | ok p => rw [e] at h; exact fun v Hs' H' ex rs => hR p v Hs' H' ex rs h
end
/-- one statement -/
structure C1 where
  ev : Calls → List Sl → Option Fl
  chk : Cf → Stmt → Bool
  ok : ∀ {X W cf call}, Good X W cf call → PassesOwn (model X.prog X.w) X.A X.env X.xe → ∀ x, chk cf x = true → J1 X W x (ev call)
structure CS where
  ev : Calls → List Sl → Option Fl
  chk : Cf → List Stmt → Bool
  ok : ∀ {X W cf call}, Good X W cf call → PassesOwn (model X.prog X.w) X.A X.env X.xe → ∀ x, chk cf x = true → JS X W x (ev call)
def CS.nil : CS where
  ev := fun _ ρ => some (.nx ρ)
  chk := fun _ x => x.isEmpty
  ok := fun {X W cf call} g hp x h => by
    cases x with
    | nil => exact ⟨_, pss_nil, fun Hs0 H0 Hs H ρ σ D ok h => h Hs H σ ok⟩
    | cons => cases h
def andThen (r : Option Fl) (k : List Sl → Option Fl) : Option Fl := match r with
  | some (.nx ρ) => k ρ
  | r => r
@[simp] theorem andThen_nx (ρ : List Sl) (k : List Sl → Option Fl) : andThen (some (.nx ρ)) k = k ρ := rfl
@[simp] theorem andThen_rt (d : MJ.D) (b : Bool) (k : List Sl → Option Fl) : andThen (some (.rt d b)) k = some (.rt d b) := rfl
def CS.cons (a : C1) (r : CS) : CS where
  ev := fun call ρ => andThen (a.ev call ρ) (r.ev call)
  chk := fun cf x => match x with
    | s :: l => a.chk cf s && r.chk cf l
    | _ => false
  ok := fun {X W cf call} g hp x h => by
    split at h
    · simp only [Bool.and_eq_true] at h
      obtain ⟨t, p, q⟩ := a.ok g hp _ h.1
      obtain ⟨t2, p2, q2⟩ := r.ok g hp _ h.2
      refine ⟨_, pss_cons p p2, fun Hs0 H0 Hs H ρ σ D ok h => ?_⟩
      refine q Hs0 H0 Hs H ρ σ _ ok ?_
      dsimp only at h
      revert h
      match a.ev call ρ with
      | some (.nx ρ') => exact fun h Hs' H' σ' o => q2 Hs0 H0 Hs' H' ρ' σ' D o h
      | some (.bk ρ') => exact fun h => h
      | some (.ct ρ') => exact fun h => h
      | some (.rt d b) => exact fun h => h
      | some (.ex c es ρ') => exact fun h => h
      | none => exact fun h => h
    · cases h
/-- what one owns in a slot is given away (no text of its own) -/
def shareSl (ρ : List Sl) (i : Nat) : List Sl := match ρ[i]? with
  | some (.ow d) => ρ.set i (.sh d)
  | _ => ρ
theorem Ok.share {K : PySem.W.Frag} {mg : Str → Option Value} {Hs0 H0 Hs H : Hp} {ρ : List Sl} {σ : L2.St} (h : Ok K mg Hs0 H0 Hs H ρ σ) (i : Nat) : ∃ Hs', Ok K mg Hs0 H0 Hs' H (shareSl ρ i) σ := by
  unfold shareSl
  split
  · rename_i d e
    obtain ⟨x, ex, ox⟩ := h.has e
    obtain ⟨a, o, rfl, n0, n1, e1, r⟩ := ox
    have hi : i < σ.length := (List.getElem?_eq_some_iff.mp ex).1
    refine ⟨upd Hs a o, h.ext.share n0 n1 e1, by simpa using h.len, fun j sl y h1 h2 => ?_, fun j k sl sl' b njk h1 h2 o1 o2 h3 => ?_⟩
    · by_cases z : i = j
      · subst z
        rw [List.getElem?_set_self (by rw [h.len]; exact hi)] at h1
        cases h1
        rw [ex] at h2
        cases h2
        exact ⟨_, rfl, (r.mono (same_new n1 o)).rp upd_same⟩
      · rw [List.getElem?_set_ne z] at h1
        have q := h.at_ j sl y h1 h2
        cases sl with
        | no => trivial
        | sh d' => obtain ⟨v, rfl, r'⟩ := q; exact ⟨v, rfl, r'.mono (same_new n1 o)⟩
        | ow d' =>
          obtain ⟨a', o', rfl, m0, m1, f1, r'⟩ := q
          refine ⟨a', o', rfl, m0, ?_, f1, r'.mono (same_new n1 o)⟩
          rw [upd_ne]
          · exact m1
          · intro z2
            subst z2
            exact h.apart i j _ _ a' z e h1 rfl rfl ex h2
    · by_cases zj : i = j
      · subst zj
        rw [List.getElem?_set_self (by rw [h.len]; exact hi)] at h1
        cases h1; cases o1
      · rw [List.getElem?_set_ne zj] at h1
        by_cases zk : i = k
        · subst zk
          rw [List.getElem?_set_self (by rw [h.len]; exact hi)] at h2
          cases h2; cases o2
        · rw [List.getElem?_set_ne zk] at h2
          exact h.apart j k sl sl' b njk h1 h2 o1 o2 h3
  · exact ⟨Hs, h⟩
def CS.share (i : Nat) (r : CS) : CS where
  ev := fun call ρ => r.ev call (shareSl ρ i)
  chk := r.chk
  ok := fun {X W cf call} g hp x h => by
    obtain ⟨t, p, q⟩ := r.ok g hp x h
    refine ⟨t, p, fun Hs0 H0 Hs H ρ σ D ok h => ?_⟩
    obtain ⟨Hs', o⟩ := ok.share i
    exact q Hs0 H0 Hs' H _ σ D o h
/-! ### storing, returning, branching -/
def setR (i : Nat) (ρ : List Sl) : D × Fr → Option Fl
  | (d, .sh) => some (.nx (ρ.set i (.sh d)))
  | (d, .fr) => some (.nx (ρ.set i (.ow d)))
  | (_, .bo) => none
theorem Ok.setRs {K : PySem.W.Frag} {mg : Str → Option Value} {Hs0 H0 Hs H Hs' H' : Hp} {ρ : List Sl} {σ : L2.St} (h : Ok K mg Hs0 H0 Hs H ρ σ) (e : Ext Hs H Hs' H') {d : D} {v : V} (i : Nat) (r : Rs K mg H Hs' H' (d, .fr) v) :
    Ok K mg Hs0 H0 Hs' H' (ρ.set i (.ow d)) (σ.set i (some v)) := by
  obtain ⟨a, o, rfl, n, n1, e1, r⟩ := r
  refine (h.grow e).set i ⟨a, o, rfl, h.ext.h.free n, n1, e1, r⟩ fun _ j sl' b nj h1 h2 h3 h4 => ?_
  cases h3
  cases sl' with
  | ow d' =>
    obtain ⟨a', o', e2, _, _, f1, _⟩ := h.at_ j _ _ h1 h4
    cases e2
    rw [n] at f1; cases f1
  | _ => cases h2
theorem set_go {X : Cx} {W : WX} {Hs0 H0 Hs H Hs' H' : Hp} {ρ : List Sl} {σ : L2.St} {D : Ends} {p : MJ.D × Fr} {v : V} {i : Nat} (ok : OK X Hs0 H0 Hs H ρ σ) (ex : Ext Hs H Hs' H') (rs : Rs X.K X.mg H Hs' H' p v)
    (h : PostS X W Hs0 H0 D (setR i ρ p)) : D.nx (σ.set i (some v)) H' := by
  obtain ⟨d, f⟩ := p
  cases f with
  | sh => exact h Hs' H' _ ((ok.grow ex).setSh i rs)
  | fr => exact h Hs' H' _ (ok.setRs ex i rs)
  | bo => exact h.elim
def noComp : Expr → Bool
  | .ListComp _ _ _ _ => false
  | .SetComp _ _ _ _ => false
  | .DictComp _ _ _ _ _ => false
  | _ => true
theorem noComp_sw {e : Expr} (h : noComp e = true) (t : Option Expr) (l : Nat) (env : Env) : swapsWith e t l env = pure false := by
  cases e <;> first | rfl | (simp [noComp] at h)
/-- x = e -/
def C1.set (i : Nat) (e : CE) : C1 where
  ev := fun call ρ => stR (e.ev call ρ) ρ (setR i ρ)
  chk := fun cf x => match x with
    | .Assign [.Name y _] v _ => chkLoc cf i y && e.chk cf v && noComp v
    | _ => false
  ok := fun {X W cf call} g hp x h => by
    split at h
    · simp only [Bool.and_eq_true] at h
      obtain ⟨⟨h1, h2⟩, h3⟩ := h
      obtain ⟨l1, l2, l3⟩ := g.loc h1
      obtain ⟨t, p, q⟩ := e.ok g _ h2
      refine ⟨_, ps_set g.nodup l1 l2 p (noComp_sw h3 _ _ _) l3, fun Hs0 H0 Hs H ρ σ D ok h => ?_⟩
      exact stE (f := e.ev call) q ok h fun p v Hs' H' ex rs h' => set_go ok ex rs h'
    · cases h
/-- x = [.. for ..], x a local, on one line -/
def C1.setLc (i : Nat) (own : List (Str × Nat)) (g : CG) (it : CI) (c : CIf) (e : CE) : C1 where
  ev := fun call ρ => stR (lcRes g it c e (own.map (·.2)) call ρ) ρ (setR i ρ)
  chk := fun cf x => match x with
    | .Assign [.Name y py] v spos => decide (cf.N[i]? = some y) && (cf.sc.names.lookup y == some .local) && chkLc own g it c e cf v && (match v with
      | .ListComp _ _ scope pos => (py.line == pos.line) && !(scope.names.any fun (n, k) => n == y && (k == .local || k == .cell))
      | _ => false)
    | _ => false
  ok := fun {X W cf call} gd hp x h => by
    split at h
    · simp only [Bool.and_eq_true, decide_eq_true_eq] at h
      obtain ⟨⟨⟨l1, l2⟩, h1⟩, h2⟩ := h
      unfold chkLc at h1
      split at h1
      · simp only [Bool.and_eq_true, decide_eq_true_eq, Bool.not_eq_true'] at h1 h2
        obtain ⟨⟨⟨⟨⟨h1, h3⟩, h4⟩, h5⟩, h6⟩, h7⟩ := h1
        obtain ⟨h8, h9⟩ := h2
        obtain ⟨ns, wi, pi, qi⟩ := it.ok gd _ _ h3
        have hk := (blkOk_by h1).kind
        refine ⟨_, ps_setLc (wi := wi) (g := cG X g) (tt := cT X (fun _ _ _ _ => False) (c.ev call)) (te := cD X (fun _ _ _ _ => False) false (e.arg false call)) gd.calm gd.nodup (i := i) (by rw [gd.hN]; exact l1) (by rw [gd.sc]; exact beq_iff_eq.mp l2)
          (sw_true gd.kind (by rw [gd.sc]; exact beq_iff_eq.mp l2) h8 h9) pi (blkOk_by (by rw [gd.hN, gd.sc]; exact h1))
          (fun s H C cl fp => g.can (gd.blk hk s H C cl fp) h4) (fun s H C cl fp => c.can (gd.blk hk s H C cl fp) h5) (fun s H C cl fp => ((e.ok (gd.blk hk s H C cl fp) _ h6).arg false).can) (noSet_folded ns X.env), fun Hs0 H0 Hs H ρ σ D ok h => ?_⟩
        refine stE (f := lcRes g it c e (own.map (·.2)) call) (te := tLc wi (cG X g) (cT X (fun _ _ _ _ => False) (c.ev call)) (cD X (fun _ _ _ _ => False) false (e.arg false call)) (own.map (·.2))) (fun Hs0 H0 Hs H ρ σ Q ok h => lc_go qi h7 ok h) ok h fun p v Hs' H' ex rs h' => set_go ok ex rs h'
      · cases h1
    · cases h
/-- target = e, the target names -/
def C1.asg (t : CG) (e : CE) : C1 where
  ev := fun call ρ => stR (e.arg false call ρ) ρ fun d => match t.ev d ρ with
    | .ok ρ' => some (.nx ρ')
    | _ => none
  chk := fun cf x => match x with
    | .Assign [.Tuple l k p] v _ => t.chk cf (.Tuple l k p) && e.chk cf v && noComp v && (match v with
      | .Tuple _ _ _ => false
      | _ => true)
    | _ => false
  ok := fun {X W cf call} g hp x h => by
    split at h
    · simp only [Bool.and_eq_true] at h
      obtain ⟨⟨⟨h1, h2⟩, h3⟩, h4⟩ := h
      obtain ⟨tg, pg, qg⟩ := t.ok g _ h1
      obtain ⟨te, p, q⟩ := (e.ok g _ h2).arg false
      rename_i l k pp v pos
      refine ⟨_, ps_asg p pg (show swapsWith v (some (.Tuple l k pp)) pos.line X.env = pure false from noComp_sw h3 _ _ _) (by cases v <;> first | rfl | cases h4) rfl, fun Hs0 H0 Hs H ρ σ D ok h => ?_⟩
      refine stD (b := false) (f := e.arg false call) q ok h fun d v Hs' H' ex rs h' => ?_
      refine qg Hs0 H0 Hs' H' ρ σ d v _ (ok.grow ex) rs.sh ?_
      revert h'
      cases t.ev d ρ with
      | ok ρ' => exact fun h' τ o _ => h' Hs' H' τ o
      | _ => exact fun h' => h'
    · cases h
/-- e, its value dropped -/
def C1.expr (e : CE) : C1 where
  ev := fun call ρ => stR (e.ev call ρ) ρ fun _ => some (.nx ρ)
  chk := fun cf x => match x with
    | .Expr v _ => e.chk cf v && noComp v
    | _ => false
  ok := fun {X W cf call} g hp x h => by
    split at h
    · simp only [Bool.and_eq_true] at h
      obtain ⟨t, p, q⟩ := e.ok g _ h.1
      refine ⟨_, ps_expr p (noComp_sw h.2 _ _ _), fun Hs0 H0 Hs H ρ σ D ok h => ?_⟩
      exact stE (f := e.ev call) q ok h fun p v Hs' H' ex rs h' => h' Hs' H' σ (ok.grow ex)
    · cases h
def retR : D × Fr → Option Fl
  | (d, .sh) => some (.rt d false)
  | (d, .fr) => some (.rt d true)
  | (_, .bo) => none
def C1.ret (e : CE) : C1 where
  ev := fun call ρ => stR (e.ev call ρ) ρ retR
  chk := fun cf x => match x with
    | .Return (some v) _ => e.chk cf v
    | _ => false
  ok := fun {X W cf call} g hp x h => by
    split at h
    · obtain ⟨t, p, q⟩ := e.ok g _ h
      refine ⟨_, ps_ret p, fun Hs0 H0 Hs H ρ σ D ok h => ?_⟩
      refine stE (f := e.ev call) q ok h fun p v Hs' H' ex rs h' => ?_
      obtain ⟨d, f⟩ := p
      cases f with
      | sh => exact h' v Hs' H' (ok.ext.trans ex) rs
      | fr =>
        obtain ⟨a, o, rfl, n, n1, e1, r⟩ := rs
        exact h' _ Hs' H' (ok.ext.trans ex) ⟨a, o, rfl, ok.ext.h.free n, n1, e1, r⟩
      | bo => exact h'.elim
    · cases h
/-- return x -/
def C1.retv (i : Nat) : C1 where
  ev := fun _ ρ => match ρ.getD i .no with
    | .sh d => some (.rt d false)
    | .ow d => some (.rt d true)
    | .no => none
  chk := fun cf x => match x with
    | .Return (some (.Name y _)) _ => chkVar cf i y
    | _ => false
  ok := fun {X W cf call} g hp x h => by
    split at h
    · simp only [chkVar, Bool.and_eq_true, decide_eq_true_eq, Bool.not_eq_true'] at h
      obtain ⟨⟨⟨h1, h2⟩, h3⟩, h4⟩ := h
      refine ⟨_, ps_ret (pe_var (X := X) (i := i) (by rw [g.hN]; exact h1) (by rw [g.sc]; exact Vis_of h2) h3 h4), fun Hs0 H0 Hs H ρ σ D ok h => ?_⟩
      dsimp only at h
      rw [List.getD_eq_getElem?_getD] at h
      cases e : ρ[i]? with
      | none => rw [e] at h; exact h.elim
      | some sl =>
        rw [e] at h
        obtain ⟨y, ey, oy⟩ := ok.has e
        cases sl with
        | no => exact h.elim
        | sh d =>
          obtain ⟨v, rfl, r⟩ := oy
          exact ⟨v, ey, h v Hs H ok.ext r⟩
        | ow d =>
          obtain ⟨a, o, rfl, n0, n1, e1, r⟩ := oy
          exact ⟨_, ey, h _ Hs H ok.ext ⟨a, o, rfl, n0, n1, e1, r⟩⟩
    · cases h
def C1.retN : C1 where
  ev := fun _ ρ => some (.rt .non false)
  chk := fun cf x => match x with
    | .Return none _ => true
    | _ => false
  ok := fun {X W cf call} g hp x h => by
    split at h
    · exact ⟨_, ps_retN, fun Hs0 H0 Hs H ρ σ D ok h => h _ Hs H ok.ext (by simp [flag, Rs, Rp])⟩
    · cases h
def C1.brk : C1 where
  ev := fun _ ρ => some (.bk ρ)
  chk := fun cf x => match x with
    | .Break _ => true
    | _ => false
  ok := fun {X W cf call} g hp x h => by
    split at h
    · exact ⟨_, ps_break, fun Hs0 H0 Hs H ρ σ D ok h => h Hs H σ ok⟩
    · cases h
def C1.cnt : C1 where
  ev := fun _ ρ => some (.ct ρ)
  chk := fun cf x => match x with
    | .Continue _ => true
    | _ => false
  ok := fun {X W cf call} g hp x h => by
    split at h
    · exact ⟨_, ps_continue, fun Hs0 H0 Hs H ρ σ D ok h => h Hs H σ ok⟩
    · cases h
def C1.ite (c : CT) (a b : CS) : C1 where
  ev := fun call ρ => stR (c.ev call ρ) ρ fun k => if k = true then a.ev call ρ else b.ev call ρ
  chk := fun cf x => match x with
    | .If t l r _ => c.chk cf t && a.chk cf l && b.chk cf r
    | _ => false
  ok := fun {X W cf call} g hp x h => by
    split at h
    · simp only [Bool.and_eq_true] at h
      obtain ⟨⟨h1, h2⟩, h3⟩ := h
      obtain ⟨t, p, q⟩ := c.ok g _ h1
      obtain ⟨t2, p2, q2⟩ := a.ok g hp _ h2
      obtain ⟨t3, p3, q3⟩ := b.ok g hp _ h3
      refine ⟨_, ps_if p p2 p3, fun Hs0 H0 Hs H ρ σ D ok h => ?_⟩
      refine q Hs0 H0 Hs H ρ σ _ ok ?_
      dsimp only at h
      revert h
      cases c.ev call ρ with
      | bad => exact fun h => h
      | ex c es => exact fun h => st_ex ok h
      | ok k =>
        intro h Hs' H' e
        rw [stR_ok] at h
        cases k with
        | true =>
          rw [if_pos rfl] at h ⊢
          exact q2 Hs0 H0 Hs' H' ρ σ D (ok.grow e) h
        | false =>
          rw [if_neg Bool.false_ne_true] at h ⊢
          exact q3 Hs0 H0 Hs' H' ρ σ D (ok.grow e) h
    · cases h
/-! ### loops -/
def forFold (step : D → List Sl → Option Fl) : List D → List Sl → Option Fl
  | [], ρ => some (.nx ρ)
  | d :: ds, ρ => match step d ρ with
    | some (.nx ρ') => forFold step ds ρ'
    | some (.ct ρ') => forFold step ds ρ'
    | some (.bk ρ') => some (.nx ρ')
    | r => r
def forStep (g : CG) (b : CS) (call : Calls) (d : D) (ρ : List Sl) : Option Fl := match g.ev d ρ with
  | .ok ρ' => b.ev call ρ'
  | _ => none
def C1.for_ (g : CG) (it : CI) (b : CS) : C1 where
  ev := fun call ρ => stR (it.ev call ρ) ρ fun ds => forFold (forStep g b call) ds ρ
  chk := fun cf x => match x with
    | .For tg iter body [] _ => g.chk cf tg && it.chk cf tg iter && b.chk cf body
    | _ => false
  ok := fun {X W cf call} gd hp x h => by
    split at h
    · simp only [Bool.and_eq_true] at h
      obtain ⟨⟨h1, h2⟩, h3⟩ := h
      obtain ⟨tg, pg, qg⟩ := g.ok gd _ h1
      obtain ⟨ns, wi, pi, qi⟩ := it.ok gd _ _ h2
      obtain ⟨tb, pb, qb⟩ := b.ok gd hp _ h3
      refine ⟨_, ps_for hp gd.calm pi pg pb (noSet_folded ns X.env), fun Hs0 H0 Hs H ρ σ D ok h => ?_⟩
      refine qi Hs0 H0 Hs H ρ σ _ ok ?_
      dsimp only at h
      revert h
      cases it.ev call ρ with
      | bad => exact fun h => h
      | ex c es => exact fun h => st_ex ok h
      | ok ds =>
        intro h J Hs1 H1 e1 Y
        rw [stR_ok] at h
        refine ⟨fun i m σ' H' => m = ds.length - i ∧ i ≤ ds.length ∧ ∃ Hs' ρ', OK X Hs0 H0 Hs' H' ρ' σ' ∧ Same Hs1 Hs' ∧ PostS X W Hs0 H0 D (forFold (forStep g b call) (ds.drop i) ρ'), ⟨ds.length, by simp, Nat.zero_le _, Hs1, ρ, ok.grow e1, .refl _, by simpa using h⟩, ?_⟩
        rintro i m σ2 H2 ⟨rfl, hi, Hs2, ρ2, ok2, s2, h2⟩
        obtain ⟨ystop, ygo⟩ := Y Hs2 H2 s2 ok2.same
        by_cases hlt : i < ds.length
        · obtain ⟨go, yl⟩ := ygo i ds[i] (List.getElem?_eq_getElem hlt)
          refine .inr ⟨go, fun σ' H' => ∃ Hs' ρ', OK X Hs0 H0 Hs' H' ρ' σ' ∧ Same Hs1 Hs' ∧ PostS X W Hs0 H0 D (forFold (forStep g b call) (ds.drop (i + 1)) ρ'), fun σ' H' q => ⟨ds.length - (i + 1), by omega, rfl, hlt, q⟩, fun x H3 y => ?_⟩
          obtain ⟨Hs3, e3, r3⟩ := yl x H3 y
          rw [List.drop_eq_getElem_cons hlt] at h2
          unfold forFold at h2
          have ok3 := ok2.grow e3
          -- from here on the shared part is counted from Hs3
          refine qg Hs3 H0 Hs3 H3 ρ2 σ2 ds[i] x _ ok3.base r3 ?_
          cases eg : g.ev ds[i] ρ2 with
          | bad => simp only [forStep, eg] at h2; exact h2.elim
          | ex c es => simp only [forStep, eg] at h2; exact h2.elim
          | ok ρ4 =>
            intro τ o4 _
            refine qb Hs3 H0 Hs3 H3 ρ4 τ _ o4 ?_
            simp only [forStep, eg] at h2
            revert h2
            match b.ev call ρ4 with
            | some (.nx ρ5) => exact fun h2 Hs5 H5 σ5 o5 => ⟨Hs5, ρ5, o5.via ok3.ext, (s2.trans e3.s).trans o5.ext.s, h2⟩
            | some (.ct ρ5) => exact fun h2 Hs5 H5 σ5 o5 => ⟨Hs5, ρ5, o5.via ok3.ext, (s2.trans e3.s).trans o5.ext.s, h2⟩
            | some (.bk ρ5) => exact fun h2 Hs5 H5 σ5 o5 => h2 Hs5 H5 σ5 (o5.via ok3.ext)
            | some (.rt d k) => exact fun h2 => PostS.rebase (D := D) ok3.ext h2
            | some (.ex c es ρ5) => exact fun h2 => PostS.rebase (D := D) ok3.ext h2
            | none => exact fun h2 => h2.elim
        · refine .inl ⟨ystop i (by omega), ?_⟩
          rw [List.drop_eq_nil_of_le (by omega)] at h2
          exact h2 Hs2 H2 σ2 ok2
    · cases h
def whileFold (c : List Sl → Res Bool) (b : List Sl → Option Fl) : Nat → List Sl → Option Fl
  | 0, _ => none
  | n + 1, ρ => stR (c ρ) ρ fun k => if k = true then (match b ρ with
      | some (.nx ρ') => whileFold c b n ρ'
      | some (.ct ρ') => whileFold c b n ρ'
      | some (.bk ρ') => some (.nx ρ')
      | r => r) else some (.nx ρ)
/-- the turns that a while may take -/
@[irreducible] def wfuel : Nat := 100000
def C1.while_ (c : CT) (b : CS) : C1 where
  ev := fun call ρ => whileFold (c.ev call) (b.ev call) wfuel ρ
  chk := fun cf x => match x with
    | .While t body [] _ => c.chk cf t && b.chk cf body
    | _ => false
  ok := fun {X W cf call} gd hp x h => by
    split at h
    · simp only [Bool.and_eq_true] at h
      obtain ⟨h1, h2⟩ := h
      obtain ⟨t, p, q⟩ := c.ok gd _ h1
      obtain ⟨tb, pb, qb⟩ := b.ok gd hp _ h2
      refine ⟨_, ps_while hp p pb, fun Hs0 H0 Hs H ρ σ D ok h => ?_⟩
      refine ⟨fun m σ' H' => ∃ Hs' ρ', OK X Hs0 H0 Hs' H' ρ' σ' ∧ PostS X W Hs0 H0 D (whileFold (c.ev call) (b.ev call) m ρ'), ⟨wfuel, Hs, ρ, ok, h⟩, ?_⟩
      rintro m σ2 H2 ⟨Hs2, ρ2, ok2, h2⟩
      cases m with
      | zero => exact h2.elim
      | succ n =>
        unfold whileFold at h2
        refine q Hs0 H0 Hs2 H2 ρ2 σ2 _ ok2 ?_
        revert h2
        cases c.ev call ρ2 with
        | bad => exact fun h => h
        | ex c es => exact fun h => st_ex ok2 h
        | ok k =>
          intro h2 Hs' H' e
          rw [stR_ok] at h2
          cases k with
          | false =>
            rw [if_neg Bool.false_ne_true] at h2 ⊢
            exact h2 Hs' H' σ2 (ok2.grow e)
          | true =>
            rw [if_pos rfl] at h2 ⊢
            refine ⟨fun σ' H' => ∃ Hs' ρ', OK X Hs0 H0 Hs' H' ρ' σ' ∧ PostS X W Hs0 H0 D (whileFold (c.ev call) (b.ev call) n ρ'), fun σ' H' q => ⟨n, Nat.lt_succ_self n, q⟩, ?_⟩
            refine qb Hs0 H0 Hs' H' ρ2 σ2 _ (ok2.grow e) ?_
            revert h2
            match b.ev call ρ2 with
            | some (.nx ρ5) => exact fun h2 Hs5 H5 σ5 o5 => ⟨Hs5, ρ5, o5, h2⟩
            | some (.ct ρ5) => exact fun h2 Hs5 H5 σ5 o5 => ⟨Hs5, ρ5, o5, h2⟩
            | some (.bk ρ5) => exact fun h2 Hs5 H5 σ5 o5 => h2 Hs5 H5 σ5 o5
            | some (.rt d k) => exact fun h2 => h2
            | some (.ex c es ρ5) => exact fun h2 => h2
            | none => exact fun h2 => h2.elim
    · cases h
end MJ

namespace MJ
open PySem PySem.Spec PyProof.Rows L2

/-! ### defs -/
structure Fn where
  ps : List Str
  N : List Str
  body : CS
def toRet : Option Fl → Res (D × Bool)
  | some (.nx _) => .ok (.non, false)
  | some (.rt d b) => .ok (d, b)
  | some (.ex c es _) => .ex c es
  | _ => .bad
def startSl (fn : Fn) (ds : List D) : List Sl := ds.map .sh ++ List.replicate (fn.N.length - ds.length) .no
/-- no def of that name: a mark, told from the second level on -/
def callFn (o : Option Fn) (k : Nat) (c : Calls) (ds : List D) : Res (D × Bool) := match o with
  | none => if 1 ≤ k then .ok (.non, false) else .bad
  | some fn => if ds.length = fn.ps.length then toRet (fn.body.ev c (startSl fn ds)) else .bad
def evFn (T : Str → Option Fn) : Nat → Calls
  | 0, _, _ => .bad
  | k + 1, f, ds => callFn (T f) k (evFn T k) ds
theorem evFn_mark {T : Str → Option Fn} {k : Nat} (h : T "!" = none) : evFn T (k + 2) "!" [] = .ok (.non, false) := by
  show callFn (T "!") (k + 1) (evFn T (k + 1)) [] = _
  rw [h]
  unfold callFn
  exact if_pos (by omega)
theorem evFn_succ {T : Str → Option Fn} {k : Nat} {f : Str} {ds : List D} {fn : Fn} (h : T f = some fn) (hl : ds.length = fn.ps.length) : evFn T (k + 1) f ds = toRet (fn.body.ev (evFn T k) (startSl fn ds)) := by
  show callFn (T f) k (evFn T k) ds = _
  rw [h]
  exact if_pos hl
/-- a def behind the top, its defaults aside -/
structure FunE (K : PySem.W.Frag) (f : Str) (st : Stmt) (a : Addr) (fd : FuncData) : Prop where
  ex : ∃ (oc : Value) (od : Option Addr) (dV kV doc pm : Value) (an : Option Addr) (cdv ct : Value) (osl : Array (Option Value)),
    fd = PySem.W.fnOf f f (defArgs st) (defBody st) (defScope st) dV kV doc pm an cdv ct ∧ K.lookup a = some ⟨oc, od, .func fd, osl⟩ ∧ PySem.W.codeIn K cdv f = true
  kp : PySem.W.keepIn K (.ref a) = true
theorem FunE.of {K : PySem.W.Frag} {f : Str} {st : Stmt} {a : Addr} {fd : FuncData} (F : Fun K f f st a fd) : FunE K f st a fd := by
  obtain ⟨oc, od, kV, doc, pm, an, cdv, ct, osl, e, l, c⟩ := F.ex
  exact ⟨⟨oc, od, _, kV, doc, pm, an, cdv, ct, osl, e, l, c⟩, F.kp⟩
theorem FunE.okX {P : Program} {w : World} {K : PySem.W.Frag} {mg : Str → Option Value} {base : Heap} {x : Str} {st : Stmt} {f : Addr} {fd : FuncData} {N ps : List Str} {k : Nat} {sp : Sp} (F : FunE K x st f fd) (S : FnScope N ps (defScope st)) (len : ∀ vs H Q E, sp vs H Q E → vs.length = ps.length)
    (hbody : ∀ (cdv : Value) (A : Around) (outer : List Env) (s : Shared) (H : Hp) (vs : List V) (Q : VK) (E : XK), Room k (A.deeper (envOfC x (defScope st) s.heap.objs.size f cdv)) → sp vs H Q E →
      ∃ t, PSs (cxOf (L2.CX P w) P w K mg base N x (defScope st) f cdv A outer s H E) (defBody st) t ∧ t { nx := fun _ H' => Q .non H', rt := Q } (start N vs) H) : FnOk P w K mg base (L2.CX P w) (k + 1) f fd ps sp := by
  obtain ⟨oc, od, dV, kV, doc, pm, an, cdv, ct, osl, rfl, lk, hcd⟩ := F.ex
  exact fn_of lk hcd S len fun A outer s H vs Q E hr hsp => hbody cdv A outer s H vs Q E hr hsp
/-- a def, whatever its name -/
structure FunQ (K : PySem.W.Frag) (q : Str) (st : Stmt) (a : Addr) (fd : FuncData) : Prop where
  ex : ∃ (x : Str) (oc : Value) (od : Option Addr) (dV kV doc pm : Value) (an : Option Addr) (cdv ct : Value) (osl : Array (Option Value)),
    fd = PySem.W.fnOf x q (defArgs st) (defBody st) (defScope st) dV kV doc pm an cdv ct ∧ K.lookup a = some ⟨oc, od, .func fd, osl⟩ ∧ PySem.W.codeIn K cdv q = true
  kp : PySem.W.keepIn K (.ref a) = true
theorem FunE.toQ {K : PySem.W.Frag} {f : Str} {st : Stmt} {a : Addr} {fd : FuncData} (F : FunE K f st a fd) : FunQ K f st a fd := ⟨⟨f, F.ex⟩, F.kp⟩
theorem FunQ.of {K : PySem.W.Frag} {x q : Str} {st : Stmt} {a : Addr} {fd : FuncData} (F : Fun K x q st a fd) : FunQ K q st a fd := by
  obtain ⟨oc, od, kV, doc, pm, an, cdv, ct, osl, e, l, c⟩ := F.ex
  exact ⟨⟨x, oc, od, _, kV, doc, pm, an, cdv, ct, osl, e, l, c⟩, F.kp⟩
theorem FunQ.okX {P : Program} {w : World} {K : PySem.W.Frag} {mg : Str → Option Value} {base : Heap} {q : Str} {st : Stmt} {f : Addr} {fd : FuncData} {N ps : List Str} {k : Nat} {sp : Sp} (F : FunQ K q st f fd) (S : FnScope N ps (defScope st)) (len : ∀ vs H Q E, sp vs H Q E → vs.length = ps.length)
    (hbody : ∀ (cdv : Value) (A : Around) (outer : List Env) (s : Shared) (H : Hp) (vs : List V) (Q : VK) (E : XK), Room k (A.deeper (envOfC q (defScope st) s.heap.objs.size f cdv)) → sp vs H Q E →
      ∃ t, PSs (cxOf (L2.CX P w) P w K mg base N q (defScope st) f cdv A outer s H E) (defBody st) t ∧ t { nx := fun _ H' => Q .non H', rt := Q } (start N vs) H) : FnOk P w K mg base (L2.CX P w) (k + 1) f fd ps sp := by
  obtain ⟨x, oc, od, dV, kV, doc, pm, an, cdv, ct, osl, rfl, lk, hcd⟩ := F.ex
  exact fn_of lk hcd S len fun A outer s H vs Q E hr hsp => hbody cdv A outer s H vs Q E hr hsp
/-- a def whose last parameter has None as its default -/
theorem dfl_mk {K : PySem.W.Frag} {x : Str} {st : Stmt} {f T : Addr} {oc oc2 : Value} {od od2 an : Option Addr} {osl osl2 : Array (Option Value)} {kV doc pm cdv ct : Value} {nn : Nat}
    (l : K.lookup f = some ⟨oc, od, .func (PySem.W.fnOf x x (defArgs st) (defBody st) (defScope st) (.ref T) kV doc pm an cdv ct), osl⟩)
    (t : K.lookup T = some ⟨oc2, od2, .seq #[.none] nn, osl2⟩)
    (c : PySem.W.codeIn K cdv x = true) (k : PySem.W.keepIn K (.ref f) = true) :
    FunE K x st f (PySem.W.fnOf x x (defArgs st) (defBody st) (defScope st) (.ref T) kV doc pm an cdv ct) ∧ FunD K x x (defArgs st) (defBody st) (defScope st) [V.non] [] f (PySem.W.fnOf x x (defArgs st) (defBody st) (defScope st) (.ref T) kV doc pm an cdv ct) :=
  ⟨⟨⟨oc, od, _, kV, doc, pm, an, cdv, ct, osl, rfl, l, c⟩, k⟩, ⟨⟨oc, od, _, kV, doc, pm, an, cdv, ct, osl, rfl, l, c, .inr ⟨by simp, T, _, [.none], nn, rfl, t, rfl, .cons (by exact rfl) .nil⟩, .inl rfl⟩, k⟩⟩
theorem dfl_b1 {K : PySem.W.Frag} {x : Str} {params : Arguments} {body : List Stmt} {scope : Scope} {f : Addr} {fd : FuncData} {ps : List Str} (F : FunD K x x params body scope [V.non] [] f fd) (hn : 0 < ps.length)
    (h : ∀ (T : Addr) (kV doc pm : Value) (an : Option Addr) (cdv ct : Value) (us its : List Value), us.length = ps.length - 1 → its.length = 1 →
      ∃ k, bindArgs (PySem.W.fnOf x x params body scope (.ref T) kV doc pm an cdv ct) ⟨us, []⟩ = seqItems? (.ref T) >>= k ∧ k (some its.toArray) = pure (ps.zip (us ++ its))) : ∃ ds, Vals [V.non] ds ∧ Binds K fd ps ds :=
  F.binds1 (ps.length - 1) 0 (by simp) (by simp; omega) h
theorem dfl_b0 {K : PySem.W.Frag} {x : Str} {params : Arguments} {body : List Stmt} {scope : Scope} {f : Addr} {fd : FuncData} {ps : List Str} (F : FunD K x x params body scope [V.non] [] f fd)
    (h : ∀ (T : Addr) (kV doc pm : Value) (an : Option Addr) (cdv ct : Value) (us its : List Value), us.length = ps.length → its.length = 1 →
      ∃ k, bindArgs (PySem.W.fnOf x x params body scope (.ref T) kV doc pm an cdv ct) ⟨us, []⟩ = seqItems? (.ref T) >>= k ∧ k (some its.toArray) = pure (ps.zip us)) : Binds K fd ps [] := by
  obtain ⟨ds, e, b⟩ := F.binds1 (ps := ps) ps.length 1 (by simp) (by simp) fun T kV doc pm an cdv ct us its l1 l2 => by
    obtain ⟨k, e1, e2⟩ := h T kV doc pm an cdv ct us its l1 l2
    refine ⟨k, e1, ?_⟩
    have l3 : its.length = 1 := l2
    rw [e2, List.drop_of_length_le (i := 1) (Nat.le_of_eq l3), List.append_nil]
  cases e
  exact b
/-- the def of the name f, by its text and what the check says of it -/
structure DefM (K : PySem.W.Frag) (fs d1 : List Str) (fx : List Fact) (ms : List (Str × Str × Str)) (q : Str) (fn : Fn) (st : Stmt) (a : Addr) (fd : FuncData) : Prop where
  F : FunQ K q st a fd
  S : FnScope fn.N fn.ps (defScope st)
  b : Binds K fd fn.ps []
  c : fn.body.chk { N := fn.N, sc := defScope st, fs := fs, cells := fn.N, d1 := d1, fx := fx, top := true, ms := ms } (defBody st) = true
structure DefOk (K : PySem.W.Frag) (mg : Str → Option Value) (fs d1 : List Str) (fx : List Fact) (ms : List (Str × Str × Str)) (f : Str) (fn : Fn) (st : Stmt) (a : Addr) (fd : FuncData) : Prop where
  F : FunE K f st a fd
  m : mg f = some (.ref a)
  S : FnScope fn.N fn.ps (defScope st)
  b : Binds K fd fn.ps []
  c : fn.body.chk { N := fn.N, sc := defScope st, fs := fs, cells := fn.N, d1 := d1, fx := fx, top := true, ms := ms } (defBody st) = true
theorem DefOk.toM {K : PySem.W.Frag} {mg : Str → Option Value} {fs d1 : List Str} {fx : List Fact} {ms : List (Str × Str × Str)} {f : Str} {fn : Fn} {st : Stmt} {a : Addr} {fd : FuncData} (d : DefOk K mg fs d1 fx ms f fn st a fd) : DefM K fs d1 fx ms f fn st a fd := ⟨d.F.toQ, d.S, d.b, d.c⟩
structure Text (K : PySem.W.Frag) (mg : Str → Option Value) (T : Str → Option Fn) (fs d1 : List Str) (fx : List Fact) (ms : List (Str × Str × Str)) : Prop where
  fxs : ∀ φ ∈ fx, φ.holds K mg
  mark : T "!" = none
  meths : ∀ p ∈ ms, ∃ q fn st a fd C, T p.2.2 = some fn ∧ mg p.1 = some (.ref C) ∧ Cls K C ∧ Meth K C p.2.1 a ∧ DefM K fs d1 fx ms q fn st a fd
  blt : ∀ x ∈ bnames, mg x = none
  defs : ∀ f ∈ fs, ∃ fn st a fd, T f = some fn ∧ DefOk K mg fs d1 fx ms f fn st a fd ∧ (f ∈ d1 → ∃ ds, Vals [V.non] ds ∧ Binds K fd fn.ps ds)
  sub : ∀ f ∈ d1, f ∈ fs
theorem ok_start {K : PySem.W.Frag} {mg : Str → Option Value} {Hs H : Hp} {ds : List D} {vs : List V} (i : Same Hs H) (r : Rps K mg Hs ds vs) (N : List Str) :
    Ok K mg Hs H Hs H (ds.map .sh ++ List.replicate (N.length - ds.length) .no) (L2.start N vs) := by
  have hl := r.len
  refine ⟨.rfl i, by simp [L2.start, hl], fun j sl x h1 h2 => ?_, fun j k sl sl' a _ h1 _ o1 _ => ?_⟩
  · by_cases hj : j < ds.length
    · rw [List.getElem?_append_left (by simpa using hj), List.getElem?_map] at h1
      unfold L2.start at h2
      rw [List.getElem?_append_left (by simp [hl, hj]), List.getElem?_map] at h2
      rw [List.getElem?_eq_getElem hj] at h1
      cases h1
      obtain ⟨v, e, rv⟩ := r.get (List.getElem?_eq_getElem hj)
      rw [e] at h2
      cases h2
      exact ⟨v, rfl, rv⟩
    · rw [List.getElem?_append_right (by simpa using hj), List.getElem?_replicate] at h1
      split at h1
      · cases h1; trivial
      · cases h1
  · by_cases hj : j < ds.length
    · rw [List.getElem?_append_left (by simpa using hj), List.getElem?_map, List.getElem?_eq_getElem hj] at h1
      cases h1; cases o1
    · rw [List.getElem?_append_right (by simpa using hj), List.getElem?_replicate] at h1
      split at h1
      · cases h1; cases o1
      · cases h1
theorem all_okM {P : Program} {w : World} {K : PySem.W.Frag} {mg : Str → Option Value} {base : Heap} {T : Str → Option Fn} {fs d1 : List Str} {fx : List Fact} {ms : List (Str × Str × Str)} (TX : Text K mg T fs d1 fx ms) :
    ∀ (k : Nat) (f q : Str) (fn : Fn) (st : Stmt) (a : Addr) (fd : FuncData), T f = some fn → DefM K fs d1 fx ms q fn st a fd → FnOk P w K mg base (L2.CX P w) k a fd fn.ps (spEv K mg (evFn T k) f)
  | 0, f, q, fn, st, a, fd, hT, d => by
    have no : ∀ vs H Q E, ¬ spEv K mg (evFn T 0) f vs H Q E := fun vs H Q E ⟨Hs, ds, _, _, z⟩ => z
    exact ⟨fun vs H Q E h => absurd h (no vs H Q E), fun A outer s H args us vs Q E _ _ _ _ h => absurd h (no vs H Q E)⟩
  | k + 1, f, qn, fn, st, a, fd, hT, d => by
    have ih := all_okM (P := P) (w := w) (base := base) TX k
    refine d.F.okX d.S (fun vs H Q E h => ?_) fun cdv A outer s H vs Q E hr h => ?_
    · obtain ⟨Hs, ds, i, r, z⟩ := h
      by_cases hl : ds.length = fn.ps.length
      · rw [r.len, hl]
      · exfalso
        have e : evFn T (k + 1) f ds = .bad := by
          show callFn (T f) k (evFn T k) ds = _
          rw [hT]
          exact if_neg hl
        rw [e] at z
        exact z
    · obtain ⟨Hs, ds, i, r, z⟩ := h
      have hl : ds.length = fn.ps.length := by
        apply Classical.byContradiction
        intro hl
        have e : evFn T (k + 1) f ds = .bad := by
          show callFn (T f) k (evFn T k) ds = _
          rw [hT]
          exact if_neg hl
        rw [e] at z
        exact z
      rw [evFn_succ hT hl] at z
      have gd : Good (cxOf (L2.CX P w) P w K mg base fn.N qn (defScope st) a cdv A outer s H E) (fun cls d _ H => E cls d H) { N := fn.N, sc := defScope st, fs := fs, cells := fn.N, d1 := d1, fx := fx, top := true, ms := ms } (evFn T k) := by
        refine ⟨fun hm => hr.mono ?_, fun p hp => ?_, fun _ => ⟨rfl, rfl⟩, TX.fxs, rfl, d.S.nd, rfl, rfl, (by have := hr.un; show A.units + 3 + 100 < cLine; have q : (A.deeper (envOfC qn (defScope st) s.heap.objs.size a cdv)).units = A.units + 3 := rfl; omega), TX.blt, takes_of rfl rfl rfl rfl, d.S.kind, fun x _ => rfl, fun f' hf1 => ?_, fun f' hf' => ?_⟩
        · cases k with
          | zero => exact absurd rfl hm
          | succ k' =>
            apply Classical.byContradiction
            intro hk
            refine hm ?_
            show callFn (T "!") k' (evFn T k') [] = .bad
            rw [TX.mark]
            unfold callFn
            exact if_neg (by omega)
        · obtain ⟨q', fn', st', a', fd', C, hT', hC, hc, hm, d'⟩ := TX.meths p hp
          exact ⟨k, a', fd', fn'.ps, C, hC, hc, hm, ih p.2.2 q' fn' st' a' fd' hT' d', hr, d'.b⟩
        · have hf' := TX.sub f' hf1
          obtain ⟨fn', st', a', fd', hT', d', b1⟩ := TX.defs f' hf'
          obtain ⟨ds', hd, hb⟩ := b1 hf1
          exact ⟨k, a', fd', fn'.ps, ds', ih f' f' fn' st' a' fd' hT' d'.toM, hr, d'.m, d'.F.kp, hd, hb⟩
        · obtain ⟨fn', st', a', fd', hT', d', _⟩ := TX.defs f' hf'
          exact ⟨k, a', fd', fn'.ps, ih f' f' fn' st' a' fd' hT' d'.toM, hr, d'.m, d'.F.kp, d'.b⟩
      obtain ⟨t, p, q⟩ := fn.body.ok gd (passes_of rfl) _ d.c
      refine ⟨t, p, q Hs H Hs H (startSl fn ds) (L2.start fn.N vs) _ (ok_start i r fn.N) ?_⟩
      revert z
      match fn.body.ev (evFn T k) (startSl fn ds) with
      | some (.nx ρ) => exact fun z Hs' H' σ o => z .non Hs' H' o.ext (by simp [flag, Rs, Rp])
      | some (.rt d b) => exact fun z v Hs' H' e rs => z v Hs' H' e rs
      | some (.ex c es ρ) => exact fun z cls dd Hs' H' σ o rx => z cls dd Hs' H' o.ext rx
      | some (.bk ρ) => exact fun z => z.elim
      | some (.ct ρ) => exact fun z => z.elim
      | none => exact fun z => z.elim
theorem all_ok {P : Program} {w : World} {K : PySem.W.Frag} {mg : Str → Option Value} {base : Heap} {T : Str → Option Fn} {fs d1 : List Str} {fx : List Fact} {ms : List (Str × Str × Str)} (TX : Text K mg T fs d1 fx ms) (k : Nat) (f : Str) (hf : f ∈ fs) (fn : Fn) (st : Stmt) (a : Addr) (fd : FuncData) (hT : T f = some fn) (d : DefOk K mg fs d1 fx ms f fn st a fd) :
    FnOk P w K mg base (L2.CX P w) k a fd fn.ps (spEv K mg (evFn T k) f) := all_okM TX k f f fn st a fd hT d.toM
end MJ

namespace MJ
open PySem PySem.Spec PyProof.Rows L2
/-! ### the __init__ of an exception's own class -/
/-- J is an exception's class of the program's own over ValueError, without an __init__ of its own -/
structure JErr (K : PySem.W.Frag) (mg : Str → Option Value) (J : Str) (CJ : Addr) : Prop where
  m : mg J = some (.ref CJ)
  rd : PySem.W.readsIn K CJ (.type "type") = true
  ga : PySem.W.specialIn K (.ref CJ) "__getattribute__" = some (some (.builtin "type.__getattribute__"))
  at_ : PySem.W.findCls K (.ref CJ) (.type "type") "__init__" = some (.val (.builtin "ValueError.__init__"))
section
variable {X : Cx} {e : Expr} {es : List Expr} {ta : TA} {p1 p2 pos : Pos} {J : Str} {CJ : Addr}
theorem mcp_line {few : Bool} {o : Expr} {env : Env} (hl : (p1.endLine == pos.line) = true) : methodCallPos few o env p1 pos = pure pos := by
  unfold methodCallPos
  rw [hl, Bool.or_true]
  rfl
theorem jinit_hc {env : Env} {a : Str} {z : Const} {j2 : Nat} {q1 q2 : Pos} (hl : (p2.endLine == pos.line) = true) : eval (.Call (.Attribute (.Name J p1) "__init__" p2) [.Name a q1, .Constant z j2 q2] [] pos) env = (do
      let ov ← eval (.Name J p1) env
      standAt p2.atName
      let (f, first) ← holding [ov] (getMethod ov "__init__" (do return (← importBound (.Name J p1) env).getD true))
      callWith pos f first (backTo pos (starEach [.Name a q1, .Constant z j2 q2] env)) (backToKw pos (keywordEach [] env))) := by
  show (do
      let ov ← eval (.Name J p1) env
      standAt p2.atName
      methodCall (.Name J p1) "__init__" p2 pos env ov 2 (backTo pos (starEach [.Name a q1, .Constant z j2 q2] env)) (backToKw pos (keywordEach [] env))) = _
  simp only [methodCall, mcp_line hl]
  rfl
theorem pe_jinit {pl : Sem Bool} (E : JErr X.K X.mg J CJ) (hg : Gl X J) (hd : (J == ("__debug__" : Str)) = false) (ha : PA X (e :: es) ta)
    (hc : eval (.Call (.Attribute (.Name J p1) "__init__" p2) (e :: es) [] pos) X.env = (do
      let ov ← eval (.Name J p1) X.env
      standAt p2.atName
      let (f, first) ← holding [ov] (getMethod ov "__init__" pl)
      callWith pos f first (backTo pos (starEach (e :: es) X.env)) (backToKw pos (keywordEach [] X.env))) := by rfl)
    (he : starEach (e :: es) X.env = (false, eval e X.env) :: starEach es X.env := by rfl) (hpl : (backTo pos (starEach es X.env)).any (·.1) = false := by rfl) :
    PE X (.Call (.Attribute (.Name J p1) "__init__" p2) (e :: es) [] pos) (tVeI X.K ta) := by
  refine ⟨fun pins s σ H Q I h => ?_⟩
  refine PySem.W.methodCall_KW (ld_glob I hg E.m ?_ hd) hc
  refine PySem.W.method_cls I.kIn E.ga (PySem.W.cls_value I.kIn E.rd E.at_ (by decide +kernel) ?_)
  show wpAny _ _ (callWith pos (Value.builtin "ValueError.__init__") [] (backTo pos (starEach (e :: es) X.env)) []) _ _ _
  refine PyProof.Rows.callWith_method1 (thn (ha.run pos pins _ σ H _ (I.tok _) h) fun us s1 ⟨vs, H1, I1, r1, a, C, ws, ev, hl, T, ea, q⟩ => ?_) he hpl
  subst ev
  cases r1 with
  | @cons _ u0 _ ur ra rw' =>
    obtain rfl : u0 = Value.ref a := ra
    have hlen : ur.length ≤ sizeLine := by
      rw [← Paired.length rw', sizeLine_eq]
      omega
    exact oinit_ok T I1 ea hlen fun s' J => ⟨.non, H1, J, rfl, q⟩
end
/-- J.__init__(self, 'text'); self.fld = p -/
def chkInit (J fld p : Str) (sc : Scope) : List Stmt → Bool
  | [.Expr (.Call (.Attribute (.Name j p1) nm p2) [.Name a q1, .Constant (.str z) j2 q2] [] pos) q3, .Assign [.Attribute (.Name a2 q4) f q5] (.Name b q6) q7] =>
    decide (j = J) && decide (nm = ("__init__" : Str)) && decide (a = ("self" : Str)) && decide (a2 = ("self" : Str)) && decide (f = fld) && decide (b = p) && (sc.names.lookup J == some .globalImplicit) && (sc.names.lookup ("self" : Str) == some .local) && (sc.names.lookup p == some .local)
      && !(J == ("__debug__" : Str)) && !(p == ("__debug__" : Str)) && !(p == ("__classdict__" : Str)) && (p2.endLine == pos.line)
  | _ => false
theorem init_walk {X : Cx} {J fld p : Str} {CJ : Addr} {l : List Stmt} {sc : Scope} (hN : X.N = [("self" : Str), p]) (hsc : X.env.scope = sc) (hg : Gl X J) (E : JErr X.K X.mg J CJ) (hb : chkInit J fld p sc l = true) :
    ∃ t, PSs X l t ∧ ∀ (D : Ends) (H : Hp) (a C : Addr) (v : V), OexC X.K C → PySem.W.findIn X.K (.ref C) fld = some none → H a = some (exo a C none) →
      (∀ dx σ, H dx = none → dx ≠ a → D.nx σ (upd (upd H dx (exd dx [(fld, v)])) a (exo a C (some dx)))) → t D [some (.ref a), some v] H := by
  unfold chkInit at hb
  split at hb
  · rename_i j p1 nm p2 a1 q1 z j2 q2 pos q3 a2 q4 f q5 b q6 q7
    simp only [Bool.and_eq_true, decide_eq_true_eq, Bool.not_eq_true', beq_iff_eq] at hb
    obtain ⟨⟨⟨⟨⟨⟨⟨⟨⟨⟨⟨⟨rfl, rfl⟩, rfl⟩, rfl⟩, rfl⟩, rfl⟩, g1⟩, g2⟩, g3⟩, g4⟩, g5⟩, g6⟩, g7⟩ := hb
    have v0 : ∀ q, PE X (.Name ("self" : Str) q) (tVar 0) := fun q => pe_var (by rw [hN]; rfl) (by rw [hsc]; exact .inl g2)
    have v1 : ∀ q, PE X (.Name b q) (tVar 1) := fun q => pe_var (by rw [hN]; rfl) (by rw [hsc]; exact .inl g3) (by simpa using g5) (by simpa using g6)
    refine ⟨_, pss_cons (ps_expr (pe_jinit E hg (by simpa using g4) (pa_cons (v0 q1) (pa_cons pe_str pa_nil)) (jinit_hc (by simpa using g7)))) (pss_cons (ps_ost (v0 q4) (v1 q6)) pss_nil), fun D H a C v T hno ha hq => ?_⟩
    exact ⟨.ref a, rfl, a, C, [.str z], rfl, by simp, T, ha, v, rfl, .ref a, rfl, a, C, rfl, T, hno, .inl ⟨ha, fun dx h1 h2 => hq dx _ h1 h2⟩⟩
  · cases hb
theorem init_ok {K : PySem.W.Frag} {mg : Str → Option Value} {P : Program} {w : World} {base : Heap} {q J fld p : Str} {st : Stmt} {fI CJ : Addr} {fd : FuncData} (F : Fun K "__init__" q st fI fd) (S : FnScope ["self", p] ["self", p] (defScope st))
    (hj : (defScope st).names.lookup J = some .globalImplicit) (hb : chkInit J fld p (defScope st) (defBody st) = true) (E : JErr K mg J CJ) : FnOk P w K mg base L2.CX0 1 fI fd ["self", p] (spExo K fld) := by
  refine F.ok (k := 0) S (fun vs H Q E h => ?_) fun cdv A outer s H vs Q E' hr h => ?_
  · obtain ⟨a, C, v, rfl, _⟩ := h; rfl
  · obtain ⟨a, C, v, rfl, T, hno, ha, hq⟩ := h
    obtain ⟨t, p, r⟩ := init_walk (X := (cxOf L2.CX0 P w K mg base ["self", p] q (defScope st) fI cdv A outer s H E').nox) (l := defBody st) rfl rfl (by exact hj) E hb
    exact ⟨t, p, r _ H a C v T hno ha fun dx σ h1 h2 => hq dx h1 h2⟩
end MJ

namespace MJ
open PySem PySem.Spec PyProof.Rows L2
/-! ### raise X(e), X an exception's class of the program's own with an __init__ -/
def raiseEv (x : Str) (r : Res D) (m : Res (D × Bool)) (ρ : List Sl) : Option Fl := match r, m with
  | .ok d, .ok _ => some (.ex x [d] ρ)
  | .ex c es, .ok _ => some (.ex c es ρ)
  | _, _ => none
def C1.raiseO (x fld : Str) (e : CE) : C1 where
  ev := fun call ρ => raiseEv x (e.arg false call ρ) (call "!" []) ρ
  chk := fun cf z => match z with
    | .Raise (some (.Call (.Name y _) [a] [] _)) none _ => decide (y = x) && decide (fldsOf x = [fld]) && decide (Fact.exo x fld ∈ cf.fx) && glob cf x && !(x == ("__debug__" : Str)) && e.chk cf a
    | _ => false
  ok := fun {X W cf call} g hp z h => by
    split at h
    · rename_i y p0 a pos0 pos1
      simp only [Bool.and_eq_true, decide_eq_true_eq, Bool.not_eq_true'] at h
      obtain ⟨⟨⟨⟨⟨rfl, h0⟩, h1⟩, h2⟩, h3⟩, h4⟩ := h
      obtain ⟨C, fI, fd, p, hm, T, iC, tI, hno, hb, F⟩ := g.fx _ h1
      have hst := e.star _ _ h4
      obtain ⟨ta, pa, qa⟩ := ja_cons ((e.ok g _ h4).arg false) (ja_nil (b := false)) hst
      by_cases hM : call "!" [] = .bad
      · refine ⟨fun _ _ _ => False, ⟨fun _ _ _ _ _ _ z => z.elim⟩, fun Hs0 H0 Hs H ρ σ D ok h => ?_⟩
        dsimp only at h
        rw [hM] at h
        unfold raiseEv at h
        split at h
        · rename_i z1; cases z1
        · rename_i z1; cases z1
        · exact h
      · refine ⟨_, ps_raise g.calm g.tk (pmk_oex (CX := L2.CX0) (dvs := []) T iC tI (F X.prog X.w X.base) (g.mark hM) hb .nil (fun _ _ _ _ _ _ _ h => h.elim) (g.gl h2) hm pa h3 (starEach_cons hst) rfl), fun Hs0 H0 Hs H ρ σ D ok h => ?_⟩
        refine qa Hs0 H0 Hs H ρ σ _ ok ?_
        dsimp only at h ⊢
        simp only [CE.arg] at h
        cases hm2 : call "!" [] with
        | bad => exact absurd hm2 hM
        | ex _ _ =>
          rw [hm2] at h
          exfalso
          revert h
          cases argR false (e.ev call ρ) <;> exact fun h => h
        | ok pm =>
          rw [hm2] at h
          cases ed : argR false (e.ev call ρ) with
          | bad => rw [ed] at h; exact h.elim
          | ex c es => rw [ed] at h; exact fun cls dd Hs' H' e' q => h cls dd Hs' H' σ (ok.grow e') q
          | ok d =>
            rw [ed] at h
            intro vs Hs' H' ex ps
            cases ps with
            | cons p1 ps =>
              rename_i v vs'
              cases ps
              have rv := p1.sh
              refine ⟨by simp, fun aE hn => ⟨aE, C, v, rfl, T, hno, upd_same, fun dx hdx ne => ?_⟩⟩
              have hdx' : H' dx = none := by rw [upd_ne ne] at hdx; exact hdx
              refine ⟨rfl, dx, [(fld, v)], upd_same, by rw [upd_ne ne, upd_same], hdx', ?_⟩
              have eH : upd (del (upd (upd (upd H' aE (exo aE C none)) dx (exd dx [(fld, v)])) aE (exo aE C (some dx))) aE) dx (.xd [(fld, v)]) = upd H' dx (.xd [(fld, v)]) := by
                funext b
                by_cases b1 : b = dx
                · subst b1; rw [upd_same, upd_same]
                · rw [upd_ne b1, upd_ne b1]
                  by_cases b2 : b = aE
                  · subst b2; rw [del_same, hn]
                  · rw [del_ne b2, upd_ne b2, upd_ne b1, upd_ne b2]
              rw [eH]
              refine h (.ref C) (some dx) Hs' _ σ ((ok.grow ex).grow (Ext.own (.rfl ex.i) hdx' _)) ⟨C, hm, rfl, .inr ⟨dx, _, rfl, upd_same, ?_, h0.symm⟩⟩
              exact .cons rv .nil
    · cases h
@[simp] theorem C1.raiseO_ev {call : Calls} {ρ : List Sl} (x fld : Str) (e : CE) : (C1.raiseO x fld e).ev call ρ = raiseEv x (e.arg false call ρ) (call "!" []) ρ := rfl
/-! ### try: body; except y: x = True -/
theorem Good.tr {X : Cx} {W W' : WX} {cf : Cf} {call : Calls} (g : Good X W cf call) {pn : List (Addr × Obj)} {xe : Value → Shared → Prop} (tk : Takes (X.tr pn xe) W') : Good (X.tr pn xe) W' cf call where
  fx := g.fx
  mark := g.mark
  meth := g.meth
  top := g.top
  hN := g.hN
  nd := g.nd
  sc := g.sc
  calm := g.calm
  units := g.units
  blt := g.blt
  tk := tk
  kind := g.kind
  fn := g.fn
  call1 := g.call1
  call := g.call
/-- a block's reading that leans on the data alone -/
def cS (X : Cx) (W : WX) (f : List Sl → Option Fl) : TS := fun D σ H => ∃ Hs0 H0 Hs ρ, OK X Hs0 H0 Hs H ρ σ ∧ PostS X W Hs0 H0 D (f ρ)
theorem JS.can {X : Cx} {W : WX} {x : List Stmt} {f : List Sl → Option Fl} (j : JS X W x f) : PSs X x (cS X W f) := by
  obtain ⟨t, p, q⟩ := j
  exact ⟨fun pins s σ H D I ⟨Hs0, H0, Hs, ρ, ok, h⟩ => p.run pins s σ H D I (q _ _ _ _ _ _ _ ok h)⟩
theorem lookup_mem : ∀ {l : List (Str × Bool)} {c : Str} {b : Bool}, l.lookup c = some b → (c, b) ∈ l
  | [], _, _, h => by cases h
  | (a, q) :: l, c, b, h => by
    rw [List.lookup_cons] at h
    split at h
    · rename_i e
      cases h
      rw [eq_of_beq e]; simp
    · exact List.mem_cons_of_mem _ (lookup_mem h)
def tryEv (tb : List (Str × Bool)) (i : Nat) (b : Bool) : Option Fl → Option Fl
  | some (.ex c es ρ) => match tb.lookup c with
    | some true => some (.nx (ρ.set i (.sh (.bl b))))
    | some false => some (.ex c es ρ)
    | none => none
  | r => r
def C1.tryBl (y : Str) (tb : List (Str × Bool)) (body : CS) (i : Nat) (b : Bool) : C1 where
  ev := fun call ρ => tryEv tb i b (body.ev call ρ)
  chk := fun cf z => match z with
    | .Try bd [.ExceptHandler (some (.Name u _)) none [.Assign [.Name v _] (.Constant (.bool k) _ _) _] _] [] [] _ =>
      decide (u = y) && cf.top && glob cf y && !(y == ("__debug__" : Str)) && body.chk cf bd && chkLoc cf i v && decide (k = b) && tb.all (fun p => decide (Fact.exm p.1 y p.2 ∈ cf.fx)) && !tb.isEmpty
    | _ => false
  ok := fun {X W cf call} g hp z h => by
    split at h
    · rename_i bd u pu v pv k pk1 pk2 pk3 pk4 pk5
      simp only [Bool.and_eq_true, decide_eq_true_eq, Bool.not_eq_true', List.all_eq_true] at h
      obtain ⟨⟨⟨⟨⟨⟨⟨⟨rfl, h1⟩, h2⟩, h3⟩, h4⟩, h5⟩, rfl⟩, h7⟩, h8⟩ := h
      obtain ⟨Y, hY⟩ : ∃ Y, X.mg u = some (.ref Y) := by
        cases tb with
        | nil => cases h8
        | cons p tb =>
          obtain ⟨C, Y, _, m2, _⟩ := g.fx _ (h7 p (by simp))
          exact ⟨Y, m2⟩
      obtain ⟨s1, s2⟩ := g.top h1
      obtain ⟨l1, l2, l3⟩ := g.loc h5
      refine ⟨_, ps_try_only (c := .ref Y) (Wout := W) (tb := fun W' => cS X W' (body.ev call)) (ts := fun _ _ _ => tSeq (tAsg (tC (.bl k)) (gName i)) tNext) s1 s2 ⟨g.gl h2, h3, .inl hY⟩ g.tk
        (fun W' pn xe tk pw => (body.ok (g.tr tk) pw bd h4).can) (fun a oe cls d pn hz hf => pss_cons (ps_set g.nodup l1 l2 pe_bl rfl l3) pss_nil), fun Hs0 H0 Hs H ρ σ D ok h => ?_⟩
      refine ⟨Hs0, H0, Hs, ρ, ok, ?_⟩
      dsimp only at h
      revert h
      match body.ev call ρ with
      | some (.nx ρ') => exact fun h => h
      | some (.bk ρ') => exact fun h => h
      | some (.ct ρ') => exact fun h => h
      | some (.rt d o) => exact fun h => h
      | none => exact fun h => h
      | some (.ex c es ρ') =>
        intro h cls dd Hs' H' σ' ok' rx
        simp only [tryEv] at h
        obtain ⟨C, m1, rfl, r1⟩ := id rx
        have fact : ∀ q, tb.lookup c = some q → PySem.W.exmOne X.K (.ref C) (.ref Y) = some q := fun q hq => by
          have hm : (c, q) ∈ tb := lookup_mem hq
          obtain ⟨C', Y', e1, e2, e3⟩ := g.fx _ (h7 _ hm)
          have e1 : X.mg c = some (.ref C') := e1
          rw [m1] at e1
          rw [hY] at e2
          cases e1; cases e2
          exact e3
        split at h
        · rename_i q
          exact ⟨true, fact _ q, fun _ a ha => h Hs' H' _ (ok'.setSh i (by simp [Rp])), fun z => nomatch z⟩
        · rename_i q
          exact ⟨false, fact _ q, (fun z => nomatch z), fun _ => h _ dd Hs' H' σ' ok' rx⟩
        · exact h.elim
    · cases h
@[simp] theorem C1.tryBl_ev {call : Calls} {ρ : List Sl} (y : Str) (tb : List (Str × Bool)) (body : CS) (i : Nat) (b : Bool) : (C1.tryBl y tb body i b).ev call ρ = tryEv tb i b (body.ev call ρ) := rfl
end MJ

namespace MJ
open PySem PySem.Spec PyProof.Rows L2

/-! ### operations on values -/
theorem op_catL {X : Cx} : OpR X (binaryOp .Add) (fun x y H Q => ∃ l b xs zs, x = .ref l ∧ y = .ref b ∧ SqL X.K H l xs ∧ SqL X.K H b zs ∧ xs.length + zs.length ≤ sizeLine ∧ ∀ p, H p = none → Q (.ref p) (upd H p (.lst (xs ++ zs)))) := by
  intro pins s σ H x y v u Q I rx ry h
  obtain ⟨l, b, xs, zs, rfl, rfl, hH, hB, hz, q⟩ := h
  cases rx
  cases ry
  obtain ⟨its, r, pl, hl⟩ := I.list hH
  obtain ⟨its2, r2, pl2, hl2⟩ := I.list hB
  obtain ⟨⟨cls, dd, data, sl⟩, ho, hc, n, hd⟩ := pl.isList
  obtain ⟨⟨cls2, dd2, data2, sl2⟩, ho2, hc2, n2, hd2⟩ := pl2.isList
  simp only at hc hd hc2 hd2
  subst hc hd hc2 hd2
  have e1 := r.length
  have e2 := r2.length
  refine concat_meets ⟨_, ho, rfl⟩ ⟨_, ho2, rfl⟩ noFill_list_add seq_list_add PySem.F.slot_list_add PySem.F.entry_list_add (PySem.F.args_list_add_2 _ _) (list_addW l b its.toArray its2.toArray n n2 dd dd2 sl sl2 (by simp; omega)) ⟨ho, ho2, ?_⟩
  have e : its.toArray ++ its2.toArray = (its ++ its2).toArray := by simp
  rw [e]
  refine ⟨.ref s.heap.objs.size, _, I.laid (t' := s.toks) (o := .lst (xs ++ zs)) (fun b ob q => Heap.get?_push_of_some _ q) (Nat.le_refl _) ?_, rfl, q _ (I.hok.fresh (Nat.le_refl _))⟩
  exact ⟨by rw [List.length_append]; exact hz, _, 0, r.append r2, Heap.get?_push_size _ rfl⟩
section
variable {X : Cx} {W : WX} {Hs H : Hp} {σ : L2.St} {Q : VK}
theorem post_sh {d : D} {v : V} (i : Same Hs H) (h : PostE X W Hs H σ Q (.ok (d, .sh))) (r : Rp X.K X.mg Hs d v) : Q v H := h v Hs H (.rfl i) r
theorem post_int {k : Int} (i : Same Hs H) (h : PostE X W Hs H σ Q (.ok (.int k, .sh))) : Q (.int k) H := post_sh i h (by simp [Rp])
theorem post_bl {k : Bool} (i : Same Hs H) (h : PostE X W Hs H σ Q (.ok (.bl k, .sh))) : Q (.bl k) H := post_sh i h (by simp [Rp])
theorem post_str {k : Str} (i : Same Hs H) (h : PostE X W Hs H σ Q (.ok (.str k, .sh))) : Q (.str k) H := post_sh i h (by simp [Rp])
/-- a new tuple -/
theorem post_tup {ds : List D} {xs : List V} {p : Addr} (i : Same Hs H) (h : PostE X W Hs H σ Q (.ok (.tup ds, .sh))) (r : Rps X.K X.mg Hs ds xs) (n : H p = none) : Q (.ref p) (upd H p (.tup xs)) := by
  have n1 := i.free n
  refine h _ (upd Hs p (.tup xs)) _ ((Ext.rfl i).new n _) ?_
  show Rp _ _ _ (.tup ds) _
  simp only [Rp]
  exact ⟨p, xs, rfl, .of upd_same, r.mono (same_new n1 _)⟩
/-- a new list -/
theorem post_lst {ds : List D} {xs : List V} {p : Addr} (i : Same Hs H) (h : PostE X W Hs H σ Q (.ok (.lst ds, .fr))) (r : Rps X.K X.mg Hs ds xs) (n : H p = none) : Q (.ref p) (upd H p (.lst xs)) :=
  h _ Hs _ ((Ext.rfl i).own n _) ⟨p, _, rfl, n, i.free n, upd_same, xs, rfl, r⟩
end
def addD : D → D → Res (D × Fr)
  | .int i, .int j => .ok (.int (i + j), .sh)
  | .str a, .str b => if a.length + b.length ≤ sizeLine then .ok (.str (a ++ b), .sh) else .bad
  | .tup a, .tup b => if a.length + b.length ≤ sizeLine then .ok (.tup (a ++ b), .sh) else .bad
  | .lst a, .lst b => if a.length + b.length ≤ sizeLine then .ok (.lst (a ++ b), .fr) else .bad
  | _, _ => .bad
def B2.add : B2 (binaryOp .Add) where
  b1 := true
  b2 := true
  g := addD
  ok := fun X hc hu => ⟨_, op_add.or (op_add_str.or (op_catA.or op_catL)), fun W Hs H σ d e x y Q i p1 p2 h => by
    unfold addD at h
    split at h
    · exact .inl ⟨_, _, p1.int, p2.int, post_int i h⟩
    · split at h
      · exact .inr (.inl ⟨_, _, p1.str, p2.str, by assumption, post_str i h⟩)
      · exact h.elim
    · rename_i a b
      split at h
      · rename_i hz
        obtain ⟨p, xs, rfl, q1, r1⟩ := p1.tup
        obtain ⟨p', ys, rfl, q2, r2⟩ := p2.tup
        have l1 := r1.len
        have l2 := r2.len
        refine .inr (.inr (.inl ⟨p, p', xs, ys, rfl, rfl, i.seqT q1, i.seqT q2, by omega, fun e => ?_, fun _ e => ?_, fun _ _ z nz => post_tup i h (r1.append r2) nz⟩))
        · subst e
          have : a = [] := List.eq_nil_of_length_eq_zero (by simpa using l1.symm)
          subst this
          exact post_sh i h (by rw [List.nil_append]; simp only [Rp]; exact ⟨p', ys, rfl, q2, r2⟩)
        · subst e
          have : b = [] := List.eq_nil_of_length_eq_zero (by simpa using l2.symm)
          subst this
          exact post_sh i h (by rw [List.append_nil]; simp only [Rp]; exact ⟨p, xs, rfl, q1, r1⟩)
      · exact h.elim
    · split at h
      · rename_i hz
        obtain ⟨p, xs, rfl, q1, r1⟩ := p1.lst i
        obtain ⟨p', ys, rfl, q2, r2⟩ := p2.lst i
        have l1 := r1.len
        have l2 := r2.len
        exact .inr (.inr (.inr ⟨p, p', xs, ys, rfl, rfl, q1, q2, by omega, fun z nz => post_lst i h (r1.append r2) nz⟩))
      · exact h.elim
    · exact h.elim⟩
/-- an operation of two ints -/
def intD (f : Int → Int → Res (D × Fr)) : D → D → Res (D × Fr)
  | .int i, .int j => f i j
  | _, _ => .bad
def B2.ints (sem : Value → Value → Sem Value) (C : Int → Int → Prop) [∀ i j, Decidable (C i j)] (f : Int → Int → Int) (h : ∀ X : Cx, OpR X sem (rI C fun i j => .int (f i j))) : B2 sem where
  b1 := true
  b2 := true
  g := intD fun i j => if C i j then .ok (.int (f i j), .sh) else .bad
  ok := fun X hc hu => ⟨_, h X, fun W Hs H σ d e x y Q i p1 p2 h => by
    unfold intD at h
    (try dsimp only at h)
    split at h
    · (try dsimp only at h)
      split at h
      · exact ⟨_, _, p1.int, p2.int, by assumption, post_int i h⟩
      · exact h.elim
    · exact h.elim⟩
instance (i j : Int) : Decidable (CMulW i j) := inferInstanceAs (Decidable (_ < _))
instance (i j : Int) : Decidable (CDivW i j) := inferInstanceAs (Decidable (_ ∧ _))
instance (i j : Int) : Decidable (CPow i j) := inferInstanceAs (Decidable (_ ∧ _))
def B2.sub : B2 (binaryOp .Sub) := .ints _ (fun _ _ => True) (fun i j => i - j) fun X pins s σ H x y v u Q I rx ry ⟨i, j, e1, e2, _, q⟩ => op_sub pins s σ H x y v u Q I rx ry ⟨i, j, e1, e2, q⟩
def B2.mul : B2 (binaryOp .Mult) := .ints _ CMulW (fun i j => i * j) fun X => op_mulW
def B2.mod : B2 (binaryOp .Mod) := .ints _ (fun _ j => 0 < j) (fun i j => i % j) fun X => op_mod
def B2.fdiv : B2 (binaryOp .FloorDiv) := .ints _ CDivW (fun i j => i / j) fun X => op_fdivW
def B2.pow : B2 (binaryOp .Pow) := .ints _ CPow (fun i j => i ^ j.toNat) fun X => op_pow
def B2.shl : B2 (binaryOp .LShift) := .ints _ CPow (fun i j => i * 2 ^ j.toNat) fun X => op_shl
def B2.shr : B2 (binaryOp .RShift) := .ints _ (fun _ j => 0 ≤ j) (fun i j => i / 2 ^ j.toNat) fun X => op_shr
def B2.and_ : B2 (binaryOp .BitAnd) := .ints _ (fun _ _ => True) Builtin.bitAnd fun X pins s σ H x y v u Q I rx ry ⟨i, j, e1, e2, _, q⟩ => op_and pins s σ H x y v u Q I rx ry ⟨i, j, e1, e2, q⟩
def B2.or_ : B2 (binaryOp .BitOr) := .ints _ (fun _ _ => True) Builtin.bitOr fun X pins s σ H x y v u Q I rx ry ⟨i, j, e1, e2, _, q⟩ => op_or pins s σ H x y v u Q I rx ry ⟨i, j, e1, e2, q⟩
def B2.xor : B2 (binaryOp .BitXor) := .ints _ (fun _ _ => True) Builtin.bitXor fun X pins s σ H x y v u Q I rx ry ⟨i, j, e1, e2, _, q⟩ => op_xor pins s σ H x y v u Q I rx ry ⟨i, j, e1, e2, q⟩
/-! ### comparisons -/
def B2.icmp (op : CmpOp) (f : Int → Int → Bool) (h : ∀ X : Cx, OpR X (compareOp op) (rI0 fun i j => .bl (f i j))) : B2 (compareOp op) where
  b1 := true
  b2 := true
  g := intD fun i j => .ok (.bl (f i j), .sh)
  ok := fun X hc hu => ⟨_, h X, fun W Hs H σ d e x y Q i p1 p2 h => by
    unfold intD at h
    split at h
    · exact ⟨_, _, p1.int, p2.int, post_bl i h⟩
    · exact h.elim⟩
def B2.lt : B2 (compareOp .Lt) := .icmp _ (fun i j => decide (i < j)) fun X => op_lt
def B2.le : B2 (compareOp .LtE) := .icmp _ (fun i j => decide (i ≤ j)) fun X => op_le
def B2.gt : B2 (compareOp .Gt) := .icmp _ (fun i j => decide (j < i)) fun X => op_gt
def B2.ge : B2 (compareOp .GtE) := .icmp _ (fun i j => decide (j ≤ i)) fun X => op_ge
/-! as PyData -/
mutual
def toPy : D → Option PyData
  | .non => some .none
  | .bl b => some (.bool b)
  | .int i => some (.int i)
  | .str x => some (.str x)
  | .tup ds => (toPys ds).map .tuple
  | .lst ds => (toPys ds).map .list
  | .dic _ _ => none
  | .obj _ _ _ => none
  | .nms zs => some (.tuple (zs.map .str))
def toPys : List D → Option (List PyData)
  | [] => some []
  | d :: ds => match toPy d, toPys ds with
    | some p, some ps => some (p :: ps)
    | _, _ => none
end
mutual
theorem Rp.dp {K : PySem.W.Frag} {mg : Str → Option Value} {H : Hp} : ∀ {d : D} {p : PyData} {v : V}, toPy d = some p → Rp K mg H d v → Dp K H v p
  | .non, p, v, e, h => by
    simp only [toPy, Option.some.injEq] at e
    simp only [Rp] at h
    subst e; subst h; exact .non
  | .bl b, p, v, e, h => by
    simp only [toPy, Option.some.injEq] at e
    simp only [Rp] at h
    subst e; subst h; exact .bl b
  | .int b, p, v, e, h => by
    simp only [toPy, Option.some.injEq] at e
    simp only [Rp] at h
    subst e; subst h; exact .int b
  | .str b, p, v, e, h => by
    simp only [toPy, Option.some.injEq] at e
    simp only [Rp] at h
    subst e; subst h; exact .str b
  | .tup ds, p, v, e, h => by
    simp only [toPy, Option.map_eq_some_iff] at e
    obtain ⟨ps, e1, rfl⟩ := e
    simp only [Rp] at h
    obtain ⟨a, xs, rfl, q, r⟩ := h
    exact .tup q (Rps.dp e1 r)
  | .lst ds, p, v, e, h => by
    simp only [toPy, Option.map_eq_some_iff] at e
    obtain ⟨ps, e1, rfl⟩ := e
    simp only [Rp] at h
    obtain ⟨a, xs, rfl, q, r⟩ := h
    exact .lst q (Rps.dp e1 r)
  | .dic _ _, p, v, e, h => by simp [toPy] at e
  | .obj _ _ _, p, v, e, h => by simp [toPy] at e
  | .nms zs, p, v, e, h => by
    simp only [toPy, Option.some.injEq] at e
    simp only [Rp] at h
    subst e
    obtain ⟨a, o, rfl, q, _⟩ := h
    refine .tup (.inl (.inr ⟨o, q⟩)) ?_
    clear q
    induction zs with
    | nil => exact .nil
    | cons z zs ih => exact .cons (.str z) ih
theorem Rps.dp {K : PySem.W.Frag} {mg : Str → Option Value} {H : Hp} : ∀ {ds : List D} {ps : List PyData} {vs : List V}, toPys ds = some ps → Rps K mg H ds vs → DpAll K H vs ps
  | [], ps, vs, e, h => by
    simp only [toPys, Option.some.injEq] at e
    simp only [Rps] at h
    subst e; subst h; exact .nil
  | d :: ds, ps, vs, e, h => by
    simp only [toPys] at e
    simp only [Rps] at h
    obtain ⟨v, vs', rfl, r1, r2⟩ := h
    split at e
    · rename_i p ps' e1 e2
      cases e
      exact .cons (Rp.dp e1 r1) (Rps.dp e2 r2)
    · cases e
end
/-- == of data -/
def eqD (d e : D) : Res Bool := match toPy d, toPy e with
  | some p, some q => if SeqAt.shaped p = true ∧ SeqAt.shaped q = true then .ok (PyData.eqv p q) else .bad
  | _, _ => .bad
def B2.eq : B2 (compareOp .Eq) where
  b1 := true
  b2 := true
  g := fun d e => (eqD d e).bind fun b => .ok (.bl b, .sh)
  ok := fun X hc hu => ⟨_, op_eqD (by omega), fun W Hs H σ d e x y Q i p1 p2 h => by
    dsimp only at h
    unfold eqD at h
    split at h
    · split at h
      · rename_i p q e1 e2 hs
        exact ⟨p, q, Rp.dp e1 ((p1.view i).rp i), Rp.dp e2 ((p2.view i).rp i), hs.1, hs.2, post_bl i h⟩
      · exact h.elim
    · exact h.elim⟩
def B2.ne : B2 (compareOp .NotEq) where
  b1 := true
  b2 := true
  g := fun d e => (eqD d e).bind fun b => .ok (.bl (!b), .sh)
  ok := fun X hc hu => ⟨_, op_neD (by omega), fun W Hs H σ d e x y Q i p1 p2 h => by
    dsimp only at h
    unfold eqD at h
    split at h
    · split at h
      · rename_i p q e1 e2 hs
        exact ⟨p, q, Rp.dp e1 ((p1.view i).rp i), Rp.dp e2 ((p2.view i).rp i), hs.1, hs.2, post_bl i h⟩
      · exact h.elim
    · exact h.elim⟩
/-! ### a[i] -/
def ixD : D → D → Res (D × Fr)
  | .lst ds, .int i => match atI ds i with
    | some d => .ok (d, .sh)
    | none => .bad
  | .tup ds, .int i => match atI ds i with
    | some d => .ok (d, .sh)
    | none => .bad
  | .str z, .int i => if z.length ≤ sizeLine then (match atI z.cps.toList i with
    | some c => .ok (.str ⟨#[c]⟩, .sh)
    | none => .bad) else .bad
  | _, _ => .bad
theorem Rps.atI {K : PySem.W.Frag} {mg : Str → Option Value} {H : Hp} {ds : List D} {vs : List V} {i : Int} {d : D} (r : Rps K mg H ds vs) (h : L2.atI ds i = some d) : ∃ v, L2.atI vs i = some v ∧ Rp K mg H d v := by
  unfold L2.atI at h ⊢
  rw [r.len]
  cases e : ixN ds.length i with
  | none => rw [e] at h; cases h
  | some j =>
    rw [e] at h
    exact r.get h
def I2.ix : I2 where
  b1 := true
  b2 := true
  g := ixD
  ok := fun X hc hu => ⟨_, ix_seq, fun W Hs H σ d e x y Q i p1 p2 h => by
    unfold ixD at h
    split at h
    · split at h
      · rename_i ea
        obtain ⟨p, xs, rfl, q, r⟩ := p1.lst i
        obtain ⟨v, e1, r1⟩ := r.atI ea
        exact .inl ⟨p, xs, _, v, rfl, p2.int, q, e1, post_sh i h r1⟩
      · exact h.elim
    · split at h
      · rename_i ea
        obtain ⟨p, xs, rfl, q, r⟩ := p1.tup
        obtain ⟨v, e1, r1⟩ := r.atI ea
        exact .inr (.inl ⟨p, xs, _, v, rfl, p2.int, i.seqT q, e1, post_sh i h r1⟩)
      · exact h.elim
    · split at h
      · rename_i hz
        split at h
        · rename_i ea
          exact .inr (.inr ⟨_, _, _, p1.str, p2.int, hz, ea, post_str i h⟩)
        · exact h.elim
      · exact h.elim
    · exact h.elim⟩
/-! ### a[lo:hi] -/
structure CO where
  ev : Calls → List Sl → Res (Option Int)
  chk : Cf → Option Expr → Bool
  ok : ∀ {X W cf call}, Good X W cf call → ∀ x, chk cf x = true → ∃ t, PO X x t ∧ ∀ Hs0 H0 Hs H ρ σ Q, OK X Hs0 H0 Hs H ρ σ → (match ev call ρ with
    | .ok o => ∀ Hs' H', Ext Hs H Hs' H' → Q o H'
    | .ex c es => ∀ cls dd Hs' H', Ext Hs H Hs' H' → RpX X.K X.mg c es Hs' cls dd H' → W cls dd σ H'
    | .bad => False) → t σ H Q
def CO.no : CO where
  ev := fun _ _ => .ok none
  chk := fun _ x => x.isNone
  ok := fun {X W cf call} g x h => by
    cases x with
    | none => exact ⟨_, po_none, fun Hs0 H0 Hs H ρ σ Q ok h => h Hs H (.rfl ok.same)⟩
    | some => cases h
def CO.at (e : CE) : CO where
  ev := fun call ρ => (e.arg true call ρ).bind fun d => match d with
    | .int i => .ok (some i)
    | _ => .bad
  chk := fun cf x => match x with
    | some x => e.chk cf x
    | none => false
  ok := fun {X W cf call} g x h => by
    cases x with
    | some x =>
      obtain ⟨t, p, q⟩ := (e.ok g x h).arg true
      refine ⟨_, po_some p, fun Hs0 H0 Hs H ρ σ Q ok h => ?_⟩
      refine q Hs0 H0 Hs H ρ σ _ ok ?_
      revert h
      show (match (argR true (e.ev call ρ)).bind fun d => match d with
        | .int i => Res.ok (some i)
        | _ => Res.bad with
        | .ok o => ∀ Hs' H', Ext Hs H Hs' H' → Q o H'
        | .ex c es => ∀ cls dd Hs' H', Ext Hs H Hs' H' → RpX X.K X.mg c es Hs' cls dd H' → W cls dd σ H'
        | .bad => False) → PostD X W true Hs H σ _ (argR true (e.ev call ρ))
      cases argR true (e.ev call ρ) with
      | bad => exact fun h => h
      | ex c es => exact fun h => h
      | ok d =>
        cases d with
        | int i => exact fun h v Hs' H' ex p => ⟨i, p.int, h Hs' H' ex⟩
        | _ => exact fun h => h.elim
    | none => cases h
def cutD {α : Type} (xs : List α) (lo hi : Option Int) : List α := (xs.drop (HT.sIx xs.length 0 lo)).take (HT.sIx xs.length xs.length hi - HT.sIx xs.length 0 lo)
def sliceD (d : D) (lo hi : Option Int) : Res (D × Fr) := match d with
  | .lst ds => .ok (.lst (cutD ds lo hi), .fr)
  | .tup ds => .ok (.tup (cutD ds lo hi), .sh)
  | .str z => if z.length ≤ sizeLine then .ok (.str (cutS z lo hi), .sh) else .bad
  | _ => .bad
theorem Rps.cut {K : PySem.W.Frag} {mg : Str → Option Value} {H : Hp} {ds : List D} {vs : List V} (r : Rps K mg H ds vs) (lo hi : Option Int) : Rps K mg H (cutD ds lo hi) (cutV vs lo hi) := by
  unfold cutD cutV
  rw [r.len]
  exact (r.drop _).take _
def CE.slc (e : CE) (lo hi : CO) : CE where
  ev := fun call ρ => (e.arg true call ρ).bind fun d => (lo.ev call ρ).bind fun l => (hi.ev call ρ).bind fun u => sliceD d l u
  chk := fun cf x => match x with
    | .Subscript a (.Slice l u none _) _ => e.chk cf a && lo.chk cf l && hi.chk cf u
    | _ => false
  star := fun cf x h => by cases x <;> first | rfl | cases h
  ok := fun {X W cf call} g x h => by
    split at h
    · simp only [Bool.and_eq_true] at h
      obtain ⟨⟨h1, h2⟩, h3⟩ := h
      obtain ⟨t, p, q⟩ := (e.ok g _ h1).arg true
      obtain ⟨tl, pl, ql⟩ := lo.ok g _ h2
      obtain ⟨th, ph, qh⟩ := hi.ok g _ h3
      refine ⟨_, pe_slice (sl_list.or (sl_tupA.or sl_str)) p pl ph, fun Hs0 H0 Hs H ρ σ Q ok h => ?_⟩
      refine seq1 (ta := t) (g := fun d => (lo.ev call ρ).bind fun l => (hi.ev call ρ).bind fun u => sliceD d l u) q ok h fun d x Hs1 H1 e1 p1 h1 => ?_
      refine ql Hs0 H0 Hs1 H1 ρ σ _ (ok.grow e1) ?_
      cases el : lo.ev call ρ with
      | bad => rw [el] at h1; exact h1
      | ex c es => rw [el] at h1; exact h1
      | ok l =>
        rw [el, Res.bind_ok] at h1
        intro Hs2 H2 e2
        refine qh Hs0 H0 Hs2 H2 ρ σ _ ((ok.grow e1).grow e2) ?_
        cases eh : hi.ev call ρ with
        | bad => rw [eh] at h1; exact h1
        | ex c es => rw [eh] at h1; exact fun cls dd Hs' H' e' q => h1 cls dd Hs' H' (e2.trans e') q
        | ok u =>
          rw [eh, Res.bind_ok] at h1
          intro Hs3 H3 e3
          have p3 := (p1.grow e2).grow e3
          have h3 := h1.back (e2.trans e3)
          have i := e3.i
          cases d with
          | lst ds =>
            obtain ⟨a, xs, rfl, q1, r1⟩ := p3.lst i
            exact .inl ⟨a, xs, rfl, q1, fun z nz => post_lst i h3 (r1.cut l u) nz⟩
          | tup ds =>
            obtain ⟨a, xs, rfl, q1, r1⟩ := p3.tup
            refine .inr (.inl ⟨a, xs, rfl, i.seqT q1, fun hw => ?_, fun _ z nz => post_tup i h3 (r1.cut l u) nz⟩)
            refine post_sh i h3 ?_
            have hc : cutD ds l u = ds := by
              unfold cutD
              rw [← r1.len, hw.1, hw.2]
              simp [r1.len]
            rw [hc]
            simp only [Rp]
            exact ⟨a, xs, rfl, q1, r1⟩
          | str z =>
            unfold sliceD at h3
            simp only at h3
            split at h3
            · exact .inr (.inr ⟨z, p3.str, by assumption, post_str i h3⟩)
            · exact h3.elim
          | _ => exact h3.elim
    · cases h
end MJ

namespace MJ
open PySem PySem.Spec PyProof.Rows L2

/-! ### built-ins -/
/-- a built-in function or class, by its values -/
structure BC where
  name : Str
  f : Value
  g : List D → Res (D × Fr)
  boot : bootBuiltins name = some f
  kind : (∃ id, f = .builtin id) ∨ ∃ T, f = .type T
  ok : ∀ X : Cx, X.calm = true → X.A.units + 100 < cLine → ∃ r, CallR X f r ∧ OpN X true r g
def CE.blt (o : BC) (es : CEs) : CE where
  ev := fun call ρ => (es.ev true call ρ).bind o.g
  chk := fun cf x => match x with
    | .Call (.Name y _) (a :: r) [] _ => decide (y = o.name) && glob cf o.name && decide (o.name ∈ bnames) && es.chk cf (a :: r) && !(o.name == ("__debug__" : Str)) && !(o.name == ("__name__" : Str))
    | _ => false
  star := fun cf x h => by cases x <;> first | rfl | cases h
  ok := fun {X W cf call} g x h => by
    split at h
    · simp only [Bool.and_eq_true, decide_eq_true_eq, Bool.not_eq_true'] at h
      obtain ⟨⟨⟨⟨⟨rfl, h1⟩, h2⟩, h3⟩, h4⟩, h5⟩ := h
      rename_i a r pos
      have hst := es.star cf (a :: r) h3
      rw [List.all_cons, Bool.and_eq_true] at hst
      obtain ⟨t, pa, qa⟩ := es.ok g true _ h3
      obtain ⟨rr, hc, hg⟩ := o.ok X g.calm g.units
      have hn : o.name ≠ ("__name__" : Str) := fun e => by simp [e] at h5
      have pe : ∀ p, PE X (.Call (.Name o.name p) (a :: r) [] pos) (tCB rr t) := fun p => by
        rcases o.kind with ⟨id, e⟩ | ⟨T, e⟩
        · exact pe_callB (by rw [← e]; exact hc) (g.gl h1) (g.blt _ h2) (by rw [o.boot, e]) pa hn h4 (starEach_cons hst.1) (no_star hst.2)
        · exact pe_callTy (by rw [← e]; exact hc) (g.gl h1) (g.blt _ h2) (by rw [o.boot, e]) pa hn h4 (starEach_cons hst.1) (no_star hst.2)
      refine ⟨_, pe _, fun Hs0 H0 Hs H ρ σ Q ok h => ?_⟩
      exact seqA (g := o.g) qa ok h fun ds vs Hs' H' e p h' => hg W Hs' H' σ ds vs Q e.i p h'
    · cases h
theorem ArgPs.one {X : Cx} {b : Bool} {Hs H : Hp} {d : D} {vs : List V} (h : ArgPs X b Hs H [d] vs) : ∃ v, vs = [v] ∧ ArgP X b Hs H d v := by
  cases h with
  | cons h t => cases t; exact ⟨_, rfl, h⟩
theorem ArgPs.two {X : Cx} {b : Bool} {Hs H : Hp} {d e : D} {vs : List V} (h : ArgPs X b Hs H [d, e] vs) : ∃ v w, vs = [v, w] ∧ ArgP X b Hs H d v ∧ ArgP X b Hs H e w := by
  cases h with
  | cons h t => obtain ⟨w, rfl, p⟩ := t.one; exact ⟨_, _, rfl, h, p⟩
def lenD : List D → Res (D × Fr)
  | [.lst ds] => .ok (.int ds.length, .sh)
  | [.tup ds] => .ok (.int ds.length, .sh)
  | [.str z] => if z.length ≤ sizeLine then .ok (.int z.length, .sh) else .bad
  | [.dic ks _] => .ok (.int ks.length, .sh)
  | [.nms zs] => .ok (.int zs.length, .sh)
  | _ => .bad
def BC.len : BC where
  name := "len"
  f := .builtin "len"
  g := lenD
  boot := PySem.boot_len
  kind := .inl ⟨_, rfl⟩
  ok := fun X hc hu => ⟨_, call_len_seq.or (call_len_str.or call_lenD), fun W Hs H σ ds vs Q i ps h => by
    unfold lenD at h
    split at h
    · obtain ⟨v, rfl, p⟩ := ps.one
      obtain ⟨a, xs, rfl, q, r⟩ := p.lst i
      exact .inl ⟨a, xs, rfl, .inl q, by rw [r.len]; exact post_int i h⟩
    · obtain ⟨v, rfl, p⟩ := ps.one
      obtain ⟨a, xs, rfl, q, r⟩ := p.tup
      exact .inl ⟨a, xs, rfl, .inr (i.seqT q), by rw [r.len]; exact post_int i h⟩
    · obtain ⟨v, rfl, p⟩ := ps.one
      split at h
      · exact .inr (.inl ⟨_, by rw [p.str], by assumption, post_int i h⟩)
      · exact h.elim
    · obtain ⟨v, rfl, p⟩ := ps.one
      obtain ⟨a, es, rfl, q, hk, r⟩ : ∃ a es, v = .ref a ∧ H a = some (.dK es) ∧ (es.map fun e => kD e.1) = _ ∧ _ := p.view i
      refine .inr (.inr ⟨a, es, rfl, q, ?_⟩)
      rw [show es.length = (es.map fun e => kD e.1).length by simp, hk]
      exact post_int i h
    · rename_i zs
      obtain ⟨v, rfl, p⟩ := ps.one
      have p : Rp X.K X.mg Hs (.nms zs) v := (show View X.K X.mg Hs H (.nms zs) v by simpa [ArgP] using p)
      simp only [Rp] at p
      obtain ⟨a, o, rfl, q, _⟩ := p
      exact .inl ⟨a, _, rfl, .inr (.inl (.inr ⟨o, i _ _ q⟩)), by rw [List.length_map]; exact post_int i h⟩
    · exact h.elim⟩
def tupleD : List D → Res (D × Fr)
  | [.lst ds] => .ok (.tup ds, .sh)
  | [.tup ds] => .ok (.tup ds, .sh)
  | _ => .bad
def BC.tuple : BC where
  name := "tuple"
  f := .type "tuple"
  g := tupleD
  boot := PyProof.Rows.boot_tuple
  kind := .inr ⟨_, rfl⟩
  ok := fun X hc hu => ⟨_, call_tuple_of, fun W Hs H σ ds vs Q i ps h => by
    unfold tupleD at h
    split at h
    · obtain ⟨v, rfl, p⟩ := ps.one
      obtain ⟨a, xs, rfl, q, r⟩ := p.lst i
      exact ⟨a, xs, rfl, .inl ⟨q, fun z nz => post_tup i h r nz⟩⟩
    · obtain ⟨v, rfl, p⟩ := ps.one
      obtain ⟨a, xs, rfl, q, r⟩ := p.tup
      exact ⟨a, xs, rfl, .inr ⟨i.seqT q, post_sh i h (by simp only [Rp]; exact ⟨a, xs, rfl, q, r⟩)⟩⟩
    · exact h.elim⟩
def listD : List D → Res (D × Fr)
  | [.lst ds] => .ok (.lst ds, .fr)
  | [.tup ds] => .ok (.lst ds, .fr)
  | _ => .bad
def BC.list : BC where
  name := "list"
  f := .type "list"
  g := listD
  boot := PyProof.Rows.boot_list
  kind := .inr ⟨_, rfl⟩
  ok := fun X hc hu => ⟨_, call_list_of, fun W Hs H σ ds vs Q i ps h => by
    unfold listD at h
    split at h
    · obtain ⟨v, rfl, p⟩ := ps.one
      obtain ⟨a, xs, rfl, q, r⟩ := p.lst i
      exact ⟨a, xs, rfl, .inl q, fun z nz => post_lst i h r nz⟩
    · obtain ⟨v, rfl, p⟩ := ps.one
      obtain ⟨a, xs, rfl, q, r⟩ := p.tup
      exact ⟨a, xs, rfl, .inr (i.seqT q), fun z nz => post_lst i h r nz⟩
    · exact h.elim⟩
/-! max, min of two ints, of a list of truths -/
def b2d (b : Bool) : Int := if b then 1 else 0
theorem cmp_bools (prog : Program) (w : World) (A : Around) (op : CmpOp) (f : Bool → Bool → Bool) (bs : List Bool) (rule : ∀ p q (s : Shared) (Q : Value → Shared → Prop) (E : Value → Shared → Prop), Q (.bool (f p q)) s → wpAny (model prog w) A (richCompare op (.bool p) (.bool q)) Q E s) :
    CmpOf prog w A op (fun i v => (bs.map Value.bool).toArray[i]? = some v) (fun i j => f (bs.getD i false) (bs.getD j false)) := fun i j vi vj s Q E hi hj h => by
  simp only [List.getElem?_toArray, List.getElem?_map, Option.map_eq_some_iff] at hi hj
  obtain ⟨p, hp, rfl⟩ := hi
  obtain ⟨q, hq, rfl⟩ := hj
  refine rule p q s Q E ?_
  simpa [hp, hq] using h
theorem lt_boolR {prog : Program} {w : World} {A : Around} (p q : Bool) (s : Shared) (Q : Value → Shared → Prop) (E : Value → Shared → Prop) (h : Q (.bool (decide (PyProof.Rows.b2i p < PyProof.Rows.b2i q))) s) : wpAny (model prog w) A (richCompare .Lt (.bool p) (.bool q)) Q E s :=
  richCompare_gives (op := .Lt) (typeIs_bool' s p) (typeIs_bool' s q) F.slot_bool_lt F.entry_int_lt (F.args_int_lt_2 _ _) (gives_int_lt_bools p q) (fun x => nomatch x) h
theorem gt_boolR {prog : Program} {w : World} {A : Around} (p q : Bool) (s : Shared) (Q : Value → Shared → Prop) (E : Value → Shared → Prop) (h : Q (.bool (decide (PyProof.Rows.b2i p > PyProof.Rows.b2i q))) s) : wpAny (model prog w) A (richCompare .Gt (.bool p) (.bool q)) Q E s :=
  richCompare_gives (op := .Gt) (typeIs_bool' s p) (typeIs_bool' s q) F.slot_bool_gt F.entry_int_gt (F.args_int_gt_2 _ _) (gives_int_gt_bools p q) (fun x => nomatch x) h
theorem bools_of : ∀ {bs : List Bool} {its : List Value}, Vals (bs.map V.bl) its → its = bs.map Value.bool
  | [], _, .nil => rfl
  | b :: bs, _, .cons r t => by rw [bools_of t]; cases r; rfl
theorem best_bools (bt : Bool → Bool → Bool) (bs : List Bool) (r : Bool) (h1 : ∀ p, bt p r = false) (h2 : bt r (!r) = true) : ∀ k, k < bs.length → (bs.getD (argBest (fun i j => bt (bs.getD i false) (bs.getD j false)) k) false = r ↔ r ∈ bs.take (k + 1)) ∧ argBest (fun i j => bt (bs.getD i false) (bs.getD j false)) k ≤ k
  | 0, hk => by
    refine ⟨?_, Nat.le_refl _⟩
    cases bs with
    | nil => simp at hk
    | cons b bs => simp [argBest, eq_comm]
  | k + 1, hk => by
    obtain ⟨ih, hle⟩ := best_bools bt bs r h1 h2 k (by omega)
    have tk : bs.take (k + 1 + 1) = bs.take (k + 1) ++ [bs.getD (k + 1) false] := by
      rw [List.take_succ_eq_append_getElem hk, List.getD_eq_getElem?_getD, List.getElem?_eq_getElem hk]; rfl
    rw [tk, List.mem_append, List.mem_singleton]
    simp only [argBest]
    by_cases c : bt (bs.getD (k + 1) false) (bs.getD (argBest (fun i j => bt (bs.getD i false) (bs.getD j false)) k) false) = true
    · rw [if_pos c]
      refine ⟨?_, Nat.le_refl _⟩
      constructor
      · intro e; exact .inr e.symm
      · rintro (e | e)
        · rw [ih.mpr e, h1] at c; cases c
        · exact e.symm
    · rw [if_neg c]
      refine ⟨?_, by omega⟩
      rw [ih]
      constructor
      · intro e; exact .inl e
      · rintro (e | e)
        · exact e
        · apply Classical.byContradiction
          intro n
          apply c
          have e2 : bs.getD (argBest (fun i j => bt (bs.getD i false) (bs.getD j false)) k) false = !r := by
            cases e3 : bs.getD (argBest (fun i j => bt (bs.getD i false) (bs.getD j false)) k) false <;> cases r <;> first | rfl | exact absurd (ih.mp e3) n
          rw [← e, e2]
          exact h2
def boolsOf : List D → Option (List Bool)
  | [] => some []
  | .bl b :: ds => (boolsOf ds).map (b :: ·)
  | _ => none
theorem Rps.bools {K : PySem.W.Frag} {mg : Str → Option Value} {H : Hp} : ∀ {ds : List D} {bs : List Bool} {vs : List V}, boolsOf ds = some bs → Rps K mg H ds vs → vs = bs.map V.bl
  | [], bs, vs, e, r => by
    simp only [boolsOf, Option.some.injEq] at e
    simp only [Rps] at r
    subst e; subst r; rfl
  | d :: ds, bs, vs, e, r => by
    cases d with
    | bl b =>
      simp only [boolsOf, Option.map_eq_some_iff] at e
      obtain ⟨bs', e1, rfl⟩ := e
      simp only [Rps, Rp] at r
      obtain ⟨v, vs', rfl, rfl, r2⟩ := r
      rw [Rps.bools e1 r2]; rfl
    | _ => simp [boolsOf] at e
theorem best_at {bs : List Bool} (hne : bs ≠ []) (bt : Bool → Bool → Bool) (r : Bool) (h1 : ∀ p, bt p r = false) (h2 : bt r (!r) = true) {v : Value} (n : Nat) (hn : n = bs.length - 1)
    (hP : (bs.map Value.bool).toArray[argBest (fun i j => bt (bs.getD i false) (bs.getD j false)) n]? = some v) : v = .bool (if r ∈ bs then r else !r) := by
  have hpos : 0 < bs.length := by cases bs with | nil => exact absurd rfl hne | cons => simp
  subst hn
  obtain ⟨b1, b2⟩ := best_bools bt bs r h1 h2 (bs.length - 1) (by omega)
  rw [List.take_of_length_le (by omega)] at b1
  simp only [List.getElem?_toArray, List.getElem?_map, Option.map_eq_some_iff] at hP
  obtain ⟨p, hp, rfl⟩ := hP
  have e3 : bs.getD (argBest (fun i j => bt (bs.getD i false) (bs.getD j false)) (bs.length - 1)) false = p := by
    rw [List.getD_eq_getElem?_getD, hp]; rfl
  rw [e3] at b1
  by_cases c : r ∈ bs
  · rw [if_pos c, b1.mpr c]
  · rw [if_neg c]
    have : p ≠ r := fun z => c (b1.mp z)
    cases p <;> cases r <;> first | rfl | exact absurd rfl this
theorem fp_lt {s : Shared} {a : Addr} {its : List Value} (hl : s.heap.IsList a its.toArray) : ∀ b ∈ [s.heap.objs.size, a], b < (s.heap.push { cls := .type "list_iterator", data := .fields #[.ref a, .int 0 0] }).objs.size := fun b hbm => by
  have lt : a < s.heap.objs.size := by obtain ⟨_, e, _⟩ := hl; exact Heap.lt_size e
  rw [Heap.size_push]
  rcases List.mem_cons.mp hbm with rfl | hbm
  · exact Nat.lt_succ_self _
  · rcases List.mem_cons.mp hbm with rfl | hbm
    · exact Nat.lt_succ_of_lt lt
    · cases hbm
theorem cr_minB {X : Cx} (hc : X.calm = true) : CallR X (.builtin "min") (fun vs H Q => ∃ (a : Addr) (bs : List Bool), vs = [V.ref a] ∧ SqL X.K H a (bs.map V.bl) ∧ bs ≠ [] ∧ Q (.bl (if false ∈ bs then false else true)) H) := by
  intro pins s σ H vs us Q I r h
  obtain ⟨a, bs, rfl, hs, hne, q⟩ := h
  obtain ⟨its, rv, hl, _⟩ := I.list hs
  rw [Vals.ref1 r]
  have hb := bools_of rv
  subst hb
  have hpos : 0 < bs.length := by cases bs with | nil => exact absurd rfl hne | cons => simp
  refine call_min_walk (iter_any hl.isList fun s₂ e2 st hn => ?_)
  subst e2
  refine ⟨_, _, _, _, _, _, fun i j => decide (PyProof.Rows.b2i (bs.getD i false) < PyProof.Rows.b2i (bs.getD j false)), rfl, Walks.list (A := X.A.in1) (I.ok.hd hc) _ a hn (bs.map Value.bool).toArray, st, fp_lt hl.isList, by simpa using hpos, ?_, fun v h' tk hP hk => ?_⟩
  · exact cmp_bools X.prog X.w X.A.in1 .Lt (fun p q => decide (PyProof.Rows.b2i p < PyProof.Rows.b2i q)) bs fun p q s Q E h => lt_boolR p q s Q E h
  · have hv := best_at hne (fun p q => decide (PyProof.Rows.b2i p < PyProof.Rows.b2i q)) false (by decide) (by decide) _ (by simp) hP
    refine ⟨.bl _, H, I.kept fun b o eo => hk b o (fun hmem => ?_) (Heap.get?_push_of_some _ eo), hv, q⟩
    rcases List.mem_cons.mp hmem with e1 | hmem
    · exact absurd (e1 ▸ Heap.lt_size eo) (Nat.lt_irrefl _)
    · cases hmem
theorem cr_maxB {X : Cx} (hc : X.calm = true) : CallR X (.builtin "max") (fun vs H Q => ∃ (a : Addr) (bs : List Bool), vs = [V.ref a] ∧ SqL X.K H a (bs.map V.bl) ∧ bs ≠ [] ∧ Q (.bl (if true ∈ bs then true else false)) H) := by
  intro pins s σ H vs us Q I r h
  obtain ⟨a, bs, rfl, hs, hne, q⟩ := h
  obtain ⟨its, rv, hl, _⟩ := I.list hs
  rw [Vals.ref1 r]
  have hb := bools_of rv
  subst hb
  have hpos : 0 < bs.length := by cases bs with | nil => exact absurd rfl hne | cons => simp
  refine call_max_walk (iter_any hl.isList fun s₂ e2 st hn => ?_)
  subst e2
  refine ⟨_, _, _, _, _, _, fun i j => decide (PyProof.Rows.b2i (bs.getD i false) > PyProof.Rows.b2i (bs.getD j false)), rfl, Walks.list (A := X.A.in1) (I.ok.hd hc) _ a hn (bs.map Value.bool).toArray, st, fp_lt hl.isList, by simpa using hpos, ?_, fun v h' tk hP hk => ?_⟩
  · exact cmp_bools X.prog X.w X.A.in1 .Gt (fun p q => decide (PyProof.Rows.b2i p > PyProof.Rows.b2i q)) bs fun p q s Q E h => gt_boolR p q s Q E h
  · have hv := best_at hne (fun p q => decide (PyProof.Rows.b2i p > PyProof.Rows.b2i q)) true (by decide) (by decide) _ (by simp) hP
    refine ⟨.bl _, H, I.kept fun b o eo => hk b o (fun hmem => ?_) (Heap.get?_push_of_some _ eo), hv, q⟩
    rcases List.mem_cons.mp hmem with e1 | hmem
    · exact absurd (e1 ▸ Heap.lt_size eo) (Nat.lt_irrefl _)
    · cases hmem
/-! the ints of a list -/
def intsOf : List D → Option (List Int)
  | [] => some []
  | .int b :: ds => (intsOf ds).map (b :: ·)
  | _ => none
theorem Rps.ints {K : PySem.W.Frag} {mg : Str → Option Value} {H : Hp} : ∀ {ds : List D} {bs : List Int} {vs : List V}, intsOf ds = some bs → Rps K mg H ds vs → vs = bs.map V.int
  | [], bs, vs, e, r => by
    simp only [intsOf, Option.some.injEq] at e
    simp only [Rps] at r
    subst e; subst r; rfl
  | d :: ds, bs, vs, e, r => by
    cases d with
    | int b =>
      simp only [intsOf, Option.map_eq_some_iff] at e
      obtain ⟨bs', e1, rfl⟩ := e
      simp only [Rps, Rp] at r
      obtain ⟨v, vs', rfl, rfl, r2⟩ := r
      rw [Rps.ints e1 r2]; rfl
    | _ => simp [intsOf] at e
def minD : List D → Res (D × Fr)
  | [.int i, .int j] => .ok (.int (if j < i then j else i), .sh)
  | [.lst ds] => match boolsOf ds with
    | some bs => if bs ≠ [] then .ok (.bl (if false ∈ bs then false else true), .sh) else .bad
    | none => .bad
  | _ => .bad
def maxD : List D → Res (D × Fr)
  | [.int i, .int j] => .ok (.int (if j > i then j else i), .sh)
  | [.lst ds] => match boolsOf ds with
    | some bs => if bs ≠ [] then .ok (.bl (if true ∈ bs then true else false), .sh) else .bad
    | none => .bad
  | _ => .bad
def BC.min : BC where
  name := "min"
  f := .builtin "min"
  g := minD
  boot := PyProof.Rows.boot_min
  kind := .inl ⟨_, rfl⟩
  ok := fun X hc hu => ⟨_, (call_min2 hc).or (cr_minB hc), fun W Hs H σ ds vs Q i ps h => by
    unfold minD at h
    split at h
    · obtain ⟨v, w, rfl, p, q⟩ := ps.two
      exact .inl ⟨_, _, by rw [p.int, q.int], post_int i h⟩
    · split at h
      · rename_i bs eb
        split at h
        · rename_i hne
          obtain ⟨v, rfl, p⟩ := ps.one
          obtain ⟨a, xs, rfl, q, r⟩ := p.lst i
          have e := Rps.bools eb r
          subst e
          exact .inr ⟨a, bs, rfl, q, hne, post_bl i h⟩
        · exact h.elim
      · exact h.elim
    · exact h.elim⟩
def BC.max : BC where
  name := "max"
  f := .builtin "max"
  g := maxD
  boot := PyProof.Rows.boot_max
  kind := .inl ⟨_, rfl⟩
  ok := fun X hc hu => ⟨_, (call_max2 hc).or (cr_maxB hc), fun W Hs H σ ds vs Q i ps h => by
    unfold maxD at h
    split at h
    · obtain ⟨v, w, rfl, p, q⟩ := ps.two
      exact .inl ⟨_, _, by rw [p.int, q.int], post_int i h⟩
    · split at h
      · rename_i bs eb
        split at h
        · rename_i hne
          obtain ⟨v, rfl, p⟩ := ps.one
          obtain ⟨a, xs, rfl, q, r⟩ := p.lst i
          have e := Rps.bools eb r
          subst e
          exact .inr ⟨a, bs, rfl, q, hne, post_bl i h⟩
        · exact h.elim
      · exact h.elim
    · exact h.elim⟩
def sumD : List D → Res (D × Fr)
  | [.lst ds] => match intsOf ds with
    | some ns => .ok (.int ns.sum, .sh)
    | none => .bad
  | _ => .bad
def BC.sum : BC where
  name := "sum"
  f := .builtin "sum"
  g := sumD
  boot := PyProof.Rows.boot_sum
  kind := .inl ⟨_, rfl⟩
  ok := fun X hc hu => ⟨_, cr_sum hc, fun W Hs H σ ds vs Q i ps h => by
    unfold sumD at h
    split at h
    · split at h
      · rename_i ns eb
        obtain ⟨v, rfl, p⟩ := ps.one
        obtain ⟨a, xs, rfl, q, r⟩ := p.lst i
        have e := Rps.ints eb r
        subst e
        exact ⟨a, ns, rfl, q, post_int i h⟩
      · exact h.elim
    · exact h.elim⟩
def BC.int : BC where
  name := "int"
  f := .type "int"
  g := fun ds => match ds with
    | [.int i] => .ok (.int i, .sh)
    | [.bl b] => .ok (.int (if b then 1 else 0), .sh)
    | _ => .bad
  boot := PyProof.Rows.boot_int
  kind := .inr ⟨_, rfl⟩
  ok := fun X hc hu => ⟨_, call_int1, fun W Hs H σ ds vs Q i ps h => by
    dsimp only at h
    split at h
    · obtain ⟨v, rfl, p⟩ := ps.one
      exact .inl ⟨_, by rw [p.int], post_int i h⟩
    · obtain ⟨v, rfl, p⟩ := ps.one
      exact .inr ⟨_, by rw [p.bl], post_int i h⟩
    · exact h.elim⟩
def BC.abs : BC where
  name := "abs"
  f := .builtin "abs"
  g := fun ds => match ds with
    | [.int i] => .ok (.int (if i < 0 then -i else i), .sh)
    | _ => .bad
  boot := PyProof.Rows.boot_abs
  kind := .inl ⟨_, rfl⟩
  ok := fun X hc hu => ⟨_, call_abs, fun W Hs H σ ds vs Q i ps h => by
    dsimp only at h
    split at h
    · obtain ⟨v, rfl, p⟩ := ps.one
      exact ⟨_, by rw [p.int], post_int i h⟩
    · exact h.elim⟩
/-! ### isinstance of a built-in class -/
def tyN : D → Option String
  | .non => some "NoneType"
  | .bl _ => some "bool"
  | .int _ => some "int"
  | .str _ => some "str"
  | .tup _ => some "tuple"
  | .lst _ => some "list"
  | .dic _ _ => some "dict"
  | .obj _ _ _ => none
  | .nms _ => some "tuple"
theorem view_ty {K : PySem.W.Frag} {mg : Str → Option Value} {Hs H : Hp} {d : D} {v : V} {n : String} (h : View K mg Hs H d v) (i : Same Hs H) (e : tyN d = some n) : TyX K H v (.type n) := by
  cases d with
  | non => simp only [tyN, Option.some.injEq] at e; subst e; have h : v = .non := by simpa [View, Rp] using h
           subst h; exact .base .non
  | bl b => simp only [tyN, Option.some.injEq] at e; subst e; have h : v = .bl b := by simpa [View, Rp] using h
            subst h; exact .base (.bl b)
  | int b => simp only [tyN, Option.some.injEq] at e; subst e; have h : v = .int b := by simpa [View, Rp] using h
             subst h; exact .base (.int b)
  | str b => simp only [tyN, Option.some.injEq] at e; subst e; have h : v = .str b := by simpa [View, Rp] using h
             subst h; exact .base (.str b)
  | tup ds =>
    simp only [tyN, Option.some.injEq] at e; subst e
    have h : Rp K mg Hs (.tup ds) v := h
    simp only [Rp] at h
    obtain ⟨a, xs, rfl, q, r⟩ := h
    rcases i.seqT q with (q | ⟨o, q⟩) | ⟨o, its, n, q, c, _⟩
    · exact .base (.tup q)
    · exact .fTuple q
    · exact .kTuple q c
  | lst ds =>
    simp only [tyN, Option.some.injEq] at e; subst e
    obtain ⟨a, xs, rfl, q, r⟩ := h
    rcases q with (q | ⟨o, q⟩) | ⟨o, its, n, q, c, _⟩
    · exact .base (.lst q)
    · exact .base (.frz q)
    · exact .kList q c
  | dic ks ds =>
    simp only [tyN, Option.some.injEq] at e; subst e
    obtain ⟨a, es, rfl, q, _⟩ := h
    exact .base (.dK q)
  | obj => simp [tyN] at e
  | nms zs =>
    simp only [tyN, Option.some.injEq] at e; subst e
    have h : Rp K mg Hs (.nms zs) v := h
    simp only [Rp] at h
    obtain ⟨a, o, rfl, q, _⟩ := h
    exact .fTuple (i _ _ q)
def isiD (T : String) (d : D) : Res (D × Fr) := match tyN d with
  | some n => match kitB n T with
    | some b => .ok (.bl b, .sh)
    | none => .bad
  | none => .bad
/-- isinstance(e, T) -/
def CE.isi (e : CE) (T : Str) (t : String) : CE where
  ev := fun call ρ => (e.arg true call ρ).bind (isiD t)
  chk := fun cf x => match x with
    | .Call (.Name y _) [a, .Name z _] [] _ => decide (y = ("isinstance" : Str)) && glob cf ("isinstance" : Str) && decide (z = T) && glob cf T && decide (T ∈ bnames) && decide (bootBuiltins T = some (.type t)) && e.chk cf a && !(T == ("__debug__" : Str)) && !(T == ("__name__" : Str))
    | _ => false
  star := fun cf x h => by cases x <;> first | rfl | cases h
  ok := fun {X W cf call} g x h => by
    split at h
    · simp only [Bool.and_eq_true, decide_eq_true_eq, Bool.not_eq_true'] at h
      obtain ⟨⟨⟨⟨⟨⟨⟨⟨rfl, h1⟩, rfl⟩, h2⟩, h3⟩, h4⟩, h5⟩, h6⟩, h7⟩ := h
      rename_i a z _ pos
      have hn : z ≠ ("__name__" : Str) := fun e => by simp [e] at h7
      obtain ⟨ta, pa, qa⟩ := (e.ok g _ h5).arg true
      have hst := e.star _ _ h5
      refine ⟨_, pe_callB call_isi (g.gl h1) (g.blt _ (by decide +kernel)) PyProof.Rows.boot_isinstance (pa_cons pa (pa_cons (pe_bltn (v := .ty t) (g.gl h2) (g.blt _ h3) h4 rfl hn h6) pa_nil (starEach_cons rfl)) (starEach_cons hst)) (by decide +kernel) (by decide +kernel) (starEach_cons hst) (no_star rfl), fun Hs0 H0 Hs H ρ σ Q ok h => ?_⟩
      refine seq1 (ta := ta) (g := isiD t) (R := fun x H1 => rIsi X.K [x, .ty t] H1 Q) qa ok h fun d x Hs' H' ex p h' => ?_
      unfold isiD at h'
      split at h'
      · rename_i n en
        split at h'
        · rename_i b eb
          exact ⟨x, .ty t, .type n, .type t, b, rfl, .ty t, view_ty (p.view ex.i) ex.i en, kit_ty eb, post_bl ex.i h'⟩
        · exact h'.elim
      · exact h'.elim
    · cases h
end MJ

namespace MJ
open PySem PySem.Spec PyProof.Rows L2

/-! ### methods that change what a name owns -/
def isKind (T : String) : D → Bool
  | .lst _ => T == "list"
  | .dic _ _ => T == "dict"
  | _ => false
structure MC where
  name : Str
  T : String
  id : String
  pa : PlainAttrs T
  slot : Slot T name id
  hty : typeOf (.builtin id) = pure (.type "method_descriptor")
  g : D → List D → Option (D × D)
  ok : ∀ X : Cx, X.calm = true → X.A.units + 100 < cLine → ∃ r, MtR X id r ∧ ∀ Hs H d o a ds vs Q d' res, Same Hs H → H a = some o → RpO X.K X.mg Hs d o → Rps X.K X.mg Hs ds vs → g d ds = some (d', res) →
    (∀ o' v, RpO X.K X.mg Hs d' o' → Rp X.K X.mg Hs res v → Q v (upd H a o')) → r (.ref a) vs H Q
/-- x[i].m(args): what the slot holds then, and the value -/
def MC.run (m : MC) (i : Nat) (es : CEs) (call : Calls) (ρ : List Sl) : Res (D × List Sl) := match ρ[i]? with
  | some (.ow d) => if isKind m.T d = true then ((es.ev false call ρ).bind fun ds => match m.g d ds with
    | some (d', res) => .ok (res, ρ.set i (.ow d'))
    | none => .bad) else .bad
  | _ => .bad
theorem view_tyV {K : PySem.W.Frag} {mg : Str → Option Value} {Hs H : Hp} {d : D} {o : HO} {a : Addr} {T : String} (r : RpO K mg Hs d o) (e : H a = some o) (h : isKind T d = true) : tyV K T (.ref a) H := by
  cases d with
  | lst ds =>
    obtain ⟨xs, rfl, _⟩ := r
    exact .inl ⟨by simpa [isKind] using h, xs, .of e⟩
  | dic ks ds =>
    obtain ⟨kvs, rfl, _⟩ := r
    exact .inr (.inr (.inl ⟨by simpa [isKind] using h, .inl ⟨kvs, e⟩⟩))
  | _ => cases h
/-- what one owns in a slot is changed -/
theorem Ok.mut {K : PySem.W.Frag} {mg : Str → Option Value} {Hs0 H0 Hs H : Hp} {ρ : List Sl} {σ : L2.St} (h : Ok K mg Hs0 H0 Hs H ρ σ) {i : Nat} {d d' : D} {a : Addr} {o' : HO} (e : ρ[i]? = some (.ow d)) (ea : σ[i]? = some (some (.ref a)))
    (r : RpO K mg Hs d' o') : Ok K mg Hs0 H0 Hs (upd H a o') (ρ.set i (.ow d')) σ := by
  obtain ⟨x, ex, ox⟩ := h.has e
  obtain ⟨a', o, rfl, n0, n1, e1, _⟩ := ox
  rw [ea] at ex
  cases ex
  have hi : i < σ.length := (List.getElem?_eq_some_iff.mp ea).1
  refine ⟨h.ext.write n0 n1, by simpa using h.len, fun j sl x h1 h2 => ?_, fun j k sl sl' b njk h1 h2 o1 o2 h3 => ?_⟩
  · by_cases z : i = j
    · subst z
      rw [List.getElem?_set_self (by rw [h.len]; exact hi)] at h1
      cases h1
      rw [ea] at h2
      cases h2
      exact ⟨a, o', rfl, n0, n1, upd_same, r⟩
    · rw [List.getElem?_set_ne z] at h1
      have q := h.at_ j sl x h1 h2
      cases sl with
      | no => trivial
      | sh d2 => exact q
      | ow d2 =>
        obtain ⟨b, o2, rfl, m0, m1, f1, r2⟩ := q
        refine ⟨b, o2, rfl, m0, m1, ?_, r2⟩
        rw [upd_ne]
        · exact f1
        · intro z2
          subst z2
          exact h.apart i j _ _ b z e h1 rfl rfl ea h2
  · have old : ∀ (l : Nat) (sl : Sl), (ρ.set i (.ow d'))[l]? = some sl → isOw sl = true → ∃ sl0, ρ[l]? = some sl0 ∧ isOw sl0 = true := fun l sl hl ho => by
      by_cases z : i = l
      · subst z; exact ⟨_, e, rfl⟩
      · rw [List.getElem?_set_ne z] at hl; exact ⟨sl, hl, ho⟩
    obtain ⟨s1, g1, w1⟩ := old j sl h1 o1
    obtain ⟨s2, g2, w2⟩ := old k sl' h2 o2
    exact h.apart j k s1 s2 b njk g1 g2 w1 w2 h3
def chkM (m : MC) (i : Nat) (es : CEs) (cf : Cf) : Expr → Bool
  | .Call (.Attribute (.Name y _) nm apos) l [] cpos => decide (nm = m.name) && chkVar cf i y && es.chk cf l && (apos.endLine == cpos.line) && decide (l.length < 29) && !l.isEmpty
  | _ => false
theorem m_few {cpos : Pos} {env : Env} {l : List Expr} (hst : l.all noStar = true) (hl : l.length < 29) :
    ((backTo cpos (starEach l env)).all (fun x => !x.1) && (backToKw cpos (keywordEach [] env)).all (fun x => x.1.isSome) && decide (l.length + ([] : List Keyword).length + (if ([] : List Keyword).isEmpty then 0 else 1) < 30)) = true := by
  have h1 : ∀ l : List Expr, l.all noStar = true → (backTo cpos (starEach l env)).all (fun x => !x.1) = true := by
    intro l
    induction l with
    | nil => intro _; rfl
    | cons a r ih =>
      intro h
      rw [List.all_cons, Bool.and_eq_true] at h
      rw [starEach_cons h.1]
      show (true && (backTo cpos (starEach r env)).all (fun x => !x.1)) = true
      rw [ih h.2]; rfl
  rw [h1 l hst]
  show (true && true && decide (l.length + 0 + 0 < 30)) = true
  simp
  omega
/-- the reading of x.m(args) -/
theorem m_go {X : Cx} {W : WX} {cf : Cf} {call : Calls} (g : Good X W cf call) {m : MC} {i : Nat} {es : CEs} {x : Expr} (h : chkM m i es cf x = true) :
    noStar x = true ∧ noComp x = true ∧ ∃ t, PE X x t ∧ ∀ Hs0 H0 Hs H ρ σ Q, OK X Hs0 H0 Hs H ρ σ → (match m.run i es call ρ with
      | .ok (res, ρ') => ∀ v Hs' H', OK X Hs0 H0 Hs' H' ρ' σ → Rp X.K X.mg Hs' res v → Q v H'
      | .ex c e => ∀ cls dd Hs' H', Ext Hs H Hs' H' → RpX X.K X.mg c e Hs' cls dd H' → W cls dd σ H'
      | .bad => False) → t σ H Q := by
  unfold chkM at h
  split at h
  · simp only [Bool.and_eq_true, decide_eq_true_eq] at h
    obtain ⟨⟨⟨⟨⟨rfl, hv⟩, h1⟩, h2⟩, h3⟩, h4⟩ := h
    rename_i y ypos apos l cpos
    simp only [chkVar, Bool.and_eq_true, decide_eq_true_eq, Bool.not_eq_true'] at hv
    obtain ⟨⟨⟨v1, v2⟩, v3⟩, v4⟩ := hv
    have pv := pe_var (X := X) (i := i) (x := y) (pos := ypos) (by rw [g.hN]; exact v1) (by rw [g.sc]; exact Vis_of v2) v3 v4
    obtain ⟨t, pa, qa⟩ := es.ok g false l h1
    have hst := es.star cf l h1
    obtain ⟨r, hm, hr⟩ := m.ok X g.calm g.units
    have key : ∀ Hs0 H0 Hs H ρ σ (Q : VK), OK X Hs0 H0 Hs H ρ σ → (match m.run i es call ρ with
      | .ok (res, ρ') => ∀ v Hs' H', OK X Hs0 H0 Hs' H' ρ' σ → Rp X.K X.mg Hs' res v → Q v H'
      | .ex c e => ∀ cls dd Hs' H', Ext Hs H Hs' H' → RpX X.K X.mg c e Hs' cls dd H' → W cls dd σ H'
      | .bad => False) → tBM X.K m.T r (tVar i) t σ H Q := by
      intro Hs0 H0 Hs H ρ σ Q ok h
      unfold MC.run at h
      cases e : ρ[i]? with
      | none => rw [e] at h; exact h.elim
      | some sl =>
        rw [e] at h
        cases sl with
        | no => exact h.elim
        | sh d => exact h.elim
        | ow d =>
          obtain ⟨z, ez, oz⟩ := ok.has e
          obtain ⟨a, o, rfl, n0, n1, e1, r1⟩ := oz
          simp only at h
          by_cases hk : isKind m.T d = true
          · rw [if_pos hk] at h
            refine ⟨.ref a, ez, view_tyV r1 e1 hk, qa Hs0 H0 Hs H ρ σ _ ok ?_⟩
            cases ea : es.ev false call ρ with
            | bad => rw [ea] at h; exact h.elim
            | ex c es' => rw [ea] at h; exact h
            | ok ds =>
              rw [ea, Res.bind_ok] at h
              cases em : m.g d ds with
              | none => rw [em] at h; exact h.elim
              | some p =>
                obtain ⟨d', res⟩ := p
                rw [em] at h
                intro vs Hs' H' ex ps
                have ok' := ok.grow ex
                refine hr Hs' H' d o a ds vs Q d' res ex.i (ex.h _ _ e1) (r1.mono ex.s) ps.sh em fun o' v r2 r3 => ?_
                exact h v Hs' _ (ok'.mut e ez r2) r3
          · rw [if_neg hk] at h; exact h.elim
    have hbase : attributeBase (.Name y ypos) m.name X.env (eval (.Name y ypos) X.env) = eval (.Name y ypos) X.env := rfl
    cases l with
    | nil => cases h4
    | cons a l =>
      rw [List.all_cons, Bool.and_eq_true] at hst
      exact ⟨rfl, rfl, _, pe_bm m.pa m.slot m.hty hm pv pa hbase (m_few (by rw [List.all_cons, hst.1, hst.2]; rfl) h3) h2 (starEach_cons hst.1) (no_star hst.2), key⟩
  · cases h
/-- x.m() -/
def MC.run0 (m : MC) (i : Nat) (ρ : List Sl) : Res (D × List Sl) := match ρ[i]? with
  | some (.ow d) => if isKind m.T d = true then (match m.g d [] with
    | some (d', res) => .ok (res, ρ.set i (.ow d'))
    | none => .bad) else .bad
  | _ => .bad
def chkM0 (m : MC) (i : Nat) (cf : Cf) : Expr → Bool
  | .Call (.Attribute (.Name y _) nm apos) [] [] cpos => decide (nm = m.name) && chkVar cf i y && (apos.endLine == cpos.line)
  | _ => false
theorem m_go0 {X : Cx} {W : WX} {cf : Cf} {call : Calls} (g : Good X W cf call) {m : MC} {i : Nat} {x : Expr} (h : chkM0 m i cf x = true) :
    noStar x = true ∧ noComp x = true ∧ ∃ t, PE X x t ∧ ∀ Hs0 H0 Hs H ρ σ Q, OK X Hs0 H0 Hs H ρ σ → (match m.run0 i ρ with
      | .ok (res, ρ') => ∀ v Hs' H', OK X Hs0 H0 Hs' H' ρ' σ → Rp X.K X.mg Hs' res v → Q v H'
      | .ex c e => ∀ cls dd Hs' H', Ext Hs H Hs' H' → RpX X.K X.mg c e Hs' cls dd H' → W cls dd σ H'
      | .bad => False) → t σ H Q := by
  unfold chkM0 at h
  split at h
  · simp only [Bool.and_eq_true, decide_eq_true_eq] at h
    obtain ⟨⟨rfl, hv⟩, h2⟩ := h
    rename_i y ypos apos cpos
    simp only [chkVar, Bool.and_eq_true, decide_eq_true_eq, Bool.not_eq_true'] at hv
    obtain ⟨⟨⟨v1, v2⟩, v3⟩, v4⟩ := hv
    have pv := pe_var (X := X) (i := i) (x := y) (pos := ypos) (by rw [g.hN]; exact v1) (by rw [g.sc]; exact Vis_of v2) v3 v4
    obtain ⟨r, hm, hr⟩ := m.ok X g.calm g.units
    have hbase : attributeBase (.Name y ypos) m.name X.env (eval (.Name y ypos) X.env) = eval (.Name y ypos) X.env := rfl
    refine ⟨rfl, rfl, _, pe_bm0 m.pa m.slot m.hty hm pv hbase h2, fun Hs0 H0 Hs H ρ σ Q ok h => ?_⟩
    unfold MC.run0 at h
    cases e : ρ[i]? with
    | none => rw [e] at h; exact h.elim
    | some sl =>
      rw [e] at h
      cases sl with
      | no => exact h.elim
      | sh d => exact h.elim
      | ow d =>
        obtain ⟨z, ez, oz⟩ := ok.has e
        obtain ⟨a, o, rfl, n0, n1, e1, r1⟩ := oz
        simp only at h
        by_cases hk : isKind m.T d = true
        · rw [if_pos hk] at h
          refine ⟨.ref a, ez, view_tyV r1 e1 hk, ?_⟩
          cases em : m.g d [] with
          | none => rw [em] at h; exact h.elim
          | some p =>
            obtain ⟨d', res⟩ := p
            rw [em] at h
            refine hr Hs H d o a [] [] Q d' res ok.same e1 r1 .nil em fun o' v r2 r3 => ?_
            exact h v Hs _ (ok.mut e ez r2) r3
        · rw [if_neg hk] at h; exact h.elim
  · cases h
/-- x.m(args), its value dropped -/
def C1.meth (m : MC) (i : Nat) (es : CEs) : C1 where
  ev := fun call ρ => stR (m.run i es call ρ) ρ fun p => some (.nx p.2)
  chk := fun cf x => match x with
    | .Expr v _ => chkM m i es cf v
    | _ => false
  ok := fun {X W cf call} g hp x h => by
    split at h
    · obtain ⟨_, nc, t, p, q⟩ := m_go g h
      refine ⟨_, ps_expr p (noComp_sw nc _ _ _), fun Hs0 H0 Hs H ρ σ D ok h => ?_⟩
      refine q Hs0 H0 Hs H ρ σ _ ok ?_
      dsimp only at h
      revert h
      match m.run i es call ρ with
      | .ok (res, ρ') => exact fun h v Hs' H' o _ => h Hs' H' σ o
      | .ex c e => exact fun h => st_ex ok h
      | .bad => exact fun h => h
    · cases h
def C1.meth0 (m : MC) (i : Nat) : C1 where
  ev := fun call ρ => stR (m.run0 i ρ) ρ fun p => some (.nx p.2)
  chk := fun cf x => match x with
    | .Expr v _ => chkM0 m i cf v
    | _ => false
  ok := fun {X W cf call} g hp x h => by
    split at h
    · obtain ⟨_, nc, t, p, q⟩ := m_go0 g h
      refine ⟨_, ps_expr p (noComp_sw nc _ _ _), fun Hs0 H0 Hs H ρ σ D ok h => ?_⟩
      refine q Hs0 H0 Hs H ρ σ _ ok ?_
      dsimp only at h
      revert h
      match m.run0 i ρ with
      | .ok (res, ρ') => exact fun h v Hs' H' o _ => h Hs' H' σ o
      | .ex c e => exact fun h => st_ex ok h
      | .bad => exact fun h => h
    · cases h
/-- y = x.m() -/
def C1.setMeth0 (j : Nat) (m : MC) (i : Nat) : C1 where
  ev := fun call ρ => stR (m.run0 i ρ) ρ fun p => some (.nx (p.2.set j (.sh p.1)))
  chk := fun cf x => match x with
    | .Assign [.Name y _] v _ => chkLoc cf j y && chkM0 m i cf v
    | _ => false
  ok := fun {X W cf call} g hp x h => by
    split at h
    · simp only [Bool.and_eq_true] at h
      obtain ⟨l1, l2, l3⟩ := g.loc h.1
      obtain ⟨_, nc, t, p, q⟩ := m_go0 g h.2
      refine ⟨_, ps_set g.nodup l1 l2 p (noComp_sw nc _ _ _) l3, fun Hs0 H0 Hs H ρ σ D ok h => ?_⟩
      refine q Hs0 H0 Hs H ρ σ _ ok ?_
      dsimp only at h
      revert h
      match m.run0 i ρ with
      | .ok (res, ρ') => exact fun h v Hs' H' o r => h Hs' H' _ (o.setSh j r)
      | .ex c e => exact fun h => st_ex ok h
      | .bad => exact fun h => h
    · cases h
def MC.append : MC where
  name := "append"
  T := "list"
  id := "list.append"
  pa := PySem.F.plainAttrs_list
  slot := PySem.F.slot_list_append
  hty := PySem.F.type_list_append
  g := fun d ds => match d, ds with
    | .lst es, [y] => if es.length < sizeLine then some (.lst (es ++ [y]), .non) else none
    | _, _ => none
  ok := fun X hc hu => ⟨_, mt_append, fun Hs H d o a ds vs Q d' res i e r rs h k => by
    split at h
    · split at h
      · rename_i hz
        cases h
        obtain ⟨xs, rfl, r⟩ := r
        simp only [Rps] at rs
        obtain ⟨v, vs', rfl, r1, rfl⟩ := rs
        exact ⟨a, xs, v, rfl, rfl, e, by rw [r.len]; exact hz, k _ .non ⟨_, rfl, r.append (.cons r1 .nil)⟩ (by simp [Rp])⟩
      · cases h
    · cases h⟩
end MJ

namespace MJ
open PySem PySem.Spec PyProof.Rows L2
/-! ### C(), C a class of the program's own without an __init__ -/
def tNew0 (C : Addr) : TE := fun σ H Q => ∀ x dx, H x = none → H dx = none → dx ≠ x → Q (.ref x) (upd (upd H dx (.own x)) x (.ins C dx []))
theorem pe_newObj {X : Cx} {x : Str} {C : Addr} {p pos : Pos} (hm : PySem.W.makesIn X.K C = true) (hi : PySem.W.findIn X.K (.ref C) "__init__" = some (some (.builtin "object.__init__"))) (kp : PySem.W.keepIn X.K (.ref C) = true) (hg : Gl X x) (hmg : X.mg x = some (.ref C))
    (hdb : (x == ("__debug__" : Str)) = false) : PE X (.Call (.Name x p) [] [] pos) (tNew0 C) := by
  refine ⟨fun pins s σ H Q I h => ?_⟩
  refine wpAny_Call_Name_kw (ld_glob I hg hmg ?_ hdb)
  refine PySem.W.callWith_K0 I.kIn kp ?_
  have hq := h (s.heap.objs.size + 1) s.heap.objs.size (I.hok.fresh (Nat.le_succ _)) (I.hok.fresh (Nat.le_refl _)) (Nat.ne_of_lt (Nat.lt_succ_self _))
  have I2 := Inv.made (C := C) I
  refine wpAny_call ?_
  refine make_map0 I.kIn hm hi (fun self => PySem.W.Looks.of_pure (PySem.W.oi_bind self)) ?_
  have e2 : ((s.heap.push PySem.W.emptyDict).push (PySem.W.instObj C s.heap.objs.size)).get? (s.heap.objs.size + 1) = some (PySem.W.instObj C s.heap.objs.size) := by
    have := Heap.get?_push_size (s.heap.push PySem.W.emptyDict) (o := PySem.W.instObj C s.heap.objs.size) rfl
    rwa [Heap.size_push] at this
  have Y := PySem.W.makes_of (M := model X.prog X.w) I.kIn hm
  have t1 : PySem.W.Looks (model X.prog X.w) ((s.heap.push PySem.W.emptyDict).push (PySem.W.instObj C s.heap.objs.size)) (typeOf (.ref (s.heap.objs.size + 1))) (.ref C) := (PySem.W.Looks.ld e2).andThen .now
  have t2 : PySem.W.Looks (model X.prog X.w) ((s.heap.push PySem.W.emptyDict).push (PySem.W.instObj C s.heap.objs.size)) (isInstance (.ref (s.heap.objs.size + 1)) (.type "object")) true := t1.andThen (Y.top.keeps fun b o e => Heap.get?_push_of_some _ (Heap.get?_push_of_some _ e))
  refine codeAny_call_builtin PySem.W.oi_plain PySem.W.entry_oi (@PySem.W.check_slot (model X.prog X.w) _ _ _ "object.__init__" "object" "__init__" (.ref (s.heap.objs.size + 1)) [] [] _ PySem.W.oi_kind PySem.W.oi_split t2 (PySem.W.oi_args (.ref (s.heap.objs.size + 1))) ?_)
  rw [PySem.W.oi_run]
  exact wpAny_pure (And.intro rfl ⟨.ref (s.heap.objs.size + 1), _, I2, rfl, hq⟩)
def CE.newO (c : Str) : CE where
  ev := fun _ _ => .ok (.obj c [] [], .sh)
  chk := fun cf z => match z with
    | .Call (.Name y _) [] [] _ => decide (y = c) && decide (Fact.cls c ∈ cf.fx) && glob cf c && !(c == ("__debug__" : Str))
    | _ => false
  star := fun cf x h => by cases x <;> first | rfl | cases h
  ok := fun {X W cf call} g z h => by
    split at h
    · simp only [Bool.and_eq_true, decide_eq_true_eq, Bool.not_eq_true'] at h
      obtain ⟨⟨⟨rfl, h1⟩, h2⟩, h3⟩ := h
      obtain ⟨C, hm, mk, kp, hi⟩ := g.fx _ h1
      refine ⟨_, pe_newObj mk hi kp (g.gl h2) hm h3, fun Hs0 H0 Hs H ρ σ Q ok h => fun x dx hx hdx ne => ?_⟩
      have e1 := (Ext.rfl ok.same).new hdx (.own x)
      have e2 := e1.new (p := x) (by rw [upd_ne (Ne.symm ne)]; exact hx) (.ins C dx [])
      refine h (.ref x) _ _ e2 ?_
      show Rp _ _ _ (.obj _ [] []) _
      simp only [Rp]
      exact ⟨x, C, dx, [], rfl, hm, upd_same, rfl, rfl⟩
    · cases h
@[simp] theorem CE.newO_ev {call : Calls} {ρ : List Sl} (c : Str) : (CE.newO c).ev call ρ = .ok (.obj c [] [], .sh) := rfl
/-! ### o.m(e, ..), o an object, whatever its class -/
/-- what is found at run time -/
def tMethD (X : Cx) (m : Str) (ta : TE) (t : TA) : TE := fun σ H Q => ta σ H fun x H1 => ∃ (a C dx : Addr) (fs : List (Str × V)) (f : Addr) (k : Nat) (fd : FuncData) (ps : List Str) (sp : Sp) (E : L2.St → XK), x = .ref a ∧ H1 a = some (.ins C dx fs) ∧ fs.lookup m = none ∧
  Cls X.K C ∧ Meth X.K C m f ∧ FnOk X.prog X.w X.K X.mg X.base (L2.CX X.prog X.w) k f fd ps sp ∧ Room k X.A ∧ Binds X.K fd ps [] ∧ PassesAt (L2.CX X.prog X.w) X σ (E σ) ∧ t σ H1 fun vs H2 => sp (x :: vs) H2 Q (E σ)
theorem mcall_ht {o e : Expr} {es : List Expr} {m : Str} {apos pos : Pos} {env : Env} (hb : attributeBase o m env (eval o env) = eval o env) (hl : (apos.endLine == pos.line) = true)
    (hf : ((backTo pos (starEach (e :: es) env)).all (fun x => !x.1) && (backToKw pos (keywordEach [] env)).all (fun x => x.1.isSome) && decide ((e :: es).length + ([] : List Keyword).length + (if ([] : List Keyword).isEmpty then 0 else 1) < 30)) = true) :
    eval (.Call (.Attribute o m apos) (e :: es) [] pos) env = (do
      let ov ← eval o env
      standAt apos.atName
      let (f, first) ← holding [ov] (getMethod ov m (do return (← importBound o env).getD true))
      callWith pos f first (backTo pos (starEach (e :: es) env)) (backToKw pos (keywordEach [] env))) := by
  show (do
      let ov ← attributeBase o m env (eval o env)
      standAt apos.atName
      methodCall o m apos pos env ov ((e :: es).length + ([] : List Keyword).length) (backTo pos (starEach (e :: es) env)) (backToKw pos (keywordEach [] env))) = _
  rw [hb]
  have hfew : methodCallForm ((e :: es).length + ([] : List Keyword).length) (backTo pos (starEach (e :: es) env)) (backToKw pos (keywordEach [] env)) = true := hf
  simp only [methodCall, mcp_line hl, hfew]
  rfl
theorem pe_methD {X : Cx} {o e : Expr} {es : List Expr} {m : Str} {apos pos : Pos} {ta : TE} {t : TA} (he : PE X o ta) (ha : PA X (e :: es) t)
    (hst : starEach (e :: es) X.env = (false, eval e X.env) :: starEach es X.env) (hpl : (backTo pos (starEach es X.env)).any (·.1) = false) (hb : attributeBase o m X.env (eval o X.env) = eval o X.env) (hl : (apos.endLine == pos.line) = true)
    (hf : ((backTo pos (starEach (e :: es) X.env)).all (fun x => !x.1) && (backToKw pos (keywordEach [] X.env)).all (fun x => x.1.isSome) && decide ((e :: es).length + ([] : List Keyword).length + (if ([] : List Keyword).isEmpty then 0 else 1) < 30)) = true) :
    PE X (.Call (.Attribute o m apos) (e :: es) [] pos) (tMethD X m ta t) := by
  refine ⟨fun pins s σ H Q I h => ?_⟩
  refine PySem.W.methodCall_KW (thn (he.run pins s σ H _ I h) fun u s1 ⟨x, H1, I1, rx, a, C, dx, fs, f, k, fd, ps, sp, E, ex, ea, l, c, hm, F, hr, hbn, hx, q⟩ => ?_) (mcall_ht hb hl hf)
  subst ex
  obtain rfl : u = Value.ref a := rx
  refine getmeth_ok I1 ea c hm l ?_
  refine PySem.W.callWith_K (first := [.ref a]) (h₀ := X.base) I.ok.mod.kin hm.kp (thn (ha.run pos pins s1 σ H1 _ I1 q) fun us s2 ⟨vs, H2, I2, r, q2⟩ => ⟨I2.kIn, ?_⟩) hst hpl
  exact run_fnS (us := .ref a :: us) (vs := .ref a :: vs) F hr hbn hx I2 (.cons rfl r) q2
/-- o.m(e, ..): tb names the def for each class -/
def mcallEv (m : Str) (tb : List (Str × Str)) (o : Res D) (as : Res (List D)) (call : Calls) : Res (D × Fr) := o.bind fun d => match d with
  | .obj c ns ds => match tb.lookup c with
    | some f => if m ∈ ns then .bad else as.bind fun es => toE (call f (.obj c ns ds :: es))
    | none => .bad
  | _ => .bad
theorem lookup_memS : ∀ {l : List (Str × Str)} {c b : Str}, l.lookup c = some b → (c, b) ∈ l
  | [], _, _, h => by cases h
  | (a, q) :: l, c, b, h => by
    rw [List.lookup_cons] at h
    split at h
    · rename_i e
      cases h
      rw [eq_of_beq e]; simp
    · exact List.mem_cons_of_mem _ (lookup_memS h)
theorem lookup_none {m : Str} : ∀ {fs : List (Str × V)}, m ∉ fs.map (·.1) → fs.lookup m = none
  | [], _ => rfl
  | (a, v) :: fs, h => by
    rw [List.lookup_cons]
    simp only [List.map_cons, List.mem_cons, not_or] at h
    rw [show (m == a) = false from by simpa using h.1]
    exact lookup_none h.2
def CE.mcall (o : CE) (m : Str) (tb : List (Str × Str)) (es : CEs) : CE where
  ev := fun call ρ => mcallEv m tb (o.arg false call ρ) (es.ev false call ρ) call
  chk := fun cf z => match z with
    | .Call (.Attribute (.Name y yp) nm apos) (a :: r) [] cpos => decide (nm = m) && o.chk cf (.Name y yp) && es.chk cf (a :: r) && (apos.endLine == cpos.line) && decide ((a :: r).length < 29) && tb.all fun p => decide ((p.1, m, p.2) ∈ cf.ms)
    | _ => false
  star := fun cf x h => by cases x <;> first | rfl | cases h
  ok := fun {X W cf call} g z h => by
    split at h
    · rename_i y yp nm apos a r cpos
      simp only [Bool.and_eq_true, decide_eq_true_eq, List.all_eq_true] at h
      obtain ⟨⟨⟨⟨⟨rfl, h1⟩, h2⟩, h3⟩, h4⟩, h5⟩ := h
      obtain ⟨to, po, qo⟩ := (o.ok g _ h1).arg false
      obtain ⟨ta, pa, qa⟩ := es.ok g false _ h2
      have hst := es.star cf (a :: r) h2
      have hst' := hst
      rw [List.all_cons, Bool.and_eq_true] at hst
      refine ⟨_, pe_methD (m := nm) (apos := apos) (pos := cpos) po pa (starEach_cons hst.1) (no_star hst.2) rfl h3 (m_few hst' h4), fun Hs0 H0 Hs H ρ σ Q ok h => ?_⟩
      refine qo Hs0 H0 Hs H ρ σ _ ok ?_
      dsimp only at h ⊢
      unfold mcallEv at h
      simp only [CE.arg] at h
      cases eo : argR false (o.ev call ρ) with
      | bad => rw [eo] at h; exact h.elim
      | ex c es => rw [eo] at h; exact h
      | ok d =>
        rw [eo, Res.bind_ok] at h
        intro x Hs1 H1 e1 p1
        split at h
        · rename_i c ns ds
          split at h
          · rename_i f hf
            split at h
            · exact h.elim
            · rename_i hns
              obtain ⟨k, ad, fd, ps, C, hC, hc, hm, F, hr, hb⟩ := g.meth _ (h5 _ (lookup_memS hf))
              have r1 := p1.sh
              have r1' := r1
              simp only [Rp] at r1
              obtain ⟨a0, C', dx, fs, rfl, hC', ea, hn, hrs⟩ := r1
              have hC : X.mg c = some (.ref C) := hC
              rw [hC] at hC'; cases hC'
              refine ⟨a0, C, dx, fs, ad, k, fd, ps, _, WE W, rfl, e1.i _ _ ea, lookup_none (by rw [hn]; exact hns), hc, hm, F, hr, hb, passAt g.tk σ, ?_⟩
              refine qa Hs0 H0 Hs1 H1 ρ σ _ (ok.grow e1) ?_
              cases ees : es.ev false call ρ with
              | bad => rw [ees] at h; exact h.elim
              | ex c es => rw [ees] at h; exact fun cls dd Hs' H' e' q => h cls dd Hs' H' (e1.trans e') q
              | ok as =>
                rw [ees, Res.bind_ok] at h
                intro vs Hs2 H2 e2 ps2
                refine ⟨Hs2, .obj c ns ds :: as, e2.i, .cons (r1'.mono e2.s) ps2.sh, ?_⟩
                have h' := h
                cases ec : call f (.obj c ns ds :: as) with
                | bad => rw [ec] at h'; exact h'
                | ex c' es' => rw [ec] at h'; exact fun cls dd Hs' H' e' q => h' cls dd Hs' H' ((e1.trans e2).trans e') q
                | ok q =>
                  rw [ec] at h'
                  intro v Hs' H' e' rs
                  have e12 := e1.trans e2
                  refine h' v Hs' H' (e12.trans e') ?_
                  revert rs
                  cases q with
                  | mk d0 b0 =>
                    cases b0 with
                    | true =>
                      intro rs
                      obtain ⟨aa, oo, q1, q2, q3, q4, q5⟩ := rs
                      exact ⟨aa, oo, q1, e12.h.free q2, q3, q4, q5⟩
                    | false => exact fun rs => rs
          · exact h.elim
        · exact h.elim
    · cases h
@[simp] theorem CE.mcall_ev {call : Calls} {ρ : List Sl} (o : CE) (m : Str) (tb : List (Str × Str)) (es : CEs) : (CE.mcall o m tb es).ev call ρ = mcallEv m tb (o.arg false call ρ) (es.ev false call ρ) call := rfl
end MJ

namespace MJ
open PySem PySem.Spec PyProof.Rows L2

/-! ### in, not in; <= of truths -/
theorem op_inT {X : Cx} (hu : X.A.units + 65 < cLine) : OpR X (compareOp .In) (fun x y H Q => ∃ d ds, Dp X.K H x d ∧ Dp X.K H y (.tuple ds) ∧ SeqAt.shaped d = true ∧ SeqAt.shaped (.tuple ds) = true ∧ Q (.bl (ds.any fun z => PyData.eqv z d)) H) := by
  intro pins s σ H x y v u Q I rx ry h
  obtain ⟨d, ds, hd, he, sd, se, q⟩ := h
  obtain ⟨as, r1⟩ := Dp.reads I d x v hd rx
  obtain ⟨bs, r2⟩ := Dp.reads I (.tuple ds) y u he ry
  exact SeqAt.in_tuple_reads r2 r1 (SeqAt.canLay_of_shaped se) (SeqAt.canLay_of_shaped sd) (room_in_shaped sd hu) ⟨.bl _, H, I, rfl, q⟩
theorem op_notInT {X : Cx} (hu : X.A.units + 65 < cLine) : OpR X (compareOp .NotIn) (fun x y H Q => ∃ d ds, Dp X.K H x d ∧ Dp X.K H y (.tuple ds) ∧ SeqAt.shaped d = true ∧ SeqAt.shaped (.tuple ds) = true ∧ Q (.bl (!ds.any fun z => PyData.eqv z d)) H) := by
  intro pins s σ H x y v u Q I rx ry h
  obtain ⟨d, ds, hd, he, sd, se, q⟩ := h
  obtain ⟨as, r1⟩ := Dp.reads I d x v hd rx
  obtain ⟨bs, r2⟩ := Dp.reads I (.tuple ds) y u he ry
  exact SeqAt.notIn_tuple_reads r2 r1 (SeqAt.canLay_of_shaped se) (SeqAt.canLay_of_shaped sd) (room_in_shaped sd hu) ⟨.bl _, H, I, rfl, q⟩
/-- x in y -/
def inD (d e : D) : Res Bool := match toPy d, toPy e with
  | some p, some (.list qs) => if SeqAt.shaped p = true ∧ SeqAt.shaped (.list qs) = true then .ok (qs.any fun z => PyData.eqv z p) else .bad
  | some p, some (.tuple qs) => if SeqAt.shaped p = true ∧ SeqAt.shaped (.tuple qs) = true then .ok (qs.any fun z => PyData.eqv z p) else .bad
  | some (.str a), some (.str z) => if a.length = 1 then .ok (decide (a.cps.getD 0 0 ∈ z.cps.toList)) else .bad
  | _, _ => .bad
theorem one_sign {a : Str} (h : a.length = 1) : a = ⟨#[a.cps.getD 0 0]⟩ := by
  obtain ⟨cps⟩ := a
  have h : cps.size = 1 := h
  congr 1
  apply Array.ext
  · simp [h]
  · intro i h1 h2
    have : i = 0 := by omega
    subst this
    simp [Array.getD, h]
theorem toPy_str {d : D} {a : Str} (h : toPy d = some (.str a)) : d = .str a := by
  cases d with
  | str x => simpa [toPy] using h
  | tup ds => simp [toPy] at h
  | lst ds => simp [toPy] at h
  | _ => simp [toPy] at h
def B2.in_ : B2 (compareOp .In) where
  b1 := true
  b2 := true
  g := fun d e => (inD d e).bind fun b => .ok (.bl b, .sh)
  ok := fun X hc hu => ⟨_, (op_inD (by omega)).or ((op_inT (by omega)).or op_in_sign), fun W Hs H σ d e x y Q i p1 p2 h => by
    dsimp only at h
    unfold inD at h
    split at h
    · split at h
      · rename_i p qs e1 e2 hs
        exact .inl ⟨p, qs, Rp.dp e1 ((p1.view i).rp i), Rp.dp e2 ((p2.view i).rp i), hs.1, hs.2, post_bl i h⟩
      · exact h.elim
    · split at h
      · rename_i p qs e1 e2 hs
        exact .inr (.inl ⟨p, qs, Rp.dp e1 ((p1.view i).rp i), Rp.dp e2 ((p2.view i).rp i), hs.1, hs.2, post_bl i h⟩)
      · exact h.elim
    · split at h
      · rename_i a z e1 e2 hs
        have d1 := toPy_str e1
        have d2 := toPy_str e2
        subst d1 d2
        exact .inr (.inr ⟨_, z, by rw [p1.str]; exact congrArg V.str (one_sign hs), p2.str, post_bl i h⟩)
      · exact h.elim
    · exact h.elim⟩
def B2.notin : B2 (compareOp .NotIn) where
  b1 := true
  b2 := true
  g := fun d e => (inD d e).bind fun b => .ok (.bl (!b), .sh)
  ok := fun X hc hu => ⟨_, (op_notInD (by omega)).or ((op_notInT (by omega)).or op_notIn_sign), fun W Hs H σ d e x y Q i p1 p2 h => by
    dsimp only at h
    unfold inD at h
    split at h
    · split at h
      · rename_i p qs e1 e2 hs
        exact .inl ⟨p, qs, Rp.dp e1 ((p1.view i).rp i), Rp.dp e2 ((p2.view i).rp i), hs.1, hs.2, post_bl i h⟩
      · exact h.elim
    · split at h
      · rename_i p qs e1 e2 hs
        exact .inr (.inl ⟨p, qs, Rp.dp e1 ((p1.view i).rp i), Rp.dp e2 ((p2.view i).rp i), hs.1, hs.2, post_bl i h⟩)
      · exact h.elim
    · split at h
      · rename_i a z e1 e2 hs
        have d1 := toPy_str e1
        have d2 := toPy_str e2
        subst d1 d2
        exact .inr (.inr ⟨_, z, by rw [p1.str]; exact congrArg V.str (one_sign hs), p2.str, post_bl i h⟩)
      · exact h.elim
    · exact h.elim⟩
theorem op_leB {X : Cx} : OpR X (compareOp .LtE) (fun x y H Q => ∃ p q, x = .bl p ∧ y = .bl q ∧ Q (.bl (!p || q)) H) := by
  intro pins s σ H x y v u Q I rx ry h
  obtain ⟨p, q, rfl, rfl, h⟩ := h
  cases rx
  cases ry
  exact PyProof.Rows.le_bool ⟨.bl _, H, I, by cases p <;> cases q <;> rfl, h⟩
def leD : D → D → Res (D × Fr)
  | .int i, .int j => .ok (.bl (decide (i ≤ j)), .sh)
  | .bl p, .bl q => .ok (.bl (!p || q), .sh)
  | _, _ => .bad
def B2.leA : B2 (compareOp .LtE) where
  b1 := true
  b2 := true
  g := leD
  ok := fun X hc hu => ⟨_, op_le.or op_leB, fun W Hs H σ d e x y Q i p1 p2 h => by
    unfold leD at h
    split at h
    · exact .inl ⟨_, _, p1.int, p2.int, post_bl i h⟩
    · exact .inr ⟨_, _, p1.bl, p2.bl, post_bl i h⟩
    · exact h.elim⟩
end MJ

namespace MJ
open PySem PySem.Spec PyProof.Rows L2

/-! ### lists and tuples alike -/
def SqB (K : PySem.W.Frag) (H : Hp) (tp : Bool) (a : Addr) (xs : List V) : Prop := match tp with
  | true => SqT K H a xs
  | false => SqL K H a xs
def HSq (h : Heap) (tp : Bool) (a : Addr) (items : Array Value) : Prop := match tp with
  | true => h.IsTuple a items
  | false => h.IsList a items
def HIt (h : Heap) (tp : Bool) (it a : Addr) (i : Nat) : Prop := match tp with
  | true => h.IsTupleIter it a i
  | false => h.IsListIter it a i
def itOb (tp : Bool) (a : Addr) : Obj := match tp with
  | true => { cls := .type "tuple_iterator", data := .fields #[.ref a, .int 0 0] }
  | false => { cls := .type "list_iterator", data := .fields #[.ref a, .int 0 0] }
theorem begins_sq (tp : Bool) (a : Addr) (items : Array Value) : Begins (.ref a) (itOb tp a) fun h => HSq h tp a items := by
  cases tp
  · exact begins_list a items
  · exact begins_tuple a items
theorem draws_sq {P : Program} {w : World} {A : Around} (hh : A.handled = none) (tp : Bool) (it a : Addr) (hne : a ≠ it) (items : Array Value) :
    Draws P w A it [it, a] items.size (fun i v => items[i]? = some v) (fun i h => HIt h tp it a i ∧ HSq h tp a items) := by
  cases tp
  · exact Draws.list hh it a hne items
  · exact Draws.tuple hh it a hne items
theorem HIt.first {h : Heap} {tp : Bool} {it a : Addr} (e : h.get? it = some (itOb tp a)) : HIt h tp it a 0 := by
  cases tp
  · exact ⟨_, e, rfl, rfl⟩
  · exact ⟨_, e, rfl, rfl⟩
theorem HIt.at' {h h' : Heap} {tp : Bool} {it a : Addr} {i : Nat} (x : HIt h tp it a i) (e : ∀ o, h.get? it = some o → h'.get? it = some o) : HIt h' tp it a i := by
  cases tp
  · exact Heap.IsListIter.at x e
  · exact Heap.IsTupleIter.at x e
theorem HIt.obj {h : Heap} {tp : Bool} {it a : Addr} {i : Nat} (x : HIt h tp it a i) : ∃ o, h.get? it = some o ∧ ∀ v, o.data ≠ .cell v := by
  cases tp <;>
  · obtain ⟨o, e, _, d⟩ := x
    exact ⟨o, e, fun v q => by rw [d] at q; cases q⟩
section
variable {X : Cx} {pins : List (Addr × Obj)} {σ : L2.St} {H : Hp} {s : Shared}
theorem sq_read (I : Inv X pins σ H s) {tp : Bool} {a : Addr} {xs : List V} (h : SqB X.K H tp a xs) : ∃ its : List Value, Vals xs its ∧ HSq s.heap tp a its.toArray ∧ xs.length ≤ sizeLine := by
  cases tp
  · obtain ⟨its, r, p, z⟩ := I.list h
    exact ⟨its, r, p.isList, z⟩
  · obtain ⟨its, r, p, z⟩ := I.tuple h
    exact ⟨its, r, p, z⟩
theorem sq_inj (I : Inv X pins σ H s) {tp : Bool} {a : Addr} {xs ys : List V} (h : SqB X.K H tp a xs) (g : SqB X.K H tp a ys) : xs = ys := by
  cases tp
  · exact I.list_inj h g
  · exact I.tuple_inj h g
theorem HSq.lt {h : Heap} {tp : Bool} {a : Addr} {its : Array Value} (x : HSq h tp a its) : a < h.objs.size := by
  cases tp <;>
  · obtain ⟨o, e, _⟩ := x
    exact Heap.lt_size e
end
theorem SqB.same {K : PySem.W.Frag} {H H' : Hp} {tp : Bool} {a : Addr} {xs : List V} (s : Same H H') (h : SqB K H tp a xs) : SqB K H' tp a xs := by
  cases tp
  · exact s.seq h
  · exact s.seqT h

/-! ### turns that give new tuples -/
/-- what is there at a turn: a walk, and what its values are -/
structure Step (X : Cx) (J : It) (I0 : Addr) (fp : List Addr) (tn : Nat → Heap → Prop) (i : Nat) (H : Hp) (s : Shared) : Type where
  n : Nat
  fp' : List Addr
  wr : List Addr
  Pt : Nat → Array Value → Prop
  St : Nat → Heap → Prop
  Mid : Nat → Addr → Heap → Prop
  W : WalksT X.prog X.w X.A I0 fp' wr n Pt St Mid
  st : St i s.heap
  sub : ∀ b ∈ wr, b ∈ fp
theorem turn_T {P : Program} {w : World} {K : PySem.W.Frag} {elts : List Expr} {kk : Nat} {tpos : Pos} {J : It} {I0 : Addr} {fp : List Addr} {tn : Nat → Heap → Prop}
    (mem : I0 ∈ fp) (obj : ∀ i h, tn i h → ∀ b ∈ fp, ∃ o, h.get? b = some o ∧ ∀ v, o.data ≠ .cell v)
    (keep : ∀ i h h', tn i h → (∀ b ∈ fp, ∀ o, h.get? b = some o → h'.get? b = some o) → tn i h')
    (item : ∀ (X : Cx), X.prog = P → X.w = w → X.K = K → X.calm = true → ∀ (i : Nat) (pins : List (Addr × Obj)) (s : Shared) (σ : L2.St) (H : Hp), Inv X pins σ H s → tn i s.heap → J.go i H →
      ∃ T : Step X J I0 fp tn i H s, i < T.n ∧ (∀ h', T.St (i + 1) h' → tn (i + 1) h') ∧ ∀ vals, T.Pt i vals → ∃ xs, Vals xs vals.toList ∧ xs.length ≤ sizeLine ∧ ∀ a, H a = none → J.yld i H (.ref a) (upd H a (.tup xs)))
    (done : ∀ (X : Cx), X.prog = P → X.w = w → X.K = K → X.calm = true → ∀ (i : Nat) (pins : List (Addr × Obj)) (s : Shared) (σ : L2.St) (H : Hp), Inv X pins σ H s → tn i s.heap → J.stop i H →
      ∃ T : Step X J I0 fp tn i H s, i = T.n)
    (self : ∀ (A : Around) (i : Nat) (s : Shared) (Q : Value → Shared → Prop) (E : Value → Shared → Prop), tn i s.heap → Q (.ref I0) s → wpAny (model P w) A (pyIter (.ref I0)) Q E s) :
    Turn P w K (.Tuple elts kk tpos) J fp I0 tn where
  mem := mem
  obj := obj
  keep := keep
  item := by
    intro X hP hw hK hc i pins s σ H E I hf st hg
    obtain ⟨T, hi, hnext, hv⟩ := item X hP hw hK hc i pins s σ H I st hg
    subst hP hw hK
    refine T.W.item i s _ E hi T.st fun t vals h' tk hPt hTs hT hM hk => ?_
    refine ⟨_, rfl, T.W.go elts kk tpos i t { s with heap := h', toks := tk } _ E hM fun h'' hst' hk' => ?_⟩
    obtain ⟨xs, hvals, hlen, hy⟩ := hv vals hPt
    have hap := T.W.apart i t h' hM
    have hT2 : IsTup h'' t vals := by
      obtain ⟨o, e, r⟩ := hT
      exact ⟨o, hk' t o hap e, r⟩
    have new : ObjOk X.prog X.w (upd H t (.tup xs)) h'' t (.tup xs) := ⟨hlen, vals.toList, hvals, by simpa using hT2⟩
    have I1 : Inv X pins σ (upd H t (.tup xs)) { s with heap := h'', toks := tk } :=
      I.turnedNew (t' := tk) (ch := T.wr) (fun b o hb q => hk' b o hb (hk b o hb q)) (fun b hb => hf b (T.sub b hb)) hTs new
    refine ⟨.ref t, _, I1, rfl, hy t (I.hok.fresh hTs), hnext h'' hst', fun b hb => ?_⟩
    obtain ⟨o, e, _⟩ := obj i s.heap st b hb
    have hb' : b < s.heap.objs.size := Heap.lt_size e
    rw [upd_ne (Nat.ne_of_lt (Nat.lt_of_lt_of_le hb' hTs))]
    exact (hf b hb).1
  done := by
    intro X hP hw hK hc i pins s σ H E I hf st hg
    obtain ⟨T, hi⟩ := done X hP hw hK hc i pins s σ H I st hg
    subst hP hw hK
    have st' : T.St T.n s.heap := (show ∀ j, i = j → T.St j s.heap from fun j e => by cases e; exact T.st) _ hi
    refine T.W.done s _ E st' fun h' tk hk => ⟨rfl, I.turnedL (t' := tk) (ch := T.wr) hk fun b hb => hf b (T.sub b hb)⟩
  self := self

/-! ### enumerate -/
def IteB (K : PySem.W.Frag) (tp : Bool) (a : Addr) (n : Nat) : It :=
  ⟨fun i H => i < n ∧ ∃ xs, SqB K H tp a xs ∧ xs.length = n, fun i H v H' => ∃ T x, v = .ref T ∧ H T = none ∧ H' = upd H T (.tup [.int (i : Nat), x]) ∧ ∀ xs, SqB K H tp a xs → xs[i]? = some x,
    fun i H => n ≤ i ∧ ∃ xs, SqB K H tp a xs ∧ xs.length = n⟩
theorem turn_enumB {P : Program} {w : World} {K : PySem.W.Frag} {elts : List Expr} {kk : Nat} {tpos : Pos} (tp : Bool) (a e it : Addr) (n : Nat) :
    Turn P w K (.Tuple elts kk tpos) (IteB K tp a n) [e, it] e (fun i h => i ≤ n ∧ (∃ old, IsEnum h e it ((i : Nat) : Int) old) ∧ HIt h tp it a i ∧ e ≠ it ∧ a ≠ e ∧ a ≠ it) := by
  refine turn_T (by simp) (fun i h st b hb => ?_) (fun i h h' st k => ?_) ?_ ?_ fun A i s Q E st h => let ⟨_, ⟨_, he⟩, _⟩ := st; wpAny_pyIter_enum he h
  · obtain ⟨_, ⟨old, he⟩, hi, _⟩ := st
    have e' : b = e ∨ b = it := by simpa using hb
    rcases e' with z | z
    · rw [z]; exact ⟨_, he, fun v q => nomatch q⟩
    · rw [z]; exact hi.obj
  · obtain ⟨hn, ⟨old, he⟩, hi, hne⟩ := st
    exact ⟨hn, ⟨old, k e (by simp) _ he⟩, hi.at' fun o q => k it (by simp) o q, hne⟩
  · intro X hP hw hK hc i pins s σ H I st hg
    subst hP hw hK
    obtain ⟨hn, ⟨old, he⟩, hit, h1, h2, h3⟩ := st
    obtain ⟨hi, xs, hq, hl⟩ := hg
    obtain ⟨its, rv, hs, hz⟩ := sq_read I hq
    have hsz : its.toArray.size = n := by rw [List.size_toArray, ← rv.length]; exact hl
    have D := draws_sq (P := X.prog) (w := X.w) (A := X.A.in1) (I.ok.hd hc) tp it a h3 its.toArray
    refine ⟨⟨_, _, _, _, _, _, WalksT.enumerateD D e h1 (by simp [h1, Ne.symm h2]) (by simp), ⟨⟨old, he⟩, hit, hs⟩, fun b hb => hb⟩, by show i < its.toArray.size; omega, fun h' st' => ?_, fun vals hv => ?_⟩
    · obtain ⟨⟨old', he'⟩, hit', _⟩ := st'
      exact ⟨hi, ⟨old', he'⟩, hit', h1, h2, h3⟩
    · obtain ⟨t, x, hx, rfl⟩ := hv
      have hx' : its[i]? = some x := by simpa using hx
      have hlt : i < xs.length := by omega
      obtain ⟨u, hu, ru⟩ := rv.get (List.getElem?_eq_getElem hlt)
      rw [hx'] at hu
      cases hu
      exact ⟨[.int (i : Nat), xs[i]], .cons ⟨t, rfl⟩ (.cons ru .nil), (by show 2 ≤ sizeLine; decide), fun T hT => ⟨T, _, rfl, hT, rfl, fun ys hy => by rw [sq_inj I hy hq]; exact List.getElem?_eq_getElem hlt⟩⟩
  · intro X hP hw hK hc i pins s σ H I st hg
    subst hP hw hK
    obtain ⟨hn, ⟨old, he⟩, hit, h1, h2, h3⟩ := st
    obtain ⟨hi, xs, hq, hl⟩ := hg
    obtain ⟨its, rv, hs, hz⟩ := sq_read I hq
    have hsz : its.toArray.size = n := by rw [List.size_toArray, ← rv.length]; exact hl
    have D := draws_sq (P := X.prog) (w := X.w) (A := X.A.in1) (I.ok.hd hc) tp it a h3 its.toArray
    refine ⟨⟨_, _, _, _, _, _, WalksT.enumerateD D e h1 (by simp [h1, Ne.symm h2]) (by simp), ⟨⟨old, he⟩, hit, hs⟩, fun b hb => hb⟩, by show i = its.toArray.size; omega⟩
/-- enumerate(t), t a tuple, begins -/
theorem meets_enumerate_newT {v : Value} {o : Obj} {H : Heap → Prop} (B : Begins v o H) :
    Meets (Builtin.«enumerate.__new__» ⟨[.type "enumerate", v], []⟩) (fun _ R s => H s.heap ∧
      R (.ok (.ret (.ref (s.heap.push o).objs.size))) { s with heap := (s.heap.push o).push { cls := .type "enumerate", data := .fields #[.none, .bool false, .ref s.heap.objs.size, rawInt 0, .none, .none] } }) :=
  .of_wp fun prog w A R s h => by
    obtain ⟨hp, g, d, tk, os⟩ := s; obtain ⟨h1, h⟩ := h
    have hsub := sub_enumerate
    have q1 : ∀ {A' : Around} {E : Value → Shared → Prop} {Q : Value → Shared → Prop}, Q (.ref hp.objs.size) ⟨hp.push o, g, d, tk, os⟩ → wpAny (model prog w) A' (pyIter v) Q E ⟨hp, g, d, tk, os⟩ :=
      fun q => B.iter prog w _ _ ⟨hp, g, d, tk, os⟩ _ h1 q
    wp_walk using q1
    refine wpAny_stack_any fun st => wpAny_pure ?_
    split
    · rename_i c _ _ _ _ _
      cases (c == Value.type "enumerate")
      · wp_walk using q1
        exact ⟨_, rfl, h⟩
      · wp_walk using q1
        exact ⟨_, rfl, h⟩
    · wp_walk using q1
      exact ⟨_, rfl, h⟩
theorem call_enumerateB {prog : Program} {w : World} {A : Around} {E : Value → Shared → Prop} {s : Shared} {v : Value} {o : Obj} {H : Heap → Prop} {Q : Value → Shared → Prop} (B : Begins v o H) (h1 : H s.heap)
    (h : ∀ h', IsEnum h' (s.heap.objs.size + 1) s.heap.objs.size 0 .none → h'.get? s.heap.objs.size = some o →
      (∀ b o, s.heap.get? b = some o → h'.get? b = some o) → Q (.ref (s.heap.objs.size + 1)) { s with heap := h' }) :
    wpAny (model prog w) A (call (.type "enumerate") [v]) Q E s := by
  refine callType_new F.called_enumerate (by decide) (F.typeCall_enumerate_1 _) (F.newCall_enumerate_1 _) (fun obj => F.args_object_init_2 obj _) F.entry_enumerate_new
    (meets_enumerate_newT B) ⟨h1, ?_⟩
  have hz : (s.heap.push o).objs.size = s.heap.objs.size + 1 := Heap.size_push ..
  show _ ∧ _
  rw [hz]
  have he : IsEnum ((s.heap.push o).push { cls := .type "enumerate", data := .fields #[.none, .bool false, .ref s.heap.objs.size, rawInt 0, .none, .none] }) (s.heap.objs.size + 1) s.heap.objs.size 0 .none := by
    have := Heap.get?_push_size (s.heap.push o) (o := { cls := .type "enumerate", data := .fields #[.none, .bool false, .ref s.heap.objs.size, rawInt 0, .none, .none] }) rfl
    rw [hz] at this; exact this
  exact ⟨⟨_, he, rfl⟩, h _ he (Heap.get?_push_of_some _ (Heap.get?_push_size _ B.free)) fun b o x => Heap.get?_push_of_some _ (Heap.get?_push_of_some _ x)⟩
def iEnumB (K : PySem.W.Frag) (ta : TA) : TI := fun σ H R => ta σ H fun vs H1 => ∃ tp a xs, vs = [.ref a] ∧ SqB K H1 tp a xs ∧ R (IteB K tp a xs.length) H1
theorem fpOk_new {X : Cx} {pins : List (Addr × Obj)} {σ : L2.St} {H : Hp} {s : Shared} (I : Inv X pins σ H s) {b : Addr} (h : s.heap.objs.size ≤ b) : FpOk X pins H b := I.fpOk h (I.hok.fresh h)
theorem pi_enumB {X : Cx} {e : Expr} {ta : TA} {p pos tpos : Pos} {elts : List Expr} {kk : Nat} (hg : Gl X "enumerate") (hm : X.mg "enumerate" = none) (ha : PA X [e] ta) (hs : starEach [e] X.env = [(false, eval e X.env)] := by rfl) :
    PI X (.Tuple elts kk tpos) (.Call (.Name "enumerate" p) [e] [] pos) (iEnumB X.K ta) := by
  refine ⟨fun pins s σ H R I h => ?_⟩
  refine Call_ (ld_blt I hg hm boot_enumerate (PyProof.Rows.callWith_type1 (thn (ha.run pos pins s σ H _ I h) fun us s1 ⟨vs, H1, I1, r1, q1⟩ => ?_) hs rfl))
  obtain ⟨tp, a, xs, ex, hq, q⟩ := q1
  subst ex
  cases r1 with
  | cons r rr =>
    cases rr
    cases r
    obtain ⟨its, rv, hsq, hz⟩ := sq_read I1 hq
    have hlt := hsq.lt
    refine call_enumerateB (begins_sq tp a its.toArray) hsq fun h' he hit hk => wpAny_pyIter_enum he ?_
    have I2 : Inv X pins σ H1 { s1 with heap := h' } := I1.kept (t' := s1.toks) hk
    refine ⟨s1.heap.objs.size + 1, [s1.heap.objs.size + 1, s1.heap.objs.size], _, _, H1, rfl, I2, turn_enumB tp a (s1.heap.objs.size + 1) s1.heap.objs.size xs.length,
      ⟨Nat.zero_le _, ⟨.none, he⟩, .first hit, Nat.succ_ne_self _, Nat.ne_of_lt (Nat.lt_succ_of_lt hlt), Nat.ne_of_lt hlt⟩, fun b hb => ?_, q⟩
    have e' : b = s1.heap.objs.size + 1 ∨ b = s1.heap.objs.size := by simpa using hb
    refine fpOk_new I1 ?_
    rcases e' with z | z
    · rw [z]; exact Nat.le_add_right _ _
    · rw [z]; exact Nat.le_refl _
end MJ

namespace MJ
open PySem PySem.Spec PyProof.Rows L2
/-! ### zip -/
theorem min_le2 {a b i : Nat} (h : a ≤ i ∨ b ≤ i) : min a b ≤ i := h.elim (fun h => Nat.le_trans (Nat.min_le_left ..) h) fun h => Nat.le_trans (Nat.min_le_right ..) h
theorem min_le3 {a b c i : Nat} (h : a ≤ i ∨ b ≤ i ∨ c ≤ i) : min (min a b) c ≤ i := h.elim (fun h => min_le2 (.inl (min_le2 (.inl h)))) fun h => h.elim (fun h => min_le2 (.inl (min_le2 (.inr h)))) fun h => min_le2 (.inr h)
structure Sq where
  tp : Bool
  a : Addr
  n : Nat
def Sq.Is (K : PySem.W.Frag) (H : Hp) (q : Sq) : Prop := ∃ xs, SqB K H q.tp q.a xs ∧ xs.length = q.n
def Sq.At (K : PySem.W.Frag) (H : Hp) (q : Sq) (i : Nat) (x : V) : Prop := ∀ xs, SqB K H q.tp q.a xs → xs[i]? = some x
def Itz2 (K : PySem.W.Frag) (p q : Sq) : It :=
  ⟨fun i H => i < p.n ∧ i < q.n ∧ p.Is K H ∧ q.Is K H, fun i H v H' => ∃ T x y, v = .ref T ∧ H T = none ∧ H' = upd H T (.tup [x, y]) ∧ p.At K H i x ∧ q.At K H i y,
    fun i H => (p.n ≤ i ∨ q.n ≤ i) ∧ p.Is K H ∧ q.Is K H⟩
def Itz3 (K : PySem.W.Frag) (p q r : Sq) : It :=
  ⟨fun i H => (i < p.n ∧ i < q.n ∧ i < r.n) ∧ p.Is K H ∧ q.Is K H ∧ r.Is K H, fun i H v H' => ∃ T x y z, v = .ref T ∧ H T = none ∧ H' = upd H T (.tup [x, y, z]) ∧ p.At K H i x ∧ q.At K H i y ∧ r.At K H i z,
    fun i H => (p.n ≤ i ∨ q.n ≤ i ∨ r.n ≤ i) ∧ p.Is K H ∧ q.Is K H ∧ r.Is K H⟩
theorem at_of {X : Cx} {pins : List (Addr × Obj)} {σ : L2.St} {H : Hp} {s : Shared} (I : Inv X pins σ H s) {q : Sq} {xs : List V} {its : List Value} {i : Nat} {u : Value} (hq : SqB X.K H q.tp q.a xs) (rv : Vals xs its) (hl : xs.length = q.n) (hi : i < q.n) (hu : its.toArray[i]? = some u) :
    ∃ x, RelV x u ∧ q.At X.K H i x := by
  have hlt : i < xs.length := by omega
  obtain ⟨u', hu', ru⟩ := rv.get (List.getElem?_eq_getElem hlt)
  have hx' : its[i]? = some u := by simpa using hu
  rw [hx'] at hu'
  cases hu'
  exact ⟨xs[i], ru, fun ys hy => by rw [sq_inj I hy hq]; exact List.getElem?_eq_getElem hlt⟩
theorem turn_zip2 {P : Program} {w : World} {K : PySem.W.Frag} {elts : List Expr} {kk : Nat} {tpos : Pos} (p q : Sq) (N : Addr) (hp : p.a < N) (hq : q.a < N) :
    Turn P w K (.Tuple elts kk tpos) (Itz2 K p q) [(N + 4 : Nat), (N + 2 : Nat), (N + 3 : Nat), N, (N + 1 : Nat)] (N + 4 : Nat) (fun i h => i ≤ min p.n q.n ∧ IsZip h (N + 4 : Nat) (N + 2 : Nat) (N + 3 : Nat) .none ∧ IsTupOf2 h (N + 2 : Nat) (.ref N) (.ref (N + 1 : Nat)) ∧ (∃ x y, IsTupOf2 h (N + 3 : Nat) x y) ∧ HIt h p.tp N p.a i ∧ HIt h q.tp (N + 1 : Nat) q.a i) := by
  have Z : ZipSep2 (N + 4 : Nat) (N + 2 : Nat) (N + 3 : Nat) N (N + 1 : Nat) (N :: [p.a]) ((N + 1 : Nat) :: [q.a]) := zip_sep2 (by simpa using hp) (by simpa using hq)
  refine turn_T (by simp) (fun i h st b hb => ?_) (fun i h h' st k => ?_) ?_ ?_ fun A i s Q E st h => wpAny_pyIter_zip st.2.1 h
  · obtain ⟨_, hz, hTI, ⟨x, y, hTO⟩, h1, h2⟩ := st
    have e' : b = (N + 4 : Nat) ∨ b = (N + 2 : Nat) ∨ b = (N + 3 : Nat) ∨ b = N ∨ b = (N + 1 : Nat) := by simpa using hb
    rcases e' with z | z | z | z | z
    · rw [z]; exact ⟨_, hz, fun v q => nomatch q⟩
    · rw [z]; exact ⟨_, hTI, fun v q => nomatch q⟩
    · rw [z]; exact ⟨_, hTO, fun v q => nomatch q⟩
    · rw [z]; exact h1.obj
    · rw [z]; exact h2.obj
  · obtain ⟨hn, hz, hTI, ⟨x, y, hTO⟩, h1, h2⟩ := st
    exact ⟨hn, k _ (by simp) _ hz, k _ (by simp) _ hTI, ⟨x, y, k _ (by simp) _ hTO⟩, h1.at' fun o q => k _ (by simp) o q, h2.at' fun o q => k _ (by simp) o q⟩
  · intro X hP hw hK hc i pins s σ H I st hg
    subst hP hw hK
    obtain ⟨hn, hz, hTI, hTO, h1, h2⟩ := st
    obtain ⟨i1, i2, ⟨xs, qx, lx⟩, ys, qy, ly⟩ := hg
    obtain ⟨its1, rv1, hs1, hz1⟩ := sq_read I qx
    obtain ⟨its2, rv2, hs2, hz2⟩ := sq_read I qy
    have D1 := draws_sq (P := X.prog) (w := X.w) (A := X.A.in1) (I.ok.hd hc) p.tp N p.a (Nat.ne_of_lt hp) its1.toArray
    have D2 := draws_sq (P := X.prog) (w := X.w) (A := X.A.in1) (I.ok.hd hc) q.tp (N + 1 : Nat) q.a (Nat.ne_of_lt (Nat.lt_succ_of_lt hq)) its2.toArray
    have l1 : its1.toArray.size = p.n := by rw [List.size_toArray, ← rv1.length]; exact lx
    have l2 : its2.toArray.size = q.n := by rw [List.size_toArray, ← rv2.length]; exact ly
    refine ⟨⟨_, _, _, _, _, _, WalksT.zipD2 Z D1 D2, ⟨hz, hTI, hTO, ⟨h1, hs1⟩, h2, hs2⟩, fun b hb => by simp only [List.mem_cons, List.not_mem_nil, or_false] at hb ⊢; rcases hb with h | h | h | h <;> simp [h]⟩, by show i < min its1.toArray.size its2.toArray.size; rw [l1, l2]; exact Nat.lt_min.mpr ⟨i1, i2⟩, fun h' st' => ?_, fun vals hv => ?_⟩
    · obtain ⟨hz', hTI', hTO', ⟨h1', _⟩, h2', _⟩ := st'
      exact ⟨Nat.le_min.mpr ⟨i1, i2⟩, hz', hTI', hTO', h1', h2'⟩
    · obtain ⟨x1, x2, hx1, hx2, rfl⟩ := hv
      obtain ⟨v1, r1, a1⟩ := at_of I qx rv1 lx i1 hx1
      obtain ⟨v2, r2, a2⟩ := at_of I qy rv2 ly i2 hx2
      exact ⟨[v1, v2], .cons r1 (.cons r2 .nil), (by show 2 ≤ sizeLine; decide), fun T hT => ⟨T, v1, v2, rfl, hT, rfl, a1, a2⟩⟩
  · intro X hP hw hK hc i pins s σ H I st hg
    subst hP hw hK
    obtain ⟨hn, hz, hTI, hTO, h1, h2⟩ := st
    obtain ⟨i1, ⟨xs, qx, lx⟩, ys, qy, ly⟩ := hg
    obtain ⟨its1, rv1, hs1, hz1⟩ := sq_read I qx
    obtain ⟨its2, rv2, hs2, hz2⟩ := sq_read I qy
    have D1 := draws_sq (P := X.prog) (w := X.w) (A := X.A.in1) (I.ok.hd hc) p.tp N p.a (Nat.ne_of_lt hp) its1.toArray
    have D2 := draws_sq (P := X.prog) (w := X.w) (A := X.A.in1) (I.ok.hd hc) q.tp (N + 1 : Nat) q.a (Nat.ne_of_lt (Nat.lt_succ_of_lt hq)) its2.toArray
    have l1 : its1.toArray.size = p.n := by rw [List.size_toArray, ← rv1.length]; exact lx
    have l2 : its2.toArray.size = q.n := by rw [List.size_toArray, ← rv2.length]; exact ly
    refine ⟨⟨_, _, _, _, _, _, WalksT.zipD2 Z D1 D2, ⟨hz, hTI, hTO, ⟨h1, hs1⟩, h2, hs2⟩, fun b hb => by simp only [List.mem_cons, List.not_mem_nil, or_false] at hb ⊢; rcases hb with h | h | h | h <;> simp [h]⟩, by show i = min its1.toArray.size its2.toArray.size; rw [l1, l2]; exact Nat.le_antisymm hn (min_le2 i1)⟩
theorem turn_zip3 {P : Program} {w : World} {K : PySem.W.Frag} {elts : List Expr} {kk : Nat} {tpos : Pos} (p q r : Sq) (N : Addr) (hp : p.a < N) (hq : q.a < N) (hr : r.a < N) :
    Turn P w K (.Tuple elts kk tpos) (Itz3 K p q r) [(N + 5 : Nat), (N + 3 : Nat), (N + 4 : Nat), N, (N + 1 : Nat), (N + 2 : Nat)] (N + 5 : Nat) (fun i h => i ≤ min (min p.n q.n) r.n ∧ IsZip h (N + 5 : Nat) (N + 3 : Nat) (N + 4 : Nat) .none ∧ IsTupOf3 h (N + 3 : Nat) (.ref N) (.ref (N + 1 : Nat)) (.ref (N + 2 : Nat)) ∧ (∃ x y z, IsTupOf3 h (N + 4 : Nat) x y z) ∧ HIt h p.tp N p.a i ∧ HIt h q.tp (N + 1 : Nat) q.a i ∧ HIt h r.tp (N + 2 : Nat) r.a i) := by
  have Z : ZipSep3 (N + 5 : Nat) (N + 3 : Nat) (N + 4 : Nat) N (N + 1 : Nat) (N + 2 : Nat) (N :: [p.a]) ((N + 1 : Nat) :: [q.a]) ((N + 2 : Nat) :: [r.a]) := zip_sep3 (by simpa using hp) (by simpa using hq) (by simpa using hr)
  refine turn_T (by simp) (fun i h st b hb => ?_) (fun i h h' st k => ?_) ?_ ?_ fun A i s Q E st h => wpAny_pyIter_zip st.2.1 h
  · obtain ⟨_, hz, hTI, ⟨x, y, z, hTO⟩, h1, h2, h3⟩ := st
    have e' : b = (N + 5 : Nat) ∨ b = (N + 3 : Nat) ∨ b = (N + 4 : Nat) ∨ b = N ∨ b = (N + 1 : Nat) ∨ b = (N + 2 : Nat) := by simpa using hb
    rcases e' with z | z | z | z | z | z
    · rw [z]; exact ⟨_, hz, fun v q => nomatch q⟩
    · rw [z]; exact ⟨_, hTI, fun v q => nomatch q⟩
    · rw [z]; exact ⟨_, hTO, fun v q => nomatch q⟩
    · rw [z]; exact h1.obj
    · rw [z]; exact h2.obj
    · rw [z]; exact h3.obj
  · obtain ⟨hn, hz, hTI, ⟨x, y, z, hTO⟩, h1, h2, h3⟩ := st
    exact ⟨hn, k _ (by simp) _ hz, k _ (by simp) _ hTI, ⟨x, y, z, k _ (by simp) _ hTO⟩, h1.at' fun o q => k _ (by simp) o q, h2.at' fun o q => k _ (by simp) o q, h3.at' fun o q => k _ (by simp) o q⟩
  · intro X hP hw hK hc i pins s σ H I st hg
    subst hP hw hK
    obtain ⟨hn, hz, hTI, hTO, h1, h2, h3⟩ := st
    obtain ⟨⟨i1, i2, i3⟩, ⟨xs, qx, lx⟩, ⟨ys, qy, ly⟩, zs, qz, lz⟩ := hg
    obtain ⟨its1, rv1, hs1, hz1⟩ := sq_read I qx
    obtain ⟨its2, rv2, hs2, hz2⟩ := sq_read I qy
    obtain ⟨its3, rv3, hs3, hz3⟩ := sq_read I qz
    have D1 := draws_sq (P := X.prog) (w := X.w) (A := X.A.in1) (I.ok.hd hc) p.tp N p.a (Nat.ne_of_lt hp) its1.toArray
    have D2 := draws_sq (P := X.prog) (w := X.w) (A := X.A.in1) (I.ok.hd hc) q.tp (N + 1 : Nat) q.a (Nat.ne_of_lt (Nat.lt_succ_of_lt hq)) its2.toArray
    have D3 := draws_sq (P := X.prog) (w := X.w) (A := X.A.in1) (I.ok.hd hc) r.tp (N + 2 : Nat) r.a (Nat.ne_of_lt (Nat.lt_succ_of_lt (Nat.lt_succ_of_lt hr))) its3.toArray
    have l1 : its1.toArray.size = p.n := by rw [List.size_toArray, ← rv1.length]; exact lx
    have l2 : its2.toArray.size = q.n := by rw [List.size_toArray, ← rv2.length]; exact ly
    have l3 : its3.toArray.size = r.n := by rw [List.size_toArray, ← rv3.length]; exact lz
    refine ⟨⟨_, _, _, _, _, _, WalksT.zipD3 Z D1 D2 D3, ⟨hz, hTI, hTO, ⟨h1, hs1⟩, ⟨h2, hs2⟩, h3, hs3⟩, fun b hb => by simp only [List.mem_cons, List.not_mem_nil, or_false] at hb ⊢; rcases hb with h | h | h | h | h <;> simp [h]⟩, by show i < min (min its1.toArray.size its2.toArray.size) its3.toArray.size; rw [l1, l2, l3]; exact Nat.lt_min.mpr ⟨Nat.lt_min.mpr ⟨i1, i2⟩, i3⟩, fun h' st' => ?_, fun vals hv => ?_⟩
    · obtain ⟨hz', hTI', hTO', ⟨h1', _⟩, ⟨h2', _⟩, h3', _⟩ := st'
      exact ⟨Nat.le_min.mpr ⟨Nat.le_min.mpr ⟨i1, i2⟩, i3⟩, hz', hTI', hTO', h1', h2', h3'⟩
    · obtain ⟨x1, x2, x3, hx1, hx2, hx3, rfl⟩ := hv
      obtain ⟨v1, r1, a1⟩ := at_of I qx rv1 lx i1 hx1
      obtain ⟨v2, r2, a2⟩ := at_of I qy rv2 ly i2 hx2
      obtain ⟨v3, r3, a3⟩ := at_of I qz rv3 lz i3 hx3
      exact ⟨[v1, v2, v3], .cons r1 (.cons r2 (.cons r3 .nil)), (by show 3 ≤ sizeLine; decide), fun T hT => ⟨T, v1, v2, v3, rfl, hT, rfl, a1, a2, a3⟩⟩
  · intro X hP hw hK hc i pins s σ H I st hg
    subst hP hw hK
    obtain ⟨hn, hz, hTI, hTO, h1, h2, h3⟩ := st
    obtain ⟨i1, ⟨xs, qx, lx⟩, ⟨ys, qy, ly⟩, zs, qz, lz⟩ := hg
    obtain ⟨its1, rv1, hs1, hz1⟩ := sq_read I qx
    obtain ⟨its2, rv2, hs2, hz2⟩ := sq_read I qy
    obtain ⟨its3, rv3, hs3, hz3⟩ := sq_read I qz
    have D1 := draws_sq (P := X.prog) (w := X.w) (A := X.A.in1) (I.ok.hd hc) p.tp N p.a (Nat.ne_of_lt hp) its1.toArray
    have D2 := draws_sq (P := X.prog) (w := X.w) (A := X.A.in1) (I.ok.hd hc) q.tp (N + 1 : Nat) q.a (Nat.ne_of_lt (Nat.lt_succ_of_lt hq)) its2.toArray
    have D3 := draws_sq (P := X.prog) (w := X.w) (A := X.A.in1) (I.ok.hd hc) r.tp (N + 2 : Nat) r.a (Nat.ne_of_lt (Nat.lt_succ_of_lt (Nat.lt_succ_of_lt hr))) its3.toArray
    have l1 : its1.toArray.size = p.n := by rw [List.size_toArray, ← rv1.length]; exact lx
    have l2 : its2.toArray.size = q.n := by rw [List.size_toArray, ← rv2.length]; exact ly
    have l3 : its3.toArray.size = r.n := by rw [List.size_toArray, ← rv3.length]; exact lz
    refine ⟨⟨_, _, _, _, _, _, WalksT.zipD3 Z D1 D2 D3, ⟨hz, hTI, hTO, ⟨h1, hs1⟩, ⟨h2, hs2⟩, h3, hs3⟩, fun b hb => by simp only [List.mem_cons, List.not_mem_nil, or_false] at hb ⊢; rcases hb with h | h | h | h | h <;> simp [h]⟩, by show i = min (min its1.toArray.size its2.toArray.size) its3.toArray.size; rw [l1, l2, l3]; exact Nat.le_antisymm hn (min_le3 i1)⟩
theorem pi_zip2B {X : Cx} {e e2 : Expr} {ta : TA} {p pos tpos : Pos} {elts : List Expr} {kk : Nat} (hg : Gl X "zip") (hm : X.mg "zip" = none) (ha : PA X [e, e2] ta)
    (hs : starEach [e, e2] X.env = (false, eval e X.env) :: starEach [e2] X.env) (hpl : (backTo pos (starEach [e2] X.env)).any (·.1) = false) :
    PI X (.Tuple elts kk tpos) (.Call (.Name "zip" p) [e, e2] [] pos) (fun σ H R => ta σ H fun vs H1 => ∃ p q : Sq, vs = [.ref p.a, .ref q.a] ∧ p.Is X.K H1 ∧ q.Is X.K H1 ∧ R (Itz2 X.K p q) H1) := by
  refine ⟨fun pins s σ H R I h => ?_⟩
  refine Call_ (ld_blt I hg hm PyProof.Rows.boot_zip (PyProof.Rows.callWith_type1 (thn (ha.run pos pins s σ H _ I h) fun us s1 ⟨vs, H1, I1, r1, q1⟩ => ?_) hs hpl))
  obtain ⟨⟨tp1, a1, n1⟩, ⟨tp2, a2, n2⟩, ex, ⟨xs, hqx, lx⟩, ⟨ys, hqy, ly⟩, q⟩ := q1
  subst ex
  cases r1 with
  | cons r rr =>
    cases rr with
    | cons r' rr =>
      cases rr
      cases r
      cases r'
      obtain ⟨its, rv, p1, _⟩ := sq_read I1 hqx
      obtain ⟨its2, rv2, p2, _⟩ := sq_read I1 hqy
      have b1 := p1.lt
      have b2 := p2.lt
      refine zip_begins2 (begins_sq tp1 a1 its.toArray) (begins_sq tp2 a2 its2.toArray) p1 p2 fun h' hz hTI hTO h1 h2 hsz hk => wpAny_pyIter_zip hz ?_
      have I2 : Inv X pins σ H1 { s1 with heap := h' } := I1.kept (t' := s1.toks) hk
      refine ⟨_, _, _, _, H1, rfl, I2, turn_zip2 ⟨tp1, a1, n1⟩ ⟨tp2, a2, n2⟩ s1.heap.objs.size b1 b2, ⟨Nat.zero_le _, hz, hTI, ⟨_, _, hTO⟩, .first h1, .first h2⟩, fun c hcm => fpOk_new I1 ?_, q⟩
      have e' : c = (s1.heap.objs.size + 4 : Nat) ∨ c = (s1.heap.objs.size + 2 : Nat) ∨ c = (s1.heap.objs.size + 3 : Nat) ∨ c = s1.heap.objs.size ∨ c = (s1.heap.objs.size + 1 : Nat) := by simpa using hcm
      rcases e' with h | h | h | h | h <;> rw [h] <;> first | exact Nat.le_refl _ | exact Nat.le_add_right _ _
theorem pi_zip3B {X : Cx} {e e2 e3 : Expr} {ta : TA} {p pos tpos : Pos} {elts : List Expr} {kk : Nat} (hg : Gl X "zip") (hm : X.mg "zip" = none) (ha : PA X [e, e2, e3] ta)
    (hs : starEach [e, e2, e3] X.env = (false, eval e X.env) :: starEach [e2, e3] X.env) (hpl : (backTo pos (starEach [e2, e3] X.env)).any (·.1) = false) :
    PI X (.Tuple elts kk tpos) (.Call (.Name "zip" p) [e, e2, e3] [] pos) (fun σ H R => ta σ H fun vs H1 => ∃ p q r : Sq, vs = [.ref p.a, .ref q.a, .ref r.a] ∧ p.Is X.K H1 ∧ q.Is X.K H1 ∧ r.Is X.K H1 ∧ R (Itz3 X.K p q r) H1) := by
  refine ⟨fun pins s σ H R I h => ?_⟩
  refine Call_ (ld_blt I hg hm PyProof.Rows.boot_zip (PyProof.Rows.callWith_type1 (thn (ha.run pos pins s σ H _ I h) fun us s1 ⟨vs, H1, I1, r1, q1⟩ => ?_) hs hpl))
  obtain ⟨⟨tp1, a1, n1⟩, ⟨tp2, a2, n2⟩, ⟨tp3, a3, n3⟩, ex, ⟨xs, hqx, lx⟩, ⟨ys, hqy, ly⟩, ⟨zs, hqz, lz⟩, q⟩ := q1
  subst ex
  cases r1 with
  | cons r rr =>
    cases rr with
    | cons r' rr =>
      cases rr with
      | cons r'' rr =>
        cases rr
        cases r
        cases r'
        cases r''
        obtain ⟨its, rv, p1, _⟩ := sq_read I1 hqx
        obtain ⟨its2, rv2, p2, _⟩ := sq_read I1 hqy
        obtain ⟨its3, rv3, p3, _⟩ := sq_read I1 hqz
        have b1 := p1.lt
        have b2 := p2.lt
        have b3 := p3.lt
        refine zip_begins3 (begins_sq tp1 a1 its.toArray) (begins_sq tp2 a2 its2.toArray) (begins_sq tp3 a3 its3.toArray) p1 p2 p3 fun h' hz hTI hTO h1 h2 h3 hsz hk => wpAny_pyIter_zip hz ?_
        have I2 : Inv X pins σ H1 { s1 with heap := h' } := I1.kept (t' := s1.toks) hk
        refine ⟨_, _, _, _, H1, rfl, I2, turn_zip3 ⟨tp1, a1, n1⟩ ⟨tp2, a2, n2⟩ ⟨tp3, a3, n3⟩ s1.heap.objs.size b1 b2 b3, ⟨Nat.zero_le _, hz, hTI, ⟨_, _, _, hTO⟩, .first h1, .first h2, .first h3⟩, fun c hcm => fpOk_new I1 ?_, q⟩
        have e' : c = (s1.heap.objs.size + 5 : Nat) ∨ c = (s1.heap.objs.size + 3 : Nat) ∨ c = (s1.heap.objs.size + 4 : Nat) ∨ c = s1.heap.objs.size ∨ c = (s1.heap.objs.size + 1 : Nat) ∨ c = (s1.heap.objs.size + 2 : Nat) := by simpa using hcm
        rcases e' with h | h | h | h | h | h <;> rw [h] <;> first | exact Nat.le_refl _ | exact Nat.le_add_right _ _
end MJ

namespace MJ
open PySem PySem.Spec PyProof.Rows L2

/-! ### is None, is a truth -/
def isNon : D → Bool
  | .non => true
  | _ => false
theorem view_isNon {X : Cx} {Hs H : Hp} {d : D} {x : V} (h : ArgP X true Hs H d x) : decide (x = .non) = isNon d := by
  unfold ArgP at h
  simp only [if_true] at h
  cases d with
  | non => simp only [View, Rp] at h; subst h; rfl
  | bl b => simp only [View, Rp] at h; subst h; rfl
  | int b => simp only [View, Rp] at h; subst h; rfl
  | str b => simp only [View, Rp] at h; subst h; rfl
  | tup ds => simp only [View, Rp] at h; obtain ⟨_, _, rfl, _⟩ := h; rfl
  | lst ds => obtain ⟨_, _, rfl, _⟩ := h; rfl
  | dic ks ds => obtain ⟨_, _, rfl, _⟩ := h; rfl
  | obj c ns ds => simp only [View, Rp] at h; obtain ⟨_, _, _, _, rfl, _⟩ := h; rfl
  | nms zs => simp only [View, Rp] at h; obtain ⟨_, _, rfl, _⟩ := h; rfl
def isND (k : Bool) (d e : D) : Res (D × Fr) := match e with
  | .non => .ok (.bl (xor k (isNon d)), .sh)
  | _ => .bad
def B2.isN : B2 (compareOp .Is) where
  b1 := true
  b2 := true
  g := isND false
  ok := fun X hc hu => ⟨_, op_isN, fun W Hs H σ d e x y Q i p1 p2 h => by
    cases e with
    | non =>
      refine ⟨p2.non, ?_⟩
      rw [view_isNon p1]
      exact post_bl i (by simpa [isND] using h)
    | _ => exact h.elim⟩
def B2.notN : B2 (compareOp .IsNot) where
  b1 := true
  b2 := true
  g := isND true
  ok := fun X hc hu => ⟨_, op_notN, fun W Hs H σ d e x y Q i p1 p2 h => by
    cases e with
    | non =>
      refine ⟨p2.non, ?_⟩
      rw [view_isNon p1]
      exact post_bl i (by simpa [isND] using h)
    | _ => exact h.elim⟩
def B2.isB : B2 (compareOp .Is) where
  b1 := true
  b2 := true
  g := fun d e => match d, e with
    | .bl a, .bl b => .ok (.bl (decide (a = b)), .sh)
    | _, _ => .bad
  ok := fun X hc hu => ⟨_, op_isBl, fun W Hs H σ d e x y Q i p1 p2 h => by
    dsimp only at h
    split at h
    · exact ⟨_, _, p1.bl, p2.bl, post_bl i h⟩
    · exact h.elim⟩
def B2.notB : B2 (compareOp .IsNot) where
  b1 := true
  b2 := true
  g := fun d e => match d, e with
    | .bl a, .bl b => .ok (.bl (!decide (a = b)), .sh)
    | _, _ => .bad
  ok := fun X hc hu => ⟨_, op_notBl, fun W Hs H σ d e x y Q i p1 p2 h => by
    dsimp only at h
    split at h
    · exact ⟨_, _, p1.bl, p2.bl, post_bl i h⟩
    · exact h.elim⟩

/-! ### enumerate, zip, reversed, range with a step -/
def seqD : D → Res (List D)
  | .lst ds => .ok ds
  | .tup ds => .ok ds
  | .nms zs => .ok (zs.map .str)
  | _ => .bad
theorem Rp.sq {K : PySem.W.Frag} {mg : Str → Option Value} {Hs : Hp} {d : D} {ds : List D} {v : V} (h : Rp K mg Hs d v) (e : seqD d = .ok ds) : ∃ q : Sq, v = .ref q.a ∧ q.n = ds.length ∧ ∃ xs, SqB K Hs q.tp q.a xs ∧ Rps K mg Hs ds xs := by
  cases d with
  | lst es =>
    cases e
    simp only [Rp] at h
    obtain ⟨a, xs, rfl, q, r⟩ := h
    exact ⟨⟨false, a, _⟩, rfl, rfl, xs, q, r⟩
  | tup es =>
    cases e
    simp only [Rp] at h
    obtain ⟨a, xs, rfl, q, r⟩ := h
    exact ⟨⟨true, a, _⟩, rfl, rfl, xs, q, r⟩
  | nms zs =>
    cases e
    obtain ⟨a, xs, rfl, q, r⟩ := h.nms
    exact ⟨⟨true, a, _⟩, rfl, rfl, xs, q, r⟩
  | _ => cases e
def enumD : Nat → List D → List D
  | _, [] => []
  | k, d :: ds => .tup [.int (k : Nat), d] :: enumD (k + 1) ds
theorem enumD_get : ∀ {ds : List D} {k i : Nat}, (enumD k ds)[i]? = ds[i]?.map fun d => .tup [.int ((k + i : Nat) : Int), d]
  | [], _, _ => rfl
  | d :: ds, k, 0 => rfl
  | d :: ds, k, i + 1 => by
    rw [enumD, List.getElem?_cons_succ, enumD_get, List.getElem?_cons_succ, show k + 1 + i = k + (i + 1) by omega]
theorem enumD_len : ∀ {ds : List D} {k : Nat}, (enumD k ds).length = ds.length
  | [], _ => rfl
  | d :: ds, k => by simp [enumD, enumD_len]
section
variable {X : Cx} {Hs H : Hp}
/-- a new tuple, shared -/
theorem new_tup {Hs2 H2 : Hp} (s : Same Hs2 H2) {T : Addr} (hT : H2 T = none) {xs : List V} {ds : List D} (r : Rps X.K X.mg Hs2 ds xs) : ∃ Hs3, Ext Hs2 H2 Hs3 (upd H2 T (.tup xs)) ∧ Rp X.K X.mg Hs3 (.tup ds) (.ref T) := by
  have n1 := s.free hT
  refine ⟨upd Hs2 T (.tup xs), (Ext.rfl s).new hT _, ?_⟩
  simp only [Rp]
  exact ⟨T, xs, rfl, .of upd_same, r.mono (same_new n1 _)⟩
theorem Sq.is_same {q : Sq} {H H' : Hp} {K : PySem.W.Frag} (s : Same H H') (h : q.Is K H) : q.Is K H' := let ⟨xs, a, b⟩ := h; ⟨xs, a.same s, b⟩
theorem yields_enum {q : Sq} {xs : List V} {ds : List D} (i : Same Hs H) (hn : q.n = ds.length) (h : SqB X.K Hs q.tp q.a xs) (r : Rps X.K X.mg Hs ds xs) : Yields X (IteB X.K q.tp q.a q.n) Hs H (enumD 0 ds) := by
  intro Hs2 H2 s1 s2
  have q2 := (h.same s1).same s2
  have hl : xs.length = q.n := by rw [r.len, hn]
  refine ⟨fun i hi => ⟨by rw [enumD_len] at hi; omega, xs, q2, hl⟩, fun i d e => ?_⟩
  rw [enumD_get, Option.map_eq_some_iff] at e
  obtain ⟨d', e1, rfl⟩ := e
  have hi : i < ds.length := (List.getElem?_eq_some_iff.mp e1).1
  refine ⟨⟨by omega, xs, q2, hl⟩, fun x H3 y => ?_⟩
  obtain ⟨T, v, rfl, hT, rfl, hv⟩ := y
  obtain ⟨v', ev, rv⟩ := r.get e1
  have := hv xs q2
  rw [ev] at this
  cases this
  exact new_tup s2 hT (.cons (by simp [Rp]) (.cons (rv.mono s1) .nil))
theorem yields_zip2 {p q : Sq} {xs ys : List V} {ds es : List D} (i : Same Hs H) (hn : p.n = ds.length) (hm : q.n = es.length) (h : SqB X.K Hs p.tp p.a xs) (g : SqB X.K Hs q.tp q.a ys) (r : Rps X.K X.mg Hs ds xs) (t : Rps X.K X.mg Hs es ys) :
    Yields X (Itz2 X.K p q) Hs H (List.zipWith (fun a b => .tup [a, b]) ds es) := by
  intro Hs2 H2 s1 s2
  have q1 := (h.same s1).same s2
  have q2 := (g.same s1).same s2
  have hl : xs.length = p.n := by rw [r.len, hn]
  have hk : ys.length = q.n := by rw [t.len, hm]
  refine ⟨fun i hi => ⟨by rw [List.length_zipWith] at hi; rcases Nat.le_total ds.length es.length with z | z <;> simp [z] at hi <;> omega, ⟨xs, q1, hl⟩, ys, q2, hk⟩, fun i d e => ?_⟩
  rw [List.getElem?_zipWith] at e
  cases e1 : ds[i]? with
  | none => rw [e1] at e; cases e
  | some d1 =>
    cases e2 : es[i]? with
    | none => rw [e1, e2] at e; cases e
    | some d2 =>
      rw [e1, e2] at e
      cases e
      have hi : i < ds.length := (List.getElem?_eq_some_iff.mp e1).1
      have hj : i < es.length := (List.getElem?_eq_some_iff.mp e2).1
      refine ⟨⟨by omega, by omega, ⟨xs, q1, hl⟩, ys, q2, hk⟩, fun x H3 y => ?_⟩
      obtain ⟨T, v1, v2, rfl, hT, rfl, hv1, hv2⟩ := y
      obtain ⟨v1', ev1, rv1⟩ := r.get e1
      obtain ⟨v2', ev2, rv2⟩ := t.get e2
      have a1 := hv1 xs q1
      have a2 := hv2 ys q2
      rw [ev1] at a1
      rw [ev2] at a2
      cases a1; cases a2
      exact new_tup s2 hT (.cons (rv1.mono s1) (.cons (rv2.mono s1) .nil))
def zip3D : List D → List D → List D → List D
  | a :: as, b :: bs, c :: cs => .tup [a, b, c] :: zip3D as bs cs
  | _, _, _ => []
theorem zip3D_get : ∀ {as bs cs : List D} {i : Nat} {d : D}, (zip3D as bs cs)[i]? = some d → ∃ a b c, as[i]? = some a ∧ bs[i]? = some b ∧ cs[i]? = some c ∧ d = .tup [a, b, c]
  | [], _, _, _, _, e => by simp [zip3D] at e
  | _ :: _, [], _, _, _, e => by simp [zip3D] at e
  | _ :: _, _ :: _, [], _, _, e => by simp [zip3D] at e
  | a :: as, b :: bs, c :: cs, 0, d, e => by simp [zip3D] at e; exact ⟨a, b, c, rfl, rfl, rfl, e.symm⟩
  | a :: as, b :: bs, c :: cs, i + 1, d, e => by
    simp only [zip3D, List.getElem?_cons_succ] at e
    simpa using zip3D_get e
theorem zip3D_len : ∀ {as bs cs : List D} {i : Nat}, (zip3D as bs cs).length ≤ i → as.length ≤ i ∨ bs.length ≤ i ∨ cs.length ≤ i
  | [], _, _, _, e => .inl (Nat.zero_le _)
  | _ :: _, [], _, _, e => .inr (.inl (Nat.zero_le _))
  | _ :: _, _ :: _, [], _, e => .inr (.inr (Nat.zero_le _))
  | a :: as, b :: bs, c :: cs, 0, e => by simp [zip3D] at e
  | a :: as, b :: bs, c :: cs, i + 1, e => by
    have := zip3D_len (as := as) (bs := bs) (cs := cs) (i := i) (by simpa [zip3D] using e)
    simp only [List.length_cons]; omega
theorem yields_zip3 {p q w : Sq} {xs ys zs : List V} {ds es fs : List D} (i : Same Hs H) (hn : p.n = ds.length) (hm : q.n = es.length) (ho : w.n = fs.length) (h : SqB X.K Hs p.tp p.a xs) (g : SqB X.K Hs q.tp q.a ys) (k : SqB X.K Hs w.tp w.a zs)
    (r : Rps X.K X.mg Hs ds xs) (t : Rps X.K X.mg Hs es ys) (u : Rps X.K X.mg Hs fs zs) : Yields X (Itz3 X.K p q w) Hs H (zip3D ds es fs) := by
  intro Hs2 H2 s1 s2
  have q1 := (h.same s1).same s2
  have q2 := (g.same s1).same s2
  have q3 := (k.same s1).same s2
  have l1 : xs.length = p.n := by rw [r.len, hn]
  have l2 : ys.length = q.n := by rw [t.len, hm]
  have l3 : zs.length = w.n := by rw [u.len, ho]
  refine ⟨fun i hi => ⟨by have := zip3D_len hi; omega, ⟨xs, q1, l1⟩, ⟨ys, q2, l2⟩, zs, q3, l3⟩, fun i d e => ?_⟩
  obtain ⟨d1, d2, d3, e1, e2, e3, rfl⟩ := zip3D_get e
  have h1 : i < ds.length := (List.getElem?_eq_some_iff.mp e1).1
  have h2 : i < es.length := (List.getElem?_eq_some_iff.mp e2).1
  have h3 : i < fs.length := (List.getElem?_eq_some_iff.mp e3).1
  refine ⟨⟨⟨by omega, by omega, by omega⟩, ⟨xs, q1, l1⟩, ⟨ys, q2, l2⟩, zs, q3, l3⟩, fun x H3 y => ?_⟩
  obtain ⟨T, v1, v2, v3, rfl, hT, rfl, hv1, hv2, hv3⟩ := y
  obtain ⟨v1', ev1, rv1⟩ := r.get e1
  obtain ⟨v2', ev2, rv2⟩ := t.get e2
  obtain ⟨v3', ev3, rv3⟩ := u.get e3
  have a1 := hv1 xs q1
  have a2 := hv2 ys q2
  have a3 := hv3 zs q3
  rw [ev1] at a1
  rw [ev2] at a2
  rw [ev3] at a3
  cases a1; cases a2; cases a3
  exact new_tup s2 hT (.cons (rv1.mono s1) (.cons (rv2.mono s1) (.cons (rv3.mono s1) .nil)))
end
/-- from a post of arguments to one of what is walked -/
theorem postA_I {X : Cx} {W : WX} {Hs H : Hp} {σ : L2.St} {R : It → Hp → Prop} {r : Res (List D)} {g : List D → Res (List D)} {S : List V → Hp → Prop}
    (h : PostI X W Hs H σ R (r.bind g)) (k : ∀ ds, r = .ok ds → ∀ es, g ds = .ok es → ∀ vs Hs' H', Ext Hs H Hs' H' → ArgPs X false Hs' H' ds vs → (∀ J, Yields X J Hs' H' es → R J H') → S vs H') (no : ∀ ds c es, g ds ≠ .ex c es) : PostA X W false Hs H σ S r := by
  cases r with
  | bad => exact h
  | ex c es => exact h
  | ok ds =>
    intro vs Hs' H' e ps
    rw [Res.bind_ok] at h
    cases eg : g ds with
    | bad => rw [eg] at h; exact h.elim
    | ex c es => exact absurd eg (no _ _ _)
    | ok es => rw [eg] at h; exact k ds rfl es eg vs Hs' H' e ps fun J y => h J Hs' H' e y
def isTupT : Expr → Bool
  | .Tuple _ _ _ => true
  | _ => false
def enumG : List D → Res (List D)
  | [d] => (seqD d).bind fun ds => .ok (enumD 0 ds)
  | _ => .bad
theorem seqD_no (d : D) (c : Str) (es : List D) : seqD d ≠ .ex c es := by cases d <;> simp [seqD]
theorem seqD_ex {d : D} {ds : List D} {g : List D → Res (List D)} {es : List D} (h : (seqD d).bind g = .ok es) : ∃ ds, seqD d = .ok ds ∧ g ds = .ok es := by
  cases e : seqD d with
  | ok ds => rw [e] at h; exact ⟨ds, rfl, h⟩
  | ex c es => exact absurd e (seqD_no _ _ _)
  | bad => rw [e] at h; cases h
def CI.enum (a : CE) : CI where
  ev := fun call ρ => ((CEs.cons a .nil).ev false call ρ).bind enumG
  chk := fun cf tg x => match x with
    | .Call (.Name y _) [l] [] _ => decide (y = ("enumerate" : Str)) && glob cf ("enumerate" : Str) && a.chk cf l && isTupT tg
    | _ => false
  ok := fun {X W cf call} g tg x h => by
    split at h
    · simp only [Bool.and_eq_true, decide_eq_true_eq] at h
      obtain ⟨⟨⟨rfl, h1⟩, h2⟩, h3⟩ := h
      cases tg with
      | Tuple elts kk tpos =>
        have hst := a.star _ _ h2
        obtain ⟨t, p, q⟩ := ja_cons (b := false) ((a.ok g _ h2).arg false) ja_nil hst
        refine ⟨rfl, _, pi_enumB (g.gl h1) (g.blt _ (by decide +kernel)) p (by rw [starEach_cons hst]; rfl), fun Hs0 H0 Hs H ρ σ R ok h => ?_⟩
        refine q Hs0 H0 Hs H ρ σ _ ok (postA_I h (fun ds _ es eg vs Hs' H' e ps y => ?_) fun ds c es => ?_)
        · unfold enumG at eg
          split at eg
          · obtain ⟨ds', e1, e2⟩ := seqD_ex (ds := []) eg
            cases e2
            obtain ⟨v, rfl, p1⟩ := ps.one
            obtain ⟨sq, rfl, hn, xs, hq, r⟩ := p1.sh.sq e1
            have := y _ (yields_enum e.i hn hq r)
            rw [show sq.n = xs.length by rw [hn, r.len]] at this
            exact ⟨sq.tp, sq.a, xs, rfl, hq.same e.i, this⟩
          · cases eg
        · unfold enumG
          split
          · cases e : seqD _ with
            | ex => exact absurd e (seqD_no _ _ _)
            | ok => simp
            | bad => simp
          · simp
      | _ => cases h3
    · cases h
def zip2G : List D → Res (List D)
  | [d, e] => (seqD d).bind fun ds => (seqD e).bind fun es => .ok (List.zipWith (fun a b => .tup [a, b]) ds es)
  | _ => .bad
def CI.zip2 (a b : CE) : CI where
  ev := fun call ρ => ((CEs.cons a (.cons b .nil)).ev false call ρ).bind zip2G
  chk := fun cf tg x => match x with
    | .Call (.Name y _) [l, r] [] _ => decide (y = ("zip" : Str)) && glob cf ("zip" : Str) && a.chk cf l && b.chk cf r && isTupT tg
    | _ => false
  ok := fun {X W cf call} g tg x h => by
    split at h
    · simp only [Bool.and_eq_true, decide_eq_true_eq] at h
      obtain ⟨⟨⟨⟨rfl, h1⟩, h2⟩, h4⟩, h3⟩ := h
      cases tg with
      | Tuple elts kk tpos =>
        have hst := a.star _ _ h2
        have hst2 := b.star _ _ h4
        obtain ⟨t, p, q⟩ := ja_cons (b := false) ((a.ok g _ h2).arg false) (ja_cons ((b.ok g _ h4).arg false) ja_nil hst2) hst
        refine ⟨rfl, _, pi_zip2B (g.gl h1) (g.blt _ (by decide +kernel)) p (by rw [starEach_cons hst]) (by rw [starEach_cons hst2]; rfl), fun Hs0 H0 Hs H ρ σ R ok h => ?_⟩
        refine q Hs0 H0 Hs H ρ σ _ ok (postA_I h (fun ds _ es eg vs Hs' H' e ps y => ?_) fun ds c es => ?_)
        · unfold zip2G at eg
          split at eg
          · obtain ⟨ds', e1, eg⟩ := seqD_ex (ds := []) eg
            obtain ⟨es', e2, eg⟩ := seqD_ex (ds := []) eg
            cases eg
            obtain ⟨v, w, rfl, p1, p2⟩ := ps.two
            obtain ⟨s1, rfl, n1, xs, q1, r1⟩ := p1.sh.sq e1
            obtain ⟨s2, rfl, n2, ys, q2, r2⟩ := p2.sh.sq e2
            exact ⟨s1, s2, rfl, ⟨xs, q1.same e.i, by rw [r1.len, n1]⟩, ⟨ys, q2.same e.i, by rw [r2.len, n2]⟩, y _ (yields_zip2 e.i n1 n2 q1 q2 r1 r2)⟩
          · cases eg
        · unfold zip2G
          split
          · cases e : seqD _ with
            | ex => exact absurd e (seqD_no _ _ _)
            | bad => simp
            | ok =>
              cases e : seqD _ with
              | ex => exact absurd e (seqD_no _ _ _)
              | bad => simp [e]
              | ok => simp [e]
          · simp
      | _ => cases h3
    · cases h
theorem ArgPs.three {X : Cx} {b : Bool} {Hs H : Hp} {d e f : D} {vs : List V} (h : ArgPs X b Hs H [d, e, f] vs) : ∃ u v w, vs = [u, v, w] ∧ ArgP X b Hs H d u ∧ ArgP X b Hs H e v ∧ ArgP X b Hs H f w := by
  cases h with
  | cons h t => obtain ⟨v, w, rfl, p, q⟩ := t.two; exact ⟨_, _, _, rfl, h, p, q⟩
def zip3G : List D → Res (List D)
  | [d, e, f] => (seqD d).bind fun ds => (seqD e).bind fun es => (seqD f).bind fun fs => .ok (zip3D ds es fs)
  | _ => .bad
def CI.zip3 (a b c : CE) : CI where
  ev := fun call ρ => ((CEs.cons a (.cons b (.cons c .nil))).ev false call ρ).bind zip3G
  chk := fun cf tg x => match x with
    | .Call (.Name y _) [l, r, s] [] _ => decide (y = ("zip" : Str)) && glob cf ("zip" : Str) && a.chk cf l && b.chk cf r && c.chk cf s && isTupT tg
    | _ => false
  ok := fun {X W cf call} g tg x h => by
    split at h
    · simp only [Bool.and_eq_true, decide_eq_true_eq] at h
      obtain ⟨⟨⟨⟨⟨rfl, h1⟩, h2⟩, h4⟩, h5⟩, h3⟩ := h
      cases tg with
      | Tuple elts kk tpos =>
        have hst := a.star _ _ h2
        have hst2 := b.star _ _ h4
        have hst3 := c.star _ _ h5
        obtain ⟨t, p, q⟩ := ja_cons (b := false) ((a.ok g _ h2).arg false) (ja_cons ((b.ok g _ h4).arg false) (ja_cons ((c.ok g _ h5).arg false) ja_nil hst3) hst2) hst
        refine ⟨rfl, _, pi_zip3B (g.gl h1) (g.blt _ (by decide +kernel)) p (by rw [starEach_cons hst]) (by rw [starEach_cons hst2, starEach_cons hst3]; rfl), fun Hs0 H0 Hs H ρ σ R ok h => ?_⟩
        refine q Hs0 H0 Hs H ρ σ _ ok (postA_I h (fun ds _ es eg vs Hs' H' e ps y => ?_) fun ds c es => ?_)
        · unfold zip3G at eg
          split at eg
          · obtain ⟨ds', e1, eg⟩ := seqD_ex (ds := []) eg
            obtain ⟨es', e2, eg⟩ := seqD_ex (ds := []) eg
            obtain ⟨fs', e3, eg⟩ := seqD_ex (ds := []) eg
            cases eg
            obtain ⟨u, v, w, rfl, p1, p2, p3⟩ := ps.three
            obtain ⟨s1, rfl, n1, xs, q1, r1⟩ := p1.sh.sq e1
            obtain ⟨s2, rfl, n2, ys, q2, r2⟩ := p2.sh.sq e2
            obtain ⟨s3, rfl, n3, zs, q3, r3⟩ := p3.sh.sq e3
            exact ⟨s1, s2, s3, rfl, ⟨xs, q1.same e.i, by rw [r1.len, n1]⟩, ⟨ys, q2.same e.i, by rw [r2.len, n2]⟩, ⟨zs, q3.same e.i, by rw [r3.len, n3]⟩, y _ (yields_zip3 e.i n1 n2 n3 q1 q2 q3 r1 r2 r3)⟩
          · cases eg
        · unfold zip3G
          split
          · cases e : seqD _ with
            | ex => exact absurd e (seqD_no _ _ _)
            | bad => simp
            | ok =>
              cases e : seqD _ with
              | ex => exact absurd e (seqD_no _ _ _)
              | bad => simp [e]
              | ok =>
                cases e : seqD _ with
                | ex => exact absurd e (seqD_no _ _ _)
                | bad => simp [e]
                | ok => simp [e]
          · simp
      | _ => cases h3
    · cases h
end MJ

namespace MJ
open PySem PySem.Spec PyProof.Rows L2

/-! ### sets of things that are kept by scanning (texts): what is in them, in the table's order -/
section
variable {P : Program} {w : World} {K : Type} [DecidableEq K] (knd : PySem.KeyKind P w K)
def entV (L : List (K × Value)) : List (Int × Value) := L.map fun p => (knd.hash p.1, p.2)
structure SetV (h : Heap) (a : Addr) (L : List (K × Value)) : Prop where
  ex : ∃ o es ep t, h.get? a = some o ∧ o.ExactSet ∧ o.data = .set es ep t ∧ es.toList = entV knd L ∧ t.fits es.size = true ∧ Ris t.place.toList ∧ (w.params.followText "set-order" = true ∨ t.led = true)
  is : ∀ p ∈ L, knd.is p.1 p.2 = true ∧ p.2.scannable = true
  nd : (L.map (·.1)).Nodup
  few : L.length < scanBound
variable {knd}
theorem entV_perm {L : List (K × Value)} {l : List (Int × Value)} (p : l.Perm (entV knd L)) : ∃ L', L'.Perm L ∧ l = entV knd L' := by
  obtain ⟨L', p', e⟩ := L2.perm_lift (fun p : K × Value => (knd.hash p.1, p.2)) p L rfl
  exact ⟨L', p', e.symm⟩
theorem entV_elems {L : List (K × Value)} (h : ∀ p ∈ L, knd.is p.1 p.2 = true ∧ p.2.scannable = true) : ElemsOf knd (entV knd L) := fun e he => by
  obtain ⟨p, hp, rfl⟩ := List.mem_map.mp he
  exact ⟨⟨p.1, (h p hp).1, rfl⟩, (h p hp).2⟩
theorem entV_find {L : List (K × Value)} (h : ∀ p ∈ L, knd.is p.1 p.2 = true ∧ p.2.scannable = true) (k : K) : (∃ e ∈ entV knd L, knd.is k e.2 = true) ↔ k ∈ L.map (·.1) := by
  constructor
  · rintro ⟨e, he, q⟩
    obtain ⟨p, hp, rfl⟩ := List.mem_map.mp he
    exact List.mem_map.mpr ⟨p, hp, knd.inj _ _ _ (h p hp).1 q⟩
  · intro hk
    obtain ⟨p, hp, rfl⟩ := List.mem_map.mp hk
    exact ⟨_, List.mem_map.mpr ⟨p, hp, rfl⟩, (h p hp).1⟩
theorem SetV.keep {h h' : Heap} {a : Addr} {L : List (K × Value)} (R : SetV knd h a L) (k : ∀ o, h.get? a = some o → h'.get? a = some o) : SetV knd h' a L := by
  obtain ⟨⟨o, es, ep, t, ho, r⟩, x, y, z⟩ := R
  exact ⟨⟨o, es, ep, t, k o ho, r⟩, x, y, z⟩
variable {A : Around} {E : Value → Shared → Prop} {s : Shared} {a : Addr} {L : List (K × Value)}
/-- the last steps of an add: stored, and laid anew where it is too full -/
theorem SetV.lay {g : Bool → Sem Unit} (hg : ∀ (b : Bool) (s1 : Shared) (Q : Unit → Shared → Prop), Q () s1 → wpAny (model P w) A (g b) Q E s1) {o : Obj} {es : Array (Int × Value)} {ep : Nat} {t : SetTable}
    (ho : s.heap.get? a = some o) (hx : o.ExactSet) (hd : o.data = .set es ep t) {es1 : Array (Int × Value)} {t1 : SetTable} {L1 : List (K × Value)} (he : es1.toList = entV knd L1) (his : ∀ p ∈ L1, knd.is p.1 p.2 = true ∧ p.2.scannable = true)
    (hnd : (L1.map (·.1)).Nodup) (hfew : L1.length < scanBound) (hf : t1.fits es1.size = true) (hr : Ris t1.place.toList) (hl : w.params.followText "set-order" = true ∨ t1.led = true) {dm : Bool} {R : Option Bool → Shared → Prop}
    (hR : ∀ h' L2, Heap.SameBut a s.heap h' → SetV knd h' a L2 → L2.Perm L1 → R (some true) { s with heap := h' }) :
    wpAny (model P w) A (do
        storeSet a es1 t1
        if (!dm && t1.tooFull) = true then do
            g (relayAll t1 es1 (SetTable.grown es1.size)).2.2
            storeSet a (relayAll t1 es1 (SetTable.grown es1.size)).1 (relayAll t1 es1 (SetTable.grown es1.size)).2.1
            pure (some true)
          else pure (some true)) R E s := by
  have size_of : ∀ {x : Array (Int × Value)} {M : List (K × Value)}, x.toList = entV knd M → x.size = M.length := fun {x M} e => by
    rw [← Array.length_toList, e]; exact List.length_map ..
  have small := fits_of_scanBound (show es1.size < scanBound by rw [size_of he]; exact hfew)
  refine wpAny_bind (wpAny_storeSet_of ho hd ?_ small)
  have at1 := store_at (es' := es1) (t' := t1) ho hd
  have but1 := Heap.SameBut.update s.heap a (Obj.putSet es1 t1)
  split
  · have pm := relayAll_perm t1 es1 (SetTable.grown es1.size)
    have q1 := relayAll_fits t1 es1 (SetTable.grown es1.size)
    have q2 := relayAll_ris t1 es1 (SetTable.grown es1.size)
    have q3 := relayAll_led t1 es1 (SetTable.grown es1.size)
    generalize relayAll t1 es1 (SetTable.grown es1.size) = Z at pm q1 q2 q3 ⊢
    obtain ⟨es2, t2, gave⟩ := Z
    dsimp only at pm q1 q2 q3 ⊢
    rw [he] at pm
    obtain ⟨M2, p2, e2⟩ := entV_perm pm
    have few2 : M2.length < scanBound := by rw [p2.length_eq]; exact hfew
    refine wpAny_bind (hg _ _ _ (wpAny_bind (wpAny_storeSet_of at1 rfl ?_ (fits_of_scanBound (show es2.size < scanBound by rw [size_of e2]; exact few2)))))
    refine wpAny_pure (hR _ M2 (but1.trans (Heap.SameBut.update _ a _)) ⟨⟨_, es2, _, t2, store_at (es' := es2) (t' := t2) at1 rfl, hx, rfl, e2, q1, q2, hl.imp id fun z => q3.trans z⟩, fun p hp => his p (p2.mem_iff.mp hp), ?_, few2⟩ p2)
    exact (p2.map (·.1)).nodup_iff.mpr hnd
  · exact wpAny_pure (hR _ L1 but1 ⟨⟨_, es1, _, t1, at1, hx, rfl, he, hf, hr, hl⟩, his, hnd, hfew⟩ (.refl _))
/-- one thing more, where it lacks -/
theorem SetV.add {k : K} {v : Value} (R : SetV knd s.heap a L) (hk : knd.is k v = true) (hv : v.scannable = true) (room : L.length + 1 < scanBound) {Q : Bool → Shared → Prop}
    (hQ : ∀ b h' L', Heap.SameBut a s.heap h' → SetV knd h' a L' → (k ∈ L.map (·.1) → L' = L) → (k ∉ L.map (·.1) → L'.Perm ((k, v) :: L)) → Q b { s with heap := h' }) :
    wpAny (model P w) A (setAddHashed a v (knd.hash k)) Q E s := by
  obtain ⟨⟨o, es, ep, t, ho, hx, hd, he, hf, hr, hl⟩, his, hnd, hfew⟩ := id R
  have hel : ElemsOf knd es.toList := by rw [he]; exact entV_elems his
  have hsz : es.size = L.length := by rw [← Array.length_toList, he]; exact List.length_map ..
  unfold setAddHashed setAddHashedIn
  refine wpAny_holding (wpAny_bind (wpAny_setState_of ho hd hf ?_))
  dsimp only
  rw [byScan_of hv (by rw [hsz]; exact hfew) hel, if_pos rfl]
  unfold setAddByScan
  refine wpAny_bind (wpAny_bind (wpAny_rule (wpAny_bind (wpAny_setScan_of hk ho hd hf hel ?_))))
  by_cases c : k ∈ L.map (·.1)
  · obtain ⟨j, hj⟩ : ∃ j, es.toList.findIdx? (fun e => knd.is k e.2) = some j := by
      cases q : es.toList.findIdx? (fun e => knd.is k e.2) with
      | some j => exact ⟨j, rfl⟩
      | none =>
        obtain ⟨e, e1, e2⟩ := (entV_find his k).mpr c
        rw [← he] at e1
        have := List.findIdx?_eq_none_iff.mp q e e1
        rw [e2] at this; cases this
    rw [hj]
    exact wpAny_pure (wpAny_pure (hQ _ _ L (Heap.SameBut.refl a s.heap) R (fun _ => rfl) fun z => absurd c z))
  · have hj : es.toList.findIdx? (fun e => knd.is k e.2) = none := by
      cases q : es.toList.findIdx? (fun e => knd.is k e.2) with
      | none => rfl
      | some j =>
        obtain ⟨h1, h2, _⟩ := List.findIdx?_eq_some_iff_getElem.mp q
        exact absurd ((entV_find his k).mp ⟨_, by rw [← he]; exact List.getElem_mem h1, h2⟩) c
    rw [hj]
    dsimp only
    have pm := layNew_perm t es (knd.hash k) v
    have q1 := layNew_fits t es (knd.hash k) v
    have q2 := layNew_ris t es (knd.hash k) v hr
    have q3 := layNew_led t es (knd.hash k) v
    generalize layNew t es (knd.hash k) v = Z at pm q1 q2 q3 ⊢
    obtain ⟨es1, t1, dm, gave⟩ := Z
    dsimp only at pm q1 q2 q3 ⊢
    have pm2 : es1.toList.Perm (entV knd ((k, v) :: L)) := by
      rw [Array.toList_push, he] at pm
      exact pm.trans (List.perm_append_singleton _ _)
    obtain ⟨L1, p1, e1⟩ := entV_perm pm2
    have his1 : ∀ p ∈ L1, knd.is p.1 p.2 = true ∧ p.2.scannable = true := fun p hp => by
      rcases List.mem_cons.mp (p1.mem_iff.mp hp) with z | z
      · rw [z]; exact ⟨hk, hv⟩
      · exact his p z
    have nd1 : (L1.map (·.1)).Nodup := (p1.map (·.1)).nodup_iff.mpr (List.nodup_cons.mpr ⟨c, hnd⟩)
    have few1 : L1.length < scanBound := by rw [p1.length_eq]; exact room
    have led1 : w.params.followText "set-order" = true ∨ t1.led = true := hl.imp id fun z => q3.trans z
    have fin : ∀ h' L2, Heap.SameBut a s.heap h' → SetV knd h' a L2 → L2.Perm L1 → Q true { s with heap := h' } := fun h' L2 sb R2 p2 => hQ true h' L2 sb R2 (fun z => absurd z c) fun _ => p2.trans p1
    have pass : ∀ (b : Bool) {s1 : Shared} {Q1 : Unit → Shared → Prop}, Q1 () s1 → wpAny (model P w) A (match b with | true => rule "set.scan.the-table-gave-way" | false => pure ()) Q1 E s1 := fun b s1 Q1 q => by
      cases b
      · exact wpAny_pure q
      · exact wpAny_rule q
    refine wpAny_bind (pass _ ?_)
    by_cases hp : t1.plain = true
    · rw [if_pos hp]
      refine wpAny_bind ?_
      rw [hashByValue_scannable 8 hv]
      refine wpAny_pure (SetV.lay (fun b s1 Q1 q => ?_) ho hx hd e1 his1 nd1 few1 ?_ ?_ ?_ fun h' L2 sb R2 p2 => wpAny_pure (fin h' L2 sb R2 p2))
      · cases b
        · exact wpAny_pure q
        · exact wpAny_rule q
      · split
        · exact SetTable.fits_plain_off q1
        · exact q1
      · split <;> exact q2
      · split <;> exact led1
    · rw [if_neg hp]
      refine wpAny_bind (wpAny_pure ?_)
      rw [if_pos rfl]
      refine SetV.lay (fun b s1 Q1 q => ?_) ho hx hd e1 his1 nd1 few1 q1 q2 led1 fun h' L2 sb R2 p2 => wpAny_pure (fin h' L2 sb R2 p2)
      cases b
      · exact wpAny_pure q
      · exact wpAny_rule q
theorem SetV.fresh {h : Heap} (ho : h.get? a = some { cls := .type "set", dict := none, data := .set #[] 0 (.fresh 0 0 (!w.params.followText "set-order")) }) : SetV knd h a [] where
  ex := ⟨_, #[], 0, _, ho, ⟨rfl, rfl, rfl⟩, rfl, rfl, rfl, List.Pairwise.nil, by
    show _ ∨ (!w.params.followText "set-order") = true
    cases w.params.followText "set-order" <;> simp⟩
  is := fun p hp => by cases hp
  nd := List.nodup_nil
  few := (by decide : 0 < scanBound)
end
end MJ

namespace MJ
open PySem PySem.Spec PyProof.Rows L2 PpSet

/-! ### sets of tuples of truths: the table is searched -/
abbrev hB (P : Program) (w : World) (k : List Bool) : Int := tupleKeyHash (boolK P w) k
abbrev IsB (P : Program) (w : World) (h : Heap) (k : List Bool) (b : Addr) : Prop := IsTupleKey (boolK P w) h k b
section
variable {P : Program} {w : World} {A : Around} {E : Value → Shared → Prop} {s : Shared}
theorem IsB.keep {h h' : Heap} {k : List Bool} {b : Addr} (x : IsB P w h k b) (q : ∀ o, h.get? b = some o → h'.get? b = some o) : IsB P w h' k b := by
  obtain ⟨o, its, n, ho, r⟩ := x
  exact ⟨o, its, n, q o ho, r⟩
theorem IsB.but {h h' : Heap} {k : List Bool} {a b : Addr} {o : Obj} {es : Array (Int × Value)} {ep : Nat} {t : SetTable} (x : IsB P w h k b) (ho : h.get? a = some o) (hd : o.data = .set es ep t) (q : Heap.SameBut a h h') : IsB P w h' k b := by
  refine x.keep fun o' e => (q.2 b ?_).trans e
  rintro rfl
  obtain ⟨o2, its, n, e2, _, d2, _⟩ := x
  rw [ho] at e2
  cases e2
  rw [hd] at d2
  cases d2
/-- the values in it are truths -/
theorem items_bl {k : List Bool} {vs : List Value} (h : ItemsAre (boolK P w) k vs) : ∀ v ∈ vs, ∃ i, v = Value.bool i := by
  induction h with
  | nil => intro v hv; cases hv
  | cons h1 _ ih =>
    intro v hv
    rcases List.mem_cons.mp hv with rfl | hv
    · exact ⟨_, isB_shape h1⟩
    · exact ih v hv
theorem class_bl (n : Nat) (i : Bool) : ofAClassStatement n (.bool i) = pure false := by cases n <;> rfl
theorem byval_bl (n : Nat) (i : Bool) : hashByValue n (.bool i) = pure true := by cases n <;> rfl
theorem class_tb {k : List Bool} {b : Addr} {Q : Bool → Shared → Prop} (x : IsB P w s.heap k b) (h : Q false s) : wpAny (model P w) A (ofAClassStatement 8 (.ref b)) Q E s := by
  have ty := x.typeIs
  obtain ⟨o, its, n, ho, _, hd, hi⟩ := x
  unfold ofAClassStatement
  refine wpAny_bind (wpAny_typeOf ty ?_)
  simp only [show (("tuple" : String) == "tuple") = true by decide, if_true, Bool.not_true, Bool.false_eq_true, if_false]
  try refine wpAny_bind (wpAny_pure ?_)
  show wpAny _ _ (seqItems? (.ref b) >>= _) _ _ s
  refine wpAny_bind (wpAny_seqItems ho hd (wpAny_bind ?_))
  show wpAny _ _ (forIn its _ _) _ _ s
  rw [← Array.forIn_toList]
  refine wpAny_forIn_list _ (fun rest r s' => r.1 = none ∧ s' = s ∧ ∀ v ∈ rest, ∃ i, v = Value.bool i) _ ?_ ?_ _ _ ⟨rfl, rfl, items_bl hi⟩
  · rintro v rest r s' ⟨hr, rfl, hall⟩
    obtain ⟨i, rfl⟩ := hall v List.mem_cons_self
    rw [class_bl]
    refine wpAny_bind (wpAny_pure ?_)
    simp only [Bool.false_eq_true, if_false]
    exact wpAny_pure ⟨rfl, rfl, fun u hu => hall u (List.mem_cons_of_mem _ hu)⟩
  · rintro ⟨r1, r2⟩ s' ⟨hr, rfl, _⟩
    cases hr
    exact wpAny_pure h
theorem byval_tb {k : List Bool} {b : Addr} {Q : Bool → Shared → Prop} (x : IsB P w s.heap k b) (h : Q true s) : wpAny (model P w) A (hashByValue 8 (.ref b)) Q E s := by
  have ty := x.typeIs
  obtain ⟨o, its, n, ho, _, hd, hi⟩ := x
  unfold hashByValue
  refine wpAny_bind (wpAny_specialOf ty F.slot_tuple_hash.lookup ?_)
  show wpAny _ _ (seqItems? (.ref b) >>= _) _ _ s
  refine wpAny_bind (wpAny_seqItems ho hd (wpAny_bind ?_))
  show wpAny _ _ (forIn its _ _) _ _ s
  rw [← Array.forIn_toList]
  refine wpAny_forIn_list _ (fun rest r s' => r.1 = none ∧ s' = s ∧ ∀ v ∈ rest, ∃ i, v = Value.bool i) _ ?_ ?_ _ _ ⟨rfl, rfl, items_bl hi⟩
  · rintro v rest r s' ⟨hr, rfl, hall⟩
    obtain ⟨i, rfl⟩ := hall v List.mem_cons_self
    rw [byval_bl]
    refine wpAny_bind (wpAny_pure ?_)
    simp only [Bool.not_true, Bool.false_eq_true, if_false]
    exact wpAny_pure ⟨rfl, rfl, fun u hu => hall u (List.mem_cons_of_mem _ hu)⟩
  · rintro ⟨r1, r2⟩ s' ⟨hr, rfl, _⟩
    cases hr
    exact wpAny_pure h
theorem seen_tb {k : List Bool} {b : Addr} {Q : Bool → Shared → Prop} (x : IsB P w s.heap k b) {ys : List Value} (hy : ∀ y ∈ ys, ∃ k' c, y = Value.ref c ∧ IsB P w s.heap k' c) (h : Q false s) :
    wpAny (model P w) A (searchCouldBeSeen (.ref b) ys) Q E s := by
  unfold searchCouldBeSeen
  refine wpAny_bind (wpAny_forIn_list _ (fun rest r s' => r.1 = none ∧ s' = s ∧ ∀ y ∈ rest, ∃ k' c, y = Value.ref c ∧ IsB P w s.heap k' c) _ ?_ ?_ _ _ ⟨rfl, rfl, hy⟩)
  · rintro v rest r s' ⟨hr, rfl, hall⟩
    obtain ⟨k', c, rfl, hc⟩ := hall v List.mem_cons_self
    have more : ∀ y ∈ rest, ∃ k' c, y = Value.ref c ∧ IsB P w s'.heap k' c := fun u hu => hall u (List.mem_cons_of_mem _ hu)
    dsimp only
    by_cases same : (b == c || (carriedByValue (.ref b) && carriedByValue (.ref c))) = true
    · exact wp_if_pos same (wpAny_pure ⟨rfl, rfl, more⟩)
    · refine wp_if_neg same (wpAny_bind (wpAny_eqIsQuiet_tuple x ?_))
      simp only [Bool.not_true, Bool.false_eq_true, if_false]
      refine wpAny_bind (wpAny_eqIsQuiet_tuple hc ?_)
      simp only [Bool.not_true, Bool.false_eq_true, if_false]
      refine wpAny_bind (class_tb x ?_)
      simp only [Bool.false_eq_true, if_false]
      refine wpAny_bind (class_tb hc ?_)
      simp only [Bool.false_eq_true, if_false]
      exact wpAny_pure ⟨rfl, rfl, more⟩
  · rintro ⟨r1, r2⟩ s' ⟨hr, rfl, _⟩
    cases hr
    exact wpAny_pure h

/-- the rows in the table's order: each with the place of its tuple -/
def entB (P : Program) (w : World) (L : List (List Bool × Addr)) : List (Int × Value) := L.map fun p => (hB P w p.1, Value.ref p.2)
theorem entB_perm {L : List (List Bool × Addr)} {l : List (Int × Value)} (p : l.Perm (entB P w L)) : ∃ M, M.Perm L ∧ l = entB P w M := by
  obtain ⟨M, p', e⟩ := L2.perm_lift (fun p : List Bool × Addr => (hB P w p.1, Value.ref p.2)) p L rfl
  exact ⟨M, p', e.symm⟩
theorem entB_len {L : List (List Bool × Addr)} {es : Array (Int × Value)} (e : es.toList = entB P w L) : es.size = L.length := by
  rw [← Array.length_toList, e]; exact List.length_map ..
def hashesB (P : Program) (w : World) (L : List (List Bool × Addr)) : List Int := L.map fun p => hB P w p.1
theorem hashesB_len {L : List (List Bool × Addr)} : (hashesB P w L).length = L.length := List.length_map ..
structure TabB (P : Program) (w : World) (h : Heap) (a : Addr) (L : List (List Bool × Addr)) (es : Array (Int × Value)) (ep : Nat) (t : SetTable) : Prop where
  ob : ∃ o, h.get? a = some o ∧ o.ExactSet ∧ o.data = .set es ep t
  ent : es.toList = entB P w L
  tab : TabOk t (hashesB P w L)
  pl : t.plain = true
  led : w.params.followText "set-order" = true ∨ t.led = true
  room : L.length * 5 < t.mask * 3
  few : L.length < 64
  nd : (L.map (·.1)).Nodup
  is : ∀ p ∈ L, IsB P w h p.1 p.2
variable {a : Addr} {L : List (List Bool × Addr)} {es : Array (Int × Value)} {ep : Nat} {t : SetTable}
theorem TabB.fits (R : TabB P w s.heap a L es ep t) : t.fits es.size = true := by
  have z := R.tab.sz
  rw [hashesB_len] at z
  have z2 := entB_len R.ent
  have z3 := R.room
  unfold SetTable.fits SetTable.fill
  rw [R.tab.dm, Bool.and_eq_true, beq_iff_eq, decide_eq_true_eq]
  show t.place.size = es.size ∧ t.place.size + 0 ≤ t.mask
  omega
theorem TabB.get (R : TabB P w s.heap a L es ep t) {i : Nat} {p : List Bool × Addr} (h : L[i]? = some p) : es[i]? = some (hB P w p.1, Value.ref p.2) := by
  rw [← Array.getElem?_toList, R.ent, entB, List.getElem?_map, h]; rfl
theorem TabB.place (R : TabB P w s.heap a L es ep t) {i j : Nat} (h : t.place.toList[i]? = some j) : ∃ p, L[i]? = some p := by
  have h1 : i < t.place.toList.length := (List.getElem?_eq_some_iff.mp h).1
  have z := R.tab.sz
  rw [hashesB_len] at z
  rw [Array.length_toList] at h1
  exact ⟨_, List.getElem?_eq_getElem (show i < L.length by omega)⟩
/-- the search, from the c-th step of its way -/
theorem find_from (R : TabB P w s.heap a L es ep t) {x : Addr} {k : List Bool} (hx : IsB P w s.heap k x) (hu : A.units < cLine) {m : Nat} (hm : m < 10 * SetTable.turns t.mask)
    (free : way t.mask (hB P w k) m ∉ t.place.toList) (taken : ∀ c, c < m → way t.mask (hB P w k) c ∈ t.place.toList) {Q : SetFound → Shared → Prop}
    (yes : k ∈ L.map (·.1) → Q (.there none) s) (no : k ∉ L.map (·.1) → Q (.free (way t.mask (hB P w k) m) false) s) :
    ∀ (f c : Nat) (stand : Option SetTable.Probe), stand.getD (t.probeStart (hB P w k)) = nth t.mask (runAt t.mask (SetTable.bits (hB P w k) % (t.mask + 1)) (SetTable.bits (hB P w k))) c → c ≤ m → m - c < f →
      (∀ (i : Nat) p, L[i]? = some p → p.1 = k → ∃ d, c ≤ d ∧ d < m ∧ t.place.toList[i]? = some (way t.mask (hB P w k) d)) →
      wpAny (model P w) A (setSearchFrom a (.ref x) (hB P w k) true f stand) Q E s
  | 0, c, stand, _, _, hf, _ => absurd hf (Nat.not_lt_zero _)
  | f + 1, c, stand, hst, hc, hf, ahead => by
    obtain ⟨o, ho, hex, hd⟩ := R.ob
    have sane : ¬ t.gaveWay = true := by
      unfold SetTable.gaveWay
      rw [mask_odd R.tab.mok]; decide
    rw [setSearchFrom_succ]
    refine wpAny_bind (wpAny_setState_of ho hd R.fits (wp_if_neg sane ?_))
    try refine wpAny_bind (wpAny_pure ?_)
    have nodm : ∀ (n : Nat) (p : SetTable.Probe), p.dummy = none → (nth t.mask p n).dummy = none := by
      intro n
      induction n with
      | zero => exact fun p h => h
      | succ n ih =>
        refine fun p h => ih (adv t.mask p) ?_
        unfold adv
        split <;> exact h
    generalize hp0 : runAt t.mask (SetTable.bits (hB P w k) % (t.mask + 1)) (SetTable.bits (hB P w k)) = p0 at hst
    have dm0 : p0.dummy = none := by rw [← hp0]; rfl
    have on : ∀ q, nth t.mask (nth t.mask p0 c) q = nth t.mask p0 (c + q) := fun q => (nth_add t.mask c _ q).symm
    have wj : ∀ q, (nth t.mask (nth t.mask p0 c) q).j = way t.mask (hB P w k) (c + q) := fun q => by rw [on, ← hp0]
    have hashOf : ∀ (i : Nat) p, L[i]? = some p → (fun i => (es[i]?.map (·.1)).getD 0) i = hB P w p.1 := fun i p hp => by
      show (es[i]?.map (·.1)).getD 0 = _
      rw [R.get hp]; rfl
    rcases go_spec t R.tab.ris R.tab.dm (fun i => (es[i]?.map (·.1)).getD 0) (hB P w k) (10 * SetTable.turns t.mask) (m - c) _ (nodm c p0 dm0) (by omega)
      (fun q hq => by rw [wj]; exact taken (c + q) (by omega)) (by rw [wj, show c + (m - c) = m by omega]; exact free) with ⟨q, i, hq, hi, hh, none_ahead, pr⟩ | ⟨none_ahead, pr⟩
    · have pr2 : t.probe (fun i => (es[i]?.map (·.1)).getD 0) (hB P w k) (stand.getD (t.probeStart (hB P w k))) = some (.candidate (way t.mask (hB P w k) (c + q)) i (nth t.mask p0 (c + (q + 1)))) := by
        rw [hst, ← wj, ← on]; exact pr
      rw [pr2]
      dsimp only
      rw [wj] at hi
      obtain ⟨p, hp⟩ := R.place hi
      have hpm := List.mem_of_getElem? hp
      have hpb := R.is p hpm
      have rest : wpAny (model P w) A (searchRest a (.ref x) (hB P w k) true f es t (way t.mask (hB P w k) (c + q)) i (nth t.mask p0 (c + (q + 1)))) Q E s := by
        unfold searchRest
        rw [R.get hp]
        dsimp only
        refine wpAny_bind (wpAny_holding (wpAny_eqBool_tuple hu hpb hx ?_))
        refine wpAny_bind (wpAny_setState_of ho hd R.fits ?_)
        dsimp only
        by_cases e : p.1 = k
        · exact wp_if_pos (by simp [e]) (wpAny_pure (yes (List.mem_map.mpr ⟨p, hpm, e⟩)))
        · refine wp_if_neg (by simp [e]) ?_
          try refine wpAny_bind (wpAny_pure ?_)
          have sl : t.slot (way t.mask (hB P w k) (c + q)) = .live i := slot_live R.tab.ris hi
          rw [sameMem]
          dsimp only
          simp only [if_true, sl, R.get hp]
          refine wpAny_bind (wpAny_isSame_ref_self (wpAny_bind (wpAny_pure ?_)))
          simp only [if_true]
          refine wp_if_neg (by simp [e]) ?_
          refine find_from R hx hu hm free taken yes no f (c + (q + 1)) _ (by rw [hp0]; rfl) (by omega) (by omega) fun i1 p1 h1 k1 => ?_
          obtain ⟨d, d1, d2, d3⟩ := ahead i1 p1 h1 k1
          refine ⟨d, ?_, d2, d3⟩
          by_cases lt : d < c + q
          · exact absurd ((hashOf i1 p1 h1).trans (congrArg (hB P w) k1)) (none_ahead (d - c) i1 (by omega) (by rw [wj, show c + (d - c) = d by omega]; exact d3))
          · by_cases eq : d = c + q
            · rw [eq] at d3
              have s1 := slot_live R.tab.ris d3
              rw [sl] at s1
              injection s1 with s1
              rw [← s1, hp] at h1
              cases h1
              exact absurd k1 e
            · omega
      by_cases hl : t.led = true
      · refine wp_if_neg (by simp [hl]) ?_
        try refine wpAny_bind (wpAny_pure ?_)
        exact rest
      · refine wp_if_pos (by simp [hl]) (wpAny_bind (seen_tb hx (fun y hy => ?_) (wp_if_neg (by decide) ?_)))
        · obtain ⟨e, he, rfl⟩ := List.mem_map.mp hy
          have he2 : e ∈ es.toList := by
            have : e ∈ es ∧ e.1 = hB P w k := by simpa using he
            simpa using this.1
          rw [R.ent] at he2
          obtain ⟨p2, hp2, rfl⟩ := List.mem_map.mp he2
          exact ⟨p2.1, p2.2, rfl, R.is p2 hp2⟩
        · try refine wpAny_bind (wpAny_pure ?_)
          exact rest
    · have pr2 : t.probe (fun i => (es[i]?.map (·.1)).getD 0) (hB P w k) (stand.getD (t.probeStart (hB P w k))) = some (.empty (way t.mask (hB P w k) m) none) := by
        rw [hst, show way t.mask (hB P w k) m = (nth t.mask (nth t.mask p0 c) (m - c)).j by rw [wj, show c + (m - c) = m by omega]]
        exact pr
      rw [pr2]
      dsimp only
      refine wpAny_pure (no fun z => ?_)
      obtain ⟨p1, h1, k1⟩ := List.mem_map.mp z
      obtain ⟨i1, e1⟩ := List.getElem?_of_mem h1
      obtain ⟨d, d1, d2, d3⟩ := ahead i1 p1 e1 k1
      exact none_ahead (d - c) i1 (by omega) (by rw [wj, show c + (d - c) = d by omega]; exact d3) ((hashOf i1 p1 e1).trans (congrArg (hB P w) k1))
theorem find_tb (R : TabB P w s.heap a L es ep t) {x : Addr} {k : List Bool} (hx : IsB P w s.heap k x) (hu : A.units < cLine) {Q : SetFound → Shared → Prop} (yes : k ∈ L.map (·.1) → Q (.there none) s)
    (no : ∀ m, k ∉ L.map (·.1) → way t.mask (hB P w k) m ∉ t.place.toList → (∀ c, c < m → way t.mask (hB P w k) c ∈ t.place.toList) → Q (.free (way t.mask (hB P w k) m) false) s) :
    wpAny (model P w) A (setSearch a (.ref x) (hB P w k) true) Q E s := by
  have room := R.room
  obtain ⟨m, hm, free, taken⟩ := R.tab.first (by rw [hashesB_len]; omega) (hB P w k)
  have big : m < 100000 := by
    have : 10 * SetTable.turns t.mask ≤ 1420 := by
      unfold SetTable.turns
      rcases R.tab.mok with e | e | e <;> omega
    omega
  unfold setSearch
  refine find_from R hx hu hm free taken yes (fun z => no m z free taken) 100000 0 none rfl (Nat.zero_le _) (by omega) fun i p hp hk => ?_
  have hi : (hashesB P w L)[i]? = some (hB P w k) := by rw [hashesB, List.getElem?_map, hp, ← hk]; rfl
  have z := R.tab.sz
  rw [hashesB_len] at z
  have hl : i < t.place.toList.length := by
    have := (List.getElem?_eq_some_iff.mp hp).1
    rw [Array.length_toList]; omega
  obtain ⟨c, hc, e⟩ := R.tab.before free hi (List.getElem?_eq_getElem hl)
  exact ⟨c, Nat.zero_le _, hc, by rw [List.getElem?_eq_getElem hl, e]⟩
end
end MJ

namespace MJ
open PySem PySem.Spec PyProof.Rows L2 PpSet
section
variable {P : Program} {w : World} {A : Around} {E : Value → Shared → Prop} {s : Shared}
/-- picking entries by an order picks their rows -/
theorem pick_rows {L : List (List Bool × Addr)} {es : Array (Int × Value)} (he : es.toList = entB P w L) : ∀ (l : List Nat), (∀ i ∈ l, i < L.length) →
    l.filterMap (fun i => es[i]?) = entB P w (l.filterMap fun i => L[i]?) ∧ hashesB P w (l.filterMap fun i => L[i]?) = l.map fun i => (es.map (·.1)).getD i 0
  | [], _ => ⟨rfl, rfl⟩
  | i :: l, h => by
    obtain ⟨e1, e2⟩ := pick_rows he l fun j hj => h j (List.mem_cons_of_mem _ hj)
    have hi := h i List.mem_cons_self
    have g1 : L[i]? = some L[i] := List.getElem?_eq_getElem hi
    have g2 : es[i]? = some (hB P w L[i].1, Value.ref L[i].2) := by rw [← Array.getElem?_toList, he, entB, List.getElem?_map, g1]; rfl
    rw [List.filterMap_cons_some g1, List.filterMap_cons_some g2, e1]
    refine ⟨rfl, ?_⟩
    rw [List.map_cons, ← e2]
    have g3 : (es.map (·.1)).getD i 0 = hB P w L[i].1 := by
      have g4 : (es.map (·.1))[i]? = some (hB P w L[i].1) := by rw [Array.getElem?_map, g2]; rfl
      simp [Array.getD_eq_getD_getElem?, g4]
    rw [g3]; rfl
theorem all_range {α : Type} : ∀ (l : List α), (List.range l.length).filterMap (fun i => l[i]?) = l
  | [] => rfl
  | x :: l => by
    rw [List.length_cons, List.range_succ_eq_map, List.filterMap_cons_some (show (x :: l)[0]? = some x from rfl), List.filterMap_map]
    exact congrArg (x :: ·) (all_range l)
variable {a : Addr} {L : List (List Bool × Addr)} {es : Array (Int × Value)} {ep : Nat} {t : SetTable}
/-- laid anew in a larger table -/
theorem lay_larger {o : Obj} (ho : s.heap.get? a = some o) (hex : o.ExactSet) (hd : o.data = .set es ep t) (he : es.toList = entB P w L) (hz : t.place.size = es.size) (hdm : t.dummies = #[]) (hfl : es.size ≤ t.mask)
    (nd : (L.map (·.1)).Nodup) (his : ∀ p ∈ L, IsB P w s.heap p.1 p.2) (pl : t.plain = true) (ld : w.params.followText "set-order" = true ∨ t.led = true) (few : L.length < 64) {want m : Nat}
    (hw : SetTable.sizeAbove want - 1 = m) (hm : MaskOk m) (hw2 : SetTable.sizeAbove want ≤ 128) (hn : L.length * 5 < m * 3) {Q : Unit → Shared → Prop}
    (hQ : ∀ h' L' es' ep' t', Heap.SameBut a s.heap h' → TabB P w h' a L' es' ep' t' → L'.Perm L → Q () { s with heap := h' }) : wpAny (model P w) A (setRelay a want) Q E s := by
  have hl := entB_len he
  have fits : t.fits es.size = true := by
    unfold SetTable.fits SetTable.fill
    rw [hdm, Bool.and_eq_true, beq_iff_eq, decide_eq_true_eq]
    show t.place.size = es.size ∧ t.place.size + 0 ≤ t.mask
    omega
  obtain ⟨t', order, e, hp, T, em, el, ep', ed⟩ := relaid_ok t (hs := es.map (·.1)) (wanted := want) hw hm (by rw [Array.size_map, hl]; omega)
  rw [Array.size_map, hl] at hp
  obtain ⟨r1, r3⟩ := pick_rows (w := w) (P := P) he order.toList fun i hi => List.mem_range.mp (hp.mem_iff.mp hi)
  have r2 : (order.toList.filterMap fun i => L[i]?).Perm L := by
    have := hp.filterMap fun i => L[i]?
    rwa [all_range] at this
  rw [← r3] at T
  generalize (order.toList.filterMap fun i => L[i]?) = M at r1 r2 T
  have r1' : (order.filterMap (es[·]?)).toList = entB P w M := by first | (rw [Array.toList_filterMap]; exact r1) | simpa using r1
  have hs2 : (order.filterMap (es[·]?)).size = es.size := by rw [entB_len r1', r2.length_eq, hl]
  rw [setRelay_eq]
  refine wpAny_bind (wpAny_setState_of ho hd fits (wp_if_neg (by rw [sizeLine_eq]; omega) ?_))
  try refine wpAny_bind (wpAny_pure ?_)
  rw [e]
  dsimp only
  refine wpAny_bind (wp_if_neg (by rw [hs2]; simp) ?_)
  try refine wpAny_bind (wpAny_pure ?_)
  refine wpAny_pure (wpAny_storeSet_of ho hd ?_ (by rw [hs2, hl, sizeLine_eq]; omega))
  have sb : Heap.SameBut a s.heap (s.heap.update a (Obj.putSet (order.filterMap (es[·]?)) t')) := Heap.SameBut.update ..
  refine hQ _ M (order.filterMap (es[·]?)) (ep + 1) t' sb ⟨⟨_, store_at ho hd, ⟨hex.1, hex.2.1, hex.2.2⟩, rfl⟩, r1', T, by rw [ep']; exact pl, by rw [el]; exact ld, by rw [r2.length_eq, em]; exact hn, by rw [r2.length_eq]; exact few,
    (r2.map (·.1)).nodup_iff.mpr nd, fun p hpm => (his p (r2.mem_iff.mp hpm)).but ho hd sb⟩ r2
/-- a row more, where it lacks -/
theorem add_tb (R : TabB P w s.heap a L es ep t) {x : Addr} {k : List Bool} (hx : IsB P w s.heap k x) (hu : A.units < cLine) (hfew : L.length + 1 < 64) {Q : Bool → Shared → Prop}
    (hQ : ∀ b h' L' es' ep' t', Heap.SameBut a s.heap h' → TabB P w h' a L' es' ep' t' → (k ∈ L.map (·.1) → L' = L) → (k ∉ L.map (·.1) → L'.Perm ((k, x) :: L)) → Q b { s with heap := h' }) :
    wpAny (model P w) A (setAddHashed a (.ref x) (hB P w k)) Q E s := by
  obtain ⟨o, ho, hex, hd⟩ := R.ob
  have hl := entB_len R.ent
  have room := R.room
  unfold setAddHashed
  refine wpAny_holding ?_
  rw [show (100000 : Nat) = 99999 + 1 from rfl, setAddHashedIn_succ]
  refine wpAny_bind (wpAny_setState_of ho hd R.fits (wp_if_neg (by simp [byScan, Value.scannable]) ?_))
  try refine wpAny_bind (wpAny_pure ?_)
  refine wpAny_bind (find_tb R hx hu (fun hm => wpAny_pure (hQ false s.heap L es ep t (Heap.SameBut.refl a s.heap) R (fun _ => rfl) fun z => absurd hm z)) fun m hm free taken => ?_)
  refine wpAny_bind (wpAny_setState_of ho hd R.fits ?_)
  dsimp only
  obtain ⟨q1, q2, q3, q4, q5, q6, q7, q8, q9⟩ := R.tab.put free taken
  have hp1 : (t.put (way t.mask (hB P w k) m)).1.plain = true := by rw [q6]; exact R.pl
  generalize t.put (way t.mask (hB P w k) m) = pt at q1 q3 q4 q5 q6 q7 q8 q9 hp1 ⊢
  obtain ⟨t1, at1⟩ := pt
  dsimp only at q1 q3 q4 q5 q6 q7 q8 q9 hp1 ⊢
  subst q1
  first
    | (refine wpAny_bind ?_; refine wp_if_pos hp1 ?_; refine byval_tb hx ?_)
    | refine wp_if_pos hp1 (wpAny_bind (byval_tb hx ?_))
  simp only [if_true]
  generalize SetTable.below t.place (way t.mask (hB P w k) m) = j at q2 q3 ⊢
  have hin : (SetTable.insertAt es j (hB P w k, Value.ref x)).toList = entB P w (L.take j ++ (k, x) :: L.drop j) := by
    rw [SetTable.toList_insertAt, R.ent]
    simp only [entB, List.map_append, List.map_cons, List.map_take, List.map_drop]
  have pm := put_perm L j (k, x)
  have hh : hashesB P w (L.take j ++ (k, x) :: L.drop j) = (hashesB P w L).take j ++ hB P w k :: (hashesB P w L).drop j := by
    simp only [hashesB, List.map_append, List.map_cons, List.map_take, List.map_drop]
  rw [← hh] at q3
  have nd1 : ((L.take j ++ (k, x) :: L.drop j).map (·.1)).Nodup := (pm.map (·.1)).nodup_iff.mpr (List.nodup_cons.mpr ⟨hm, R.nd⟩)
  generalize SetTable.insertAt es j (hB P w k, Value.ref x) = es1 at hin ⊢
  generalize L.take j ++ (k, x) :: L.drop j = M at pm q3 nd1 hin
  have hes := entB_len hin
  have hM : M.length = L.length + 1 := pm.length_eq
  refine wpAny_bind (wpAny_storeSet_of ho hd ?_ (by rw [hes, hM, sizeLine_eq]; omega))
  have sb : Heap.SameBut a s.heap (s.heap.update a (Obj.putSet es1 t1)) := Heap.SameBut.update ..
  have ho1 := store_at (es' := es1) (t' := t1) ho hd
  generalize s.heap.update a (Obj.putSet es1 t1) = h1 at sb ho1 ⊢
  have is1 : ∀ p ∈ M, IsB P w h1 p.1 p.2 := fun p hp => by
    rcases List.mem_cons.mp (pm.mem_iff.mp hp) with e | hp
    · rw [e]; exact hx.but ho hd sb
    · exact (R.is p hp).but ho hd sb
  have ld1 : w.params.followText "set-order" = true ∨ t1.led = true := by rw [q5]; exact R.led
  rw [hashesB_len] at q9
  by_cases hf : t1.tooFull = true
  · first
      | (refine wpAny_bind ?_; refine wp_if_pos (by simp [hf]) ?_)
      | (refine wp_if_pos (by simp [hf]) ?_; refine wpAny_bind ?_)
    have full : (L.length + 1) * 5 ≥ t1.mask * 3 := by
      unfold SetTable.tooFull at hf
      rwa [decide_eq_true_eq, q9] at hf
    have hz1 : t1.place.size = es1.size := by
      have := q3.sz
      rw [hashesB_len] at this
      rw [this, hes]
    rw [hl]
    have two : (t.mask = 7 ∧ L.length = 4) ∨ (t.mask = 31 ∧ L.length = 18) := by
      rcases R.tab.mok with e | e | e
      · exact .inl ⟨e, by rw [q4, e] at full; rw [e] at room; omega⟩
      · exact .inr ⟨e, by rw [q4, e] at full; rw [e] at room; omega⟩
      · rw [q4, e] at full; omega
    have go : ∀ m', SetTable.sizeAbove (SetTable.grown (L.length + 1)) - 1 = m' → MaskOk m' → SetTable.sizeAbove (SetTable.grown (L.length + 1)) ≤ 128 → (L.length + 1) * 5 < m' * 3 →
        wpAny (model P w) A (setRelay a (SetTable.grown (L.length + 1))) (fun _ s' => wpAny (model P w) A (pure true) Q E s') E { s with heap := h1 } := fun m' g1 g2 g3 g4 =>
      lay_larger (s := { s with heap := h1 }) ho1 ⟨hex.1, hex.2.1, hex.2.2⟩ rfl hin hz1 q3.dm (by rw [hes, hM, q4]; rcases two with ⟨e, e2⟩ | ⟨e, e2⟩ <;> omega) nd1 is1 hp1 ld1 (by rw [hM]; exact hfew) g1 g2 g3 (by rw [hM]; exact g4)
        fun h2 L2' es2 ep2 t2 sb2 R2 pm2 => wpAny_pure (hQ true h2 L2' es2 ep2 t2 (sb.trans sb2) R2 (fun z => absurd z hm) fun _ => pm2.trans pm)
    rcases two with ⟨_, e2⟩ | ⟨_, e2⟩
    · exact go 31 (by rw [e2, size_20]) (.inr (.inl rfl)) (by rw [e2, size_20]; decide) (by omega)
    · exact go 127 (by rw [e2, size_76]) (.inr (.inr rfl)) (by rw [e2, size_76]; decide) (by omega)
  · first
      | refine wp_if_neg (by simp [hf]) ?_
      | (refine wpAny_bind ?_; refine wp_if_neg (by simp [hf]) ?_; refine wpAny_pure ?_)
    refine wpAny_pure (hQ true h1 M es1 (ep + 1) t1 sb ⟨⟨_, ho1, ⟨hex.1, hex.2.1, hex.2.2⟩, rfl⟩, hin, q3, hp1, ld1, ?_, by rw [hM]; exact hfew, nd1, is1⟩ (fun z => absurd z hm) fun _ => pm)
    unfold SetTable.tooFull at hf
    rw [decide_eq_true_eq, q9] at hf
    rw [hM]
    omega

/-! ### one word for both kinds of sets -/
/-- at a stands a set whose things are just L (keys and values) -/
structure Setty (P : Program) (w : World) (K : Type) where
  Is : Heap → K → Value → Prop
  At : Heap → Addr → List (K × Value) → Prop
  most : Nat
  need : Around → Prop
  keepIs : ∀ {h h' : Heap} {k : K} {v : Value}, Is h k v → (∀ b o, h.get? b = some o → h'.get? b = some o) → Is h' k v
  butIs : ∀ {h h' : Heap} {k : K} {v : Value} {a : Addr} {L : List (K × Value)}, Is h k v → At h a L → Heap.SameBut a h h' → Is h' k v
  keepAt : ∀ {h h' : Heap} {a : Addr} {L : List (K × Value)}, At h a L → (∀ o, h.get? a = some o → h'.get? a = some o) → (∀ p ∈ L, Is h' p.1 p.2) → At h' a L
  fresh : ∀ {h : Heap} {a : Addr}, h.get? a = some { cls := .type "set", dict := none, data := .set #[] 0 (.fresh 0 0 (!w.params.followText "set-order")) } → At h a []
  has : ∀ {h : Heap} {a : Addr} {L : List (K × Value)}, At h a L → ∀ p ∈ L, Is h p.1 p.2
  nd : ∀ {h : Heap} {a : Addr} {L : List (K × Value)}, At h a L → (L.map (·.1)).Nodup
  add : ∀ {A : Around} {E : Value → Shared → Prop} {s : Shared} {a : Addr} {L : List (K × Value)} {k : K} {v : Value} {Q : Bool → Shared → Prop}, need A → At s.heap a L → Is s.heap k v → L.length + 1 < most →
    (∀ b h' L' tk, Heap.SameBut a s.heap h' → At h' a L' → s.toks ≤ tk → (k ∈ L.map (·.1) → L' = L) → (k ∉ L.map (·.1) → L'.Perm ((k, v) :: L)) → Q b { s with heap := h', toks := tk }) → wpAny (model P w) A (setAdd a v) Q E s
  coll : ∀ {A : Around} {E : Value → Shared → Prop} {s : Shared} {a : Addr} {L : List (K × Value)} {Q : List Value → Shared → Prop}, A.handled = none → At s.heap a L →
    (∀ (s' : Shared) (L' : List (K × Value)), (∀ b o, s.heap.get? b = some o → s'.heap.get? b = some o) → s.heap.objs.size ≤ s'.heap.objs.size → s'.gens = s.gens → s'.os = s.os → L'.Perm L → Q (L'.map (·.2)) s') → wpAny (model P w) A (collect (.ref a)) Q E s
end
def settyV (P : Program) (w : World) {K : Type} [DecidableEq K] (knd : PySem.KeyKind P w K) : Setty P w K where
  Is := fun _ k v => knd.is k v = true ∧ v.scannable = true
  At := SetV knd
  most := scanBound
  need := fun _ => True
  keepIs := fun x _ => x
  butIs := fun x _ _ => x
  keepAt := fun x k _ => x.keep k
  fresh := SetV.fresh
  has := fun x => x.is
  nd := fun x => x.nd
  add := fun {A E s a L k v Q} _ R hk room hQ => by
    unfold setAdd
    refine wpAny_holding (wpAny_bind (knd.pyHash hk.1 ?_))
    exact SetV.add (s := { s with toks := s.toks + 1 }) R hk.1 hk.2 room fun b h' L' sb R' c1 c2 => hQ b h' L' _ sb R' (Nat.le_succ _) c1 c2
  coll := fun hh R hQ => by
    obtain ⟨⟨o, es, ep, t, ho, hx, hd, he, hf, hr, hl⟩, his, hnd, hfew⟩ := id R
    refine collect_set hh ⟨o, ho, hx.1, hd⟩ hf (by rw [← Array.length_toList, he]; simpa [entV] using hfew) hr hl fun s' out k1 hz g1 o1 pm => ?_
    rw [he, entV, List.map_map] at pm
    obtain ⟨L', p', e⟩ := L2.perm_lift ((·.2) ∘ fun p : K × Value => (knd.hash p.1, p.2)) pm _ rfl
    rw [← e]
    exact hQ s' L' k1 hz g1 o1 p'
theorem tabB_new {P : Program} {w : World} {h : Heap} {a : Addr} (ho : h.get? a = some { cls := .type "set", dict := none, data := .set #[] 0 (.fresh 0 0 (!w.params.followText "set-order")) }) :
    TabB P w h a [] #[] 0 (.fresh 0 0 (!w.params.followText "set-order")) where
  ob := ⟨_, ho, ⟨rfl, rfl, rfl⟩, rfl⟩
  ent := rfl
  tab := ⟨List.Pairwise.nil, rfl, rfl, .inl rfl, fun x hx => (by cases hx), fun i h j hi => (by simp [hashesB] at hi)⟩
  pl := rfl
  led := by
    show _ ∨ (!w.params.followText "set-order") = true
    cases w.params.followText "set-order" <;> simp
  room := by
    show 0 * 5 < 7 * 3
    decide
  few := by
    show 0 < 64
    decide
  nd := List.nodup_nil
  is := fun p hp => by cases hp
def settyB (P : Program) (w : World) : Setty P w (List Bool) where
  Is := fun h k v => ∃ b, v = .ref b ∧ IsB P w h k b
  At := fun h a L => ∃ M es ep t, TabB P w h a M es ep t ∧ L = M.map fun p => (p.1, Value.ref p.2)
  most := 64
  need := fun A => A.units < cLine
  keepIs := fun x k => let ⟨b, e, q⟩ := x; ⟨b, e, q.keep fun o e => k _ o e⟩
  butIs := fun x R sb => by
    obtain ⟨b, e, q⟩ := x
    obtain ⟨M, es, ep, t, R, _⟩ := R
    obtain ⟨o, ho, _, hd⟩ := R.ob
    exact ⟨b, e, q.but ho hd sb⟩
  keepAt := fun R k his => by
    obtain ⟨M, es, ep, t, R, rfl⟩ := R
    obtain ⟨o, ho, r⟩ := R.ob
    refine ⟨M, es, ep, t, ⟨⟨o, k o ho, r⟩, R.ent, R.tab, R.pl, R.led, R.room, R.few, R.nd, fun p hp => ?_⟩, rfl⟩
    obtain ⟨b, e, q⟩ := his _ (List.mem_map.mpr ⟨p, hp, rfl⟩)
    cases e
    exact q
  fresh := fun ho => ⟨[], #[], 0, _, tabB_new ho, rfl⟩
  has := fun R => by
    obtain ⟨M, es, ep, t, R, rfl⟩ := R
    rintro p hp
    obtain ⟨q, hq, rfl⟩ := List.mem_map.mp hp
    exact ⟨_, rfl, R.is q hq⟩
  nd := fun R => by
    obtain ⟨M, es, ep, t, R, rfl⟩ := R
    rw [List.map_map]
    exact R.nd
  add := fun {A E s a L k v Q} hu R hx room hQ => by
    obtain ⟨M, es, ep, t, R, rfl⟩ := R
    obtain ⟨b, rfl, hb⟩ := hx
    have em : ∀ M : List (List Bool × Addr), (M.map fun p => (p.1, Value.ref p.2)).map (·.1) = M.map (·.1) := fun M => by rw [List.map_map]; rfl
    unfold setAdd
    refine wpAny_holding (wpAny_bind (wpAny_pyHash_tuple hu hb ?_))
    refine add_tb (s := { s with toks := s.toks + (k.length + 1) }) R hb hu (by simpa using room) fun b h' L' es' ep' t' sb R' c1 c2 => ?_
    refine hQ b h' _ _ sb ⟨L', es', ep', t', R', rfl⟩ (Nat.le_add_right _ _) (fun z => ?_) fun z => ?_
    · rw [em] at z
      rw [c1 z]
    · rw [em] at z
      exact (c2 z).map _
  coll := fun {A E s a L Q} hh R hQ => by
    obtain ⟨M, es, ep, t, R, rfl⟩ := R
    obtain ⟨o, ho, hx, hd⟩ := R.ob
    have hl := entB_len R.ent
    have few := R.few
    refine collect_set hh ⟨o, ho, hx.1, hd⟩ R.fits (by rw [hl]; unfold scanBound; omega) R.tab.ris R.led fun s' out k1 hz g1 o1 pm => ?_
    rw [R.ent, entB, List.map_map] at pm
    obtain ⟨L', p', e⟩ := L2.perm_lift ((·.2) ∘ fun p : List Bool × Addr => (hB P w p.1, Value.ref p.2)) pm _ rfl
    have := hQ s' (L'.map fun p => (p.1, Value.ref p.2)) k1 hz g1 o1 (p'.map _)
    rw [List.map_map] at this
    rw [← e]
    exact this
end MJ

set_option maxHeartbeats 6400000
namespace MJ
open PySem PySem.Spec PyProof.Rows L2 PpSet
/-- what a set has of the first i things -/
structure Had {K : Type} (ks : List (K × Value)) (i : Nat) (L : List (K × Value)) : Prop where
  sub : ∀ p ∈ L, p ∈ ks.take i
  all : ∀ p ∈ ks.take i, p.1 ∈ L.map (·.1)
  len : L.length ≤ i
theorem Had.zero {K : Type} (ks : List (K × Value)) : Had ks 0 [] := ⟨fun p hp => (by cases hp), fun p hp => (by simp at hp), Nat.le_refl _⟩
theorem Had.next {K : Type} {ks L L' : List (K × Value)} {i : Nat} {x : K × Value} (g : Had ks i L) (h : ks[i]? = some x) (c1 : x.1 ∈ L.map (·.1) → L' = L) (c2 : x.1 ∉ L.map (·.1) → L'.Perm (x :: L)) : Had ks (i + 1) L' := by
  have tk : ks.take (i + 1) = ks.take i ++ [x] := by rw [List.take_succ, h]; rfl
  by_cases c : x.1 ∈ L.map (·.1)
  · rw [c1 c]
    refine ⟨fun p hp => ?_, fun p hp => ?_, Nat.le_succ_of_le g.len⟩
    · rw [tk]; exact List.mem_append_left _ (g.sub p hp)
    · rw [tk] at hp
      rcases List.mem_append.mp hp with z | z
      · exact g.all p z
      · rw [List.mem_singleton.mp z]; exact c
  · have pm := c2 c
    refine ⟨fun p hp => ?_, fun p hp => ?_, by rw [pm.length_eq]; exact Nat.succ_le_succ g.len⟩
    · rw [tk]
      rcases List.mem_cons.mp (pm.mem_iff.mp hp) with z | z
      · rw [z]; exact List.mem_append_right _ (List.mem_singleton.mpr rfl)
      · exact List.mem_append_left _ (g.sub p z)
    · rw [(pm.map (·.1)).mem_iff, List.map_cons]
      rw [tk] at hp
      rcases List.mem_append.mp hp with z | z
      · exact List.mem_cons_of_mem _ (g.all p z)
      · rw [List.mem_singleton.mp z]; exact List.mem_cons_self
section
variable {P : Program} {w : World} {K : Type} {A : Around} {E : Value → Shared → Prop} {s : Shared}
/-- the loop that puts a walk's things into the set -/
theorem set_loop (S : Setty P w K) {I : Addr} {fp wr : List Addr} {G : Array GenState → Array GenState → Prop} {n : Nat} {Pv : Nat → Value → Prop} {St : Nat → Shared → Prop} {R : Result → Shared → Prop} (W : WalksS P w A.in1 I fp wr G n Pv St)
    (D : Addr) (hD : D ∉ fp) (ks : List (K × Value)) (hn : n = ks.length) (hm : ks.length < S.most) (hv : ∀ i v, Pv i v → ∃ p, ks[i]? = some p ∧ v = p.2) (h0 : Heap) (his : ∀ p ∈ ks, S.Is h0 p.1 p.2) (fD : h0.get? D = none) (fw : ∀ b ∈ wr, h0.get? b = none)
    (hu : S.need A.in1) : ∀ (m i : Nat) (s : Shared), n - i = m → i ≤ n → St i s → (∀ b o, h0.get? b = some o → s.heap.get? b = some o) → (∃ L, S.At s.heap D L ∧ Had ks i L) →
      (∀ s' L, Moved (D :: wr) G s s' → S.At s'.heap D L → Had ks n L → (∀ b o, h0.get? b = some o → s'.heap.get? b = some o) → R (.ok (.ret .none)) s') →
      codeAny (model P w) A (.builtin "set.update.loop" ⟨[.ref D, .ref I], []⟩) R s := by
  have Dw : D ∉ wr := fun z => hD (W.sub _ z)
  have up : ∀ b ∈ wr, b ∈ D :: wr := fun b => List.mem_cons_of_mem _
  have keep : ∀ {s s' : Shared}, Moved wr G s s' → (∀ b o, h0.get? b = some o → s.heap.get? b = some o) → ∀ b o, h0.get? b = some o → s'.heap.get? b = some o := fun hm k b o e => hm.heap b o (fun z => by rw [fw b z] at e; cases e) (k b o e)
  have inL : ∀ {i L}, Had ks i L → ∀ p ∈ L, p ∈ ks := fun g p hp => List.mem_of_mem_take (g.sub p hp)
  intro m
  induction m with
  | zero =>
    rintro i s hm' hi st kp ⟨L, hL, g⟩ fin
    obtain rfl : i = n := by omega
    refine codeAny_builtin F.entry_set_update_loop ?_
    rw [Around.under_plainId F.plain_set_update_loop _]
    show wpAny _ A.in1 (pyNext (.ref I) >>= _) _ _ s
    refine wpAny_bind (W.done s _ _ st fun s' mv => ?_)
    show wpAny _ A.in1 (ret Value.none) _ _ s'
    have kp' := keep mv kp
    exact wpAny_pure (fin s' L (mv.mono up) (S.keepAt hL (fun o e => mv.heap D o Dw e) fun p hp => S.keepIs (his p (inL g p hp)) kp') g kp')
  | succ m ih =>
    rintro i s hm' hi st kp ⟨L, hL, g⟩ fin
    have lt : i < n := by omega
    refine codeAny_builtin F.entry_set_update_loop ?_
    rw [Around.under_plainId F.plain_set_update_loop _]
    show wpAny _ A.in1 (pyNext (.ref I) >>= _) _ _ s
    refine wpAny_bind (W.item i s _ _ lt st fun v s' pv st' mv => ?_)
    obtain ⟨p, hp, rfl⟩ := hv i v pv
    have kp' := keep mv kp
    have hL' := S.keepAt hL (fun o e => mv.heap D o Dw e) fun q hq => S.keepIs (his q (inL g q hq)) kp'
    show wpAny _ A.in1 (holding [p.2] (setAdd D p.2) >>= _) _ _ s'
    have := g.len
    refine wpAny_bind (wpAny_holding (S.add hu hL' (S.keepIs (his p (List.mem_of_getElem? hp)) kp') (by omega) fun b h' L' tk sb hL2 htk c1 c2 => ?_))
    have g' := g.next hp c1 c2
    have kp2 : ∀ b o, h0.get? b = some o → h'.get? b = some o := fun b o e => (sb.2 b (fun z => by rw [z, fD] at e; cases e)).trans (kp' b o e)
    refine wpAny_pure ⟨plainId_quiet F.plain_set_update_loop _, ih (i + 1) { s' with heap := h', toks := tk } (by omega) lt (W.frame _ s' h' tk st' htk fun b hb o e => ?_) kp2 ⟨L', hL2, g'⟩ fun s2 L2 mv2 hL3 g3 kp3 => ?_⟩
    · rw [sb.2 b (fun z => hD (by rw [← z]; exact hb))]; exact e
    · refine fin s2 L2 (Moved.trans W.gtrans ((mv.mono up).then_heap htk fun b o hb e => ?_) mv2) hL3 g3 kp3
      rw [sb.2 b (fun z => hb (by rw [z]; exact List.mem_cons_self))]; exact e
set_option maxHeartbeats 6400000 in
/-- set(xs), xs a list -/
theorem call_set_of (S : Setty P w K) {l : Addr} {items : Array Value} (ks : List (K × Value)) {Q : Value → Shared → Prop} (hh : A.handled = none) (hl : s.heap.IsList l items) (hit : items.toList = ks.map (·.2)) (his : ∀ p ∈ ks, S.Is s.heap p.1 p.2)
    (hm : ks.length < S.most) (hu : ∀ B : Around, B.units ≤ A.units + 8 → S.need B) (h : ∀ (h' : Heap) (tk : Nat) L, S.At h' s.heap.objs.size L → Had ks ks.length L → (∀ b o, s.heap.get? b = some o → h'.get? b = some o) → Q (.ref s.heap.objs.size) { s with heap := h', toks := tk }) :
    wpAny (model P w) A (call (.type "set") [.ref l]) Q E s := by
  have isz : items.size = ks.length := by
    have := congrArg List.length hit
    rwa [Array.length_toList, List.length_map] at this
  obtain ⟨c, tl, hmro⟩ := F.called_set.mro
  have g1 := F.called_set.made
  have g2 := F.called_set.sub
  refine wpAny_call (codeAny_of_tree ?_)
  show wpAny _ _ (callAny (.type "set") _) _ _ _
  refine wpAny_pure ⟨Code.quiet_builtin _ (by decide +kernel), codeAny_builtin F.entry_type_call ?_⟩
  rw [Around.under_plain (weight_type_call_type "set" [.ref l] []) rfl]
  have g3 := F.called_set.notType
  have g4 := F.called_set.canCreate
  have g5 := F.typeCall_set_1 (.ref l)
  repeat (any_goals (first | assumption | wp_step))
  generalize hled : (!w.params.followText "set-order") = led
  refine codeAny_mono (code_set_led1 (.ref l) (E := E) (Q₁ := fun v s1 => v = .ref s.heap.objs.size ∧ s1 = { s with heap := s.heap.push { cls := .type "set", dict := none, data := .set #[] 0 (.fresh 0 0 led) } }) ⟨rfl, by rw [hled]⟩) fun r s1 hr => ?_
  cases r with
  | error e => exact hr
  | ok fl =>
    cases fl with
    | ret v =>
      obtain ⟨rfl, rfl⟩ := hr
      have at0 : (s.heap.push { cls := .type "set", dict := none, data := .set #[] 0 (.fresh 0 0 led) }).get? s.heap.objs.size = some { cls := .type "set", dict := none, data := .set #[] 0 (.fresh 0 0 led) } := Heap.get?_push_size _ rfl
      have ty : Shared.TypeIs { s with heap := s.heap.push { cls := .type "set", dict := none, data := .set #[] 0 (.fresh 0 0 led) } } (.ref s.heap.objs.size) "set" := ⟨_, at0, rfl⟩
      have g6 := F.called_set.init.lookup
      have g7 := F.called_set.init.bind (.ref s.heap.objs.size)
      repeat (any_goals (first | assumption | wp_step))
      refine codeAny_mono (codeAny_call_builtin (R := wants (fun r s2 => r = .none ∧ ∃ h' tk L, s2 = { s with heap := h', toks := tk } ∧ S.At h' s.heap.objs.size L ∧ Had ks ks.length L ∧ (∀ b o, s.heap.get? b = some o → h'.get? b = some o)) E)
        F.called_set.init.plain F.entry_set_init (check_set_init_1 ty ?_)) fun r2 s2 hr2 => ?_
      · obtain ⟨ol, hol, hcl, nl, hdl⟩ := hl
        obtain ⟨ocls, odict, odata, oslots⟩ := ol
        simp only at hcl hdl
        subst hcl; subst hdl
        have hol' : (s.heap.push { cls := .type "set", dict := none, data := .set #[] 0 (.fresh 0 0 led) }).get? l = some { cls := .type "list", dict := odict, data := .seq items nl, slots := oslots } := Heap.get?_push_of_some _ hol
        have g8 := F.sub_list_set
        have g9 := F.sub_list_frozenset
        have g10 : (Value.type "list" == Value.type "dict") = false := by decide
        have hl1 : (s.heap.push { cls := .type "set", dict := none, data := .set #[] 0 (.fresh 0 0 led) }).IsList l items := ⟨_, hol', rfl, nl, rfl⟩
        unfold Builtin.«set.__init__» noKeywords Builtin.Frozenset.updateFrom
        generalize hPI : pyIter = PI
        wp_walk
        subst hPI
        refine wpAny_pyIter_list hl1 ?_
        refine wpAny_bind (wpAny_runValue ?_)
        have lt : l < s.heap.objs.size := Heap.lt_size hol
        have hh3 : A.in1.in1.in1.handled = none := by simp [hh]
        have z1 : (s.heap.push { cls := .type "set", dict := none, data := .set #[] 0 (.fresh 0 0 led) }).objs.size = s.heap.objs.size + 1 := Heap.size_push ..
        have gone : ∀ b, s.heap.objs.size ≤ b → s.heap.get? b = none := fun b hb => by
          cases q : s.heap.get? b with
          | none => rfl
          | some o => exact absurd (Nat.lt_of_lt_of_le (Heap.lt_size q) hb) (Nat.lt_irrefl _)
        have ne1 : l ≠ (s.heap.push { cls := .type "set", dict := none, data := .set #[] 0 (.fresh 0 0 led) }).objs.size := by rw [z1]; exact Nat.ne_of_lt (Nat.lt_succ_of_lt lt)
        have nin : s.heap.objs.size ∉ [(s.heap.push { cls := .type "set", dict := none, data := .set #[] 0 (.fresh 0 0 led) }).objs.size, l] := by
          rw [z1]; simp only [List.mem_cons, List.not_mem_nil, or_false, not_or]
          exact ⟨Nat.ne_of_lt (Nat.lt_succ_self _), Nat.ne_of_gt lt⟩
        refine set_loop S ((Walks.list hh3 _ l ne1 items).toS) s.heap.objs.size nin ks isz hm (fun i v hv => ?_) s.heap his (gone _ (Nat.le_refl _)) (fun b hb => gone b (by rw [List.mem_singleton.mp hb, z1]; exact Nat.le_succ _)) (hu _ ?_) (items.size - 0) 0 _ (by omega) (Nat.zero_le _)
          ⟨⟨_, Heap.get?_push_size _ rfl, rfl, rfl⟩, hl1.push _⟩ (fun b o e => Heap.get?_push_of_some _ (Heap.get?_push_of_some _ e)) ⟨[], S.fresh (Heap.get?_push_of_some _ (by rw [at0, hled])), Had.zero ks⟩ fun s2 L mv hL g kp => ?_
        · have q : items.toList[i]? = some v := by rw [Array.getElem?_toList]; exact hv
          rw [hit, List.getElem?_map, Option.map_eq_some_iff] at q
          obtain ⟨p, e1, e2⟩ := q
          exact ⟨p, e1, e2.symm⟩
        · simp only [Around.in1_units]
          omega
        · obtain ⟨h', g', d', tk', os'⟩ := s2
          have e1 : g' = s.gens := mv.gens
          have e2 : d' = s.drawn := mv.drawn
          have e3 : os' = s.os := mv.os
          subst e1; subst e2; subst e3
          rw [isz] at g
          show wpAny _ _ _ _ _ _
          refine wpAny_pure ?_
          show wpAny _ _ (ret Value.none) _ _ _
          exact wpAny_pure ⟨rfl, h', tk', L, rfl, hL, g, kp⟩
      · cases r2 with
        | error e => exact hr2
        | ok fl2 =>
          cases fl2 with
          | ret r =>
            obtain ⟨rfl, h', tk, L, rfl, hL, g, kp⟩ := hr2
            repeat (any_goals (first | assumption | wp_step))
            exact h h' tk L hL g kp
          | _ => exact hr2.elim
    | _ => exact hr.elim
end
end MJ

namespace MJ
open PySem PySem.Spec PyProof.Rows L2 PpSet
open PySem.W (EachIs dataLe AllAlike Sortable)
mutual
theorem reads_lt {h : Heap} : ∀ (d : PyData) (v : Value) (as : List Addr), Reads h v d as → ∀ b ∈ as, b < h.objs.size
  | .none, _, _, r, b, hb => by cases r; cases hb
  | .bool _, _, _, r, b, hb => by cases r; cases hb
  | .int _, _, _, r, b, hb => by cases r; cases hb
  | .str _, _, _, r, b, hb => by cases r; cases hb
  | .list xs, _, _, r, b, hb => by
    cases r with
    | list h1 h2 h3 h4 =>
      rcases List.mem_cons.mp hb with rfl | hb
      · exact Heap.lt_size h1
      · exact reads_all_lt xs _ _ h4 b hb
  | .tuple xs, _, _, r, b, hb => by
    cases r with
    | tuple h1 h2 h3 h4 => exact reads_all_lt xs _ _ h4 b hb
  | .dict kvs, _, _, r, b, hb => by
    cases r with
    | dict h1 h2 h3 h4 h5 =>
      rcases List.mem_append.mp hb with hb | hb
      · rcases List.mem_cons.mp hb with rfl | hb
        · exact Heap.lt_size h1
        · exact reads_fst_lt kvs _ _ h4 b hb
      · exact reads_snd_lt kvs _ _ h5 b hb
theorem reads_all_lt {h : Heap} : ∀ (ds : List PyData) (vs : List Value) (as : List Addr), ReadsAll h vs ds as → ∀ b ∈ as, b < h.objs.size
  | [], _, _, r, b, hb => by cases r; cases hb
  | d :: ds, _, _, r, b, hb => by
    cases r with
    | cons h1 h2 =>
      rcases List.mem_append.mp hb with hb | hb
      · exact reads_lt d _ _ h1 b hb
      · exact reads_all_lt ds _ _ h2 b hb
theorem reads_fst_lt {h : Heap} : ∀ (ds : List (PyData × PyData)) (vs : List Value) (as : List Addr), ReadsAll h vs (ds.map (·.1)) as → ∀ b ∈ as, b < h.objs.size
  | [], _, _, r, b, hb => by cases r; cases hb
  | (d, e) :: ds, _, _, r, b, hb => by
    rw [List.map_cons] at r
    cases r with
    | cons h1 h2 =>
      rcases List.mem_append.mp hb with hb | hb
      · exact reads_lt d _ _ h1 b hb
      · exact reads_fst_lt ds _ _ h2 b hb
theorem reads_snd_lt {h : Heap} : ∀ (ds : List (PyData × PyData)) (vs : List Value) (as : List Addr), ReadsAll h vs (ds.map (·.2)) as → ∀ b ∈ as, b < h.objs.size
  | [], _, _, r, b, hb => by cases r; cases hb
  | (d, e) :: ds, _, _, r, b, hb => by
    rw [List.map_cons] at r
    cases r with
    | cons h1 h2 =>
      rcases List.mem_append.mp hb with hb | hb
      · exact reads_lt e _ _ h1 b hb
      · exact reads_snd_lt ds _ _ h2 b hb
end
section
variable {P : Program} {w : World} {A : Around} {E : Value → Shared → Prop} {s : Shared}
/-- sorted(v), by what collecting v gives -/
theorem call_sorted_by {v : Value} {β : Type} {enc : β → PyData} {R : Value → β → Prop} {Pm : List β → Prop} {Q : Value → Shared → Prop}
    (hcol : ∀ {C : List Value → Shared → Prop} {E' : Value → Shared → Prop}, (∀ (s1 : Shared) (vs : List Value) (bs : List β), (∀ b o, s.heap.get? b = some o → s1.heap.get? b = some o) → s.heap.objs.size ≤ s1.heap.objs.size → s1.gens = s.gens → s1.os = s.os → EachIs R vs bs →
      EachIs (fun v b => ∃ as, Reads s1.heap v (enc b) as) vs bs → Pm bs → C vs s1) → wpAny (model P w) A.in1 (collect v) C E' s)
    (hal : ∀ bs, Pm bs → AllAlike (bs.map enc)) (hk : ∀ bs, Pm bs → Sortable (bs.map enc)) (hL : ∀ bs, Pm bs → bs.length ≤ sizeLine) (hu : ∀ bs, Pm bs → ∀ b ∈ bs, A.units + 3 + (enc b).depth < cLine)
    (h : ∀ (s1 : Shared) (p : Addr) (out : List Value) (c : Nat) (bs : List β), (∀ b o, s.heap.get? b = some o → s1.heap.get? b = some o) → s1.gens = s.gens → s1.os = s.os → s.heap.objs.size ≤ p → s1.heap.get? p = some (seqObj "list" out.toArray c) → Pm bs →
      EachIs R out (bs.mergeSort (dataLe false enc)) → Q (.ref p) s1) :
    wpAny (model P w) A (call (.builtin "sorted") [v]) Q E s := by
  refine Calls.call_function_entry kind_sorted plain_sorted entry_sorted (args_sorted1 _) ?_
  unfold Builtin.«sorted»
  refine wpAny_bind (m := checkCount "sorted" 1 1 _) (wpAny_pure ?_)
  refine wpAny_bind (hcol fun s1 vs bs k1 hz g1 o1 e er pm => ?_)
  have hl : vs.length ≤ sizeLine := by rw [e.length]; exact hL bs pm
  refine wpAny_bind (wpAny_newList ?_ hl)
  have at1 : (s1.heap.push (seqObj "list" vs.toArray 0)).get? s1.heap.objs.size = some (seqObj "list" vs.toArray 0) := Heap.get?_push_size _ rfl
  have up : ∀ b o, s1.heap.get? b = some o → (s1.heap.push (seqObj "list" vs.toArray 0)).get? b = some o := fun b o q => Heap.get?_push_of_some _ q
  have er2 : EachIs (fun v b => ∃ as, Reads (s1.heap.push (seqObj "list" vs.toArray 0)) v (enc b) as ∧ s1.heap.objs.size ∉ as) vs bs := er.mono fun v b ⟨as, r⟩ => ⟨as, PyProof.Rows.Reads.keeps up r, fun z => Nat.lt_irrefl _ (reads_lt _ _ _ r _ z)⟩
  refine wpAny_bind (wpAny_holding (PySem.W.list_sort_data (s := { s1 with heap := s1.heap.push (seqObj "list" vs.toArray 0) }) at1 e er2 (hal bs pm) (hk bs pm) (hL bs pm) (fun b hb => ?_) fun out ho eo => ?_))
  · have := hu bs pm b hb
    simp only [Around.in1_units]
    omega
  · obtain ⟨c, hc⟩ := sortedHeap_at (vs := vs) (out := out.toArray) at1
    refine wpAny_pure ⟨_, rfl, h { s1 with heap := sortedHeap (s1.heap.push (seqObj "list" vs.toArray 0)) s1.heap.objs.size vs out.toArray } s1.heap.objs.size out c bs (fun b o q => ?_) g1 o1 hz hc pm eo⟩
    have q1 := k1 b o q
    have lt := Heap.lt_size q1
    show (sortedHeap (s1.heap.push (seqObj "list" vs.toArray 0)) s1.heap.objs.size vs out.toArray).get? b = some o
    rw [sortedHeap_old (Nat.ne_of_lt lt) (by rw [size_push']; exact Nat.lt_succ_of_lt lt)]
    exact up b o q1
end

/-! ### orders of keys -/
structure Ord (K : Type) where
  lt : K → K → Bool
  irr : ∀ a, lt a a = false
  tri : ∀ a b, lt a b = false → lt b a = false → a = b
section
variable {K : Type} [DecidableEq K] (O : Ord K)
def insU (x : K) : List K → List K
  | [] => [x]
  | y :: ys => if x = y then y :: ys else if O.lt x y then x :: y :: ys else y :: insU x ys
/-- the things of a list, each once, rising -/
def sortU (ks : List K) : List K := ks.foldr (insU O) []
theorem insU_mem {x z : K} : ∀ {ys : List K}, z ∈ insU O x ys ↔ z = x ∨ z ∈ ys
  | [] => by simp [insU]
  | y :: ys => by
    have ih := insU_mem (x := x) (z := z) (ys := ys)
    unfold insU
    by_cases e : x = y
    · subst e; rw [if_pos rfl]; simp
    · rw [if_neg e]
      by_cases c : O.lt x y = true
      · rw [if_pos c]; simp
      · rw [if_neg c, List.mem_cons, ih, List.mem_cons]
        constructor
        · rintro (h | h | h)
          · exact .inr (.inl h)
          · exact .inl h
          · exact .inr (.inr h)
        · rintro (h | h | h)
          · exact .inr (.inl h)
          · exact .inl h
          · exact .inr (.inr h)
theorem sortU_mem {z : K} : ∀ {ks : List K}, z ∈ sortU O ks ↔ z ∈ ks
  | [] => by simp [sortU]
  | k :: ks => by
    have ih := sortU_mem (z := z) (ks := ks)
    show z ∈ insU O k (sortU O ks) ↔ _
    rw [insU_mem, ih, List.mem_cons]
end
/-- an order that is one -/
structure OrdT (K : Type) extends Ord K where
  trans : ∀ a b c, lt a b = true → lt b c = true → lt a c = true
section
variable {K : Type} [DecidableEq K] (O : OrdT K)
theorem OrdT.asym {a b : K} (h : O.lt a b = true) : O.lt b a = false := by
  cases c : O.lt b a with
  | false => rfl
  | true =>
    have := O.trans _ _ _ h c
    rw [O.irr] at this; cases this
theorem insU_pw {x : K} : ∀ {ys : List K}, ys.Pairwise (fun a b => O.lt a b = true) → (insU O.toOrd x ys).Pairwise (fun a b => O.lt a b = true)
  | [], _ => by simp [insU]
  | y :: ys, h => by
    obtain ⟨h1, h2⟩ := List.pairwise_cons.mp h
    unfold insU
    by_cases e : x = y
    · rw [if_pos e]; exact h
    · rw [if_neg e]
      by_cases c : O.lt x y = true
      · rw [if_pos c]
        refine List.pairwise_cons.mpr ⟨fun z hz => ?_, h⟩
        rcases List.mem_cons.mp hz with rfl | hz
        · exact c
        · exact O.trans _ _ _ c (h1 z hz)
      · rw [if_neg c]
        refine List.pairwise_cons.mpr ⟨fun z hz => ?_, insU_pw h2⟩
        rcases (insU_mem O.toOrd).mp hz with rfl | hz
        · cases q : O.lt y z with
          | true => rfl
          | false => exact absurd (O.tri _ _ (by simpa using c) q) e
        · exact h1 z hz
theorem sortU_pw : ∀ (ks : List K), (sortU O.toOrd ks).Pairwise (fun a b => O.lt a b = true)
  | [] => by simp [sortU]
  | k :: ks => insU_pw O (sortU_pw ks)
theorem rising_nodup {l : List K} (h : l.Pairwise (fun a b => O.lt a b = true)) : l.Nodup := h.imp fun {a b} q e => by
  subst e; rw [O.irr] at q; cases q
/-- rising lists of the same things are the same -/
theorem rising_eq : ∀ {l m : List K}, l.Pairwise (fun a b => O.lt a b = true) → m.Pairwise (fun a b => O.lt a b = true) → (∀ z, z ∈ l ↔ z ∈ m) → l = m
  | [], [], _, _, _ => rfl
  | [], y :: m, _, _, h => absurd ((h y).mpr List.mem_cons_self) (by simp)
  | x :: l, [], _, _, h => absurd ((h x).mp List.mem_cons_self) (by simp)
  | x :: l, y :: m, hl, hm, h => by
    obtain ⟨l1, l2⟩ := List.pairwise_cons.mp hl
    obtain ⟨m1, m2⟩ := List.pairwise_cons.mp hm
    have e : x = y := by
      rcases List.mem_cons.mp ((h x).mp List.mem_cons_self) with e | e
      · exact e
      · rcases List.mem_cons.mp ((h y).mpr List.mem_cons_self) with f | f
        · exact f.symm
        · have a := m1 x e
          have b := l1 y f
          rw [O.asym a] at b; cases b
    subst e
    have nl := (List.nodup_cons.mp (rising_nodup O hl)).1
    have nm := (List.nodup_cons.mp (rising_nodup O hm)).1
    rw [rising_eq l2 m2 fun z => ?_]
    constructor
    · intro hz
      rcases List.mem_cons.mp ((h z).mp (List.mem_cons_of_mem _ hz)) with e | e
      · subst e; exact absurd hz nl
      · exact e
    · intro hz
      rcases List.mem_cons.mp ((h z).mpr (List.mem_cons_of_mem _ hz)) with e | e
      · subst e; exact absurd hz nm
      · exact e
end
def strLt (a b : Str) : Bool := decide (a.cps.toList < b.cps.toList)
def ordS : OrdT Str where
  lt := strLt
  irr := fun a => by simp [strLt, List.lt_irrefl]
  tri := fun a b h g => by
    simp only [strLt, decide_eq_false_iff_not] at h g
    exact PySem.W.str_of_cps (List.le_antisymm (List.not_lt.mp g) (List.not_lt.mp h))
  trans := fun a b c h g => by
    simp only [strLt, decide_eq_true_eq] at h g ⊢
    exact List.lt_trans h g
def rowLtB : List Bool → List Bool → Bool
  | [], [] => false
  | [], _ :: _ => true
  | _ :: _, [] => false
  | a :: as, b :: bs => if a = b then rowLtB as bs else !a && b
theorem rowLtB_irr : ∀ a, rowLtB a a = false
  | [] => rfl
  | a :: as => by simp [rowLtB, rowLtB_irr as]
theorem rowLtB_tri : ∀ a b, rowLtB a b = false → rowLtB b a = false → a = b
  | [], [], _, _ => rfl
  | [], _ :: _, h, _ => by simp [rowLtB] at h
  | _ :: _, [], _, g => by simp [rowLtB] at g
  | a :: as, b :: bs, h, g => by
    by_cases e : a = b
    · subst e
      simp only [rowLtB, if_true] at h g
      rw [rowLtB_tri as bs h g]
    · simp only [rowLtB, if_neg e, if_neg (Ne.symm e)] at h g
      cases a <;> cases b <;> simp_all
theorem rowLtB_trans : ∀ a b c, rowLtB a b = true → rowLtB b c = true → rowLtB a c = true
  | [], [], _, h, _ => by simp [rowLtB] at h
  | [], _ :: _, [], _, g => by simp [rowLtB] at g
  | [], _ :: _, _ :: _, _, _ => rfl
  | _ :: _, [], _, h, _ => by simp [rowLtB] at h
  | _ :: _, _ :: _, [], _, g => by simp [rowLtB] at g
  | a :: as, b :: bs, c :: cs, h, g => by
    simp only [rowLtB] at h g ⊢
    by_cases e : a = b
    · subst e
      rw [if_pos rfl] at h
      by_cases f : a = c
      · subst f
        rw [if_pos rfl] at g ⊢
        exact rowLtB_trans as bs cs h g
      · rw [if_neg f] at g ⊢; exact g
    · rw [if_neg e] at h
      by_cases f : b = c
      · subst f; rw [if_neg e]; exact h
      · rw [if_neg f] at g
        cases a <;> cases b <;> cases c <;> simp_all
def ordR : OrdT (List Bool) where
  lt := rowLtB
  irr := rowLtB_irr
  tri := rowLtB_tri
  trans := rowLtB_trans
end MJ

namespace MJ
open PySem PySem.Spec PyProof.Rows L2 PpSet
open PySem.W (EachIs dataLe dataLt AllAlike Sortable alike alikeAll)
/-! ### the orders of texts and rows, as the sort asks them -/
def encS (z : Str) : PyData := .str z
def encR (r : List Bool) : PyData := .tuple (r.map .bool)
theorem dataLt_bl (a b : Bool) : dataLt (.bool a) (.bool b) = (!a && b) := by cases a <;> cases b <;> decide
theorem le_str (a b : Str) : dataLe false encS a b = !strLt b a := by
  show (!dataLt (.str b) (.str a)) = _
  rw [PySem.W.dataLt_str]; rfl
theorem rowLt_bl : ∀ a b : List Bool, PySem.W.rowLt (a.map .bool) (b.map .bool) = rowLtB a b
  | [], [] => lex_irrefl _
  | [], y :: ys => by
    unfold PySem.W.rowLt
    rw [List.map_cons, PySem.W.toks_all_cons, List.map_nil]
    simp only [PySem.W.keyToksAll]
    rw [lex_diff (O := itemOrd) (by simp)]
    rfl
  | x :: xs, [] => by
    unfold PySem.W.rowLt
    rw [List.map_cons, PySem.W.toks_all_cons, List.map_nil]
    simp only [PySem.W.keyToksAll]
    rw [lex_diff (O := itemOrd) (by simp)]
    rfl
  | x :: xs, y :: ys => by
    have e : PySem.W.rowLt (PyData.bool x :: xs.map .bool) (PyData.bool y :: ys.map .bool) = if x = y then PySem.W.rowLt (xs.map .bool) (ys.map .bool) else (!x && y) := by
      unfold PySem.W.rowLt
      rw [PySem.W.dataLt_cons (by simp [alike]), dataLt_bl]
      simp only [PyData.eqv, beq_iff_eq]
    show PySem.W.rowLt (PyData.bool x :: xs.map .bool) (PyData.bool y :: ys.map .bool) = _
    rw [e, rowLt_bl xs ys]; rfl
theorem le_row (a b : List Bool) : dataLe false encR a b = !rowLtB b a := by
  show (!dataLt (.tuple (b.map .bool)) (.tuple (a.map .bool))) = _
  rw [PySem.W.dataLt_tuple]
  show (!PySem.W.rowLt (b.map .bool) (a.map .bool)) = _
  rw [rowLt_bl]
theorem alike_bls : ∀ a b : List Bool, alikeAll (a.map .bool) (b.map .bool) = true
  | [], _ => by simp [alikeAll]
  | _ :: _, [] => by simp [alikeAll]
  | x :: xs, y :: ys => by
    show alikeAll (.bool x :: xs.map .bool) (.bool y :: ys.map .bool) = true
    rw [alikeAll, alike_bls xs ys]
    simp [alike]
theorem depth_bls : ∀ xs : List Bool, PyData.depthAll (xs.map .bool) = 0
  | [] => by simp [PyData.depthAll]
  | x :: xs => by
    show PyData.depthAll (.bool x :: xs.map .bool) = 0
    rw [PyData.depthAll, depth_bls xs]
    simp [PyData.depth]
/-- keys: how they lie in the heap, how they are read, how they are sorted -/
structure Keyed (X : Cx) (K : Type) [DecidableEq K] where
  S : Setty X.prog X.w K
  O : OrdT K
  enc : K → PyData
  ok : K → Prop
  kin : Hp → K → V → Prop
  kin_is : ∀ {pins : List (Addr × Obj)} {σ : L2.St} {H : Hp} {s : Shared}, Inv X pins σ H s → ∀ {k : K} {v : V} {u : Value}, kin H k v → RelV v u → S.Is s.heap k u
  rd : ∀ {h : Heap} {k : K} {u : Value}, S.Is h k u → ∃ as, Reads h u (enc k) as
  le : ∀ a b, dataLe false enc a b = !O.lt b a
  al : ∀ ks : List K, AllAlike (ks.map enc)
  so : ∀ ks : List K, (∀ k ∈ ks, ok k) → Sortable (ks.map enc)
  dp : ∀ k, (enc k).depth ≤ 1
  need : ∀ B : Around, B.units < cLine → S.need B
  most : S.most ≤ 4096
/-- a rising list, out of mergeSort -/
theorem keyed_sorted {X : Cx} {K : Type} [DecidableEq K] (Y : Keyed X K) {L : List K} (hn : L.Nodup) : (L.mergeSort (dataLe false Y.enc)).Pairwise (fun a b => Y.O.lt a b = true) := by
  have p := PySem.W.sort_pairwise (PySem.W.sortLe_total (listOrd itemOrd) false fun b => PySem.W.keyToks (Y.enc b)) L
  have n : (L.mergeSort (dataLe false Y.enc)).Nodup := (List.mergeSort_perm L _).nodup_iff.mpr hn
  refine (List.Pairwise.and p n).imp fun {a b} ⟨h, ne⟩ => ?_
  have h' : dataLe false Y.enc a b = true := h
  rw [Y.le, Bool.not_eq_true'] at h'
  cases q : Y.O.lt a b with
  | true => rfl
  | false => exact absurd (Y.O.tri _ _ q h') ne
section
variable {X : Cx} {K : Type} [DecidableEq K] (Y : Keyed X K)
def tSS (te : TE) : TE := fun σ H Q => te σ H fun v H1 => ∃ (a : Addr) (bs : List (K × V)), v = .ref a ∧ SqL X.K H1 a (bs.map (·.2)) ∧ (∀ z ∈ bs, Y.kin H1 z.1 z.2) ∧ bs.length < Y.S.most ∧ (∀ z ∈ bs, Y.ok z.1) ∧
  ∀ (p : Addr) (zs : List (K × V)), H1 p = none → (∀ z ∈ zs, z ∈ bs) → zs.map (·.1) = sortU Y.O.toOrd (bs.map (·.1)) → Q (.ref p) (upd H1 p (.lst (zs.map (·.2))))
theorem vals_zip : ∀ {bs : List (K × V)} {us : List Value}, Vals (bs.map (·.2)) us → (∃ ks : List (K × Value), us = ks.map (·.2) ∧ ks.map (·.1) = bs.map (·.1) ∧ ∀ q ∈ ks, ∃ v, (q.1, v) ∈ bs ∧ RelV v q.2)
  | [], us, h => by cases h; exact ⟨[], rfl, rfl, fun q hq => by cases hq⟩
  | b :: bs, us, h => by
    rw [List.map_cons] at h
    cases h with
    | cons r t =>
      obtain ⟨ks, e1, e2, e3⟩ := vals_zip t
      refine ⟨(b.1, _) :: ks, by rw [List.map_cons, ← e1], by rw [List.map_cons, List.map_cons, e2], fun q hq => ?_⟩
      rcases List.mem_cons.mp hq with rfl | hq
      · exact ⟨b.2, List.mem_cons_self, r⟩
      · obtain ⟨v, h1, h2⟩ := e3 q hq
        exact ⟨v, List.mem_cons_of_mem _ h1, h2⟩
theorem zip_vals {bs : List (K × V)} : ∀ {M : List (K × Value)}, (∀ q ∈ M, ∃ v, (q.1, v) ∈ bs ∧ RelV v q.2) → ∃ zs : List (K × V), zs.map (·.1) = M.map (·.1) ∧ (∀ z ∈ zs, z ∈ bs) ∧ Vals (zs.map (·.2)) (M.map (·.2))
  | [], _ => ⟨[], rfl, fun z hz => (by cases hz), .nil⟩
  | q :: M, h => by
    obtain ⟨v, h1, h2⟩ := h q List.mem_cons_self
    obtain ⟨zs, e1, e2, e3⟩ := zip_vals (M := M) fun r hr => h r (List.mem_cons_of_mem _ hr)
    exact ⟨(q.1, v) :: zs, by rw [List.map_cons, List.map_cons, e1], fun z hz => (List.mem_cons.mp hz).elim (fun e => e ▸ h1) (e2 z), .cons h2 e3⟩
theorem each_self {R : Value → K × Value → Prop} : ∀ {M : List (K × Value)}, (∀ q ∈ M, R q.2 q) → EachIs R (M.map (·.2)) M
  | [], _ => .nil
  | q :: M, h => .cons (h q List.mem_cons_self) (each_self fun r hr => h r (List.mem_cons_of_mem _ hr))
theorem self_each : ∀ {out : List Value} {M : List (K × Value)}, EachIs (fun u q => u = q.2) out M → out = M.map (·.2)
  | _, _, .nil => rfl
  | _, _, .cons h t => by rw [List.map_cons, ← self_each t, h]
theorem pe_sortedSet {e : Expr} {te : TE} {p p2 q pos : Pos} (hc : X.calm = true) (hu : X.A.units + 100 < cLine) (hg : Gl X "sorted") (hm : X.mg "sorted" = none) (hg2 : Gl X "set") (hm2 : X.mg "set" = none) (he : PE X e te)
    (na : starEach [e] X.env = (false, eval e X.env) :: starEach [] X.env) : PE X (.Call (.Name "sorted" p) [.Call (.Name "set" p2) [e] [] q] [] pos) (tSS Y te) := by
  refine ⟨fun pins s σ H Q I h => ?_⟩
  refine Call_ (ld_blt I hg hm PyProof.Rows.boot_sorted ?_)
  refine PyProof.Rows.callWith_builtin1 (PyProof.Rows.args_cons ?_ rfl) rfl rfl
  refine Call_ (ld_blt I hg2 hm2 PyProof.Rows.boot_set ?_)
  refine PyProof.Rows.callWith_type1 (PyProof.Rows.args_cons (thn (he.run pins s σ H _ I h) fun v s1 ⟨x, H1, I1, r1, q1⟩ => PyProof.Rows.args_nil ?_) na) na rfl
  obtain ⟨a, bs, rfl, hq, hk, hl, hok, post⟩ := q1
  cases r1
  obtain ⟨its, r, pl, hz⟩ := I1.list hq
  obtain ⟨ks, e1, e2, e3⟩ := vals_zip r
  have his : ∀ p ∈ ks, Y.S.Is s1.heap p.1 p.2 := fun p hp => by
    obtain ⟨v, h1, h2⟩ := e3 p hp
    exact Y.kin_is I1 (hk _ h1) h2
  have hkl : ks.length = bs.length := by
    have := congrArg List.length e2
    simpa using this
  have hmost := Y.most
  refine call_set_of Y.S ks (I1.ok.hd hc) pl.isList (by simpa using e1) his (by omega) (fun B hB => Y.need B (by omega)) fun h' tk L hL g kp => PyProof.Rows.args_nil ?_
  have sub : ∀ p ∈ L, p ∈ ks := fun p hp => List.mem_of_mem_take (g.sub p hp)
  have all : ∀ p ∈ ks, p.1 ∈ L.map (·.1) := fun p hp => g.all p (by rw [List.take_length]; exact hp)
  have len : L.length ≤ ks.length := g.len
  have nd := Y.S.nd hL
  have I2 : Inv X pins σ H1 { s1 with heap := h', toks := tk } := I1.kept kp
  refine call_sorted_by (s := { s1 with heap := h', toks := tk }) (β := K × Value) (enc := fun q => Y.enc q.1) (R := fun u q => u = q.2) (Pm := fun M => M.Perm L) (fun {C E'} k => ?_) (fun M pm => ?_) (fun M pm => ?_) (fun M pm => ?_) (fun M pm b hb => ?_) fun s2 p2 out c M k2 g2 o2 hp at2 pm eo => ?_
  · refine Y.S.coll (I1.ok.hd hc) hL fun s2 L2 k2 z2 g2 o2 pm => k s2 _ L2 k2 z2 g2 o2 (each_self fun q hq => rfl) (each_self fun q hq => ?_) pm
    exact Y.rd (Y.S.keepIs (Y.S.has hL q (pm.mem_iff.mp hq)) k2)
  · have := Y.al (M.map (·.1))
    rwa [List.map_map] at this
  · have := Y.so (M.map (·.1)) fun k hk => by
      obtain ⟨q, hq, rfl⟩ := List.mem_map.mp hk
      obtain ⟨v, h1, _⟩ := e3 q (sub q (pm.mem_iff.mp hq))
      exact hok _ h1
    rwa [List.map_map] at this
  · rw [pm.length_eq, sizeLine_eq]; omega
  · have := Y.dp b.1
    show _ + 3 + (Y.enc b.1).depth < cLine
    have e0 : X.A.units + 100 < cLine := hu
    omega
  · have eo' := self_each eo
    have kmap : (M.mergeSort (dataLe false fun q : K × Value => Y.enc q.1)).map (·.1) = (M.map (·.1)).mergeSort (dataLe false Y.enc) := PySem.W.sort_maps (fun q : K × Value => q.1) fun a _ b _ => rfl
    have pm2 := (List.mergeSort_perm M (dataLe false fun q : K × Value => Y.enc q.1)).trans pm
    obtain ⟨zs, z1, z2, z3⟩ := zip_vals (bs := bs) (M := M.mergeSort (dataLe false fun q : K × Value => Y.enc q.1)) fun q hq => e3 q (sub q (pm2.mem_iff.mp hq))
    rw [← eo'] at z3
    have hmem : ∀ z, z ∈ zs.map (·.1) ↔ z ∈ bs.map (·.1) := fun z => by
      rw [z1, (pm2.map (·.1)).mem_iff, ← e2]
      constructor
      · intro hz
        obtain ⟨q, hq, rfl⟩ := List.mem_map.mp hz
        exact List.mem_map.mpr ⟨q, sub q hq, rfl⟩
      · intro hz
        obtain ⟨q, hq, rfl⟩ := List.mem_map.mp hz
        exact all q hq
    have hs : zs.map (·.1) = sortU Y.O.toOrd (bs.map (·.1)) := by
      refine rising_eq Y.O ?_ (sortU_pw Y.O _) fun z => (hmem z).trans (sortU_mem Y.O.toOrd).symm
      rw [z1, kmap]
      exact keyed_sorted Y ((pm.map (·.1)).nodup_iff.mpr nd)
    have hn : H1 p2 = none := I2.hok.fresh hp
    have zl : (zs.map (·.2)).length ≤ sizeLine := by
      have q1 : zs.length = M.length := by
        have := congrArg List.length z1
        simpa using this
      rw [List.length_map, q1, pm.length_eq, sizeLine_eq]; omega
    have J : Inv X pins σ (upd H1 p2 (.lst (zs.map (·.2)))) { s1 with heap := s2.heap, gens := s2.gens, drawn := s2.drawn, toks := s2.toks } :=
      Inv.call (s := { s1 with heap := h', toks := tk }) I2 (ch := []) (Un.laid k2 hp hn) (I2.hok.laid k2 hp ⟨zl, out, c, z3, at2⟩) (by rw [g2]; exact I2.bare) (fun _ z => nomatch z)
    have es : s2 = { s1 with heap := s2.heap, gens := s2.gens, drawn := s2.drawn, toks := s2.toks } := by
      cases s2
      cases s1
      cases o2
      rfl
    rw [es]
    exact ⟨.ref p2, _, J, rfl, post p2 zs hn z2 hs⟩
end
end MJ

namespace MJ
open PySem PySem.Spec PyProof.Rows L2 PpSet
open PySem.W (EachIs dataLe dataLt AllAlike Sortable alike alikeAll)
theorem is_strK {P : Program} {w : World} (k : Str) (t : Tok) : (PySem.strKind P w).is k (.str k t) = true := by
  show Value.isStrOf k (.str k t) = true
  simp [Value.isStrOf]
def keyedS (X : Cx) : Keyed X Str where
  S := settyV X.prog X.w (PySem.strKind X.prog X.w)
  O := ordS
  enc := encS
  ok := fun _ => True
  kin := fun _ k v => v = .str k
  kin_is := fun {pins σ H s} I {k v u} h r => by
    subst h
    obtain ⟨t, rfl⟩ := r
    exact ⟨is_strK k t, rfl⟩
  rd := fun {h k u} i => by
    obtain ⟨t, rfl⟩ := Value.isStrOf_shape (x := k) (v := u) i.1
    exact ⟨[], .str k t⟩
  le := le_str
  al := fun ks => PySem.W.AllAlike.of fun a b => by simp [encS, alike]
  so := fun ks _ => PySem.W.Sortable.others fun a => by simp [encS]
  dp := fun k => by simp [encS, PyData.depth]
  need := fun _ _ => trivial
  most := by show scanBound ≤ 4096; decide
theorem reads_bls {P : Program} {w : World} {h : Heap} : ∀ {k : List Bool} {vs : List Value}, ItemsAre (boolK P w) k vs → ∃ as, ReadsAll h vs (k.map .bool) as := by
  intro k vs hi
  induction hi with
  | nil => exact ⟨[], .nil⟩
  | cons h1 _ ih =>
    obtain ⟨as, r⟩ := ih
    have e := isB_shape h1
    subst e
    exact ⟨_, .cons (.bool _) r⟩
theorem items_of_bls {P : Program} {w : World} : ∀ {k : List Bool} {us : List Value}, Vals (k.map V.bl) us → ItemsAre (boolK P w) k us
  | [], us, h => by cases h; exact .nil
  | b :: k, us, h => by
    rw [List.map_cons] at h
    cases h with
    | cons r t =>
      cases r
      exact .cons (boolK_is P w b) (items_of_bls t)
def keyedR (X : Cx) : Keyed X (List Bool) where
  S := settyB X.prog X.w
  O := ordR
  enc := encR
  ok := fun k => k ≠ []
  kin := fun H k v => ∃ b, v = .ref b ∧ SqT X.K H b (k.map V.bl)
  kin_is := fun {pins σ H s} I {k v u} h r => by
    obtain ⟨b, rfl, q⟩ := h
    cases r
    obtain ⟨its, rv, ⟨o, ho, hc, n, hd⟩, _⟩ := I.tuple q
    exact ⟨b, rfl, o, its.toArray, n, ho, hc, hd, by simpa using items_of_bls rv⟩
  rd := fun {h k u} i => by
    obtain ⟨b, rfl, o, its, n, ho, hc, hd, hi⟩ := i
    obtain ⟨as, r⟩ := reads_bls (h := h) hi
    exact ⟨as, .tuple ho hc hd r⟩
  le := le_row
  al := fun ks => PySem.W.AllAlike.of fun a b => by simp [encR, alike, alike_bls]
  so := fun ks h => .inl fun d hd => by
    obtain ⟨k, hk, rfl⟩ := List.mem_map.mp hd
    cases k with
    | nil => exact absurd rfl (h _ hk)
    | cons x r => exact ⟨.bool x, r.map .bool, rfl⟩
  dp := fun k => by simp [encR, PyData.depth, depth_bls]
  need := fun _ h => h
  most := by show 64 ≤ 4096; decide
/-! ### sorted(set(..)) on data -/
def strsD : List D → Option (List Str)
  | [] => some []
  | .str z :: ds => (strsD ds).map (z :: ·)
  | _ => none
def rowsD : List D → Option (List (List Bool))
  | [] => some []
  | .tup bs :: ds => match boolsOf bs, rowsD ds with
    | some (b :: r), some rs => some ((b :: r) :: rs)
    | _, _ => none
  | _ => none
def rowD (r : List Bool) : D := .tup (r.map .bl)
def ssetD : D → Res (D × Fr)
  | .lst ds => match strsD ds with
    | some zs => if zs.length < 4000 then .ok (.lst ((sortU ordS.toOrd zs).map .str), .fr) else .bad
    | none => match rowsD ds with
      | some rs => if rs.length < 64 then .ok (.lst ((sortU ordR.toOrd rs).map rowD), .fr) else .bad
      | none => .bad
  | _ => .bad
section
variable {K : PySem.W.Frag} {mg : Str → Option Value} {H : Hp}
theorem Rps.strs : ∀ {ds : List D} {zs : List Str} {vs : List V}, strsD ds = some zs → Rps K mg H ds vs → vs = zs.map V.str
  | [], zs, vs, e, r => by
    simp only [strsD, Option.some.injEq] at e
    simp only [Rps] at r
    subst e; subst r; rfl
  | d :: ds, zs, vs, e, r => by
    cases d with
    | str z =>
      simp only [strsD, Option.map_eq_some_iff] at e
      obtain ⟨zs', e1, rfl⟩ := e
      simp only [Rps, Rp] at r
      obtain ⟨v, vs', rfl, rfl, r2⟩ := r
      rw [Rps.strs e1 r2]; rfl
    | _ => simp [strsD] at e
theorem Rps.rows : ∀ {ds : List D} {rs : List (List Bool)} {vs : List V}, rowsD ds = some rs → Rps K mg H ds vs → ∃ bs : List (List Bool × V), vs = bs.map (·.2) ∧ rs = bs.map (·.1) ∧ ∀ z ∈ bs, z.1 ≠ [] ∧ ∃ b, z.2 = .ref b ∧ SqT K H b (z.1.map V.bl)
  | [], rs, vs, e, r => by
    simp only [rowsD, Option.some.injEq] at e
    simp only [Rps] at r
    subst e; subst r; exact ⟨[], rfl, rfl, fun z hz => by cases hz⟩
  | d :: ds, rs, vs, e, r => by
    cases d with
    | tup es =>
      simp only [rowsD] at e
      split at e
      · rename_i b t rs' e1 e2
        cases e
        simp only [Rps, Rp] at r
        obtain ⟨v, vs', rfl, ⟨a, xs, rfl, q, rx⟩, r2⟩ := r
        obtain ⟨bs, rfl, rfl, g⟩ := Rps.rows e2 r2
        rw [Rps.bools e1 rx] at q
        refine ⟨(b :: t, .ref a) :: bs, rfl, rfl, fun z hz => ?_⟩
        rcases List.mem_cons.mp hz with rfl | hz
        · exact ⟨by simp, a, rfl, q⟩
        · exact g z hz
      · cases e
    | _ => simp [rowsD] at e
theorem rps_strs : ∀ (zs : List Str), Rps K mg H (zs.map .str) (zs.map V.str)
  | [] => .nil
  | z :: zs => .cons (by simp [Rp]) (rps_strs zs)
theorem rps_bls : ∀ (zs : List Bool), Rps K mg H (zs.map .bl) (zs.map V.bl)
  | [] => .nil
  | z :: zs => .cons (by simp [Rp]) (rps_bls zs)
theorem rps_rows : ∀ {zs : List (List Bool × V)}, (∀ z ∈ zs, ∃ b, z.2 = .ref b ∧ SqT K H b (z.1.map V.bl)) → Rps K mg H ((zs.map (·.1)).map rowD) (zs.map (·.2))
  | [], _ => .nil
  | z :: zs, h => by
    obtain ⟨b, e, q⟩ := h z List.mem_cons_self
    refine .cons ?_ (rps_rows fun z hz => h z (List.mem_cons_of_mem _ hz))
    simp only [rowD, Rp]
    exact ⟨b, _, e, q, rps_bls _⟩
end
theorem PE_or {X : Cx} {x : Expr} {t u : TE} (h : PE X x t) (g : PE X x u) : PE X x fun σ H Q => t σ H Q ∨ u σ H Q :=
  ⟨fun pins s σ H Q I q => q.elim (fun q => h.run pins s σ H Q I q) fun q => g.run pins s σ H Q I q⟩
def CE.sortedSet (e : CE) : CE where
  ev := fun call ρ => (e.arg false call ρ).bind ssetD
  chk := fun cf x => match x with
    | .Call (.Name y _) [.Call (.Name z _) [l] [] _] [] _ => decide (y = ("sorted" : Str)) && decide (z = ("set" : Str)) && glob cf ("sorted" : Str) && glob cf ("set" : Str) && e.chk cf l
    | _ => false
  star := fun cf x h => by cases x <;> first | rfl | cases h
  ok := fun {X W cf call} g x h => by
    split at h
    · simp only [Bool.and_eq_true, decide_eq_true_eq] at h
      obtain ⟨⟨⟨⟨rfl, rfl⟩, h1⟩, h2⟩, h3⟩ := h
      have hst := e.star _ _ h3
      obtain ⟨t, p, q⟩ := (e.ok g _ h3).arg false
      have b1 := g.blt "sorted" (by decide +kernel)
      have b2 := g.blt "set" (by decide +kernel)
      refine ⟨_, PE_or (pe_sortedSet (keyedS X) g.calm g.units (g.gl h1) b1 (g.gl h2) b2 p (starEach_cons hst)) (pe_sortedSet (keyedR X) g.calm g.units (g.gl h1) b1 (g.gl h2) b2 p (starEach_cons hst)), fun Hs0 H0 Hs H ρ σ Q ok h => ?_⟩
      dsimp only at h
      have key : ∀ r, argR false (e.ev call ρ) = r → PostE X W Hs H σ Q (r.bind ssetD) → tSS (keyedS X) t σ H Q ∨ tSS (keyedR X) t σ H Q := by
        intro r er h
        have go : ∀ Q, PostD X W false Hs H σ Q r → t σ H Q := fun Q z => q Hs0 H0 Hs H ρ σ Q ok (by dsimp only; rw [er]; exact z)
        cases r with
        | bad => exact h.elim
        | ex c es => exact .inl (go _ h)
        | ok d =>
          cases d with
          | lst ds =>
            rw [Res.bind_ok] at h
            simp only [ssetD] at h
            split at h
            · rename_i zs ez
              split at h
              · rename_i hz
                refine .inl (go _ fun v Hs' H' e' p' => ?_)
                have p2 := p'.sh
                simp only [Rp] at p2
                obtain ⟨a, xs, rfl, q2, r2⟩ := p2
                have hx := r2.strs ez
                subst hx
                refine ⟨a, zs.map fun z => (z, V.str z), rfl, by rw [List.map_map]; exact e'.i.seq q2, fun z hz => ?_, ?_, fun _ _ => trivial, fun p ws hp hw hs => ?_⟩
                · obtain ⟨k, _, rfl⟩ := List.mem_map.mp hz; rfl
                · rw [List.length_map]; show zs.length < scanBound; unfold scanBound; omega
                · rw [List.map_map] at hs
                  have hs' : ws.map (·.1) = sortU ordS.toOrd zs := by simpa [Function.comp_def, keyedS] using hs
                  have hv : ws.map (·.2) = (ws.map (·.1)).map V.str := by
                    rw [List.map_map]
                    refine List.map_congr_left fun w hwm => ?_
                    obtain ⟨k, _, e⟩ := List.mem_map.mp (hw w hwm)
                    rw [← e]; rfl
                  rw [hv, hs']
                  refine h (.ref p) Hs' _ (e'.own hp _) ⟨p, _, rfl, e'.h.free hp, e'.i.free hp, upd_same, _, rfl, rps_strs _⟩
              · exact h.elim
            · split at h
              · rename_i rs ez
                split at h
                · rename_i hz
                  refine .inr (go _ fun v Hs' H' e' p' => ?_)
                  have p2 := p'.sh
                  simp only [Rp] at p2
                  obtain ⟨a, xs, rfl, q2, r2⟩ := p2
                  obtain ⟨bs, rfl, rfl, g2⟩ := r2.rows ez
                  refine ⟨a, bs, rfl, e'.i.seq q2, fun z hz => ?_, ?_, fun z hz => (g2 z hz).1, fun p ws hp hw hs => ?_⟩
                  · obtain ⟨b, e, qb⟩ := (g2 z hz).2
                    exact ⟨b, e, e'.i.seqT qb⟩
                  · rw [List.length_map] at hz; exact hz
                  · have hs' : ws.map (·.1) = sortU ordR.toOrd (bs.map (·.1)) := hs
                    rw [← hs'] at h
                    refine h (.ref p) Hs' _ (e'.own hp _) ⟨p, _, rfl, e'.h.free hp, e'.i.free hp, upd_same, _, rfl, rps_rows fun z hz => (g2 z (hw z hz)).2⟩
                · exact h.elim
              · exact h.elim
          | _ => exact h.elim
      exact key _ rfl h
    · cases h
end MJ

namespace MJ
open PySem PySem.Spec PyProof.Rows L2 PpSet
open PySem.W (EachIs dataLe dataLt AllAlike Sortable alike alikeAll)
/-! ### sorted(xs) -/
def isTupNE : PyData → Bool
  | .tuple (_ :: _) => true
  | _ => false
def notNT : PyData → Bool
  | .none => false
  | .tuple _ => false
  | _ => true
def sortable (ps : List PyData) : Bool := (ps.all fun d => ps.all fun e => alike d e) && (ps.all isTupNE || ps.all notNT) && ps.all fun d => decide (d.depth ≤ 40)
theorem sortable_ok {ps : List PyData} (h : sortable ps = true) : AllAlike ps ∧ Sortable ps ∧ ∀ d ∈ ps, d.depth ≤ 40 := by
  simp only [sortable, Bool.and_eq_true, Bool.or_eq_true, List.all_eq_true, decide_eq_true_eq] at h
  obtain ⟨⟨h1, h2⟩, h3⟩ := h
  refine ⟨h1, h2.imp (fun h d hd => ?_) (fun h d hd => ?_), h3⟩
  · have := h d hd
    cases d with
    | tuple xs => cases xs with
      | nil => simp [isTupNE] at this
      | cons x r => exact ⟨x, r, rfl⟩
    | _ => simp [isTupNE] at this
  · have := h d hd
    cases d <;> simp_all [notNT]
/-- sorted, by what the things are as data -/
def sortD (ds : List D) : Option (List D) := match toPys ds with
  | some ps => if sortable ps = true then some (((ds.zip ps).mergeSort (dataLe false Prod.snd)).map Prod.fst) else none
  | none => none
theorem toPys_len : ∀ {ds : List D} {ps : List PyData}, toPys ds = some ps → ps.length = ds.length
  | [], ps, h => by simp only [toPys, Option.some.injEq] at h; subst h; rfl
  | d :: ds, ps, h => by
    simp only [toPys] at h
    split at h
    · rename_i p ps' e1 e2
      cases h
      simp [toPys_len e2]
    · cases h
theorem cr_sortedL {X : Cx} (hu : X.A.units + 100 < cLine) : CallR X (.builtin "sorted") (fun xs H Q => ∃ (a : Addr) (β : Type) (bs : List β) (f : β → V) (enc : β → PyData), xs = [V.ref a] ∧ SqL X.K H a (bs.map f) ∧ DpAll X.K H (bs.map f) (bs.map enc) ∧
    AllAlike (bs.map enc) ∧ Sortable (bs.map enc) ∧ (∀ b ∈ bs, (enc b).depth ≤ 40) ∧ ∀ p, H p = none → Q (.ref p) (upd H p (.lst ((bs.mergeSort (dataLe false enc)).map f)))) := by
  intro pins s σ H xs us Q I r h
  obtain ⟨a, β, bs, f, enc, rfl, hq, hd, h1, h2, h3, q⟩ := h
  rw [Vals.ref1 r]
  obtain ⟨its, rv, pl, hz⟩ := I.list hq
  obtain ⟨as, ra⟩ := Dp.readsAll I _ _ _ hd rv
  have e1 : EachIs (fun u b => RelV (f b) u) its bs := by
    have key : ∀ (bs : List β) (its : List Value), Vals (bs.map f) its → EachIs (fun u b => RelV (f b) u) its bs := by
      intro bs
      induction bs with
      | nil => intro its h; cases h; exact .nil
      | cons b bs ih =>
        intro its h
        rw [List.map_cons] at h
        cases h with
        | cons r t => exact .cons r (ih _ t)
    exact key bs its rv
  have hl : bs.length ≤ sizeLine := by simpa using hz
  refine PySem.W.sorted_data (vs := its) (by simpa using pl.isList) e1 (PySem.W.readsAll_each enc ra) h1 h2 hl (fun b hb => by have := h3 b hb; omega) fun out ho eo => ?_
  obtain ⟨c, hc⟩ := sortedAll_at s.heap its out.toArray
  have hn : H (s.heap.objs.size + 1) = none := I.hok.fresh (Nat.le_succ _)
  have ve : ∀ (ms : List β) (out : List Value), EachIs (fun u b => RelV (f b) u) out ms → Vals (ms.map f) out := by
    intro ms
    induction ms with
    | nil => intro out h; cases h; exact .nil
    | cons b ms ih =>
      intro out h
      cases h with
      | cons r t => exact .cons r (ih _ t)
  refine ⟨.ref (s.heap.objs.size + 1), upd H (s.heap.objs.size + 1) (.lst ((bs.mergeSort (dataLe false enc)).map f)), I.laid (t' := s.toks) (fun b u e => sortedAll_old e) (Nat.le_succ _) (show ObjOk X.prog X.w _ _ _ (.lst ((bs.mergeSort (dataLe false enc)).map f)) from ⟨by rw [List.length_map, List.length_mergeSort]; exact hl, out, c, ve _ _ eo, hc⟩), rfl, q _ hn⟩
theorem rising_pw0 : ∀ {l : List Str} {p : Str}, risingS p l = true → (p :: l).Nodup → (p :: l).Pairwise (fun a b => strLt a b = true)
  | [], p, _, _ => by simp
  | x :: l, p, h, n => by
    simp only [risingS, Bool.and_eq_true, Bool.not_eq_true'] at h
    obtain ⟨n1, n2⟩ := List.nodup_cons.mp n
    have ih := rising_pw0 h.2 n2
    have hx : strLt x p = false := by rw [← h.1, ltCps_eq]; rfl
    have px : strLt p x = true := by
      cases q : strLt p x with
      | true => rfl
      | false => exact absurd (ordS.tri p x q hx) (fun e => n1 (by rw [e]; exact List.mem_cons_self))
    refine List.pairwise_cons.mpr ⟨fun z hz => ?_, ih⟩
    rcases List.mem_cons.mp hz with rfl | hz
    · exact px
    · exact ordS.trans _ _ _ px ((List.pairwise_cons.mp ih).1 z hz)
theorem rising_pw {l : List Str} (h : sortedS l = true) (n : l.Nodup) : l.Pairwise (fun a b => strLt a b = true) := by
  cases l with
  | nil => simp
  | cons p l => exact rising_pw0 h n
def sortedD : List D → Res (D × Fr)
  | [.lst ds] => match sortD ds with
    | some es => .ok (.lst es, .fr)
    | none => .bad
  | [.dic ks _] => match strsD ks with
    | some zs => if zs.length < 64 ∧ zs.Nodup then .ok (.lst ((sortU ordS.toOrd zs).map .str), .fr) else .bad
    | none => .bad
  | _ => .bad
theorem zip_maps {K : PySem.W.Frag} {mg : Str → Option Value} {H : Hp} : ∀ {ds : List D} {vs : List V} {ps : List PyData}, Rps K mg H ds vs → ps.length = ds.length → ∃ bs : List (V × D × PyData), bs.map (·.1) = vs ∧ bs.map (·.2.1) = ds ∧ bs.map (·.2.2) = ps ∧ (bs.map (·.2)) = ds.zip ps ∧ ∀ b ∈ bs, Rp K mg H b.2.1 b.1
  | [], vs, ps, r, h => by
    simp only [Rps] at r
    subst r
    have := List.eq_nil_of_length_eq_zero h
    subst this
    exact ⟨[], rfl, rfl, rfl, rfl, fun b hb => by cases hb⟩
  | d :: ds, vs, ps, r, h => by
    simp only [Rps] at r
    obtain ⟨v, vs', rfl, r1, r2⟩ := r
    cases ps with
    | nil => cases h
    | cons p ps =>
      obtain ⟨bs, e1, e2, e3, e4, e5⟩ := zip_maps (ps := ps) r2 (by simpa using h)
      refine ⟨(v, d, p) :: bs, by simp [e1], by simp [e2], by simp [e3], by simp [e4], fun b hb => ?_⟩
      rcases List.mem_cons.mp hb with rfl | hb
      · exact r1
      · exact e5 b hb
theorem rps_of {K : PySem.W.Frag} {mg : Str → Option Value} {H : Hp} : ∀ {bs : List (V × D × PyData)}, (∀ b ∈ bs, Rp K mg H b.2.1 b.1) → Rps K mg H (bs.map (·.2.1)) (bs.map (·.1))
  | [], _ => .nil
  | b :: bs, h => .cons (h b List.mem_cons_self) (rps_of fun c hc => h c (List.mem_cons_of_mem _ hc))
theorem kD_inj {a b : Key} (h : kD a = kD b) : a = b := by
  cases a <;> cases b <;> simp_all [kD]
theorem keys_strs : ∀ {es : List (Key × V)} {zs : List Str}, strsD (es.map fun e => kD e.1) = some zs → es.map (·.1) = zs.map Sum.inr
  | [], zs, h => by simp only [List.map_nil, strsD, Option.some.injEq] at h; subst h; rfl
  | (k, v) :: es, zs, h => by
    cases k with
    | inl i => simp [kD, strsD] at h
    | inr z =>
      simp only [List.map_cons, kD, strsD, Option.map_eq_some_iff] at h
      obtain ⟨zs', e1, rfl⟩ := h
      rw [List.map_cons, keys_strs e1]; rfl
def BC.sorted : BC where
  name := "sorted"
  f := .builtin "sorted"
  g := sortedD
  boot := PyProof.Rows.boot_sorted
  kind := .inl ⟨_, rfl⟩
  ok := fun X hc hu => ⟨_, (cr_sortedL hu).or (call_sortedD hc), fun W Hs H σ ds vs Q i ps h => by
    unfold sortedD at h
    split at h
    · rename_i es
      split at h
      · rename_i rs hs
        obtain ⟨v, rfl, p⟩ := ps.one
        obtain ⟨a, xs, rfl, q, r⟩ := p.lst i
        unfold sortD at hs
        split at hs
        · rename_i pys ep
          split at hs
          · rename_i hso
            cases hs
            obtain ⟨h1, h2, h3⟩ := sortable_ok hso
            obtain ⟨bs, e1, e2, e3, e4, e5⟩ := zip_maps r (toPys_len ep)
            refine .inl ⟨a, V × D × PyData, bs, (·.1), (·.2.2), rfl, by rw [e1]; exact q, ?_, by rw [e3]; exact h1, by rw [e3]; exact h2, fun b hb => h3 _ (by rw [← e3]; exact List.mem_map.mpr ⟨b, hb, rfl⟩), fun p hp => ?_⟩
            · rw [e1, e3]; exact Rps.dp ep (r.mono i)
            · refine post_lst i h ?_ hp
              rw [← e4]
              have := PySem.W.sort_maps (r := dataLe false fun b : V × D × PyData => b.2.2) (s := dataLe false (Prod.snd (α := D) (β := PyData))) (fun b : V × D × PyData => b.2) (l := bs) fun a _ b _ => rfl
              rw [← this, List.map_map]
              exact rps_of fun b hb => e5 b ((List.mergeSort_perm bs _).mem_iff.mp hb)
          · cases hs
        · cases hs
      · exact h.elim
    · split at h
      · rename_i zs ez
        split at h
        · rename_i hz
          obtain ⟨v, rfl, p⟩ := ps.one
          obtain ⟨a, es, rfl, q, hk, r⟩ : ∃ a es, v = .ref a ∧ H a = some (.dK es) ∧ (es.map fun e => kD e.1) = _ ∧ _ := p.view i
          rw [← hk] at ez
          refine .inr ⟨a, es, zs, rfl, .inl q, keys_strs ez, hz.1, fun ys p pm hso hp => ?_⟩
          have : ys = sortU ordS.toOrd zs := rising_eq ordS (rising_pw hso (pm.nodup_iff.mpr hz.2)) (sortU_pw ordS zs) fun z => (pm.mem_iff).trans (sortU_mem ordS.toOrd).symm
          subst this
          exact post_lst i h (rps_strs _) hp
        · exact h.elim
      · exact h.elim
    · exact h.elim⟩
end MJ

namespace MJ
open PySem PySem.Spec PyProof.Rows L2
/-! ### x[k] = v, x one's own -/
structure PC where
  T : String
  g : D → D → D → Option D
  ok : ∀ X : Cx, X.calm = true → X.A.units + 100 < cLine → ∃ t, PSet X t ∧ ∀ Hs H d o a k v x y d', Same Hs H → H a = some o → RpO X.K X.mg Hs d o → ArgP X true Hs H k x → Rp X.K X.mg Hs v y → g d k v = some d' →
    ∀ Q : Hp → Prop, (∀ o', RpO X.K X.mg Hs d' o' → Q (upd H a o')) → t (.ref a) x y H Q
def PC.run (m : PC) (i : Nat) (k v : CE) (call : Calls) (ρ : List Sl) : Option Fl := stR (v.arg false call ρ) ρ fun dv => match ρ[i]? with
  | some (.ow d) => stR (k.arg true call ρ) ρ fun dk => match m.g d dk dv with
    | some d' => some (.nx (ρ.set i (.ow d')))
    | none => none
  | _ => none
def isTupE : Expr → Bool
  | .Tuple _ _ _ => true
  | _ => false
def C1.put (m : PC) (i : Nat) (k v : CE) : C1 where
  ev := fun call ρ => m.run i k v call ρ
  chk := fun cf x => match x with
    | .Assign [.Subscript (.Name y _) kk _] vv _ => chkVar cf i y && k.chk cf kk && v.chk cf vv && noComp vv && noSlice kk
    | _ => false
  ok := fun {X W cf call} g hp x h => by
    split at h
    · simp only [Bool.and_eq_true] at h
      obtain ⟨⟨⟨⟨hv, h1⟩, h2⟩, h3⟩, h4⟩ := h
      rename_i y yp kk kp vv pos
      simp only [chkVar, Bool.and_eq_true, decide_eq_true_eq, Bool.not_eq_true'] at hv
      obtain ⟨⟨⟨v1, v2⟩, v3⟩, v4⟩ := hv
      have pv := pe_var (X := X) (i := i) (x := y) (pos := yp) (by rw [g.hN]; exact v1) (by rw [g.sc]; exact Vis_of v2) v3 v4
      obtain ⟨tk, pk, qk⟩ := (k.ok g _ h1).arg true
      obtain ⟨tv, pvv, qv⟩ := (v.ok g _ h2).arg false
      obtain ⟨t, ps, hs⟩ := m.ok X g.calm g.units
      have hw : swappedStores [.Subscript (.Name y yp) kk kp] vv X.env = pure none := by cases vv <;> rfl
      refine ⟨_, ps_asg pvv (pg_sub pv pk ps (by intro v; cases kk <;> first | rfl | (simp [noSlice] at h4))) (show swapsWith vv (some (.Subscript (.Name y yp) kk kp)) pos.line X.env = pure false from noComp_sw h3 _ _ _) hw rfl, fun Hs0 H0 Hs H ρ σ D ok h => ?_⟩
      refine stD (b := false) (f := v.arg false call) qv ok h fun dv yv Hs' H' ex rv h' => ?_
      have ok' := ok.grow ex
      cases e : ρ[i]? with
      | none => rw [e] at h'; exact h'.elim
      | some sl =>
        rw [e] at h'
        cases sl with
        | no => exact h'.elim
        | sh d => exact h'.elim
        | ow d =>
          obtain ⟨z, ez, oz⟩ := ok'.has e
          obtain ⟨a, o, rfl, n0, n1, e1, r1⟩ := oz
          refine ⟨_, ez, ?_⟩
          refine stD (b := true) (f := k.arg true call) qk ok' h' fun dk xk Hs2 H2 ex2 rk h2' => ?_
          have ok2 := ok'.grow ex2
          cases em : m.g d dk dv with
          | none => rw [em] at h2'; exact h2'.elim
          | some d' =>
            rw [em] at h2'
            refine hs Hs2 H2 d o a dk dv xk yv d' ex2.i (ex2.h _ _ e1) (r1.mono ex2.s) rk (rv.sh.mono ex2.s) em _ fun o' ro => ?_
            exact h2' _ _ σ (ok2.mut e ez ro)
    · cases h
def setAtD (ds : List D) (i : Int) (v : D) : Option (List D) := (ixN ds.length i).map fun j => ds.set j v
def PC.list : PC where
  T := "list"
  g := fun d k v => match d, k with
    | .lst ds, .int i => (setAtD ds i v).map .lst
    | _, _ => none
  ok := fun X hc hu => ⟨_, set_list, fun Hs H d o a k v x y d' i e r rk rv h Q q => by
    split at h
    · simp only [setAtD, Option.map_map, Option.map_eq_some_iff, Function.comp] at h
      obtain ⟨j, hj, rfl⟩ := h
      obtain ⟨xs, rfl, rs⟩ := r
      exact ⟨a, xs, _, j, rfl, rk.int, e, by rw [rs.len]; exact hj, q _ ⟨_, rfl, rs.set j rv⟩⟩
    · cases h⟩
/-! ### dicts with ints and texts for keys -/
def keyD : D → Option Key
  | .int i => some (.inl i)
  | .str z => some (.inr z)
  | _ => none
theorem keyD_kD (k : Key) : keyD (kD k) = some k := by cases k <;> rfl
theorem keyD_eq {d : D} {k : Key} (h : keyD d = some k) : d = kD k := by
  cases d <;> simp [keyD] at h <;> subst h <;> rfl
def replD (k : Key) (v : D) : List D → List D → List D
  | kk :: ks, d :: ds => (if keyD kk = some k then v else d) :: replD k v ks ds
  | _, _ => []
def hasD (k : Key) (ks : List D) : Bool := ks.any fun kk => decide (keyD kk = some k)
def putD (k : Key) (v : D) (ks ds : List D) : List D × List D := if hasD k ks = true then (ks, replD k v ks ds) else (ks ++ [kD k], ds ++ [v])
def getD' (k : Key) : List D → List D → Option D
  | kk :: ks, d :: ds => if keyD kk = some k then some d else getD' k ks ds
  | _, _ => none
section
variable {K : PySem.W.Frag} {mg : Str → Option Value} {H : Hp}
theorem hasD_any (k : Key) : ∀ es : List (Key × V), hasD k (es.map fun e => kD e.1) = es.any fun kv => decide (kv.1 = k)
  | [] => rfl
  | e :: es => by
    have ih := hasD_any k es
    simp only [hasD, List.map_cons, List.any_cons] at ih ⊢
    rw [ih, keyD_kD]
    simp
theorem rps_repl (k : Key) {v : D} {y : V} (hv : Rp K mg H v y) : ∀ {es : List (Key × V)} {ds : List D}, Rps K mg H ds (es.map (·.2)) → Rps K mg H (replD k v (es.map fun e => kD e.1) ds) ((es.map fun kv => if kv.1 = k then (kv.1, y) else kv).map (·.2))
  | [], ds, h => by simp only [List.map_nil] at h ⊢; exact .nil
  | e :: es, ds, h => by
    cases ds with
    | nil => simp [Rps] at h
    | cons d ds =>
      simp only [List.map_cons, Rps] at h
      obtain ⟨x, xs, e1, r1, r2⟩ := h
      cases e1
      have ih := rps_repl k hv r2
      simp only [List.map_cons, replD, keyD_kD]
      refine .cons ?_ ih
      by_cases c : e.1 = k
      · rw [if_pos (by rw [c]), if_pos c]; exact hv
      · rw [if_neg (by simpa using c), if_neg c]; exact r1
theorem rpO_put {k : Key} {v : D} {y : V} {ks ds : List D} {es : List (Key × V)} (hk : (es.map fun e => kD e.1) = ks) (r : Rps K mg H ds (es.map (·.2))) (hv : Rp K mg H v y) :
    ((putK es k y).map fun e => kD e.1) = (putD k v ks ds).1 ∧ Rps K mg H (putD k v ks ds).2 ((putK es k y).map (·.2)) := by
  subst hk
  unfold putK putD
  rw [hasD_any]
  by_cases c : (es.any fun kv => decide (kv.1 = k)) = true
  · rw [if_pos c, if_pos c]
    refine ⟨?_, rps_repl k hv r⟩
    rw [List.map_map]
    refine List.map_congr_left fun e _ => ?_
    show kD (if e.1 = k then (e.1, y) else e).1 = kD e.1
    split <;> rfl
  · rw [if_neg c, if_neg c]
    exact ⟨by simp, by rw [List.map_append]; exact r.append (.cons hv .nil)⟩
theorem rps_get {k : Key} : ∀ {es : List (Key × V)} {ds : List D} {d : D}, Rps K mg H ds (es.map (·.2)) → getD' k (es.map fun e => kD e.1) ds = some d → ∃ v, valV es k = some v ∧ Rp K mg H d v
  | [], ds, d, r, h => by simp [getD'] at h
  | e :: es, ds, d, r, h => by
    cases ds with
    | nil => simp [getD'] at h
    | cons d0 ds =>
      simp only [List.map_cons, Rps] at r
      obtain ⟨x, xs, e1, r1, r2⟩ := r
      cases e1
      simp only [List.map_cons, getD', keyD_kD, Option.some.injEq] at h
      by_cases c : e.1 = k
      · rw [if_pos c] at h
        cases h
        exact ⟨e.2, valV_pos c, r1⟩
      · rw [if_neg c] at h
        obtain ⟨v, h1, h2⟩ := rps_get r2 h
        exact ⟨v, by rw [valV_neg c]; exact h1, h2⟩
end
theorem argP_key {X : Cx} {b : Bool} {Hs H : Hp} {d : D} {k : Key} {v : V} (h : ArgP X b Hs H d v) (e : keyD d = some k) : v = kV k := by
  rw [keyD_eq e] at h
  cases k with
  | inl i => exact h.int
  | inr z => exact h.str
def PC.dict : PC where
  T := "dict"
  g := fun d k v => match d, keyD k with
    | .dic ks ds, some kk => if ks.length < sizeLine then some (.dic (putD kk v ks ds).1 (putD kk v ks ds).2) else none
    | _, _ => none
  ok := fun X hc hu => ⟨_, set_dict (by omega), fun Hs H d o a k v x y d' i e r rk rv h Q q => by
    split at h
    · rename_i kk ek
      split at h
      · rename_i hl
        cases h
        obtain ⟨es, rfl, hk, rs⟩ := r
        obtain ⟨c1, c2⟩ := rpO_put (k := kk) hk rs rv
        refine ⟨a, _, rfl, ?_, q (.dK (putK es kk y)) ⟨_, rfl, c1, c2⟩⟩
        rw [argP_key rk ek]
        exact DPut.k e (by rw [← hk, List.length_map] at hl; exact hl)
      · cases h
    · cases h⟩
/-- {} -/
def CE.dic0 : CE where
  ev := fun _ _ => .ok (.dic [] [], .fr)
  chk := fun cf x => match x with
    | .Dict [] [] _ => true
    | _ => false
  star := fun cf x h => by cases x <;> first | rfl | cases h
  ok := fun {X W cf call} g x h => by
    split at h
    · refine ⟨_, pe_dnewK, fun Hs0 H0 Hs H ρ σ Q ok h => ?_⟩
      intro p hp
      exact h (.ref p) Hs _ ((Ext.rfl ok.same).own hp _) ⟨p, _, rfl, hp, ok.same.free hp, upd_same, [], rfl, rfl, .nil⟩
    · cases h
/-- d[k], d a dict -/
def dgetD (d k : D) : Res (D × Fr) := match d, keyD k with
  | .dic ks ds, some kk => match getD' kk ks ds with
    | some v => .ok (v, .sh)
    | none => .bad
  | _, _ => .bad
theorem noSlice_sl {e : Expr} (h : noSlice e = true) : NoSl e := by
  intro o i
  cases e <;> first | rfl | (simp [noSlice] at h)
def CE.dget (a b : CE) : CE where
  ev := fun call ρ => (a.arg true call ρ).bind fun d => (b.arg true call ρ).bind fun e => dgetD d e
  chk := fun cf x => match x with
    | .Subscript l r _ => a.chk cf l && b.chk cf r && noSlice r
    | _ => false
  star := fun cf x h => by cases x <;> first | rfl | cases h
  ok := fun {X W cf call} g x h => by
    split at h
    · simp only [Bool.and_eq_true] at h
      obtain ⟨⟨h1, h2⟩, h3⟩ := h
      obtain ⟨ta, pa, qa⟩ := (a.ok g _ h1).arg true
      obtain ⟨tb, pb, qb⟩ := (b.ok g _ h2).arg true
      refine ⟨_, pe_dget (by have := g.units; omega) pa pb (noSlice_sl h3), fun Hs0 H0 Hs H ρ σ Q ok h => ?_⟩
      refine seq2 (R := fun x y H2 => ∃ a v, x = .ref a ∧ DGet H2 a y (some v) ∧ Q v H2) qa qb ok h fun d e x y Hs' H' ex p1 p2 h' => ?_
      unfold dgetD at h'
      split at h'
      · rename_i kk ek
        split at h'
        · rename_i v ev
          obtain ⟨a, es, rfl, q, hk, r⟩ : ∃ a es, x = .ref a ∧ H' a = some (.dK es) ∧ (es.map fun e => kD e.1) = _ ∧ _ := p1.view ex.i
          rw [← hk] at ev
          obtain ⟨w, h1, h2⟩ := rps_get r ev
          refine ⟨a, w, rfl, ?_, post_sh ex.i h' h2⟩
          rw [argP_key p2 ek, ← h1]
          exact DGet.k q
        · exact h'.elim
      · exact h'.elim
    · cases h
/-! ### x += e -/
/-- of ints, of texts -/
def addID : D → D → Option D
  | .int i, .int j => some (.int (i + j))
  | .str i, .str j => if i.length + j.length ≤ sizeLine then some (.str (i ++ j)) else none
  | _, _ => none
def C1.augI (i : Nat) (e : CE) : C1 where
  ev := fun call ρ => match ρ[i]? with
    | some (.sh x) => stR (e.arg true call ρ) ρ fun y => match addID x y with
      | some z => some (.nx (ρ.set i (.sh z)))
      | none => none
    | _ => none
  chk := fun cf x => match x with
    | .AugAssign (.Name y _) .Add v _ => chkLoc cf i y && e.chk cf v
    | _ => false
  ok := fun {X W cf call} g hp x h => by
    split at h
    · simp only [Bool.and_eq_true] at h
      obtain ⟨l1, l2, l3⟩ := g.loc h.1
      obtain ⟨t, p, q⟩ := (e.ok g _ h.2).arg true
      refine ⟨_, ps_aug (ti := fun x y H Q => rI0 (fun i j => .int (i + j)) x y H Q ∨ ∃ i j, x = V.str i ∧ y = V.str j ∧ i.length + j.length ≤ sizeLine ∧ Q (.str (i ++ j)) H) g.nodup l1 l2 p
        (fun pins s σ H x y v u Q I rx ry h => h.elim (iop_add pins s σ H x y v u Q I rx ry) (iop_add_str pins s σ H x y v u Q I rx ry)) l3, fun Hs0 H0 Hs H ρ σ D ok h => ?_⟩
      dsimp only at h
      split at h
      · rename_i dx er
        obtain ⟨z, ez, oz⟩ := ok.has er
        obtain ⟨vx, rfl, rx⟩ := oz
        refine ⟨vx, ez, ?_⟩
        refine stD (b := true) (f := e.arg true call) q ok h fun dy y Hs' H' ex ry h' => ?_
        have ok' := ok.grow ex
        split at h'
        · rename_i dz ed
          unfold addID at ed
          split at ed
          · cases ed
            simp only [Rp] at rx
            exact .inl ⟨_, _, rx, ry.int, h' Hs' H' _ (ok'.setSh i (by simp [Rp]))⟩
          · split at ed
            · rename_i hl
              cases ed
              simp only [Rp] at rx
              exact .inr ⟨_, _, rx, ry.str, hl, h' Hs' H' _ (ok'.setSh i (by simp [Rp]))⟩
            · cases ed
          · cases ed
        · exact h'.elim
      · exact h.elim
    · cases h
/-- of a list of one's own, by a new list -/
def C1.augL (i : Nat) (e : CE) : C1 where
  ev := fun call ρ => match ρ[i]? with
    | some (.ow (.lst ds)) => stR (e.ev call ρ) ρ fun y => match y with
      | (.lst es, .fr) => if ds.length + es.length ≤ sizeLine then some (.nx (ρ.set i (.ow (.lst (ds ++ es))))) else none
      | _ => none
    | _ => none
  chk := fun cf x => match x with
    | .AugAssign (.Name y _) .Add v _ => chkLoc cf i y && e.chk cf v
    | _ => false
  ok := fun {X W cf call} g hp x h => by
    split at h
    · simp only [Bool.and_eq_true] at h
      obtain ⟨l1, l2, l3⟩ := g.loc h.1
      obtain ⟨t, p, q⟩ := e.ok g _ h.2
      refine ⟨_, ps_aug (ti := rExt2) g.nodup l1 l2 p iop_ext l3, fun Hs0 H0 Hs H ρ σ D ok h => ?_⟩
      dsimp only at h
      split at h
      · rename_i ds er
        obtain ⟨z, ez, oz⟩ := ok.has er
        obtain ⟨a, o, rfl, n0, n1, e1, r1⟩ := id oz
        refine ⟨.ref a, ez, ?_⟩
        refine stE (f := e.ev call) q ok h fun dy y Hs' H' ex ry h' => ?_
        have ok' := ok.grow ex
        split at h'
        · rename_i es
          split at h'
          · rename_i hl
            obtain ⟨xs, rfl, rx⟩ := r1
            obtain ⟨b, ob, rfl, m0, m1, f1, rb⟩ := ry
            obtain ⟨zs, rfl, rz⟩ := rb
            have hset : σ.set i (some (V.ref a)) = σ := by
              apply List.ext_getElem?
              intro j
              by_cases c : i = j
              · subst c
                have hi : i < σ.length := (List.getElem?_eq_some_iff.mp ez).1
                rw [List.getElem?_set_self hi, ez]
              · rw [List.getElem?_set_ne c]
            refine ⟨a, b, xs, zs, rfl, rfl, ex.h _ _ e1, f1, by rw [rx.len, rz.len]; exact hl, ?_⟩
            show D.nx (σ.set i (some (V.ref a))) _
            rw [hset]
            exact h' Hs' _ _ (ok'.mut er ez ⟨_, rfl, (rx.mono ex.s).append rz⟩)
          · exact h'.elim
        · exact h'.elim
      · exact h.elim
    · cases h
/-! ### more methods -/
def MC.pop : MC where
  name := "pop"
  T := "list"
  id := "list.pop"
  pa := PySem.F.plainAttrs_list
  slot := PySem.F.slot_list_pop
  hty := PySem.F.type_list_pop
  g := fun d ds => match d, ds with
    | .lst es, [] => match es.getLast? with
      | some y => some (.lst es.dropLast, y)
      | none => none
    | _, _ => none
  ok := fun X hc hu => ⟨_, mt_pop, fun Hs H d o a ds vs Q d' res i e r rs h k => by
    split at h
    · split at h
      · rename_i y hy
        cases h
        obtain ⟨xs, rfl, r⟩ := r
        simp only [Rps] at rs
        subst rs
        rw [List.getLast?_eq_getElem?] at hy
        obtain ⟨v, h1, h2⟩ := r.get hy
        refine ⟨a, xs, v, rfl, rfl, e, by rw [r.len]; exact h1, k _ v ⟨_, rfl, ?_⟩ h2⟩
        have := r.take (xs.length - 1)
        rw [List.dropLast_eq_take, List.dropLast_eq_take, ← r.len]
        exact this
      · cases h
    · cases h⟩
def MC.clear : MC where
  name := "clear"
  T := "list"
  id := "list.clear"
  pa := PySem.F.plainAttrs_list
  slot := PySem.F.slot_list_clear
  hty := PySem.F.type_list_clear
  g := fun d ds => match d, ds with
    | .lst es, [] => some (.lst [], .non)
    | _, _ => none
  ok := fun X hc hu => ⟨_, mt_clear, fun Hs H d o a ds vs Q d' res i e r rs h k => by
    split at h
    · cases h
      obtain ⟨xs, rfl, r⟩ := r
      simp only [Rps] at rs
      subst rs
      exact ⟨a, xs, rfl, rfl, e, k _ .non ⟨_, rfl, .nil⟩ (by simp [Rp])⟩
    · cases h⟩
def MC.insert : MC where
  name := "insert"
  T := "list"
  id := "list.insert"
  pa := PySem.F.plainAttrs_list
  slot := PySem.F.slot_list_insert
  hty := PySem.F.type_list_insert
  g := fun d ds => match d, ds with
    | .lst es, [.int i, y] => if es.length < sizeLine ∧ 0 ≤ i ∧ i < 2 ^ 63 then some (.lst (es.take i.toNat ++ [y] ++ es.drop i.toNat), .non) else none
    | _, _ => none
  ok := fun X hc hu => ⟨_, mt_insert, fun Hs H d o a ds vs Q d' res i e r rs h k => by
    split at h
    · split at h
      · rename_i hz
        cases h
        obtain ⟨xs, rfl, r⟩ := r
        simp only [Rps, Rp] at rs
        obtain ⟨v, vs', rfl, rfl, w, ws, rfl, r1, rfl⟩ := rs
        refine ⟨a, xs, _, w, rfl, rfl, e, by rw [r.len]; exact hz.1, hz.2.1, hz.2.2, k _ .non ⟨_, rfl, ?_⟩ (by simp [Rp])⟩
        exact ((r.take _).append (.cons r1 .nil)).append (r.drop _)
      · cases h
    · cases h⟩
end MJ

namespace MJ
open PySem PySem.Spec PyProof.Rows L2
/-! ### tuples of texts that are known to bear no dict: tuple(xs), x.index(y) -/
theorem vals_strs_map {K : PySem.W.Frag} {mg : Str → Option Value} {H : Hp} {zs : List Str} {ds : List D} {vs : List V} (e : strsD ds = some zs) (r : Rps K mg H ds vs) : vs = zs.map V.str := r.strs e
theorem cr_tupN {X : Cx} : CallR X (.type "tuple") (fun xs H Q => ∃ (a : Addr) (vs : List V), xs = [V.ref a] ∧ SqL X.K H a vs ∧ ∀ (l : Addr) (o : Obj), H l = none → o.dict = none → Q (.ref l) (upd H l (.frz o (.tup vs)))) := by
  intro pins s σ H xs us Q I r h
  obtain ⟨a, vs, rfl, hq, q⟩ := h
  rw [Vals.ref1 r]
  obtain ⟨its, r', pl, hz⟩ := I.list hq
  have hlen := r'.length
  refine call_tuple_list pl.isList (fun h' kp => ?_) (by simp only [List.size_toArray] <;> omega)
  have I1 : Inv X pins σ H { s with heap := h' } := I.kept (t' := s.toks) kp
  refine ⟨.ref h'.objs.size, _, I1.laid (t' := s.toks) (fun b o e => Heap.get?_push_of_some _ e) (Nat.le_refl _)
    (show ObjOk X.prog X.w _ _ _ (.frz { cls := .type "tuple", data := .seq its.toArray } (.tup vs)) from ⟨Heap.get?_push_size _ rfl, hz, its, r', IsTup.new _ _⟩), rfl, q _ _ (I1.hok.fresh (Nat.le_refl _)) rfl⟩
def tupleND : List D → Res (D × Fr)
  | [.lst ds] => match strsD ds with
    | some zs => .ok (.nms zs, .sh)
    | none => .bad
  | _ => .bad
def BC.tupleN : BC where
  name := "tuple"
  f := .type "tuple"
  g := tupleND
  boot := PyProof.Rows.boot_tuple
  kind := .inr ⟨_, rfl⟩
  ok := fun X hc hu => ⟨_, cr_tupN, fun W Hs H σ ds vs Q i ps h => by
    unfold tupleND at h
    split at h
    · split at h
      · rename_i zs ez
        obtain ⟨v, rfl, p⟩ := ps.one
        obtain ⟨a, xs, rfl, q, r⟩ := p.lst i
        have := r.strs ez
        subst this
        refine ⟨a, _, rfl, q, fun l o hl ho => ?_⟩
        have n1 := i.free hl
        refine h (.ref l) (upd Hs l (.frz o (.tup (zs.map V.str)))) _ ((Ext.rfl i).new hl _) ?_
        show Rp X.K X.mg _ (.nms zs) _
        simp only [Rp]
        exact ⟨l, o, rfl, upd_same, ho⟩
      · exact h.elim
    · exact h.elim⟩
section
variable {X : Cx} {o e : Expr} {es : List Expr} {to : TE} {t : TA} {name : Str} {apos cpos : Pos} {id : String} {r : V → List V → Hp → VK → Prop}
def tTM (r : V → List V → Hp → VK → Prop) (to : TE) (t : TA) : TE := fun σ H Q => to σ H fun x H1 => (∃ p ob ys, x = .ref p ∧ H1 p = some (.frz ob (.tup ys)) ∧ ob.dict = none) ∧ t σ H1 fun xs H2 => r x xs H2 Q
theorem pe_tm (slot : Slot "tuple" name id) (hty : typeOf (.builtin id) = pure (.type "method_descriptor")) (hm : MtR X id r) (ho : PE X o to) (ha : PA X (e :: es) t) (hbase : attributeBase o name X.env (eval o X.env) = eval o X.env)
    (hfew : ((backTo cpos (starEach (e :: es) X.env)).all (fun x => !x.1) && (backToKw cpos (keywordEach [] X.env)).all (fun x => x.1.isSome) && decide ((e :: es).length + ([] : List Keyword).length + (if ([] : List Keyword).isEmpty then 0 else 1) < 30)) = true)
    (hline : (apos.endLine == cpos.line) = true) (hs : starEach (e :: es) X.env = (false, eval e X.env) :: starEach es X.env) (hpl : (backTo cpos (starEach es X.env)).any (·.1) = false) :
    PE X (.Call (.Attribute o name apos) (e :: es) [] cpos) (tTM r to t) := by
  refine ⟨fun pins s σ H Q I h => ?_⟩
  refine wpAny_Call_method_late hbase hfew hline rfl (thn (ho.run pins s σ H _ I h) fun v s1 ⟨x, H1, I1, r1, ty, q1⟩ => ?_)
  obtain ⟨p, ob, ys, rfl, hp, hd⟩ := ty
  cases r1
  obtain ⟨g1, _, its, _, oo, g2, gc, _⟩ := I1.hok p _ hp
  rw [g1] at g2
  cases g2
  refine ⟨"tuple", id, PySem.F.plainAttrs_tuple, slot, hty, ⟨_, g1, gc⟩, fun a ea => by cases ea; exact ⟨_, g1, hd⟩, ?_⟩
  have hA := ha.run cpos pins s1 σ H1 _ I1 q1
  rw [hs] at hA ⊢
  refine Calls.callWith_builtin (by show (false || (backTo cpos (starEach es X.env)).any (·.1)) = false; rw [hpl]; rfl) (Calls.evalArgs_plain ?_)
  exact thn hA fun us s2 ⟨vs, H2, I2, r2, q2⟩ => hm pins s2 σ H2 (.ref p) vs _ us Q I2 rfl r2 q2
end
def isNameE : Expr → Bool
  | .Name _ _ => true
  | _ => false
def idxS (z : Str) : List Str → Option Nat
  | [] => none
  | y :: ys => if y = z then some 0 else (idxS z ys).map (· + 1)
theorem idxS_at {z : Str} : ∀ {ys : List Str} {j : Nat}, idxS z ys = some j → ys[j]? = some z ∧ ∀ m, m < j → ys[m]? ≠ some z
  | [], j, h => by simp [idxS] at h
  | y :: ys, j, h => by
    unfold idxS at h
    by_cases e : y = z
    · rw [if_pos e] at h
      cases h
      subst e
      exact ⟨rfl, fun m hm => absurd hm (Nat.not_lt_zero _)⟩
    · rw [if_neg e, Option.map_eq_some_iff] at h
      obtain ⟨i, hi, rfl⟩ := h
      obtain ⟨h1, h2⟩ := idxS_at hi
      refine ⟨by simpa using h1, fun m hm => ?_⟩
      cases m with
      | zero => simpa using e
      | succ m => simpa using h2 m (by omega)
theorem idxS_some {z : Str} : ∀ {ys : List Str}, z ∈ ys → ∃ j, idxS z ys = some j ∧ j < ys.length
  | [], h => by cases h
  | y :: ys, h => by
    unfold idxS
    by_cases e : y = z
    · exact ⟨0, by rw [if_pos e], by simp⟩
    · rcases List.mem_cons.mp h with h | h
      · exact absurd h.symm e
      · obtain ⟨j, h1, h2⟩ := idxS_some h
        exact ⟨j + 1, by rw [if_neg e, h1]; rfl, by simpa using h2⟩
def idxD : D → D → Res (D × Fr)
  | .nms zs, .str z => match idxS z zs with
    | some j => .ok (.int (j : Nat), .sh)
    | none => .bad
  | _, _ => .bad
/-- x.index(e), x a name -/
def CE.tidx (o e : CE) : CE where
  ev := fun call ρ => (o.arg false call ρ).bind fun d => match d with
    | .nms zs => (e.arg false call ρ).bind fun y => idxD (.nms zs) y
    | _ => .bad
  chk := fun cf x => match x with
    | .Call (.Attribute (.Name y yp) nm apos) [a] [] cpos => decide (nm = ("index" : Str)) && o.chk cf (.Name y yp) && e.chk cf a && (apos.endLine == cpos.line)
    | _ => false
  star := fun cf x h => by cases x <;> first | rfl | cases h
  ok := fun {X W cf call} g x h => by
    split at h
    · simp only [Bool.and_eq_true, decide_eq_true_eq] at h
      obtain ⟨⟨⟨rfl, h1⟩, h2⟩, h3⟩ := h
      rename_i y yp apos a cpos
      obtain ⟨to, po, qo⟩ := (o.ok g _ h1).arg false
      obtain ⟨ta, pa, qa⟩ := ja_cons ((e.ok g _ h2).arg false) (ja_nil (b := false)) (e.star _ _ h2)
      have hst := e.star _ _ h2
      refine ⟨_, pe_tm (r := _) PySem.F.slot_tuple_index PySem.F.type_tuple_index mt_tup_index po pa rfl (m_few (by rw [List.all_cons, hst]; rfl) (by simp)) h3 (starEach_cons hst) (no_star rfl), fun Hs0 H0 Hs H ρ σ Q ok h => ?_⟩
      dsimp only at h
      refine qo Hs0 H0 Hs H ρ σ _ ok ?_
      dsimp only
      cases ed : argR false (o.ev call ρ) with
      | bad => simp only [CE.arg, ed] at h; exact h.elim
      | ex c es => simp only [CE.arg, ed] at h; exact h
      | ok d =>
        simp only [CE.arg, ed, Res.bind_ok] at h
        intro v Hs1 H1 e1 p1
        have ok1 := ok.grow e1
        cases d with
        | nms zs =>
          have p2 := p1.sh
          simp only [Rp] at p2
          obtain ⟨b, ob, rfl, hb, hd⟩ := p2
          refine ⟨⟨b, ob, _, rfl, e1.i _ _ hb, hd⟩, qa Hs0 H0 Hs1 H1 ρ σ _ ok1 ?_⟩
          dsimp only at h ⊢
          cases ey : argR false (e.ev call ρ) with
          | bad => simp only [CE.arg, ey] at h; exact h.elim
          | ex c es => simp only [CE.arg, ey] at h; exact fun cls dd Hs' H' e' q => h cls dd Hs' H' (e1.trans e') q
          | ok dy =>
            simp only [CE.arg, ey, Res.bind_ok] at h
            intro vs Hs2 H2 e2 ps
            obtain ⟨w, rfl, pw⟩ := ps.one
            have h2 := h.back (e1.trans e2)
            unfold idxD at h2
            split at h2
            · rename_i zs' z ez
              cases ez
              split at h2
              · rename_i j hz
                obtain ⟨h3, h4⟩ := idxS_at hz
                exact ⟨b, zs, z, j, rfl, by rw [pw.str], .inl (.inr ⟨ob, e2.h _ _ (e1.i _ _ hb)⟩), h3, h4, post_int e2.i h2⟩
              · exact h2.elim
            · exact h2.elim
        | _ => exact h.elim
    · cases h
end MJ

namespace MJ
open PySem PySem.Spec PyProof.Rows L2
section
variable (call : Calls) (ρ : List Sl)
@[simp] theorem CE.var_ev (i : Nat) : (CE.var i).ev call ρ = slD (ρ.getD i .no) := rfl
@[simp] theorem CE.int_ev (i : Int) : (CE.int i).ev call ρ = .ok (.int i, .sh) := rfl
@[simp] theorem CE.bl_ev (i : Bool) : (CE.bl i).ev call ρ = .ok (.bl i, .sh) := rfl
@[simp] theorem CE.str_ev (i : Str) : (CE.str i).ev call ρ = .ok (.str i, .sh) := rfl
@[simp] theorem CE.non_ev : CE.non.ev call ρ = .ok (.non, .sh) := rfl
@[simp] theorem slD_sh (d : D) : slD (.sh d) = .ok (d, .sh) := rfl
@[simp] theorem slD_ow (d : D) : slD (.ow d) = .ok (d, .bo) := rfl
@[simp] theorem argR_sh (b : Bool) (d : D) : argR b (.ok (d, .sh)) = .ok d := by simp [argR]
@[simp] theorem argR_fr (b : Bool) (d : D) : argR b (.ok (d, .fr)) = .ok d := by simp [argR]
@[simp] theorem argR_bo (d : D) : argR true (.ok (d, .bo)) = .ok d := by simp [argR]
@[simp] theorem argR_ex (b : Bool) (c : Str) (ds : List D) : argR b (.ex c ds) = .ex c ds := rfl
@[simp] theorem CE.arg_eq (e : CE) (b : Bool) : e.arg b call ρ = argR b (e.ev call ρ) := rfl
@[simp] theorem CE.op_ev (op : Operator) (o : B2 (binaryOp op)) (a b : CE) : (CE.op op o a b).ev call ρ = (argR o.b1 (a.ev call ρ)).bind fun d => (argR o.b2 (b.ev call ρ)).bind fun e => o.g d e := rfl
@[simp] theorem CE.cmp_ev (op : CmpOp) (o : B2 (compareOp op)) (a b : CE) : (CE.cmp op o a b).ev call ρ = (argR o.b1 (a.ev call ρ)).bind fun d => (argR o.b2 (b.ev call ρ)).bind fun e => o.g d e := rfl
@[simp] theorem CE.ix_ev (o : I2) (a b : CE) : (CE.ix o a b).ev call ρ = (argR o.b1 (a.ev call ρ)).bind fun d => (argR o.b2 (b.ev call ρ)).bind fun e => o.g d e := rfl
@[simp] theorem CE.tup_ev (es : CEs) : (CE.tup es).ev call ρ = (es.ev false call ρ).bind fun ds => if ds.length ≤ sizeLine then .ok (.tup ds, .sh) else .bad := rfl
@[simp] theorem CE.lst_ev (es : CEs) : (CE.lst es).ev call ρ = (es.ev false call ρ).bind fun ds => if ds.length ≤ sizeLine then .ok (.lst ds, .fr) else .bad := rfl
@[simp] theorem CEs.nil_ev (b : Bool) : CEs.nil.ev b call ρ = .ok [] := rfl
@[simp] theorem CEs.cons_ev (b : Bool) (e : CE) (es : CEs) : (CEs.cons e es).ev b call ρ = (argR b (e.ev call ρ)).bind fun d => (es.ev b call ρ).bind fun ds => .ok (d :: ds) := rfl
@[simp] theorem CE.call_ev (f : Str) (es : CEs) : (CE.call f es).ev call ρ = (es.ev false call ρ).bind fun ds => toE (call f ds) := rfl
@[simp] theorem CE.blt_ev (o : BC) (es : CEs) : (CE.blt o es).ev call ρ = (es.ev true call ρ).bind o.g := rfl
@[simp] theorem CE.isi_ev (e : CE) (T : Str) (t : String) : (CE.isi e T t).ev call ρ = (argR true (e.ev call ρ)).bind (isiD t) := rfl
@[simp] theorem CE.slc_ev (e : CE) (lo hi : CO) : (CE.slc e lo hi).ev call ρ = (argR true (e.ev call ρ)).bind fun d => (lo.ev call ρ).bind fun l => (hi.ev call ρ).bind fun u => sliceD d l u := rfl
@[simp] theorem CO.no_ev : CO.no.ev call ρ = .ok none := rfl
@[simp] theorem CE.neg_ev (e : CE) : (CE.neg e).ev call ρ = (argR true (e.ev call ρ)).bind fun d => match d with
    | .int i => .ok (.int (-i), .sh)
    | _ => .bad := rfl
def intO : D → Res (Option Int)
  | .int i => .ok (some i)
  | _ => .bad
@[simp] theorem intO_int (i : Int) : intO (.int i) = .ok (some i) := rfl
@[simp] theorem CO.at_ev (e : CE) : (CO.at e).ev call ρ = (argR true (e.ev call ρ)).bind intO := by
  show (argR true (e.ev call ρ)).bind _ = _
  congr 1
@[simp] theorem CE.not_ev (e : CE) : (CE.not e).ev call ρ = (toB (e.ev call ρ)).bind fun b => .ok (.bl (!b), .sh) := rfl
@[simp] theorem CE.bop_ev {op : PySem.BoolOp} (r : CV op) : (CE.bop r).ev call ρ = r.ev call ρ := rfl
@[simp] theorem CV.one_ev (op : PySem.BoolOp) (e : CE) : (CV.one op e).ev call ρ = e.ev call ρ := rfl
@[simp] theorem CV.and_ev (a : CE) (r : CV .And) : (CV.and a r).ev call ρ = (toB (a.ev call ρ)).bind fun b => if b = true then r.ev call ρ else .ok (.bl false, .sh) := rfl
@[simp] theorem CV.or_ev (a : CE) (r : CV .Or) : (CV.or a r).ev call ρ = (toB (a.ev call ρ)).bind fun b => if b = true then .ok (.bl true, .sh) else r.ev call ρ := rfl
@[simp] theorem toB_bl (b : Bool) (f : Fr) : toB (.ok (.bl b, f)) = .ok b := rfl
@[simp] theorem CE.ite_ev (c : CT) (a b : CE) : (CE.ite c a b).ev call ρ = (c.ev call ρ).bind fun k => if k = true then a.ev call ρ else b.ev call ρ := rfl
@[simp] theorem CE.lc_ev (own : List (Str × Nat)) (g : CG) (it : CI) (c : CIf) (e : CE) : (CE.lc own g it c e).ev call ρ = lcRes g it c e (own.map (·.2)) call ρ := rfl
@[simp] theorem CT.val_ev (e : CE) : (CT.val e).ev call ρ = toB (e.ev call ρ) := rfl
@[simp] theorem CT.cmp_ev (op : CmpOp) (o : B2 (compareOp op)) (a b : CE) : (CT.cmp op o a b).ev call ρ = toB ((argR o.b1 (a.ev call ρ)).bind fun d => (argR o.b2 (b.ev call ρ)).bind fun e => o.g d e) := rfl
@[simp] theorem CT.not_ev (a : CT) : (CT.not a).ev call ρ = (a.ev call ρ).bind fun b => .ok (!b) := rfl
@[simp] theorem CT.bop_ev {op : PySem.BoolOp} (r : CW op) : (CT.bop r).ev call ρ = r.ev call ρ := rfl
@[simp] theorem CW.and1_ev (a : CT) : (CW.and1 a).ev call ρ = a.ev call ρ := rfl
@[simp] theorem CW.or1_ev (a : CT) : (CW.or1 a).ev call ρ = a.ev call ρ := rfl
@[simp] theorem CW.and_ev (a : CT) (r : CW .And) : (CW.and a r).ev call ρ = (a.ev call ρ).bind fun b => if b = true then r.ev call ρ else .ok false := rfl
@[simp] theorem CW.or_ev (a : CT) (r : CW .Or) : (CW.or a r).ev call ρ = (a.ev call ρ).bind fun b => if b = true then .ok true else r.ev call ρ := rfl
@[simp] theorem CIf.no_ev : CIf.no.ev call ρ = .ok true := rfl
@[simp] theorem CIf.one_ev (c : CT) : (CIf.one c).ev call ρ = c.ev call ρ := rfl
@[simp] theorem CI.seq_ev (e : CE) : (CI.seq e).ev call ρ = (argR false (e.ev call ρ)).bind items := rfl
@[simp] theorem items_lst (ds : List D) : items (.lst ds) = .ok ds := rfl
@[simp] theorem items_tup (ds : List D) : items (.tup ds) = .ok ds := rfl
@[simp] theorem items_nms (zs : List Str) : items (.nms zs) = .ok (zs.map .str) := rfl
@[simp] theorem items_str (z : Str) : items (.str z) = .ok (chars z) := rfl
def rg1 : D → Res (List D)
  | .int j => if small62 j = true then .ok (rangeD 0 j.toNat) else .bad
  | _ => .bad
@[simp] theorem CI.range1_ev (e : CE) : (CI.range1 e).ev call ρ = (argR true (e.ev call ρ)).bind rg1 := by
  show (argR true (e.ev call ρ)).bind _ = _
  congr 1
def rg2 : D → D → Res (List D)
  | .int i, .int j => if small62 i = true ∧ small62 j = true then .ok (rangeD i (j - i).toNat) else .bad
  | _, _ => .bad
@[simp] theorem CI.range2_ev (e f : CE) : (CI.range2 e f).ev call ρ = (argR true (e.ev call ρ)).bind fun d => (argR true (f.ev call ρ)).bind (rg2 d) := by
  show ((argR true (e.ev call ρ)).bind fun d => (argR true (f.ev call ρ)).bind _) = _
  congr 1
@[simp] theorem CG.name_ev (i : Nat) (d : D) : (CG.name i).ev d ρ = .ok (ρ.set i (.sh d)) := rfl
@[simp] theorem CG.tup_ev (gs : CGs) (ds : List D) : (CG.tup gs).ev (.tup ds) ρ = if ds.length = gs.n then gs.ev ds ρ else .bad := rfl
@[simp] theorem CGs.nil_ev : CGs.nil.ev [] ρ = .ok ρ := rfl
@[simp] theorem CGs.cons_ev (i : Nat) (r : CGs) (d : D) (ds : List D) : (CGs.cons i r).ev (d :: ds) ρ = r.ev ds (ρ.set i (.sh d)) := rfl
@[simp] theorem CGs.nil_n : CGs.nil.n = 0 := rfl
@[simp] theorem CGs.cons_n (i : Nat) (r : CGs) : (CGs.cons i r).n = r.n + 1 := rfl
@[simp] theorem CS.nil_ev : CS.nil.ev call ρ = some (.nx ρ) := rfl
@[simp] theorem CS.cons_ev (a : C1) (r : CS) : (CS.cons a r).ev call ρ = andThen (a.ev call ρ) (r.ev call) := rfl
@[simp] theorem CS.share_ev (i : Nat) (r : CS) : (CS.share i r).ev call ρ = r.ev call (shareSl ρ i) := rfl
@[simp] theorem C1.set_ev (i : Nat) (e : CE) : (C1.set i e).ev call ρ = stR (e.ev call ρ) ρ (setR i ρ) := rfl
@[simp] theorem C1.setLc_ev (i : Nat) (own : List (Str × Nat)) (g : CG) (it : CI) (c : CIf) (e : CE) : (C1.setLc i own g it c e).ev call ρ = stR (lcRes g it c e (own.map (·.2)) call ρ) ρ (setR i ρ) := rfl
@[simp] theorem setR_sh (i : Nat) (d : D) : setR i ρ (d, .sh) = some (.nx (ρ.set i (.sh d))) := rfl
@[simp] theorem setR_fr (i : Nat) (d : D) : setR i ρ (d, .fr) = some (.nx (ρ.set i (.ow d))) := rfl
@[simp] theorem C1.asg_ev (t : CG) (e : CE) : (C1.asg t e).ev call ρ = stR (argR false (e.ev call ρ)) ρ fun d => match t.ev d ρ with
    | .ok ρ' => some (.nx ρ')
    | _ => none := rfl
@[simp] theorem C1.expr_ev (e : CE) : (C1.expr e).ev call ρ = stR (e.ev call ρ) ρ fun _ => some (.nx ρ) := rfl
@[simp] theorem C1.ret_ev (e : CE) : (C1.ret e).ev call ρ = stR (e.ev call ρ) ρ retR := rfl
@[simp] theorem retR_sh (d : D) : retR (d, .sh) = some (.rt d false) := rfl
@[simp] theorem retR_fr (d : D) : retR (d, .fr) = some (.rt d true) := rfl
def retSl : Sl → Option Fl
  | .sh d => some (Fl.rt d false)
  | .ow d => some (Fl.rt d true)
  | .no => none
@[simp] theorem retSl_sh (d : D) : retSl (.sh d) = some (.rt d false) := rfl
@[simp] theorem retSl_ow (d : D) : retSl (.ow d) = some (.rt d true) := rfl
@[simp] theorem C1.retv_ev (i : Nat) : (C1.retv i).ev call ρ = retSl (ρ.getD i .no) := by
  show (match ρ.getD i .no with
    | .sh d => some (Fl.rt d false)
    | .ow d => some (Fl.rt d true)
    | .no => none) = _
  cases ρ.getD i .no <;> rfl
@[simp] theorem C1.ite_ev (c : CT) (a b : CS) : (C1.ite c a b).ev call ρ = stR (c.ev call ρ) ρ fun k => if k = true then a.ev call ρ else b.ev call ρ := rfl
@[simp] theorem C1.for_ev (g : CG) (it : CI) (b : CS) : (C1.for_ g it b).ev call ρ = stR (it.ev call ρ) ρ fun ds => forFold (forStep g b call) ds ρ := rfl
@[simp] theorem C1.while_ev (c : CT) (b : CS) : (C1.while_ c b).ev call ρ = whileFold (c.ev call) (b.ev call) wfuel ρ := rfl
@[simp] theorem C1.meth_ev (m : MC) (i : Nat) (es : CEs) : (C1.meth m i es).ev call ρ = stR (m.run i es call ρ) ρ fun p => some (.nx p.2) := rfl
@[simp] theorem forFold_nil (step : D → List Sl → Option Fl) : forFold step [] ρ = some (.nx ρ) := rfl
@[simp] theorem toRet_rt (d : D) (b : Bool) : toRet (some (.rt d b)) = .ok (d, b) := rfl
@[simp] theorem toRet_nx : toRet (some (.nx ρ)) = .ok (.non, false) := rfl
@[simp] theorem toE_ok (d : D) (b : Bool) : toE (.ok (d, b)) = .ok (d, flag b) := rfl
@[simp] theorem flag_f : flag false = .sh := rfl
@[simp] theorem flag_t : flag true = .fr := rfl
end
/-! the operations' functions -/
@[simp] theorem B2.add_g : B2.add.g = addD := rfl
@[simp] theorem B2.add_1 : B2.add.b1 = true := rfl
@[simp] theorem B2.add_2 : B2.add.b2 = true := rfl
@[simp] theorem addD_int (i j : Int) : addD (.int i) (.int j) = .ok (.int (i + j), .sh) := rfl
@[simp] theorem B2.ints_1 (sem : Value → Value → Sem Value) (C : Int → Int → Prop) [∀ i j, Decidable (C i j)] (f : Int → Int → Int) (h) : (B2.ints sem C f h).b1 = true := rfl
@[simp] theorem B2.ints_2 (sem : Value → Value → Sem Value) (C : Int → Int → Prop) [∀ i j, Decidable (C i j)] (f : Int → Int → Int) (h) : (B2.ints sem C f h).b2 = true := rfl
@[simp] theorem B2.sub_1 : B2.sub.b1 = true := rfl
@[simp] theorem B2.sub_2 : B2.sub.b2 = true := rfl
@[simp] theorem B2.sub_g (i j : Int) : B2.sub.g (.int i) (.int j) = .ok (.int (i - j), .sh) := rfl
@[simp] theorem B2.mul_1 : B2.mul.b1 = true := rfl
@[simp] theorem B2.mul_2 : B2.mul.b2 = true := rfl
@[simp] theorem B2.mul_g (i j : Int) : B2.mul.g (.int i) (.int j) = if CMulW i j then .ok (.int (i * j), .sh) else .bad := rfl
@[simp] theorem B2.mod_1 : B2.mod.b1 = true := rfl
@[simp] theorem B2.mod_2 : B2.mod.b2 = true := rfl
@[simp] theorem B2.mod_g (i j : Int) : B2.mod.g (.int i) (.int j) = if 0 < j then .ok (.int (i % j), .sh) else .bad := rfl
@[simp] theorem B2.fdiv_1 : B2.fdiv.b1 = true := rfl
@[simp] theorem B2.fdiv_2 : B2.fdiv.b2 = true := rfl
@[simp] theorem B2.fdiv_g (i j : Int) : B2.fdiv.g (.int i) (.int j) = if CDivW i j then .ok (.int (i / j), .sh) else .bad := rfl
@[simp] theorem B2.lt_1 : B2.lt.b1 = true := rfl
@[simp] theorem B2.lt_2 : B2.lt.b2 = true := rfl
@[simp] theorem B2.lt_g (i j : Int) : B2.lt.g (.int i) (.int j) = .ok (.bl (decide (i < j)), .sh) := rfl
@[simp] theorem B2.gt_1 : B2.gt.b1 = true := rfl
@[simp] theorem B2.gt_2 : B2.gt.b2 = true := rfl
@[simp] theorem B2.gt_g (i j : Int) : B2.gt.g (.int i) (.int j) = .ok (.bl (decide (j < i)), .sh) := rfl
@[simp] theorem B2.ge_1 : B2.ge.b1 = true := rfl
@[simp] theorem B2.ge_2 : B2.ge.b2 = true := rfl
@[simp] theorem B2.ge_g (i j : Int) : B2.ge.g (.int i) (.int j) = .ok (.bl (decide (j ≤ i)), .sh) := rfl
@[simp] theorem B2.leA_1 : B2.leA.b1 = true := rfl
@[simp] theorem B2.leA_2 : B2.leA.b2 = true := rfl
@[simp] theorem B2.leA_g : B2.leA.g = leD := rfl
@[simp] theorem leD_int (i j : Int) : leD (.int i) (.int j) = .ok (.bl (decide (i ≤ j)), .sh) := rfl
@[simp] theorem leD_bl (i j : Bool) : leD (.bl i) (.bl j) = .ok (.bl (!i || j), .sh) := rfl
@[simp] theorem B2.eq_1 : B2.eq.b1 = true := rfl
@[simp] theorem B2.eq_2 : B2.eq.b2 = true := rfl
@[simp] theorem B2.eq_g (d e : D) : B2.eq.g d e = (eqD d e).bind fun b => .ok (.bl b, .sh) := rfl
@[simp] theorem B2.ne_1 : B2.ne.b1 = true := rfl
@[simp] theorem B2.ne_2 : B2.ne.b2 = true := rfl
@[simp] theorem B2.ne_g (d e : D) : B2.ne.g d e = (eqD d e).bind fun b => .ok (.bl (!b), .sh) := rfl
@[simp] theorem B2.in_1 : B2.in_.b1 = true := rfl
@[simp] theorem B2.in_2 : B2.in_.b2 = true := rfl
@[simp] theorem B2.in_g (d e : D) : B2.in_.g d e = (inD d e).bind fun b => .ok (.bl b, .sh) := rfl
@[simp] theorem I2.ix_1 : I2.ix.b1 = true := rfl
@[simp] theorem I2.ix_2 : I2.ix.b2 = true := rfl
@[simp] theorem I2.ix_g : I2.ix.g = ixD := rfl
@[simp] theorem BC.len_g : BC.len.g = lenD := rfl
@[simp] theorem lenD_lst (ds : List D) : lenD [.lst ds] = .ok (.int ds.length, .sh) := rfl
@[simp] theorem lenD_nms (zs : List Str) : lenD [.nms zs] = .ok (.int zs.length, .sh) := rfl
@[simp] theorem lenD_tup (ds : List D) : lenD [.tup ds] = .ok (.int ds.length, .sh) := rfl
@[simp] theorem BC.tuple_g : BC.tuple.g = tupleD := rfl
@[simp] theorem tupleD_lst (ds : List D) : tupleD [.lst ds] = .ok (.tup ds, .sh) := rfl
@[simp] theorem tupleD_tup (ds : List D) : tupleD [.tup ds] = .ok (.tup ds, .sh) := rfl
@[simp] theorem BC.list_g : BC.list.g = listD := rfl
@[simp] theorem listD_lst (ds : List D) : listD [.lst ds] = .ok (.lst ds, .fr) := rfl
@[simp] theorem listD_tup (ds : List D) : listD [.tup ds] = .ok (.lst ds, .fr) := rfl
@[simp] theorem BC.min_g : BC.min.g = minD := rfl
@[simp] theorem BC.max_g : BC.max.g = maxD := rfl
@[simp] theorem minD_int (i j : Int) : minD [.int i, .int j] = .ok (.int (if j < i then j else i), .sh) := rfl
@[simp] theorem maxD_int (i j : Int) : maxD [.int i, .int j] = .ok (.int (if j > i then j else i), .sh) := rfl
theorem ixD_lst {ds : List D} {i : Int} {d : D} (h : atI ds i = some d) : ixD (.lst ds) (.int i) = .ok (d, .sh) := by simp [ixD, h]
theorem ixD_tup {ds : List D} {i : Int} {d : D} (h : atI ds i = some d) : ixD (.tup ds) (.int i) = .ok (d, .sh) := by simp [ixD, h]
theorem ixD_str {z : Str} {i : Int} {c : Nat} (hz : z.length ≤ sizeLine) (h : atI z.cps.toList i = some c) : ixD (.str z) (.int i) = .ok (.str ⟨#[c]⟩, .sh) := by simp [ixD, h, hz]
theorem atI_of {α : Type} {xs : List α} {i : Int} (h0 : 0 ≤ i) (h : i < xs.length) : ∃ v, atI xs i = some v ∧ xs[i.toNat]? = some v ∧ v ∈ xs := by
  have hi : i.toNat < xs.length := by omega
  refine ⟨xs[i.toNat], ?_, List.getElem?_eq_getElem hi, List.getElem_mem hi⟩
  have := atI_nat (List.getElem?_eq_getElem hi)
  rwa [Int.toNat_of_nonneg h0] at this
/-! == on scalars -/
theorem sh_int (i : Int) : SeqAt.shaped (.int i) = true := by simp [SeqAt.shaped, PyData.canLay0, PyData.depth]
theorem sh_bool (i : Bool) : SeqAt.shaped (.bool i) = true := by simp [SeqAt.shaped, PyData.canLay0, PyData.depth]
@[simp] theorem eqD_int (i j : Int) : eqD (.int i) (.int j) = .ok (i == j) := by simp [eqD, toPy, sh_int, PyData.eqv]
@[simp] theorem eqD_bl (i j : Bool) : eqD (.bl i) (.bl j) = .ok (i == j) := by simp [eqD, toPy, sh_bool, PyData.eqv]
/-! loops, comprehensions: invariants -/
theorem forFold_inv {step : D → List Sl → Option Fl} {ds : List D} {ρ : List Sl} (P : Nat → List Sl → Prop) (h0 : P 0 ρ)
    (hs : ∀ i d ρ, ds[i]? = some d → P i ρ → ∃ ρ', step d ρ = some (.nx ρ') ∧ P (i + 1) ρ') : ∃ ρ', forFold step ds ρ = some (.nx ρ') ∧ P ds.length ρ' := by
  induction ds generalizing P ρ with
  | nil => exact ⟨ρ, rfl, h0⟩
  | cons d ds ih =>
    obtain ⟨ρ1, e1, p1⟩ := hs 0 d ρ rfl h0
    obtain ⟨ρ2, e2, p2⟩ := ih (P := fun i => P (i + 1)) (ρ := ρ1) p1 fun i d' ρ' h1 h2 => hs (i + 1) d' ρ' (by simpa using h1) h2
    exact ⟨ρ2, by simp [forFold, e1, e2], p2⟩
def Nx (r : Option Fl) (P : List Sl → Prop) : Prop := match r with
  | some (.nx ρ) => P ρ
  | _ => False
@[simp] theorem Nx_nx (ρ : List Sl) (P : List Sl → Prop) : Nx (some (.nx ρ)) P = P ρ := rfl
theorem forFold_nx {step : D → List Sl → Option Fl} {ds : List D} {ρ : List Sl} (P : Nat → List Sl → Prop) (h0 : P 0 ρ)
    (hs : ∀ i d ρ, ds[i]? = some d → P i ρ → Nx (step d ρ) (P (i + 1))) : ∃ ρ', forFold step ds ρ = some (.nx ρ') ∧ P ds.length ρ' := by
  refine forFold_inv P h0 fun i d ρ h1 h2 => ?_
  have := hs i d ρ h1 h2
  unfold Nx at this
  split at this
  · exact ⟨_, by assumption, this⟩
  · exact this.elim
/-- .. that may hand back on the way -/
theorem forFold_ret {step : D → List Sl → Option Fl} {ds : List D} {ρ : List Sl} (P : Nat → List Sl → Prop) (R : Option Fl → Prop) (h0 : P 0 ρ)
    (hs : ∀ i d ρ, ds[i]? = some d → P i ρ → (∃ ρ', step d ρ = some (.nx ρ') ∧ P (i + 1) ρ') ∨ ∃ v b, step d ρ = some (.rt v b) ∧ R (some (.rt v b))) : (∃ ρ', forFold step ds ρ = some (.nx ρ') ∧ P ds.length ρ') ∨ ∃ v b, forFold step ds ρ = some (.rt v b) ∧ R (some (.rt v b)) := by
  induction ds generalizing P ρ with
  | nil => exact .inl ⟨ρ, rfl, h0⟩
  | cons d ds ih =>
    rcases hs 0 d ρ rfl h0 with ⟨ρ1, e1, p1⟩ | ⟨v, b, e1, r1⟩
    · rcases ih (P := fun i => P (i + 1)) (ρ := ρ1) p1 fun i d' ρ' h1 h2 => hs (i + 1) d' ρ' (by simpa using h1) h2 with ⟨ρ2, e2, p2⟩ | ⟨v, b, e2, r2⟩
      · exact .inl ⟨ρ2, by simp [forFold, e1, e2], p2⟩
      · exact .inr ⟨v, b, by simp [forFold, e1, e2], r2⟩
    · exact .inr ⟨v, b, by simp [forFold, e1], r1⟩
theorem lcFold_all {f : D → Res (Option D)} {α : Type} {g : α → D} {R : D → α → Prop} : ∀ {ds : List D}, (∀ d ∈ ds, ∃ a, f d = .ok (some (g a)) ∧ R d a) → ∃ as : List α, lcFold f ds = .ok (as.map g) ∧ as.length = ds.length ∧ ∀ (i : Nat) d a, ds[i]? = some d → as[i]? = some a → R d a
  | [], _ => ⟨[], rfl, rfl, fun i d a h => by simp at h⟩
  | d :: ds, h => by
    obtain ⟨a, e, r⟩ := h d (by simp)
    obtain ⟨as, e2, hl, hr⟩ := lcFold_all (g := g) (R := R) fun d' hd => h d' (List.mem_cons_of_mem _ hd)
    refine ⟨a :: as, by simp [lcFold, e, e2], by simp [hl], fun i d' a' h1 h2 => ?_⟩
    cases i with
    | zero => simp at h1 h2; subst h1 h2; exact r
    | succ i => exact hr i d' a' (by simpa using h1) (by simpa using h2)
/-- each item, by a function -/
theorem lcFold_map {f : D → Res (Option D)} {α : Type} (e : α → D) (g : α → D) : ∀ {as : List α}, (∀ a ∈ as, f (e a) = .ok (some (g a))) → lcFold f (as.map e) = .ok (as.map g)
  | [], _ => rfl
  | a :: as, h => by
    have h1 := h a (by simp)
    have h2 := lcFold_map e g (as := as) fun a' ha => h a' (List.mem_cons_of_mem _ ha)
    simp [lcFold, h1, h2]
theorem lcRes_eq (g : CG) (it : CI) (c : CIf) (e : CE) (vs : List Nat) (call : Calls) (ρ : List Sl) : lcRes g it c e vs call ρ =
  (it.ev call ρ).bind fun ds => (lcFold (lcBody g c e call (wipeSl ρ vs)) ds).bind fun out => if out.length ≤ sizeLine then .ok (.lst out, .fr) else .bad := rfl
/-! sizes of numbers -/
def bd (i : Int) (a : Nat) : Prop := i.natAbs < 2 ^ a
instance (i : Int) (a : Nat) : Decidable (bd i a) := inferInstanceAs (Decidable (_ < _))
theorem bd_le {i : Int} {a b : Nat} (h : bd i a) (hb : a ≤ b) : bd i b := Nat.lt_of_lt_of_le h (Nat.pow_le_pow_right (by decide) hb)
theorem bd_mul {i j : Int} {a b : Nat} (h : bd i a) (g : bd j b) : bd (i * j) (a + b) := wide_lt h g
theorem bd_add {i j : Int} {a : Nat} (h : bd i a) (g : bd j a) : bd (i + j) (a + 1) := by
  unfold bd at *
  rw [Nat.pow_succ]
  omega
theorem bd_of {i m : Int} {a : Nat} (h0 : 0 ≤ i) (h1 : i < m) (h : bd m a) : bd i a := by
  unfold bd at *
  omega
theorem bd_mod {i m : Int} {a : Nat} (h0 : 0 < m) (h : bd m a) : bd (i % m) a := bd_of (Int.emod_nonneg _ (by omega)) (Int.emod_lt_of_pos _ h0) h
theorem cmul_of {i j : Int} {a b : Nat} (h : bd i a) (g : bd j b) (h1 : 0 < a := by decide) (h2 : 0 < b := by decide) (h3 : a + b ≤ 1000000 := by decide) : CMulW i j := wide_mul h g h1 h2 h3
theorem cdiv_of {i j : Int} {b : Nat} (h : 0 < j) (hb : bd j b) (h0 : 0 < b := by decide) (h9 : b ≤ 9000 := by decide) : CDivW i j := wide_div h hb h0 h9
/-! isinstance -/
@[simp] theorem isi_bool_non : isiD "bool" .non = .ok (.bl false, .sh) := by
  have h : kitB "NoneType" "bool" = some false := by decide +kernel
  simp [isiD, tyN, h]
@[simp] theorem isi_bool_bl (b : Bool) : isiD "bool" (.bl b) = .ok (.bl true, .sh) := by
  have h : kitB "bool" "bool" = some true := by decide +kernel
  simp [isiD, tyN, h]
@[simp] theorem isi_bool_int (i : Int) : isiD "bool" (.int i) = .ok (.bl false, .sh) := by
  have h : kitB "int" "bool" = some false := by decide +kernel
  simp [isiD, tyN, h]
@[simp] theorem isi_bool_str (z : Str) : isiD "bool" (.str z) = .ok (.bl false, .sh) := by
  have h : kitB "str" "bool" = some false := by decide +kernel
  simp [isiD, tyN, h]
@[simp] theorem isi_bool_tup (ds : List D) : isiD "bool" (.tup ds) = .ok (.bl false, .sh) := by
  have h : kitB "tuple" "bool" = some false := by decide +kernel
  simp [isiD, tyN, h]
@[simp] theorem isi_bool_lst (ds : List D) : isiD "bool" (.lst ds) = .ok (.bl false, .sh) := by
  have h : kitB "list" "bool" = some false := by decide +kernel
  simp [isiD, tyN, h]
@[simp] theorem isi_bool_dic (ks ds : List D) : isiD "bool" (.dic ks ds) = .ok (.bl false, .sh) := by
  have h : kitB "dict" "bool" = some false := by decide +kernel
  simp [isiD, tyN, h]
@[simp] theorem isi_int_non : isiD "int" .non = .ok (.bl false, .sh) := by
  have h : kitB "NoneType" "int" = some false := by decide +kernel
  simp [isiD, tyN, h]
@[simp] theorem isi_int_bl (b : Bool) : isiD "int" (.bl b) = .ok (.bl true, .sh) := by
  have h : kitB "bool" "int" = some true := by decide +kernel
  simp [isiD, tyN, h]
@[simp] theorem isi_int_int (i : Int) : isiD "int" (.int i) = .ok (.bl true, .sh) := by
  have h : kitB "int" "int" = some true := by decide +kernel
  simp [isiD, tyN, h]
@[simp] theorem isi_int_str (z : Str) : isiD "int" (.str z) = .ok (.bl false, .sh) := by
  have h : kitB "str" "int" = some false := by decide +kernel
  simp [isiD, tyN, h]
@[simp] theorem isi_int_tup (ds : List D) : isiD "int" (.tup ds) = .ok (.bl false, .sh) := by
  have h : kitB "tuple" "int" = some false := by decide +kernel
  simp [isiD, tyN, h]
@[simp] theorem isi_int_lst (ds : List D) : isiD "int" (.lst ds) = .ok (.bl false, .sh) := by
  have h : kitB "list" "int" = some false := by decide +kernel
  simp [isiD, tyN, h]
@[simp] theorem isi_int_dic (ks ds : List D) : isiD "int" (.dic ks ds) = .ok (.bl false, .sh) := by
  have h : kitB "dict" "int" = some false := by decide +kernel
  simp [isiD, tyN, h]
@[simp] theorem isi_str_non : isiD "str" .non = .ok (.bl false, .sh) := by
  have h : kitB "NoneType" "str" = some false := by decide +kernel
  simp [isiD, tyN, h]
@[simp] theorem isi_str_bl (b : Bool) : isiD "str" (.bl b) = .ok (.bl false, .sh) := by
  have h : kitB "bool" "str" = some false := by decide +kernel
  simp [isiD, tyN, h]
@[simp] theorem isi_str_int (i : Int) : isiD "str" (.int i) = .ok (.bl false, .sh) := by
  have h : kitB "int" "str" = some false := by decide +kernel
  simp [isiD, tyN, h]
@[simp] theorem isi_str_str (z : Str) : isiD "str" (.str z) = .ok (.bl true, .sh) := by
  have h : kitB "str" "str" = some true := by decide +kernel
  simp [isiD, tyN, h]
@[simp] theorem isi_str_tup (ds : List D) : isiD "str" (.tup ds) = .ok (.bl false, .sh) := by
  have h : kitB "tuple" "str" = some false := by decide +kernel
  simp [isiD, tyN, h]
@[simp] theorem isi_str_lst (ds : List D) : isiD "str" (.lst ds) = .ok (.bl false, .sh) := by
  have h : kitB "list" "str" = some false := by decide +kernel
  simp [isiD, tyN, h]
@[simp] theorem isi_str_dic (ks ds : List D) : isiD "str" (.dic ks ds) = .ok (.bl false, .sh) := by
  have h : kitB "dict" "str" = some false := by decide +kernel
  simp [isiD, tyN, h]
@[simp] theorem isi_tuple_non : isiD "tuple" .non = .ok (.bl false, .sh) := by
  have h : kitB "NoneType" "tuple" = some false := by decide +kernel
  simp [isiD, tyN, h]
@[simp] theorem isi_tuple_bl (b : Bool) : isiD "tuple" (.bl b) = .ok (.bl false, .sh) := by
  have h : kitB "bool" "tuple" = some false := by decide +kernel
  simp [isiD, tyN, h]
@[simp] theorem isi_tuple_int (i : Int) : isiD "tuple" (.int i) = .ok (.bl false, .sh) := by
  have h : kitB "int" "tuple" = some false := by decide +kernel
  simp [isiD, tyN, h]
@[simp] theorem isi_tuple_str (z : Str) : isiD "tuple" (.str z) = .ok (.bl false, .sh) := by
  have h : kitB "str" "tuple" = some false := by decide +kernel
  simp [isiD, tyN, h]
@[simp] theorem isi_tuple_tup (ds : List D) : isiD "tuple" (.tup ds) = .ok (.bl true, .sh) := by
  have h : kitB "tuple" "tuple" = some true := by decide +kernel
  simp [isiD, tyN, h]
@[simp] theorem isi_tuple_lst (ds : List D) : isiD "tuple" (.lst ds) = .ok (.bl false, .sh) := by
  have h : kitB "list" "tuple" = some false := by decide +kernel
  simp [isiD, tyN, h]
@[simp] theorem isi_tuple_dic (ks ds : List D) : isiD "tuple" (.dic ks ds) = .ok (.bl false, .sh) := by
  have h : kitB "dict" "tuple" = some false := by decide +kernel
  simp [isiD, tyN, h]
@[simp] theorem isi_list_non : isiD "list" .non = .ok (.bl false, .sh) := by
  have h : kitB "NoneType" "list" = some false := by decide +kernel
  simp [isiD, tyN, h]
@[simp] theorem isi_list_bl (b : Bool) : isiD "list" (.bl b) = .ok (.bl false, .sh) := by
  have h : kitB "bool" "list" = some false := by decide +kernel
  simp [isiD, tyN, h]
@[simp] theorem isi_list_int (i : Int) : isiD "list" (.int i) = .ok (.bl false, .sh) := by
  have h : kitB "int" "list" = some false := by decide +kernel
  simp [isiD, tyN, h]
@[simp] theorem isi_list_str (z : Str) : isiD "list" (.str z) = .ok (.bl false, .sh) := by
  have h : kitB "str" "list" = some false := by decide +kernel
  simp [isiD, tyN, h]
@[simp] theorem isi_list_tup (ds : List D) : isiD "list" (.tup ds) = .ok (.bl false, .sh) := by
  have h : kitB "tuple" "list" = some false := by decide +kernel
  simp [isiD, tyN, h]
@[simp] theorem isi_list_lst (ds : List D) : isiD "list" (.lst ds) = .ok (.bl true, .sh) := by
  have h : kitB "list" "list" = some true := by decide +kernel
  simp [isiD, tyN, h]
@[simp] theorem isi_list_dic (ks ds : List D) : isiD "list" (.dic ks ds) = .ok (.bl false, .sh) := by
  have h : kitB "dict" "list" = some false := by decide +kernel
  simp [isiD, tyN, h]
@[simp] theorem isi_dict_non : isiD "dict" .non = .ok (.bl false, .sh) := by
  have h : kitB "NoneType" "dict" = some false := by decide +kernel
  simp [isiD, tyN, h]
@[simp] theorem isi_dict_bl (b : Bool) : isiD "dict" (.bl b) = .ok (.bl false, .sh) := by
  have h : kitB "bool" "dict" = some false := by decide +kernel
  simp [isiD, tyN, h]
@[simp] theorem isi_dict_int (i : Int) : isiD "dict" (.int i) = .ok (.bl false, .sh) := by
  have h : kitB "int" "dict" = some false := by decide +kernel
  simp [isiD, tyN, h]
@[simp] theorem isi_dict_str (z : Str) : isiD "dict" (.str z) = .ok (.bl false, .sh) := by
  have h : kitB "str" "dict" = some false := by decide +kernel
  simp [isiD, tyN, h]
@[simp] theorem isi_dict_tup (ds : List D) : isiD "dict" (.tup ds) = .ok (.bl false, .sh) := by
  have h : kitB "tuple" "dict" = some false := by decide +kernel
  simp [isiD, tyN, h]
@[simp] theorem isi_dict_lst (ds : List D) : isiD "dict" (.lst ds) = .ok (.bl false, .sh) := by
  have h : kitB "list" "dict" = some false := by decide +kernel
  simp [isiD, tyN, h]
@[simp] theorem isi_dict_dic (ks ds : List D) : isiD "dict" (.dic ks ds) = .ok (.bl true, .sh) := by
  have h : kitB "dict" "dict" = some true := by decide +kernel
  simp [isiD, tyN, h]
@[simp] theorem isi_bool_nms (zs : List Str) : isiD "bool" (.nms zs) = .ok (.bl false, .sh) := by
  have h : kitB "tuple" "bool" = some false := by decide +kernel
  simp [isiD, tyN, h]
@[simp] theorem isi_int_nms (zs : List Str) : isiD "int" (.nms zs) = .ok (.bl false, .sh) := by
  have h : kitB "tuple" "int" = some false := by decide +kernel
  simp [isiD, tyN, h]
@[simp] theorem isi_str_nms (zs : List Str) : isiD "str" (.nms zs) = .ok (.bl false, .sh) := by
  have h : kitB "tuple" "str" = some false := by decide +kernel
  simp [isiD, tyN, h]
@[simp] theorem isi_tuple_nms (zs : List Str) : isiD "tuple" (.nms zs) = .ok (.bl true, .sh) := by
  have h : kitB "tuple" "tuple" = some true := by decide +kernel
  simp [isiD, tyN, h]
@[simp] theorem isi_list_nms (zs : List Str) : isiD "list" (.nms zs) = .ok (.bl false, .sh) := by
  have h : kitB "tuple" "list" = some false := by decide +kernel
  simp [isiD, tyN, h]
@[simp] theorem isi_dict_nms (zs : List Str) : isiD "dict" (.nms zs) = .ok (.bl false, .sh) := by
  have h : kitB "tuple" "dict" = some false := by decide +kernel
  simp [isiD, tyN, h]
end MJ

namespace MJ
open PySem PySem.Spec PyProof.Rows L2
section
variable {call : Calls} {ρ : List Sl}
@[simp] theorem B2.pow_1 : B2.pow.b1 = true := rfl
@[simp] theorem B2.pow_2 : B2.pow.b2 = true := rfl
@[simp] theorem B2.pow_g (i j : Int) : B2.pow.g (.int i) (.int j) = if CPow i j then .ok (.int (i ^ j.toNat), .sh) else .bad := rfl
@[simp] theorem B2.shl_1 : B2.shl.b1 = true := rfl
@[simp] theorem B2.shl_2 : B2.shl.b2 = true := rfl
@[simp] theorem B2.shl_g (i j : Int) : B2.shl.g (.int i) (.int j) = if CPow i j then .ok (.int (i * 2 ^ j.toNat), .sh) else .bad := rfl
@[simp] theorem B2.shr_1 : B2.shr.b1 = true := rfl
@[simp] theorem B2.shr_2 : B2.shr.b2 = true := rfl
@[simp] theorem B2.shr_g (i j : Int) : B2.shr.g (.int i) (.int j) = if 0 ≤ j then .ok (.int (i / 2 ^ j.toNat), .sh) else .bad := rfl
@[simp] theorem B2.and_1 : B2.and_.b1 = true := rfl
@[simp] theorem B2.and_2 : B2.and_.b2 = true := rfl
@[simp] theorem B2.and_g (i j : Int) : B2.and_.g (.int i) (.int j) = .ok (.int (Builtin.bitAnd i j), .sh) := rfl
@[simp] theorem B2.or_1 : B2.or_.b1 = true := rfl
@[simp] theorem B2.or_2 : B2.or_.b2 = true := rfl
@[simp] theorem B2.or_g (i j : Int) : B2.or_.g (.int i) (.int j) = .ok (.int (Builtin.bitOr i j), .sh) := rfl
@[simp] theorem B2.xor_1 : B2.xor.b1 = true := rfl
@[simp] theorem B2.xor_2 : B2.xor.b2 = true := rfl
@[simp] theorem B2.xor_g (i j : Int) : B2.xor.g (.int i) (.int j) = .ok (.int (Builtin.bitXor i j), .sh) := rfl
@[simp] theorem B2.notin_1 : B2.notin.b1 = true := rfl
@[simp] theorem B2.notin_2 : B2.notin.b2 = true := rfl
@[simp] theorem B2.notin_g (d e : D) : B2.notin.g d e = (inD d e).bind fun b => .ok (.bl (!b), .sh) := rfl
@[simp] theorem B2.isN_1 : B2.isN.b1 = true := rfl
@[simp] theorem B2.isN_2 : B2.isN.b2 = true := rfl
@[simp] theorem B2.isN_g (d : D) : B2.isN.g d .non = .ok (.bl (isNon d), .sh) := by simp [B2.isN, isND]
@[simp] theorem B2.notN_1 : B2.notN.b1 = true := rfl
@[simp] theorem B2.notN_2 : B2.notN.b2 = true := rfl
@[simp] theorem B2.notN_g (d : D) : B2.notN.g d .non = .ok (.bl (!isNon d), .sh) := by simp [B2.notN, isND]
@[simp] theorem isNon_non : isNon .non = true := rfl
@[simp] theorem isNon_bl (b : Bool) : isNon (.bl b) = false := rfl
@[simp] theorem isNon_int (b : Int) : isNon (.int b) = false := rfl
@[simp] theorem isNon_str (b : Str) : isNon (.str b) = false := rfl
@[simp] theorem isNon_tup (b : List D) : isNon (.tup b) = false := rfl
@[simp] theorem isNon_lst (b : List D) : isNon (.lst b) = false := rfl
@[simp] theorem isNon_nms (b : List Str) : isNon (.nms b) = false := rfl
@[simp] theorem isNon_dic (a b : List D) : isNon (.dic a b) = false := rfl
@[simp] theorem B2.isB_1 : B2.isB.b1 = true := rfl
@[simp] theorem B2.isB_2 : B2.isB.b2 = true := rfl
@[simp] theorem B2.isB_g (a b : Bool) : B2.isB.g (.bl a) (.bl b) = .ok (.bl (decide (a = b)), .sh) := rfl
@[simp] theorem B2.notB_1 : B2.notB.b1 = true := rfl
@[simp] theorem B2.notB_2 : B2.notB.b2 = true := rfl
@[simp] theorem B2.notB_g (a b : Bool) : B2.notB.g (.bl a) (.bl b) = .ok (.bl (!decide (a = b)), .sh) := rfl
@[simp] theorem BC.sum_g : BC.sum.g = sumD := rfl
@[simp] theorem BC.int_i (i : Int) : BC.int.g [.int i] = .ok (.int i, .sh) := rfl
@[simp] theorem BC.int_b (i : Bool) : BC.int.g [.bl i] = .ok (.int (if i then 1 else 0), .sh) := rfl
@[simp] theorem BC.abs_i (i : Int) : BC.abs.g [.int i] = .ok (.int (if i < 0 then -i else i), .sh) := rfl
@[simp] theorem BC.sorted_g : BC.sorted.g = sortedD := rfl
@[simp] theorem lenD_dic (ks ds : List D) : lenD [.dic ks ds] = .ok (.int ks.length, .sh) := rfl
@[simp] theorem CE.sortedSet_ev (e : CE) : (CE.sortedSet e).ev call ρ = (argR false (e.ev call ρ)).bind ssetD := rfl
@[simp] theorem CE.dic0_ev : CE.dic0.ev call ρ = .ok (.dic [] [], .fr) := rfl
@[simp] theorem CE.dget_ev (a b : CE) : (CE.dget a b).ev call ρ = (argR true (a.ev call ρ)).bind fun d => (argR true (b.ev call ρ)).bind fun e => dgetD d e := rfl
@[simp] theorem CIf.one_ev' (c : CT) : (CIf.one c).ev call ρ = c.ev call ρ := rfl
@[simp] theorem CI.enum_ev (a : CE) : (CI.enum a).ev call ρ = (argR false (a.ev call ρ)).bind fun d => (seqD d).bind fun ds => .ok (enumD 0 ds) := by
  show Res.bind (Res.bind (argR false (a.ev call ρ)) _) _ = _
  cases argR false (a.ev call ρ) <;> rfl
@[simp] theorem CI.zip2_ev (a b : CE) : (CI.zip2 a b).ev call ρ = (argR false (a.ev call ρ)).bind fun d => (argR false (b.ev call ρ)).bind fun e => zip2G [d, e] := by
  show Res.bind (Res.bind (argR false (a.ev call ρ)) fun d => Res.bind (Res.bind (argR false (b.ev call ρ)) _) _) _ = _
  cases argR false (a.ev call ρ) with
  | ok d => cases h : argR false (b.ev call ρ) <;> simp [h]
  | _ => rfl
@[simp] theorem CI.zip3_ev (a b c : CE) : (CI.zip3 a b c).ev call ρ = (argR false (a.ev call ρ)).bind fun d => (argR false (b.ev call ρ)).bind fun e => (argR false (c.ev call ρ)).bind fun f => zip3G [d, e, f] := by
  show Res.bind (Res.bind (argR false (a.ev call ρ)) fun d => Res.bind (Res.bind (argR false (b.ev call ρ)) fun e => Res.bind (Res.bind (argR false (c.ev call ρ)) _) _) _) _ = _
  cases argR false (a.ev call ρ) with
  | ok d => cases h : argR false (b.ev call ρ) with
    | ok e => cases h2 : argR false (c.ev call ρ) <;> simp [h, h2]
    | _ => simp [h]
  | _ => rfl
@[simp] theorem seqD_lst (ds : List D) : seqD (.lst ds) = .ok ds := rfl
@[simp] theorem seqD_nms (zs : List Str) : seqD (.nms zs) = .ok (zs.map .str) := rfl
@[simp] theorem seqD_tup (ds : List D) : seqD (.tup ds) = .ok ds := rfl
theorem C1.put_ev (m : PC) (i : Nat) (k v : CE) : (C1.put m i k v).ev call ρ = stR (argR false (v.ev call ρ)) ρ fun dv => match ρ[i]? with
  | some (.ow d) => stR (argR true (k.ev call ρ)) ρ fun dk => match m.g d dk dv with
    | some d' => some (.nx (ρ.set i (.ow d')))
    | none => none
  | _ => none := rfl
def putR (m : PC) (i : Nat) (ρ : List Sl) (r : Res D) (dv : D) : Option Sl → Option Fl
  | some (.ow d) => stR r ρ fun dk => match m.g d dk dv with
    | some d' => some (.nx (ρ.set i (.ow d')))
    | none => none
  | _ => none
@[simp] theorem C1.put_ev' (m : PC) (i : Nat) (k v : CE) : (C1.put m i k v).ev call ρ = stR (argR false (v.ev call ρ)) ρ fun dv => putR m i ρ (argR true (k.ev call ρ)) dv ρ[i]? := by
  rw [C1.put_ev]
  congr 1
@[simp] theorem putR_ow (m : PC) (i : Nat) (dk dv d : D) : putR m i ρ (.ok dk) dv (some (.ow d)) = match m.g d dk dv with
    | some d' => some (.nx (ρ.set i (.ow d')))
    | none => none := rfl
@[simp] theorem PC.dict_int (ks ds : List D) (k : Int) (v : D) : PC.dict.g (.dic ks ds) (.int k) v = if ks.length < sizeLine then some (.dic (putD (.inl k) v ks ds).1 (putD (.inl k) v ks ds).2) else none := rfl
@[simp] theorem PC.dict_str (ks ds : List D) (k : Str) (v : D) : PC.dict.g (.dic ks ds) (.str k) v = if ks.length < sizeLine then some (.dic (putD (.inr k) v ks ds).1 (putD (.inr k) v ks ds).2) else none := rfl
@[simp] theorem PC.list_g (ds : List D) (i : Int) (v : D) : PC.list.g (.lst ds) (.int i) v = (setAtD ds i v).map .lst := rfl
def augIR (i : Nat) (ρ : List Sl) (r : Res D) : Option Sl → Option Fl
  | some (.sh x) => stR r ρ fun y => match addID x y with
      | some z => some (.nx (ρ.set i (.sh z)))
      | none => none
  | _ => none
@[simp] theorem C1.augI_ev (i : Nat) (e : CE) : (C1.augI i e).ev call ρ = augIR i ρ (argR true (e.ev call ρ)) ρ[i]? := by
  show (match ρ[i]? with
    | some (.sh x) => _
    | _ => none) = _
  unfold augIR
  split <;> rfl
@[simp] theorem augIR_int (i : Nat) (a b : Int) : augIR i ρ (.ok (.int b)) (some (.sh (.int a))) = some (.nx (ρ.set i (.sh (.int (a + b))))) := rfl
def augLR (i : Nat) (ρ : List Sl) (r : Res (D × Fr)) : Option Sl → Option Fl
  | some (.ow (.lst ds)) => stR r ρ fun y => match y with
      | (.lst es, .fr) => if ds.length + es.length ≤ sizeLine then some (.nx (ρ.set i (.ow (.lst (ds ++ es))))) else none
      | _ => none
  | _ => none
@[simp] theorem C1.augL_ev (i : Nat) (e : CE) : (C1.augL i e).ev call ρ = augLR i ρ (e.ev call ρ) ρ[i]? := by
  show (match ρ[i]? with
    | some (.ow (.lst ds)) => _
    | _ => none) = _
  unfold augLR
  split <;> rfl
@[simp] theorem augLR_ok (i : Nat) (ds es : List D) : augLR i ρ (.ok (.lst es, .fr)) (some (.ow (.lst ds))) = if ds.length + es.length ≤ sizeLine then some (.nx (ρ.set i (.ow (.lst (ds ++ es))))) else none := rfl
def runR (m : MC) (i : Nat) (ρ : List Sl) (r : Res (List D)) : Option Sl → Res (D × List Sl)
  | some (.ow d) => if isKind m.T d = true then (r.bind fun ds => match m.g d ds with
    | some (d', res) => .ok (res, ρ.set i (.ow d'))
    | none => .bad) else .bad
  | _ => .bad
theorem MC.run_eq (m : MC) (i : Nat) (es : CEs) : m.run i es call ρ = runR m i ρ (es.ev false call ρ) ρ[i]? := rfl
theorem MC.run0_eq (m : MC) (i : Nat) : m.run0 i ρ = runR m i ρ (.ok []) ρ[i]? := rfl
@[simp] theorem runR_ow (m : MC) (i : Nat) (ds : List D) (d : D) : runR m i ρ (.ok ds) (some (.ow d)) = if isKind m.T d = true then (match m.g d ds with
    | some (d', res) => .ok (res, ρ.set i (.ow d'))
    | none => .bad) else .bad := rfl
@[simp] theorem C1.meth0_ev (m : MC) (i : Nat) : (C1.meth0 m i).ev call ρ = stR (runR m i ρ (.ok []) ρ[i]?) ρ fun p => some (.nx p.2) := rfl
@[simp] theorem C1.setMeth0_ev (j : Nat) (m : MC) (i : Nat) : (C1.setMeth0 j m i).ev call ρ = stR (runR m i ρ (.ok []) ρ[i]?) ρ fun p => some (.nx (p.2.set j (.sh p.1))) := rfl
@[simp] theorem C1.meth_ev' (m : MC) (i : Nat) (es : CEs) : (C1.meth m i es).ev call ρ = stR (runR m i ρ (es.ev false call ρ) ρ[i]?) ρ fun p => some (.nx p.2) := rfl
@[simp] theorem kind_append (ds : List D) : isKind MC.append.T (.lst ds) = true := rfl
@[simp] theorem kind_pop (ds : List D) : isKind MC.pop.T (.lst ds) = true := rfl
@[simp] theorem kind_clear (ds : List D) : isKind MC.clear.T (.lst ds) = true := rfl
@[simp] theorem kind_insert (ds : List D) : isKind MC.insert.T (.lst ds) = true := rfl
@[simp] theorem append_g (ds : List D) (y : D) : MC.append.g (.lst ds) [y] = if ds.length < sizeLine then some (.lst (ds ++ [y]), .non) else none := rfl
@[simp] theorem pop_g (ds : List D) : MC.pop.g (.lst ds) [] = match ds.getLast? with
      | some y => some (.lst ds.dropLast, y)
      | none => none := rfl
@[simp] theorem clear_g (ds : List D) : MC.clear.g (.lst ds) [] = some (.lst [], .non) := rfl
@[simp] theorem insert_g (ds : List D) (i : Int) (y : D) : MC.insert.g (.lst ds) [.int i, y] = if ds.length < sizeLine ∧ 0 ≤ i ∧ i < 2 ^ 63 then some (.lst (ds.take i.toNat ++ [y] ++ ds.drop i.toNat), .non) else none := rfl
end
end MJ

namespace MJ
open PySem PySem.Spec PyProof.Rows L2
section
variable {call : Calls} {ρ : List Sl}
@[simp] theorem BC.tupleN_g : BC.tupleN.g = tupleND := rfl
def tidxR (r : Res D) : D → Res (D × Fr)
  | .nms zs => r.bind fun y => idxD (.nms zs) y
  | _ => .bad
@[simp] theorem CE.tidx_ev (o e : CE) : (CE.tidx o e).ev call ρ = (argR false (o.ev call ρ)).bind (tidxR (argR false (e.ev call ρ))) := by
  show Res.bind (argR false (o.ev call ρ)) _ = _
  congr 1
@[simp] theorem tidxR_nms (zs : List Str) (y : D) : tidxR (.ok y) (.nms zs) = idxD (.nms zs) y := rfl
end
end MJ

namespace MJ
open PySem PySem.Spec PyProof.Rows L2
def fn_is_so : Fn where
  ps := ["saying", "held"]
  N := ["saying", "held", "first", "second"]
  body := (.cons (.ite (.cmp _ .eq (.ix .ix (.var 0) (CE.int 0)) (CE.str "letter")) (.cons (.ret (.cmp _ .in_ (.ix .ix (.var 0) (CE.int 1)) (.var 1))) .nil) .nil) (.cons (.set 2 (.call "is_so" (.cons (.ix .ix (.var 0) (CE.int 1)) (.cons (.var 1) .nil)))) (.cons (.ite (.cmp _ .eq (.ix .ix (.var 0) (CE.int 0)) (CE.str "not")) (.cons (.ret (.not (.var 2))) .nil) .nil) (.cons (.set 3 (.call "is_so" (.cons (.ix .ix (.var 0) (CE.int 2)) (.cons (.var 1) .nil)))) (.cons (.ite (.cmp _ .eq (.ix .ix (.var 0) (CE.int 0)) (CE.str "and")) (.cons (.ret (.bop (op := .And) (.and (.var 2) (.one .And (.var 3))))) .nil) .nil) (.cons (.ite (.cmp _ .eq (.ix .ix (.var 0) (CE.int 0)) (CE.str "or")) (.cons (.ret (.bop (op := .Or) (.or (.var 2) (.one .Or (.var 3))))) .nil) .nil) (.cons (.ret (.bop (op := .Or) (.or (.var 3) (.one .Or (.not (.var 2)))))) .nil)))))))
def fn_law_cell : Fn where
  ps := ["_law_script", "_law_k"]
  N := ["_law_script", "_law_k", "_law_number"]
  body := (.cons (.ite (.cmp _ .lt (.var 1) (.blt .len (.cons (.var 0) .nil))) (.cons (.ret (.ix .ix (.var 0) (.var 1))) .nil) .nil) (.cons (.set 2 (.op _ .add (.op _ .mul (.var 1) (CE.int 7919)) (CE.int 5))) (.cons (.ite (.cmp _ .gt (.blt .len (.cons (.var 0) .nil)) (CE.int 0)) (.cons (.set 2 (.op _ .add (.op _ .add (.op _ .mul (.op _ .mod (.ix .ix (.var 0) (.op _ .mod (.var 1) (.blt .len (.cons (.var 0) .nil)))) (CE.int 2147483647)) (CE.int 48271)) (.op _ .mul (.op _ .mul (.var 1) (.var 1)) (CE.int 7919))) (CE.int 11))) .nil) .nil) (.cons (.ret (.op _ .mod (.op _ .mul (.var 2) (.var 2)) (CE.int 2147483629))) .nil))))
def fn_law_pick : Fn where
  ps := ["_law_script", "_law_k", "_law_many"]
  N := ["_law_script", "_law_k", "_law_many", "_law_number"]
  body := (.cons (.set 3 (.op _ .add (.op _ .mul (.op _ .mod (.call "_law_cell" (.cons (.var 0) (.cons (.var 1) .nil))) (CE.int 2147483647)) (.op _ .add (CE.int 48271) (.op _ .mul (CE.int 2) (.var 1)))) (.op _ .mul (CE.int 31) (.var 1)))) (.cons (.ret (.op _ .mod (.op _ .fdiv (.op _ .mod (.var 3) (CE.int 2147483629)) (CE.int 7)) (.var 2))) .nil))
def fn_law_next : Fn where
  ps := ["_law_k", "_law_j"]
  N := ["_law_k", "_law_j"]
  body := (.cons (.ret (.op _ .mod (.op _ .add (.op _ .add (.op _ .mul (.var 0) (CE.int 31)) (.op _ .mul (.var 1) (CE.int 7))) (CE.int 13)) (CE.int 9973))) .nil)
def fn_law_names_e0 : CE := (.op _ .add (.op _ .add (.slc (.var 4) .no (.at (.var 7))) (.ix .ix (.var 3) (.op _ .mod (.op _ .add (.var 6) (.op _ .mul (CE.int 4) (.var 5))) (CE.int 21)))) (.slc (.var 4) (.at (.var 7)) .no))
def fn_law_names_e1 : CE := (.slc (.var 4) .no (.at (.op _ .add (.var 5) (CE.int 1))))
def fn_law_names_b0 : CS := (.cons (.set 4 (.op _ .add (.var 4) (.ix .ix (.var 3) (.call "_law_pick" (.cons (.var 0) (.cons (.op _ .add (.op _ .add (.var 1) (.op _ .mul (CE.int 11) (.var 5))) (CE.int 1)) (.cons (CE.int 21) .nil))))))) .nil)
def fn_law_names : Fn where
  ps := ["_law_script", "_law_k", "_law_many"]
  N := ["_law_script", "_law_k", "_law_many", "_law_letters", "_law_word", "_law_j", "_law_first", "_law_at"]
  body := (.cons (.set 3 (CE.str "bcdfghjklmnpqrstvwxyz")) (.cons (.set 4 (CE.str "")) (.cons (.for_ (.name 5) (.range1 (.call "_law_pick" (.cons (.var 0) (.cons (.var 1) (.cons (CE.int 6) .nil))))) fn_law_names_b0) (.cons (.set 6 (.call "_law_pick" (.cons (.var 0) (.cons (.op _ .add (.var 1) (CE.int 3)) (.cons (CE.int 21) .nil))))) (.cons (.ite (.cmp _ .eq (.call "_law_pick" (.cons (.var 0) (.cons (.op _ .add (.var 1) (CE.int 4)) (.cons (CE.int 3) .nil)))) (CE.int 0)) (.cons (.set 4 (.slc (.op _ .add (.op _ .add (.var 4) (.ix .ix (.var 3) (.var 6))) (CE.str "qzkxw")) .no (.at (CE.int 6)))) (.cons (.ret (.lc [("_law_j", 5)] (.name 5) (.range1 (.var 2)) .no fn_law_names_e1)) .nil)) .nil) (.cons (.set 7 (.call "_law_pick" (.cons (.var 0) (.cons (.op _ .add (.var 1) (CE.int 2)) (.cons (.op _ .add (.blt .len (.cons (.var 4) .nil)) (CE.int 1)) .nil))))) (.cons (.ret (.lc [("_law_j", 5)] (.name 5) (.range1 (.var 2)) .no fn_law_names_e0)) .nil)))))))
def fn_law_saying : Fn where
  ps := ["_law_script", "_law_k", "_law_room", "_law_names_here"]
  N := ["_law_script", "_law_k", "_law_room", "_law_names_here", "_law_way", "_law_left", "_law_one", "_law_other"]
  body := (.cons (.set 4 (.call "_law_pick" (.cons (.var 0) (.cons (.var 1) (.cons (CE.int 9) .nil))))) (.cons (.ite (.bop (op := .Or) (.or (.cmp _ .lt (.var 2) (CE.int 2)) (.or1 (.cmp _ .eq (.var 4) (CE.int 0))))) (.cons (.ret (.tup (.cons (CE.str "letter") (.cons (.ix .ix (.var 3) (.call "_law_pick" (.cons (.var 0) (.cons (.op _ .add (.var 1) (CE.int 1)) (.cons (.blt .len (.cons (.var 3) .nil)) .nil))))) .nil)))) .nil) .nil) (.cons (.ite (.bop (op := .Or) (.or (.cmp _ .eq (.var 2) (CE.int 2)) (.or1 (.cmp _ .eq (.var 4) (CE.int 1))))) (.cons (.ret (.tup (.cons (CE.str "not") (.cons (.call "_law_saying" (.cons (.var 0) (.cons (.call "_law_next" (.cons (.var 1) (.cons (CE.int 0) .nil))) (.cons (.op _ .sub (.var 2) (CE.int 1)) (.cons (.var 3) .nil))))) .nil)))) .nil) .nil) (.cons (.set 5 (.op _ .add (CE.int 1) (.call "_law_pick" (.cons (.var 0) (.cons (.op _ .add (.var 1) (CE.int 1)) (.cons (.op _ .sub (.var 2) (CE.int 2)) .nil)))))) (.cons (.set 6 (.call "_law_saying" (.cons (.var 0) (.cons (.call "_law_next" (.cons (.var 1) (.cons (CE.int 1) .nil))) (.cons (.var 5) (.cons (.var 3) .nil)))))) (.cons (.set 7 (.call "_law_saying" (.cons (.var 0) (.cons (.call "_law_next" (.cons (.var 1) (.cons (CE.int 2) .nil))) (.cons (.op _ .sub (.op _ .sub (.var 2) (CE.int 1)) (.var 5)) (.cons (.var 3) .nil)))))) (.cons (.ret (.tup (.cons (.ix .ix (.lst (.cons (CE.str "and") (.cons (CE.str "or") (.cons (CE.str "if") .nil)))) (.call "_law_pick" (.cons (.var 0) (.cons (.op _ .add (.var 1) (CE.int 2)) (.cons (CE.int 3) .nil))))) (.cons (.var 6) (.cons (.var 7) .nil))))) .nil)))))))
def fn_law_so_e0 : CE := (.call "_law_so" (.cons (.var 3) (.cons (.var 1) .nil)))
def fn_law_so : Fn where
  ps := ["_law_saying_here", "_law_held_here"]
  N := ["_law_saying_here", "_law_held_here", "_law_truths", "_law_part"]
  body := (.cons (.ite (.cmp _ .eq (.ix .ix (.var 0) (CE.int 0)) (CE.str "letter")) (.cons (.ret (.cmp _ .in_ (.ix .ix (.var 0) (CE.int 1)) (.var 1))) .nil) .nil) (.cons (.setLc 2 [("_law_part", 3)] (.name 3) (.seq (.slc (.var 0) (.at (CE.int 1)) .no)) .no fn_law_so_e0) (.cons (.ite (.cmp _ .eq (.ix .ix (.var 0) (CE.int 0)) (CE.str "not")) (.cons (.ret (.not (.ix .ix (.var 2) (CE.int 0)))) .nil) .nil) (.cons (.ite (.cmp _ .eq (.ix .ix (.var 0) (CE.int 0)) (CE.str "and")) (.cons (.ret (.blt .min (.cons (.var 2) .nil))) .nil) .nil) (.cons (.ite (.cmp _ .eq (.ix .ix (.var 0) (CE.int 0)) (CE.str "or")) (.cons (.ret (.blt .max (.cons (.var 2) .nil))) .nil) .nil) (.cons (.ret (.cmp _ .leA (.ix .ix (.var 2) (CE.int 0)) (.ix .ix (.var 2) (CE.int 1)))) .nil))))))
def fn_law_held_b0 : CS := (.cons (.ite (.cmp _ .eq (.op _ .mod (.var 0) (CE.int 2)) (CE.int 1)) (.cons (.meth .append 2 (.cons (.var 3) .nil)) .nil) .nil) (.cons (.set 0 (.op _ .fdiv (.var 0) (CE.int 2))) .nil))
def fn_law_held : Fn where
  ps := ["_law_number", "_law_names_here"]
  N := ["_law_number", "_law_names_here", "_law_held_here", "_law_name"]
  body := (.cons (.set 2 (.lst .nil)) (.cons (.for_ (.name 3) (.seq (.var 1)) fn_law_held_b0) (.cons (.ret (.blt .tuple (.cons (.var 2) .nil))) .nil)))
def fn_law_b0 : CS := (.share 1 (.cons (.set 4 (.call "_law_held" (.cons (.op _ .mod (.call "_law_cell" (.cons (.var 0) (.cons (.var 3) .nil))) (CE.int 32)) (.cons (.var 1) .nil)))) (.cons (.set 5 (.call "_law_pick" (.cons (.var 0) (.cons (.var 3) (.cons (.op _ .add (.blt .len (.cons (.var 4) .nil)) (CE.int 1)) .nil))))) (.cons (.set 4 (.op _ .add (.slc (.var 4) (.at (.var 5)) .no) (.slc (.var 4) .no (.at (.var 5))))) (.cons (.ite (.cmp _ .eq (.call "_law_pick" (.cons (.var 0) (.cons (.op _ .add (.var 3) (CE.int 1)) (.cons (CE.int 3) .nil)))) (CE.int 0)) (.cons (.set 4 (.op _ .add (.tup (.cons (CE.str "aeiou") .nil)) (.var 4))) .nil) .nil) (.cons (.set 6 (.call "is_so" (.cons (.var 2) (.cons (.var 4) .nil)))) (.cons (.ite (.bop (op := .Or) (.or (.not (.val (.isi (.var 6) "bool" "bool"))) (.or1 (.cmp _ .ne (.var 6) (.call "_law_so" (.cons (.var 2) (.cons (.var 4) .nil))))))) (.cons (.ret (CE.bl false)) .nil) .nil) .nil)))))))
def fn_law : Fn where
  ps := ["_law_script"]
  N := ["_law_script", "_law_names_here", "_law_saying_here", "_law_k", "_law_held_here", "_law_at", "_law_found"]
  body := (.cons (.set 1 (.call "_law_names" (.cons (.var 0) (.cons (CE.int 0) (.cons (.op _ .add (CE.int 1) (.call "_law_pick" (.cons (.var 0) (.cons (CE.int 5) (.cons (CE.int 5) .nil))))) .nil))))) (.share 1 (.cons (.set 2 (.call "_law_saying" (.cons (.var 0) (.cons (CE.int 6) (.cons (.op _ .add (CE.int 1) (.call "_law_pick" (.cons (.var 0) (.cons (CE.int 6) (.cons (CE.int 40) .nil))))) (.cons (.var 1) .nil)))))) (.cons (.for_ (.name 3) (.range1 (.blt .max (.cons (CE.int 8) (.cons (.blt .min (.cons (CE.int 63) (.cons (.blt .len (.cons (.var 0) .nil)) .nil))) .nil)))) fn_law_b0) (.cons (.ret (CE.bl true)) .nil)))))
end MJ

namespace MJ
open PySem PySem.Spec PyProof.Rows L2
def sc (ns : List Int) : D := .lst (ns.map .int)
section
variable {T : Str → Option Fn} (ns : List Int)
theorem sc_at {k : Int} (h0 : 0 ≤ k) (h : k < ns.length) : ∃ v, atI (ns.map D.int) k = some (.int v) := by
  obtain ⟨d, e, _, hm⟩ := atI_of (xs := ns.map D.int) h0 (by simpa using h)
  obtain ⟨v, _, rfl⟩ := List.mem_map.mp hm
  exact ⟨v, e⟩
theorem sq_ev {n : Int} (h : bd n 300) : (if CMulW n n then (Res.ok (D.int (n * n), Fr.sh) : Res (D × Fr)) else .bad) = .ok (D.int (n * n), Fr.sh) := if_pos (cmul_of h h)
theorem cell_ev (h : T "_law_cell" = some fn_law_cell) (hl : ns.length ≤ 4000) (n : Nat) {k : Int} (h0 : 0 ≤ k) (hk : bd k 64) : ∃ r, evFn T (n + 1) "_law_cell" [sc ns, .int k] = .ok (.int r, false) := by
  rw [evFn_succ h rfl]
  simp only [fn_law_cell, startSl, sc]
  have m1 : CMulW k 7919 := cmul_of hk (show bd 7919 13 by decide)
  have b1 : bd (k * 7919 + 5) 78 := bd_add (bd_mul hk (show bd 7919 13 by decide)) (show bd 5 77 by decide)
  by_cases c : k < (ns.length : Int)
  · obtain ⟨v, hv⟩ := sc_at ns h0 c
    exact ⟨v, by simp [c, ixD_lst hv]⟩
  · by_cases c2 : (0 : Int) < (ns.length : Int)
    · have q0 : 0 ≤ k % (ns.length : Int) := Int.emod_nonneg _ (by omega)
      have q1 : k % (ns.length : Int) < ns.length := Int.emod_lt_of_pos _ c2
      obtain ⟨v, hv⟩ := sc_at ns q0 q1
      have b2 : bd (v % 2147483647) 32 := bd_mod (by decide) (by decide)
      have m2 : CMulW (v % 2147483647) 48271 := cmul_of b2 (show bd 48271 16 by decide)
      have m3 : CMulW k k := cmul_of hk hk
      have b3 : bd (k * k) 128 := bd_mul hk hk
      have m4 : CMulW (k * k) 7919 := cmul_of b3 (show bd 7919 13 by decide)
      have b4 : bd (v % 2147483647 * 48271 + k * k * 7919 + 11) 143 :=
        bd_add (bd_add (bd_le (bd_mul b2 (show bd 48271 16 by decide)) (by decide)) (bd_mul b3 (show bd 7919 13 by decide))) (show bd 11 142 by decide)
      have m5 := cmul_of b4 b4
      exact ⟨(v % 2147483647 * 48271 + k * k * 7919 + 11) * (v % 2147483647 * 48271 + k * k * 7919 + 11) % 2147483629, by
        have c2' : ns ≠ [] := by intro z; subst z; simp at c2
        simp [c, c2, c2', m1, m2, m3, m4, m5, ixD_lst hv, List.length_pos_iff]⟩
    · have m5 := cmul_of b1 b1
      have c2' : ns = [] := by cases ns with | nil => rfl | cons => simp at c2
      subst c2'
      simp at c
      refine ⟨(k * 7919 + 5) * (k * 7919 + 5) % 2147483629, ?_⟩
      simp [m1, m5, Int.not_lt.mpr c]
/-- a draw: a number from 0 on, below m -/
theorem pick_ev (h : T "_law_cell" = some fn_law_cell) (g : T "_law_pick" = some fn_law_pick) (hl : ns.length ≤ 4000) (n : Nat) {k m : Int} (h0 : 0 ≤ k) (hk : bd k 60) (hm : 0 < m) :
    ∃ r, 0 ≤ r ∧ r < m ∧ evFn T (n + 2) "_law_pick" [sc ns, .int k, .int m] = .ok (.int r, false) := by
  obtain ⟨v, hv⟩ := cell_ev ns h hl n h0 (bd_le hk (by decide))
  rw [evFn_succ g rfl]
  have b1 : bd (v % 2147483647) 32 := bd_mod (by decide) (by decide)
  have b2 : bd (48271 + 2 * k) 63 := bd_add (show bd 48271 62 by decide) (bd_mul (show bd 2 2 by decide) hk)
  have m1 : CMulW 2 k := cmul_of (show bd 2 2 by decide) hk
  have m2 : CMulW (v % 2147483647) (48271 + 2 * k) := cmul_of b1 b2
  have m3 : CMulW 31 k := cmul_of (show bd 31 5 by decide) hk
  have m4 : CDivW ((v % 2147483647 * (48271 + 2 * k) + 31 * k) % 2147483629) 7 := cdiv_of (b := 3) (by decide) (by decide)
  refine ⟨(v % 2147483647 * (48271 + 2 * k) + 31 * k) % 2147483629 / 7 % m, Int.emod_nonneg _ (by omega), Int.emod_lt_of_pos _ hm, ?_⟩
  simp only [fn_law_pick, startSl]
  simp [hv, m1, m2, m3, m4, hm]
theorem next_ev (h : T "_law_next" = some fn_law_next) (n : Nat) {k j : Int} (h0 : 0 ≤ k) (hk : bd k 60) (hj0 : 0 ≤ j) (hj : bd j 60) :
    ∃ r, 0 ≤ r ∧ r < 9973 ∧ evFn T (n + 1) "_law_next" [.int k, .int j] = .ok (.int r, false) := by
  rw [evFn_succ h rfl]
  have m1 : CMulW k 31 := cmul_of hk (show bd 31 5 by decide)
  have m2 : CMulW j 7 := cmul_of hj (show bd 7 3 by decide)
  refine ⟨(k * 31 + j * 7 + 13) % 9973, Int.emod_nonneg _ (by decide), Int.emod_lt_of_pos _ (by decide), ?_⟩
  simp only [fn_law_next, startSl]
  simp [m1, m2]
end
/-! ### texts -/
def isLow (z : Str) : Prop := ∀ c ∈ z.cps.toList, 97 ≤ c ∧ c ≤ 122
structure NameOk (z : Str) : Prop where
  low : isLow z
  l0 : 1 ≤ z.length
  l6 : z.length ≤ 6
theorem low_app {a b : Str} (h : isLow a) (g : isLow b) : isLow (a ++ b) := by
  intro c hc
  have : c ∈ a.cps.toList ++ b.cps.toList := by
    have e : (a ++ b).cps = a.cps ++ b.cps := rfl
    rw [e, Array.toList_append] at hc
    exact hc
  rcases List.mem_append.mp this with m | m
  · exact h c m
  · exact g c m
theorem len_app (a b : Str) : (a ++ b).length = a.length + b.length := by
  show (a.cps ++ b.cps).size = _
  rw [Array.size_append]; rfl
theorem low_cut {a : Str} (h : isLow a) (lo hi : Option Int) : isLow (cutS a lo hi) := by
  intro c hc
  simp only [cutS] at hc
  exact h c (List.mem_of_mem_drop (List.mem_of_mem_take hc))
theorem len_cut (a : Str) (lo hi : Option Int) : (cutS a lo hi).length = min (HT.sIx a.length a.length hi - HT.sIx a.length 0 lo) (a.length - HT.sIx a.length 0 lo) := by
  show (((a.cps.toList.drop (HT.sIx a.length 0 lo)).take (HT.sIx a.length a.length hi - HT.sIx a.length 0 lo)).toArray).size = _
  rw [List.size_toArray, List.length_take, List.length_drop, Array.length_toList]; rfl
theorem sIx_of {n d : Nat} {k : Int} (h : 0 ≤ k) : HT.sIx n d (some k) = min k.toNat n := by
  have := HT.sIx_nat n d k.toNat
  rwa [Int.toNat_of_nonneg h] at this
theorem low_one {c : Nat} (h : 97 ≤ c ∧ c ≤ 122) : isLow ⟨#[c]⟩ := by
  intro c' hc
  simp at hc
  subst hc; exact h
theorem rangeD_get {lo : Int} {n i : Nat} {d : D} (h : (rangeD lo n)[i]? = some d) : i < n ∧ d = .int (lo + (i : Nat)) := by
  have hi : i < n := by simpa [rangeD] using (List.getElem?_eq_some_iff.mp h).1
  simp only [rangeD, List.getElem?_map, List.getElem?_range hi, Option.map_some, Option.some.injEq] at h
  exact ⟨hi, h.symm⟩
theorem rangeD_len (lo : Int) (n : Nat) : (rangeD lo n).length = n := by simp [rangeD]
theorem small62_of {j : Int} (h0 : -4611686018427387903 ≤ j) (h1 : j < 4611686018427387904) : small62 j = true := by
  simp only [small62, decide_eq_true_eq]
  omega
@[simp] theorem rg1_of {j : Int} (h0 : 0 ≤ j) (h1 : j < 4611686018427387904) : rg1 (.int j) = .ok (rangeD 0 j.toNat) := by
  simp only [rg1]
  rw [if_pos (small62_of (by omega) h1)]
theorem addD_str {a b : Str} (h : a.length + b.length ≤ 1000000) : addD (.str a) (.str b) = .ok (.str (a ++ b), .sh) := by
  simp only [addD]
  rw [if_pos (by rw [sizeLine_eq]; omega)]
theorem sliceD_str {a : Str} (lo hi : Option Int) (h : a.length ≤ 1000000) : sliceD (.str a) lo hi = .ok (.str (cutS a lo hi), .sh) := by
  simp only [sliceD]
  rw [if_pos (by rw [sizeLine_eq]; omega)]
theorem lenD_str {a : Str} (h : a.length ≤ 1000000) : lenD [.str a] = .ok (.int a.length, .sh) := by
  simp only [lenD]
  rw [if_pos (by rw [sizeLine_eq]; omega)]
theorem small_len {n : Nat} (h : n ≤ 1000000) : n ≤ sizeLine := by rw [sizeLine_eq]; omega
def lets : Str := "bcdfghjklmnpqrstvwxyz"
theorem lets_low : isLow lets := by
  show ∀ c ∈ lets.cps.toList, 97 ≤ c ∧ c ≤ 122
  decide +kernel
theorem lets_len : lets.length = 21 := by decide +kernel
theorem lets_at' {i : Int} (h0 : 0 ≤ i) (h : i < 21) : ∃ c, ixD (.str lets) (.int i) = .ok (.str ⟨#[c]⟩, .sh) ∧ (97 ≤ c ∧ c ≤ 122) ∧ lets.cps.toList[i.toNat]? = some c := by
  have hl : lets.cps.toList.length = 21 := by decide +kernel
  obtain ⟨c, e, e2, hm⟩ := atI_of (xs := lets.cps.toList) h0 (by rw [hl]; exact_mod_cast h)
  exact ⟨c, ixD_str (by rw [lets_len, sizeLine_eq]; decide) e, lets_low c hm, e2⟩
theorem lets_at {i : Int} (h0 : 0 ≤ i) (h : i < 21) : ∃ c, ixD (.str lets) (.int i) = .ok (.str ⟨#[c]⟩, .sh) ∧ 97 ≤ c ∧ c ≤ 122 := by
  obtain ⟨c, a, b, _⟩ := lets_at' h0 h
  exact ⟨c, a, b⟩
theorem lets_nd : lets.cps.toList.Nodup := by decide +kernel
theorem lets_inj {i j c : Nat} (h : lets.cps.toList[i]? = some c) (g : lets.cps.toList[j]? = some c) : i = j := by
  have hi := (List.getElem?_eq_some_iff.mp h).1
  exact (List.getElem?_inj hi lets_nd).mp (h.trans g.symm)
theorem cat_toList (a b : Str) : (a ++ b).cps.toList = a.cps.toList ++ b.cps.toList := by
  have e : (a ++ b).cps = a.cps ++ b.cps := rfl
  rw [e, Array.toList_append]
theorem nodup_by {α : Type} {l : List α} (h : ∀ (i j : Nat) (x : α), l[i]? = some x → l[j]? = some x → i = j) : l.Nodup := by
  rw [List.nodup_iff_pairwise_ne, List.pairwise_iff_getElem]
  intro i j hi hj hij e
  have := h i j l[i] (List.getElem?_eq_getElem hi) (by rw [List.getElem?_eq_getElem hj, e])
  omega
section
variable {T : Str → Option Fn} (ns : List Int)
/-- names: as many as asked, each a small word of one to six letters -/
theorem names_ev (h : T "_law_cell" = some fn_law_cell) (g : T "_law_pick" = some fn_law_pick) (f : T "_law_names" = some fn_law_names) (hl : ns.length ≤ 4000) (n : Nat) {k m : Int} (h0 : 0 ≤ k) (hk : bd k 50) (hm0 : 0 ≤ m) (hm : m ≤ 5) :
    ∃ nms : List Str, evFn T (n + 3) "_law_names" [sc ns, .int k, .int m] = .ok (.lst (nms.map .str), true) ∧ nms.length = m.toNat ∧ (∀ z ∈ nms, NameOk z) ∧ nms.Nodup := by
  have P := fun {k m : Int} => pick_ev ns h g hl n (k := k) (m := m)
  obtain ⟨r1, r10, r11, e1⟩ := P h0 (bd_le hk (by decide)) (show (0 : Int) < 6 by decide)
  obtain ⟨r2, r20, r21, e2⟩ := P (k := k + 3) (m := 21) (by omega) (bd_le (bd_add hk (show bd 3 50 by decide)) (by decide)) (by decide)
  obtain ⟨r3, r30, r31, e3⟩ := P (k := k + 4) (m := 3) (by omega) (bd_le (bd_add hk (show bd 4 50 by decide)) (by decide)) (by decide)
  rw [evFn_succ f rfl]
  have loop := forFold_inv (step := forStep (CG.name 5) fn_law_names_b0 (evFn T (n + 2)))
    (ds := rangeD 0 r1.toNat) (ρ := [.sh (sc ns), .sh (.int k), .sh (.int m), .sh (.str lets), .sh (.str ""), .no, .no, .no])
    (fun i ρ => ∃ w x, ρ = [.sh (sc ns), .sh (.int k), .sh (.int m), .sh (.str lets), .sh (.str w), x, .no, .no] ∧ isLow w ∧ w.length = i) ⟨"", .no, rfl, (by unfold isLow; decide +kernel), by decide +kernel⟩ (by
      rintro i d ρ hd ⟨w, x, rfl, lw, hw⟩
      obtain ⟨hi, rfl⟩ := rangeD_get hd
      have hi' : (i : Int) < 6 := by omega
      have bi : bd (0 + (i : Int)) 3 := by unfold bd; omega
      obtain ⟨q, q0, q1, eq⟩ := P (k := k + 11 * (0 + (i : Int)) + 1) (m := 21) (by omega) (bd_le (bd_add (bd_add (bd_le hk (show 50 ≤ 50 by decide)) (bd_le (bd_mul (show bd 11 4 by decide) bi) (by decide))) (show bd 1 51 by decide)) (by decide)) (by decide)
      obtain ⟨c, ec, hc⟩ := lets_at q0 q1
      have m1 : CMulW 11 (0 + (i : Int)) := cmul_of (show bd 11 4 by decide) bi
      have el : w.length + (⟨#[c]⟩ : Str).length ≤ 1000000 := by show w.length + 1 ≤ _; omega
      refine ⟨[.sh (sc ns), .sh (.int k), .sh (.int m), .sh (.str lets), .sh (.str (w ++ ⟨#[c]⟩)), .sh (.int (0 + (i : Int))), .no, .no], ?_, w ++ ⟨#[c]⟩, _, rfl, low_app lw (low_one hc), by rw [len_app, hw]; rfl⟩
      simp only [Int.zero_add] at eq m1
      simp [forStep, fn_law_names_b0, m1, eq, ec, addD_str el])
  obtain ⟨ρ, eρ, w, x, rfl, lw, hw⟩ := loop
  rw [rangeD_len] at hw
  have hw5 : w.length ≤ 5 := by omega
  obtain ⟨c2, ec2, hc2⟩ := lets_at r20 r21
  have hm5 : (m.toNat : Int) = m := Int.toNat_of_nonneg hm0
  have hml : m.toNat ≤ 5 := by omega
  have rg := rg1_of hm0 (show m < 4611686018427387904 by omega)
  simp only [fn_law_names, startSl]
  simp only [lets] at eρ ec2
  by_cases c : r3 = 0
  · -- the beginnings of one word
    subst c
    have el1 : w.length + (⟨#[c2]⟩ : Str).length ≤ 1000000 := by show w.length + 1 ≤ _; omega
    have qz : ("qzkxw" : Str).length = 5 := by decide +kernel
    have el2 : (w ++ ⟨#[c2]⟩ : Str).length + ("qzkxw" : Str).length ≤ 1000000 := by rw [len_app, qz]; show w.length + 1 + 5 ≤ _; omega
    have el3 : ((w ++ ⟨#[c2]⟩ : Str) ++ ("qzkxw" : Str)).length ≤ 1000000 := by rw [len_app]; exact el2
    generalize hW : cutS ((w ++ ⟨#[c2]⟩ : Str) ++ ("qzkxw" : Str)) none (some 6) = W
    have lW : isLow W := by
      rw [← hW]
      exact low_cut (low_app (low_app lw (low_one hc2)) (by unfold isLow; decide +kernel)) _ _
    have hWl : W.length = 6 := by
      rw [← hW, len_cut, sIx_of (by decide), HT.sIx_none, len_app, len_app, qz]
      show min (min 6 (w.length + 1 + 5) - 0) (w.length + 1 + 5 - 0) = 6
      omega
    have body := lcFold_map (f := lcBody (CG.name 5) CIf.no fn_law_names_e1 (evFn T (n + 2)) [.sh (sc ns), .sh (.int k), .sh (.int m), .sh (.str lets), .sh (.str W), .no, .sh (.int r2), .no])
      (fun i : Nat => D.int (0 + (i : Int))) (fun i : Nat => .str (cutS W none (some ((i : Int) + 1)))) (as := List.range m.toNat) (fun i hi => by
        simp [lcBody, fn_law_names_e1, noEx, sliceD_str none (some ((i : Int) + 1)) (show W.length ≤ 1000000 by omega)])
    have hcl : ∀ i : Nat, (cutS W none (some ((i : Int) + 1))).length = min (i + 1) 6 := fun i => by
      rw [len_cut, sIx_of (by omega), HT.sIx_none, hWl]
      have : ((i : Int) + 1).toNat = i + 1 := by omega
      rw [this]; omega
    refine ⟨(List.range m.toNat).map fun i : Nat => cutS W none (some ((i : Int) + 1)), ?_, by simp, fun z hz => ?_, nodup_by fun i j x hi hj => ?_⟩
    · simp only [lets] at body
      simp [e1, e2, e3, rg1_of r10 (show r1 < 4611686018427387904 by omega), eρ, ec2, addD_str el1, addD_str el2, sliceD_str none (some 6) el3, hW, lcRes_eq, rg, wipeSl]
      rw [show rangeD 0 m.toNat = (List.range m.toNat).map fun i : Nat => D.int (0 + (i : Int)) from rfl, body]
      simp [small_len (show m.toNat ≤ 1000000 by omega), Function.comp_def]
    · simp only [List.mem_map, List.mem_range] at hz
      obtain ⟨i, hi, rfl⟩ := hz
      have hl2 : (cutS W none (some ((i : Int) + 1))).length = min (i + 1) 6 := by
        rw [len_cut, sIx_of (by omega), HT.sIx_none, hWl]
        have : ((i : Int) + 1).toNat = i + 1 := by omega
        rw [this]; omega
      exact ⟨low_cut lW _ _, by omega, by omega⟩
    · rw [List.getElem?_map, Option.map_eq_some_iff] at hi hj
      obtain ⟨a, ha, rfl⟩ := hi
      obtain ⟨b, hb, eb⟩ := hj
      have la := (List.getElem?_eq_some_iff.mp ha).1
      have lb := (List.getElem?_eq_some_iff.mp hb).1
      rw [List.length_range] at la lb
      rw [List.getElem?_range la] at ha
      rw [List.getElem?_range lb] at hb
      cases ha; cases hb
      have := congrArg Str.length eb
      rw [hcl, hcl] at this
      omega
  · -- unlike at one place
    have c' : (r3 == 0) = false := by simpa using c
    obtain ⟨r4, r40, r41, e4⟩ := P (k := k + 2) (m := (w.length : Int) + 1) (by omega) (bd_le (bd_add hk (show bd 2 50 by decide)) (by decide)) (by omega)
    have g1 : ∀ i : Nat, i < m.toNat → ∃ c, ixD (.str lets) (.int ((r2 + 4 * (i : Int)) % 21)) = .ok (.str ⟨#[c]⟩, .sh) ∧ (97 ≤ c ∧ c ≤ 122) ∧ lets.cps.toList[((r2 + 4 * (i : Int)) % 21).toNat]? = some c := fun i hi => lets_at' (Int.emod_nonneg _ (by decide)) (Int.emod_lt_of_pos _ (by decide))
    have body := lcFold_all (f := lcBody (CG.name 5) CIf.no fn_law_names_e0 (evFn T (n + 2)) [.sh (sc ns), .sh (.int k), .sh (.int m), .sh (.str lets), .sh (.str w), .no, .sh (.int r2), .sh (.int r4)])
      (g := D.str) (R := fun d z => NameOk z ∧ ∃ (i : Nat) (c : Nat), d = .int (0 + (i : Int)) ∧ lets.cps.toList[((r2 + 4 * (i : Int)) % 21).toNat]? = some c ∧ z.cps.toList[r4.toNat]? = some c) (ds := rangeD 0 m.toNat) (fun d hd => by
        obtain ⟨i, hi0⟩ := List.getElem?_of_mem hd
        obtain ⟨hi, rfl⟩ := rangeD_get hi0
        obtain ⟨c, ec, hc, hci⟩ := g1 i hi
        have bi : bd (i : Int) 3 := by unfold bd; omega
        have m1 : CMulW 4 (i : Int) := cmul_of (show bd 4 3 by decide) bi
        have la : (cutS w none (some r4)).length = r4.toNat := by rw [len_cut, sIx_of r40, HT.sIx_none]; omega
        have lb : (cutS w (some r4) none).length = w.length - r4.toNat := by rw [len_cut, sIx_of r40, HT.sIx_none]; omega
        have el1 : (cutS w none (some r4)).length + (⟨#[c]⟩ : Str).length ≤ 1000000 := by rw [la]; show r4.toNat + 1 ≤ _; omega
        have el2 : (cutS w none (some r4) ++ ⟨#[c]⟩ : Str).length + (cutS w (some r4) none).length ≤ 1000000 := by rw [len_app, la, lb]; show r4.toNat + 1 + _ ≤ _; omega
        refine ⟨(cutS w none (some r4) ++ ⟨#[c]⟩) ++ cutS w (some r4) none, ?_, ⟨low_app (low_app (low_cut lw _ _) (low_one hc)) (low_cut lw _ _), ?_, ?_⟩, i, c, rfl, hci, ?_⟩
        · simp only [lets] at ec
          simp [lcBody, fn_law_names_e0, noEx, m1, lets, ec, sliceD_str none (some r4) (show w.length ≤ 1000000 by omega), sliceD_str (some r4) none (show w.length ≤ 1000000 by omega), addD_str el1, addD_str el2]
        · rw [len_app, len_app, la, lb]; show 1 ≤ r4.toNat + 1 + _; omega
        · rw [len_app, len_app, la, lb]; show r4.toNat + 1 + _ ≤ 6; omega
        · have hla : (cutS w none (some r4)).cps.toList.length = r4.toNat := by rw [Array.length_toList]; exact la
          rw [cat_toList, cat_toList, List.getElem?_append_left (by rw [List.length_append, hla]; show r4.toNat < r4.toNat + 1; omega), List.getElem?_append_right (by rw [hla]; exact Nat.le_refl _), hla, Nat.sub_self]; rfl)
    obtain ⟨nms, ef, hn, hr⟩ := body
    rw [rangeD_len] at hn
    refine ⟨nms, ?_, hn, fun z hz => ?_, nodup_by fun i j x hi hj => ?_⟩
    · simp only [lets] at ef
      simp [e1, e2, e3, e4, rg1_of r10 (show r1 < 4611686018427387904 by omega), eρ, ec2, c', lenD_str (show w.length ≤ 1000000 by omega), lcRes_eq, rg, wipeSl]
      rw [ef]
      simp [small_len (show nms.length ≤ 1000000 by omega)]
    · obtain ⟨i, hi⟩ := List.getElem?_of_mem hz
      have hi2 : i < nms.length := (List.getElem?_eq_some_iff.mp hi).1
      exact (hr i _ z (List.getElem?_eq_getElem (l := rangeD 0 m.toNat) (i := i) (by rw [rangeD_len]; omega)) hi).1
    · have li := (List.getElem?_eq_some_iff.mp hi).1
      have lj := (List.getElem?_eq_some_iff.mp hj).1
      obtain ⟨_, a, c1, ea, ca, xa⟩ := hr i _ x (List.getElem?_eq_getElem (l := rangeD 0 m.toNat) (i := i) (by rw [rangeD_len]; omega)) hi
      obtain ⟨_, b, c2, eb, cb, xb⟩ := hr j _ x (List.getElem?_eq_getElem (l := rangeD 0 m.toNat) (i := j) (by rw [rangeD_len]; omega)) hj
      have e1 := (rangeD_get (List.getElem?_eq_getElem (l := rangeD 0 m.toNat) (i := i) (by rw [rangeD_len]; omega))).2
      have e2 := (rangeD_get (List.getElem?_eq_getElem (l := rangeD 0 m.toNat) (i := j) (by rw [rangeD_len]; omega))).2
      rw [ea] at e1
      rw [eb] at e2
      have e1 : a = i := by injection e1 with e1; omega
      have e2 : b = j := by injection e2 with e2; omega
      subst e1; subst e2
      rw [xa] at xb
      cases xb
      have := lets_inj ca cb
      have h1 := Int.emod_nonneg (r2 + 4 * (a : Int)) (show (21 : Int) ≠ 0 by decide)
      have h2 := Int.emod_nonneg (r2 + 4 * (b : Int)) (show (21 : Int) ≠ 0 by decide)
      omega
end
end MJ

namespace MJ
open PySem PySem.Spec PyProof.Rows L2
inductive Op3 where
  | and | or | if
  deriving DecidableEq
inductive Sy where
  | ltr (z : Str)
  | not (s : Sy)
  | bin (o : Op3) (a b : Sy)
def wLetter : Str := "letter"
def wNot : Str := "not"
def wAnd : Str := "and"
def wOr : Str := "or"
def wIf : Str := "if"
def Op3.word : Op3 → Str
  | .and => wAnd
  | .or => wOr
  | .if => wIf
def enc : Sy → D
  | .ltr z => .tup [.str wLetter, .str z]
  | .not s => .tup [.str wNot, enc s]
  | .bin o a b => .tup [.str o.word, enc a, enc b]
def Sy.pieces : Sy → Nat
  | .ltr _ => 1
  | .not s => s.pieces + 1
  | .bin _ a b => a.pieces + b.pieces + 1
def Sy.depth : Sy → Nat
  | .ltr _ => 1
  | .not s => s.depth + 1
  | .bin _ a b => max a.depth b.depth + 1
def Sy.lets : Sy → List Str
  | .ltr z => [z]
  | .not s => s.lets
  | .bin _ a b => a.lets ++ b.lets
theorem Sy.pos : ∀ s : Sy, 1 ≤ s.pieces
  | .ltr _ => Nat.le_refl _
  | .not s => by simp [Sy.pieces]
  | .bin _ a b => by simp [Sy.pieces]
theorem Sy.depth_le : ∀ s : Sy, s.depth ≤ s.pieces
  | .ltr _ => Nat.le_refl _
  | .not s => by have := s.depth_le; simp only [Sy.depth, Sy.pieces]; omega
  | .bin _ a b => by have := a.depth_le; have := b.depth_le; simp only [Sy.depth, Sy.pieces]; omega
theorem str_eqD {a b : Str} (h : PyData.canLay0 (.str a) = true) (g : PyData.canLay0 (.str b) = true) : eqD (.str a) (.str b) = .ok (a == b) := by
  simp [eqD, toPy, SeqAt.shaped, h, g, PyData.depth, PyData.eqv]
theorem lay_str {a : Str} : PyData.canLay0 (.str a) = PyData.strOk a := by simp [PyData.canLay0]
theorem low_ok {a : Str} (h : isLow a) : PyData.strOk a = true := by
  unfold PyData.strOk
  rw [Array.all_eq_true]
  intro i hi
  have := h a.cps[i] (by simp)
  simp; omega
@[simp] theorem eqw_letter_letter : eqD (.str (Str.ofString "letter")) (.str (Str.ofString "letter")) = .ok true := by
  rw [str_eqD (by decide +kernel) (by decide +kernel)]
  exact congrArg Res.ok (by decide +kernel)
@[simp] theorem eqw_letter_not : eqD (.str (Str.ofString "letter")) (.str (Str.ofString "not")) = .ok false := by
  rw [str_eqD (by decide +kernel) (by decide +kernel)]
  exact congrArg Res.ok (by decide +kernel)
@[simp] theorem eqw_letter_and : eqD (.str (Str.ofString "letter")) (.str (Str.ofString "and")) = .ok false := by
  rw [str_eqD (by decide +kernel) (by decide +kernel)]
  exact congrArg Res.ok (by decide +kernel)
@[simp] theorem eqw_letter_or : eqD (.str (Str.ofString "letter")) (.str (Str.ofString "or")) = .ok false := by
  rw [str_eqD (by decide +kernel) (by decide +kernel)]
  exact congrArg Res.ok (by decide +kernel)
@[simp] theorem eqw_letter_if : eqD (.str (Str.ofString "letter")) (.str (Str.ofString "if")) = .ok false := by
  rw [str_eqD (by decide +kernel) (by decide +kernel)]
  exact congrArg Res.ok (by decide +kernel)
@[simp] theorem eqw_not_letter : eqD (.str (Str.ofString "not")) (.str (Str.ofString "letter")) = .ok false := by
  rw [str_eqD (by decide +kernel) (by decide +kernel)]
  exact congrArg Res.ok (by decide +kernel)
@[simp] theorem eqw_not_not : eqD (.str (Str.ofString "not")) (.str (Str.ofString "not")) = .ok true := by
  rw [str_eqD (by decide +kernel) (by decide +kernel)]
  exact congrArg Res.ok (by decide +kernel)
@[simp] theorem eqw_not_and : eqD (.str (Str.ofString "not")) (.str (Str.ofString "and")) = .ok false := by
  rw [str_eqD (by decide +kernel) (by decide +kernel)]
  exact congrArg Res.ok (by decide +kernel)
@[simp] theorem eqw_not_or : eqD (.str (Str.ofString "not")) (.str (Str.ofString "or")) = .ok false := by
  rw [str_eqD (by decide +kernel) (by decide +kernel)]
  exact congrArg Res.ok (by decide +kernel)
@[simp] theorem eqw_not_if : eqD (.str (Str.ofString "not")) (.str (Str.ofString "if")) = .ok false := by
  rw [str_eqD (by decide +kernel) (by decide +kernel)]
  exact congrArg Res.ok (by decide +kernel)
@[simp] theorem eqw_and_letter : eqD (.str (Str.ofString "and")) (.str (Str.ofString "letter")) = .ok false := by
  rw [str_eqD (by decide +kernel) (by decide +kernel)]
  exact congrArg Res.ok (by decide +kernel)
@[simp] theorem eqw_and_not : eqD (.str (Str.ofString "and")) (.str (Str.ofString "not")) = .ok false := by
  rw [str_eqD (by decide +kernel) (by decide +kernel)]
  exact congrArg Res.ok (by decide +kernel)
@[simp] theorem eqw_and_and : eqD (.str (Str.ofString "and")) (.str (Str.ofString "and")) = .ok true := by
  rw [str_eqD (by decide +kernel) (by decide +kernel)]
  exact congrArg Res.ok (by decide +kernel)
@[simp] theorem eqw_and_or : eqD (.str (Str.ofString "and")) (.str (Str.ofString "or")) = .ok false := by
  rw [str_eqD (by decide +kernel) (by decide +kernel)]
  exact congrArg Res.ok (by decide +kernel)
@[simp] theorem eqw_and_if : eqD (.str (Str.ofString "and")) (.str (Str.ofString "if")) = .ok false := by
  rw [str_eqD (by decide +kernel) (by decide +kernel)]
  exact congrArg Res.ok (by decide +kernel)
@[simp] theorem eqw_or_letter : eqD (.str (Str.ofString "or")) (.str (Str.ofString "letter")) = .ok false := by
  rw [str_eqD (by decide +kernel) (by decide +kernel)]
  exact congrArg Res.ok (by decide +kernel)
@[simp] theorem eqw_or_not : eqD (.str (Str.ofString "or")) (.str (Str.ofString "not")) = .ok false := by
  rw [str_eqD (by decide +kernel) (by decide +kernel)]
  exact congrArg Res.ok (by decide +kernel)
@[simp] theorem eqw_or_and : eqD (.str (Str.ofString "or")) (.str (Str.ofString "and")) = .ok false := by
  rw [str_eqD (by decide +kernel) (by decide +kernel)]
  exact congrArg Res.ok (by decide +kernel)
@[simp] theorem eqw_or_or : eqD (.str (Str.ofString "or")) (.str (Str.ofString "or")) = .ok true := by
  rw [str_eqD (by decide +kernel) (by decide +kernel)]
  exact congrArg Res.ok (by decide +kernel)
@[simp] theorem eqw_or_if : eqD (.str (Str.ofString "or")) (.str (Str.ofString "if")) = .ok false := by
  rw [str_eqD (by decide +kernel) (by decide +kernel)]
  exact congrArg Res.ok (by decide +kernel)
@[simp] theorem eqw_if_letter : eqD (.str (Str.ofString "if")) (.str (Str.ofString "letter")) = .ok false := by
  rw [str_eqD (by decide +kernel) (by decide +kernel)]
  exact congrArg Res.ok (by decide +kernel)
@[simp] theorem eqw_if_not : eqD (.str (Str.ofString "if")) (.str (Str.ofString "not")) = .ok false := by
  rw [str_eqD (by decide +kernel) (by decide +kernel)]
  exact congrArg Res.ok (by decide +kernel)
@[simp] theorem eqw_if_and : eqD (.str (Str.ofString "if")) (.str (Str.ofString "and")) = .ok false := by
  rw [str_eqD (by decide +kernel) (by decide +kernel)]
  exact congrArg Res.ok (by decide +kernel)
@[simp] theorem eqw_if_or : eqD (.str (Str.ofString "if")) (.str (Str.ofString "or")) = .ok false := by
  rw [str_eqD (by decide +kernel) (by decide +kernel)]
  exact congrArg Res.ok (by decide +kernel)
@[simp] theorem eqw_if_if : eqD (.str (Str.ofString "if")) (.str (Str.ofString "if")) = .ok true := by
  rw [str_eqD (by decide +kernel) (by decide +kernel)]
  exact congrArg Res.ok (by decide +kernel)
theorem toPys_strs : ∀ hd : List Str, toPys (hd.map D.str) = some (hd.map PyData.str)
  | [] => rfl
  | z :: hd => by simp [toPys, toPy, toPys_strs hd]
theorem lay_strs : ∀ {hd : List Str}, (∀ z ∈ hd, PyData.strOk z = true) → PyData.canLayAll0 (hd.map .str) = true
  | [], _ => rfl
  | z :: hd, h => by
    have := lay_strs (hd := hd) fun z hz => h z (List.mem_cons_of_mem _ hz)
    simp [PyData.canLayAll0, PyData.canLay0, h z (List.mem_cons_self ..), this]
theorem depth_strs : ∀ hd : List Str, PyData.depthAll (hd.map .str) ≤ 1
  | [] => by simp [PyData.depthAll]
  | z :: hd => by
    have := depth_strs hd
    simp [PyData.depthAll, PyData.depth]; omega
theorem in_strs {z : Str} {hd : List Str} (hz : PyData.strOk z = true) (h : ∀ z ∈ hd, PyData.strOk z = true) : inD (.str z) (.tup (hd.map .str)) = .ok (decide (z ∈ hd)) := by
  have s1 : SeqAt.shaped (.str z) = true := by simp [SeqAt.shaped, lay_str, hz, PyData.depth]
  have s2 : SeqAt.shaped (.tuple (hd.map PyData.str)) = true := by
    have := depth_strs hd
    simp [SeqAt.shaped, PyData.canLay0, lay_strs h, PyData.depth]; omega
  simp only [inD, toPy, toPys_strs, Option.map_some, s1, s2]
  simp only [and_self, if_true, List.any_map]
  congr 1
  rw [Bool.eq_iff_iff]
  simp [PyData.eqv]
section
variable {T : Str → Option Fn} (ns : List Int)
theorem saying_ev (h : T "_law_cell" = some fn_law_cell) (g : T "_law_pick" = some fn_law_pick) (nx : T "_law_next" = some fn_law_next) (f : T "_law_saying" = some fn_law_saying) (hl : ns.length ≤ 4000)
    {nms : List Str} (hn : nms ≠ []) (hn5 : nms.length ≤ 1000) : ∀ (r n : Nat) (k room : Int), 1 ≤ room → room ≤ r → r ≤ 1000 → 0 ≤ k → bd k 50 →
    ∃ s : Sy, evFn T (n + r + 2) "_law_saying" [sc ns, .int k, .int room, .lst (nms.map .str)] = .ok (enc s, false) ∧ (s.pieces : Int) ≤ room ∧ ∀ z ∈ s.lets, z ∈ nms
  | 0, n, k, room => by intros; omega
  | r + 1, n, k, room => by
    intro hr1 hr hr9 hk0 hk
    have P := fun {k m : Int} => pick_ev ns h g hl (n + r) (k := k) (m := m)
    have NX := fun {j : Int} => next_ev nx (n + r + 1) (k := k) (j := j) hk0 (bd_le hk (by decide))
    have ih := saying_ev h g nx f hl hn hn5 r n
    rw [show n + (r + 1) + 2 = (n + r + 2) + 1 by omega, evFn_succ f rfl]
    have two : 2 ≤ sizeLine := by decide
    have three : 3 ≤ sizeLine := by decide
    obtain ⟨w, w0, w1, ew⟩ := P hk0 (bd_le hk (by decide)) (show (0 : Int) < 9 by decide)
    have bk : ∀ j : Int, bd j 50 → bd (k + j) 60 := fun j hj => bd_le (bd_add hk hj) (by decide)
    simp only [fn_law_saying, startSl]
    by_cases c : room < 2 ∨ w = 0
    · have hl0 : 0 < nms.length := List.length_pos_iff.mpr hn
      obtain ⟨q, q0, q1, eq⟩ := P (k := k + 1) (m := (nms.length : Int)) (by omega) (bk 1 (by decide)) (by omega)
      obtain ⟨d, ed, _, hm⟩ := atI_of (xs := nms.map D.str) q0 (by simpa using q1)
      obtain ⟨z, hz, rfl⟩ := List.mem_map.mp hm
      refine ⟨.ltr z, ?_, by simp [Sy.pieces]; omega, by simpa [Sy.lets] using hz⟩
      by_cases c2 : room < 2
      · simp [ew, c2, eq, ixD_lst ed, two, enc, wLetter]
      · have c3 : w = 0 := by omega
        subst c3
        simp [ew, c2, eq, ixD_lst ed, two, enc, wLetter]
    · have c2 : ¬ room < 2 := fun z => c (.inl z)
      have c3 : ¬ w = 0 := fun z => c (.inr z)
      have c3' : (w == 0) = false := by simpa using c3
      by_cases c4 : room = 2 ∨ w = 1
      · obtain ⟨k2, k20, k21, ek⟩ := NX (j := 0) (by decide) (by decide)
        obtain ⟨s, es, hs, hz⟩ := ih k2 (room - 1) (by omega) (by omega) (by omega) k20 (bd_of k20 k21 (by decide))
        refine ⟨.not s, ?_, by simp only [Sy.pieces]; omega, hz⟩
        by_cases c5 : room = 2
        · subst c5
          simp only [Int.reduceSub] at es
          simp [ew, c3', ek, es, two, enc, wNot]
        · have c6 : w = 1 := by omega
          subst c6
          have c5' : (room == 2) = false := by simpa using c5
          simp [ew, c2, c5', ek, es, two, enc, wNot]
      · have c5 : ¬ room = 2 := fun z => c4 (.inl z)
        have c6 : ¬ w = 1 := fun z => c4 (.inr z)
        have c5' : (room == 2) = false := by simpa using c5
        have c6' : (w == 1) = false := by simpa using c6
        obtain ⟨q, q0, q1, eq⟩ := P (k := k + 1) (m := room - 2) (by omega) (bk 1 (by decide)) (by omega)
        obtain ⟨o, o0, o1, eo⟩ := P (k := k + 2) (m := 3) (by omega) (bk 2 (by decide)) (by decide)
        obtain ⟨k2, k20, k21, ek1⟩ := NX (j := 1) (by decide) (by decide)
        obtain ⟨k3, k30, k31, ek2⟩ := NX (j := 2) (by decide) (by decide)
        obtain ⟨s1, ea, h1, z1⟩ := ih k2 (1 + q) (by omega) (by omega) (by omega) k20 (bd_of k20 k21 (by decide))
        obtain ⟨s2, eb, h2, z2⟩ := ih k3 (room - 1 - (1 + q)) (by omega) (by omega) (by omega) k30 (bd_of k30 k31 (by decide))
        have ho : ∃ o3 : Op3, ixD (.lst [.str wAnd, .str wOr, .str wIf]) (.int o) = .ok (.str o3.word, .sh) := by
          have : o = 0 ∨ o = 1 ∨ o = 2 := by omega
          rcases this with rfl | rfl | rfl
          · exact ⟨.and, rfl⟩
          · exact ⟨.or, rfl⟩
          · exact ⟨.if, rfl⟩
        obtain ⟨o3, ho⟩ := ho
        refine ⟨.bin o3 s1 s2, ?_, by simp only [Sy.pieces]; omega, fun z hz => ?_⟩
        · simp only [wAnd, wOr, wIf] at ho
          simp [ew, c2, c3', c5', c6', eq, eo, ek1, ek2, ea, eb, ho, three, enc]
        · rcases List.mem_append.mp hz with m | m
          · exact z1 z m
          · exact z2 z m
end
def Sy.so (hd : List Str) : Sy → Bool
  | .ltr z => decide (z ∈ hd)
  | .not s => !s.so hd
  | .bin .and a b => a.so hd && b.so hd
  | .bin .or a b => a.so hd || b.so hd
  | .bin .if a b => !a.so hd || b.so hd
theorem is_so_ev {T : Str → Option Fn} (f : T "is_so" = some fn_is_so) {hd : List Str} (hh : ∀ z ∈ hd, PyData.strOk z = true) : ∀ (s : Sy) (n : Nat), (∀ z ∈ s.lets, PyData.strOk z = true) → evFn T (n + s.depth) "is_so" [enc s, .tup (hd.map .str)] = .ok (.bl (s.so hd), false)
  | .ltr z, n, hz => by
    rw [show n + (Sy.ltr z).depth = n + 1 from rfl, evFn_succ f rfl]
    simp only [fn_is_so, startSl, enc, wLetter]
    have hz := hz z (by simp [Sy.lets])
    simp [ixD_tup (ds := [.str (Str.ofString "letter"), .str z]) (i := 0) rfl, ixD_tup (ds := [.str (Str.ofString "letter"), .str z]) (i := 1) rfl, in_strs hz hh, Sy.so]
  | .not s, n, hz => by
    have ih := is_so_ev f hh s n hz
    rw [show n + (Sy.not s).depth = (n + s.depth) + 1 from rfl, evFn_succ f rfl]
    simp only [fn_is_so, startSl, enc, wNot]
    simp [ixD_tup (ds := [.str (Str.ofString "not"), enc s]) (i := 0) rfl, ixD_tup (ds := [.str (Str.ofString "not"), enc s]) (i := 1) rfl, ih, Sy.so]
  | .bin o a b, n, hz => by
    have iha := is_so_ev f hh a (n + (max a.depth b.depth - a.depth)) fun z m => hz z (List.mem_append_left _ m)
    have ihb := is_so_ev f hh b (n + (max a.depth b.depth - b.depth)) fun z m => hz z (List.mem_append_right _ m)
    rw [show n + (max a.depth b.depth - a.depth) + a.depth = n + max a.depth b.depth by omega] at iha
    rw [show n + (max a.depth b.depth - b.depth) + b.depth = n + max a.depth b.depth by omega] at ihb
    rw [show n + (Sy.bin o a b).depth = (n + max a.depth b.depth) + 1 from rfl, evFn_succ f rfl]
    have i0 : ∀ w, ixD (.tup [.str w, enc a, enc b]) (.int 0) = .ok (.str w, .sh) := fun w => ixD_tup rfl
    have i1 : ∀ w, ixD (.tup [.str w, enc a, enc b]) (.int 1) = .ok (enc a, .sh) := fun w => ixD_tup rfl
    have i2 : ∀ w, ixD (.tup [.str w, enc a, enc b]) (.int 2) = .ok (enc b, .sh) := fun w => ixD_tup rfl
    simp only [fn_is_so, startSl, enc]
    cases o <;> simp only [Op3.word, wAnd, wOr, wIf] <;> simp [i0, i1, i2, iha, ihb, Sy.so]
    · cases a.so hd <;> simp
    · cases a.so hd <;> simp
    · cases a.so hd <;> cases b.so hd <;> simp
theorem bools_map : ∀ bs : List Bool, boolsOf (bs.map D.bl) = some bs
  | [] => rfl
  | b :: bs => by simp [boolsOf, bools_map bs]
theorem law_so_ev {T : Str → Option Fn} (f : T "_law_so" = some fn_law_so) {hd : List Str} (hh : ∀ z ∈ hd, PyData.strOk z = true) : ∀ (s : Sy) (n : Nat), (∀ z ∈ s.lets, PyData.strOk z = true) → evFn T (n + s.depth) "_law_so" [enc s, .tup (hd.map .str)] = .ok (.bl (s.so hd), false)
  | .ltr z, n, hz => by
    rw [show n + (Sy.ltr z).depth = n + 1 from rfl, evFn_succ f rfl]
    simp only [fn_law_so, startSl, enc, wLetter]
    have hz := hz z (by simp [Sy.lets])
    simp [ixD_tup (ds := [.str (Str.ofString "letter"), .str z]) (i := 0) rfl, ixD_tup (ds := [.str (Str.ofString "letter"), .str z]) (i := 1) rfl, in_strs hz hh, Sy.so]
  | .not s, n, hz => by
    have ih := law_so_ev f hh s n hz
    rw [show n + (Sy.not s).depth = (n + s.depth) + 1 from rfl, evFn_succ f rfl]
    simp only [fn_law_so, startSl, enc, wNot]
    have one : 1 ≤ sizeLine := by decide
    have cut : sliceD (.tup [.str (Str.ofString "not"), enc s]) (some 1) none = .ok (.tup [enc s], .sh) := rfl
    have j0 : ixD (.lst [.bl (s.so hd)]) (.int 0) = .ok (.bl (s.so hd), .sh) := ixD_lst rfl
    simp [ixD_tup (ds := [.str (Str.ofString "not"), enc s]) (i := 0) rfl, cut, lcRes_eq, lcFold, lcBody, noEx, fn_law_so_e0, wipeSl, one, j0, ih, Sy.so]
  | .bin o a b, n, hz => by
    have iha := law_so_ev f hh a (n + (max a.depth b.depth - a.depth)) fun z m => hz z (List.mem_append_left _ m)
    have ihb := law_so_ev f hh b (n + (max a.depth b.depth - b.depth)) fun z m => hz z (List.mem_append_right _ m)
    rw [show n + (max a.depth b.depth - a.depth) + a.depth = n + max a.depth b.depth by omega] at iha
    rw [show n + (max a.depth b.depth - b.depth) + b.depth = n + max a.depth b.depth by omega] at ihb
    rw [show n + (Sy.bin o a b).depth = (n + max a.depth b.depth) + 1 from rfl, evFn_succ f rfl]
    have two : 2 ≤ sizeLine := by decide
    have cut : ∀ w, sliceD (.tup [.str w, enc a, enc b]) (some 1) none = .ok (.tup [enc a, enc b], .sh) := fun w => rfl
    have i0 : ∀ w, ixD (.tup [.str w, enc a, enc b]) (.int 0) = .ok (.str w, .sh) := fun w => ixD_tup rfl
    have j0 : ixD (.lst [.bl (a.so hd), .bl (b.so hd)]) (.int 0) = .ok (.bl (a.so hd), .sh) := ixD_lst rfl
    have j1 : ixD (.lst [.bl (a.so hd), .bl (b.so hd)]) (.int 1) = .ok (.bl (b.so hd), .sh) := ixD_lst rfl
    have mn : ∀ p q : Bool, minD [.lst [.bl p, .bl q]] = .ok (.bl (p && q), .sh) := by intro p q; cases p <;> cases q <;> rfl
    have mx : ∀ p q : Bool, maxD [.lst [.bl p, .bl q]] = .ok (.bl (p || q), .sh) := by intro p q; cases p <;> cases q <;> rfl
    simp only [fn_law_so, startSl, enc]
    cases o <;> simp only [Op3.word, wAnd, wOr, wIf] <;> simp [i0, cut, lcRes_eq, lcFold, lcBody, noEx, fn_law_so_e0, wipeSl, two, j0, j1, mn, mx, iha, ihb, Sy.so]
end MJ

namespace MJ
open PySem PySem.Spec PyProof.Rows L2
/-- the names whose bits are set -/
def heldF : Int → List Str → List Str
  | _, [] => []
  | k, z :: zs => if k % 2 = 1 then z :: heldF (k / 2) zs else heldF (k / 2) zs
theorem heldF_mem : ∀ {zs : List Str} {k : Int} {z : Str}, z ∈ heldF k zs → z ∈ zs
  | [], k, z, h => by simp [heldF] at h
  | y :: zs, k, z, h => by
    simp only [heldF] at h
    split at h
    · rcases List.mem_cons.mp h with rfl | h
      · exact List.mem_cons_self ..
      · exact List.mem_cons_of_mem _ (heldF_mem h)
    · exact List.mem_cons_of_mem _ (heldF_mem h)
theorem heldF_len : ∀ (zs : List Str) (k : Int), (heldF k zs).length ≤ zs.length
  | [], k => Nat.le_refl _
  | y :: zs, k => by
    have := heldF_len zs (k / 2)
    simp only [heldF]
    split <;> simp <;> omega
theorem cdiv2 {k : Int} : CDivW k 2 := cdiv_of (b := 2) (by decide) (by decide)
section
variable {T : Str → Option Fn}
theorem held_loop (n : Nat) (nm : Sl) : ∀ (zs : List Str) (k : Int) (acc : List D) (x : Sl), acc.length + zs.length ≤ 1000000 →
    ∃ k' x', forFold (forStep (CG.name 3) fn_law_held_b0 (evFn T n)) (zs.map .str) [.sh (.int k), nm, .ow (.lst acc), x] = some (.nx [.sh (.int k'), nm, .ow (.lst (acc ++ (heldF k zs).map .str)), x'])
  | [], k, acc, x, h => ⟨k, x, by simp [heldF]⟩
  | z :: zs, k, acc, x, h => by
    simp only [List.length_cons] at h
    have hs : acc.length + 1 ≤ sizeLine := by rw [sizeLine_eq]; omega
    have hs' : acc.length < sizeLine := by omega
    by_cases c : k % 2 = 1
    · obtain ⟨k', x', e⟩ := held_loop n nm zs (k / 2) (acc ++ [.str z]) (.sh (.str z)) (by simp; omega)
      refine ⟨k', x', ?_⟩
      rw [List.map_cons, forFold]
      have : forStep (CG.name 3) fn_law_held_b0 (evFn T n) (.str z) [.sh (.int k), nm, .ow (.lst acc), x] = some (.nx [.sh (.int (k / 2)), nm, .ow (.lst (acc ++ [.str z])), .sh (.str z)]) := by
        simp [forStep, fn_law_held_b0, c, MC.run, isKind, MC.append, hs', cdiv2]
      rw [this]
      simp only [e, heldF, c, if_true, List.map_cons, List.append_assoc, List.singleton_append]
    · obtain ⟨k', x', e⟩ := held_loop n nm zs (k / 2) acc (.sh (.str z)) (by omega)
      refine ⟨k', x', ?_⟩
      rw [List.map_cons, forFold]
      have c' : (k % 2 == 1) = false := by simpa using c
      have : forStep (CG.name 3) fn_law_held_b0 (evFn T n) (.str z) [.sh (.int k), nm, .ow (.lst acc), x] = some (.nx [.sh (.int (k / 2)), nm, .ow (.lst acc), .sh (.str z)]) := by
        simp [forStep, fn_law_held_b0, c', cdiv2]
      rw [this]
      simp only [e, heldF, c, if_false]
theorem held_evD (f : T "_law_held" = some fn_law_held) (n : Nat) (k : Int) {nms : List Str} {d : D} (hd : items d = .ok (nms.map .str)) (hl : nms.length ≤ 1000000) : evFn T (n + 1) "_law_held" [.int k, d] = .ok (.tup ((heldF k nms).map .str), false) := by
  rw [evFn_succ f rfl]
  simp only [fn_law_held, startSl]
  obtain ⟨k', x', e⟩ := held_loop (T := T) n (.sh d) nms k [] .no (by simpa using hl)
  simp [hd, e]
theorem held_ev (f : T "_law_held" = some fn_law_held) (n : Nat) (k : Int) {nms : List Str} (hl : nms.length ≤ 1000000) : evFn T (n + 1) "_law_held" [.int k, .lst (nms.map .str)] = .ok (.tup ((heldF k nms).map .str), false) := by
  rw [evFn_succ f rfl]
  simp only [fn_law_held, startSl]
  obtain ⟨k', x', e⟩ := held_loop (T := T) n (.sh (.lst (nms.map .str))) nms k [] .no (by simpa using hl)
  simp [e]
end
theorem addD_tup {as bs : List D} (h : as.length + bs.length ≤ 1000000) : addD (.tup as) (.tup bs) = .ok (.tup (as ++ bs), .sh) := by
  simp only [addD]
  rw [if_pos (by rw [sizeLine_eq]; omega)]
@[simp] theorem sliceD_tup (ds : List D) (lo hi : Option Int) : sliceD (.tup ds) lo hi = .ok (.tup (cutD ds lo hi), .sh) := rfl
theorem cutD_map {α β : Type} (f : α → β) (xs : List α) (lo hi : Option Int) : cutD (xs.map f) lo hi = (cutD xs lo hi).map f := by
  simp [cutD]
theorem cutD_mem {α : Type} {xs : List α} {lo hi : Option Int} {x : α} (h : x ∈ cutD xs lo hi) : x ∈ xs := List.mem_of_mem_drop (List.mem_of_mem_take h)
theorem cutD_len {α : Type} (xs : List α) (lo hi : Option Int) : (cutD xs lo hi).length ≤ xs.length := by
  simp only [cutD, List.length_take, List.length_drop]; omega
end MJ

namespace MJ
open PySem PySem.Spec PyProof.Rows L2
theorem no_cx {P : Program} {w : World} {H : Hp} {s : Shared} {e : Value} {s' : Shared} (z : L2.CX P w [] H s (fun _ _ _ => False) e s') : False := by
  obtain ⟨_, _, _, _, _, _, _, _, _, _, _, _, z⟩ := z
  exact z
theorem law_spec {K : PySem.W.Frag} {mg : Str → Option Value} {call : Calls} {H : Hp} {a : Addr} {ns : List Int} {b : Bool} {Q : VK} {E : XK} (hS : SqL K H a (ns.map V.int)) (hb : call "law" [.lst (ns.map .int)] = .ok (.bl true, b)) (q : ∀ H', Q (.bl true) H') :
    spEv K mg call "law" [.ref a] H Q E := by
  refine ⟨H, [.lst (ns.map .int)], .refl _, .cons ?_ .nil, ?_⟩
  · simp only [Rp]
    refine ⟨a, _, rfl, hS, ?_⟩
    clear hS hb
    induction ns with
    | nil => exact .nil
    | cons n ns ih => exact .cons (by simp [Rp]) ih
  · rw [hb]
    intro v Hs' H' e r
    cases b with
    | false =>
      have r : v = .bl true := by simpa [flag, Rs, Rp] using r
      subst r; exact q _
    | true =>
      obtain ⟨_, _, _, _, _, _, z⟩ := r
      exact z.elim
end MJ

namespace MJ
open PySem PySem.Spec PyProof.Rows L2
def fn_pieces_in_e0 : CE := (.call "pieces_in" (.cons (.var 1) .nil))
def fn_pieces_in : Fn where
  ps := ["saying"]
  N := ["saying", "part"]
  body := (.cons (.ite (.cmp _ .eq (.ix .ix (.var 0) (CE.int 0)) (CE.str "letter")) (.cons (.ret (CE.int 1)) .nil) .nil) (.cons (.ret (.op _ .add (CE.int 1) (.blt .sum (.cons (.lc [("part", 1)] (.name 1) (.seq (.slc (.var 0) (.at (CE.int 1)) .no)) .no fn_pieces_in_e0) .nil)))) .nil))
def fn_letters_in_b0 : CS := (.cons (.augL 1 (.call "letters_in" (.cons (.var 2) .nil))) .nil)
def fn_letters_in : Fn where
  ps := ["saying"]
  N := ["saying", "found", "part"]
  body := (.cons (.ite (.cmp _ .eq (.ix .ix (.var 0) (CE.int 0)) (CE.str "letter")) (.cons (.ret (.lst (.cons (.ix .ix (.var 0) (CE.int 1)) .nil))) .nil) .nil) (.cons (.set 1 (.lst .nil)) (.cons (.for_ (.name 2) (.seq (.slc (.var 0) (.at (CE.int 1)) .no)) fn_letters_in_b0) (.cons (.retv 1) .nil))))
def fn_names_in : Fn where
  ps := ["saying"]
  N := ["saying"]
  body := (.cons (.ret (.blt .tuple (.cons (.sortedSet (.call "letters_in" (.cons (.var 0) .nil))) .nil))) .nil)
def fn_law_walked_b0 : CS := (.cons (.setMeth0 4 .pop 1) (.cons (.set 2 (.op _ .add (.var 2) (CE.int 1))) (.cons (.ite (.cmp _ .eq (.ix .ix (.var 4) (CE.int 0)) (CE.str "letter")) (.cons (.put .dict 3 (.ix .ix (.var 4) (CE.int 1)) (CE.bl true)) .nil) (.cons (.set 1 (.op _ .add (.var 1) (.blt .list (.cons (.slc (.var 4) (.at (CE.int 1)) .no) .nil)))) .nil)) .nil)))
def fn_law_walked : Fn where
  ps := ["_law_saying_here"]
  N := ["_law_saying_here", "_law_todo", "_law_many", "_law_names_here", "_law_one"]
  body := (.cons (.set 1 (.lst (.cons (.var 0) .nil))) (.cons (.set 2 (CE.int 0)) (.cons (.set 3 .dic0) (.cons (.while_ (.cmp _ .gt (.blt .len (.cons (.var 1) .nil)) (CE.int 0)) fn_law_walked_b0) (.cons (.ret (.tup (.cons (.var 2) (.cons (.blt .tuple (.cons (.blt .sorted (.cons (.var 3) .nil)) .nil)) .nil)))) .nil)))))
def fn_law1_b0 : CS := (.cons (.set 2 (.call "_law_names" (.cons (.var 0) (.cons (.op _ .mul (CE.int 4) (.var 1)) (.cons (.op _ .add (CE.int 1) (.call "_law_pick" (.cons (.var 0) (.cons (.op _ .add (.op _ .mul (CE.int 4) (.var 1)) (CE.int 1)) (.cons (CE.int 5) .nil))))) .nil))))) (.share 2 (.cons (.set 3 (.call "_law_saying" (.cons (.var 0) (.cons (.op _ .add (.op _ .mul (CE.int 4) (.var 1)) (CE.int 2)) (.cons (.op _ .add (CE.int 1) (.call "_law_pick" (.cons (.var 0) (.cons (.op _ .add (.op _ .mul (CE.int 4) (.var 1)) (CE.int 3)) (.cons (CE.int 40) .nil))))) (.cons (.var 2) .nil)))))) (.cons (.asg (.tup (.cons 4 (.cons 5 .nil))) (.call "_law_walked" (.cons (.var 3) .nil))) (.cons (.set 6 (.call "pieces_in" (.cons (.var 3) .nil))) (.cons (.ite (.bop (op := .Or) (.or (.not (.val (.isi (.var 6) "int" "int"))) (.or (.val (.isi (.var 6) "bool" "bool")) (.or1 (.cmp _ .ne (.var 6) (.var 4)))))) (.cons (.ret (CE.bl false)) .nil) .nil) (.cons (.set 7 (.call "names_in" (.cons (.var 3) .nil))) (.cons (.ite (.bop (op := .Or) (.or (.not (.val (.isi (.var 7) "tuple" "tuple"))) (.or1 (.cmp _ .ne (.var 7) (.var 5))))) (.cons (.ret (CE.bl false)) .nil) .nil) .nil))))))))
def fn_law1 : Fn where
  ps := ["_law_script"]
  N := ["_law_script", "_law_k", "_law_names_here", "_law_saying_here", "_law_many", "_law_due", "_law_found", "_law_told"]
  body := (.cons (.for_ (.name 1) (.range1 (.blt .max (.cons (CE.int 2) (.cons (.blt .min (.cons (CE.int 15) (.cons (.op _ .fdiv (.blt .len (.cons (.var 0) .nil)) (CE.int 4)) .nil))) .nil)))) fn_law1_b0) (.cons (.ret (CE.bl true)) .nil))
end MJ

namespace MJ
open PySem PySem.Spec PyProof.Rows L2
theorem wfuel_eq : wfuel = 100000 := by unfold wfuel; rfl
theorem while_nx {c : List Sl → Res Bool} {b : List Sl → Option Fl} (P : Nat → List Sl → Prop) (F : List Sl → Prop)
    (step : ∀ m ρ, P m ρ → (c ρ = .ok true ∧ ∃ m', m' < m ∧ Nx (b ρ) (P m')) ∨ (c ρ = .ok false ∧ F ρ)) : ∀ (n m : Nat) (ρ : List Sl), P m ρ → m < n → ∃ ρ', whileFold c b n ρ = some (.nx ρ') ∧ F ρ'
  | 0, m, ρ, _, h => absurd h (Nat.not_lt_zero _)
  | n + 1, m, ρ, p, h => by
    rcases step m ρ p with ⟨e, m', hm, nx⟩ | ⟨e, f⟩
    · unfold Nx at nx
      split at nx
      · rename_i ρ1 eb
        obtain ⟨ρ2, e2, f2⟩ := while_nx P F step n m' ρ1 nx (by omega)
        exact ⟨ρ2, by simp [whileFold, e, eb, e2], f2⟩
      · exact nx.elim
    · exact ⟨ρ, by simp [whileFold, e], f⟩
theorem ints_map : ∀ ns : List Int, intsOf (ns.map D.int) = some ns
  | [] => rfl
  | n :: ns => by simp [intsOf, ints_map ns]
theorem sum_ints (ns : List Int) : sumD [.lst (ns.map .int)] = .ok (.int ns.sum, .sh) := by simp [sumD, ints_map]
theorem strsD_map : ∀ zs : List Str, strsD (zs.map D.str) = some zs
  | [] => rfl
  | z :: zs => by simp [strsD, strsD_map zs]
theorem lets_le : ∀ s : Sy, s.lets.length ≤ s.pieces
  | .ltr _ => Nat.le_refl _
  | .not s => by have := lets_le s; simp only [Sy.lets, Sy.pieces]; omega
  | .bin _ a b => by have := lets_le a; have := lets_le b; simp only [Sy.lets, Sy.pieces, List.length_append]; omega
/-- the parts of a saying that is no letter -/
def Sy.kids : Sy → List Sy
  | .ltr _ => []
  | .not s => [s]
  | .bin _ a b => [a, b]
def Sy.word : Sy → Str
  | .ltr _ => wLetter
  | .not _ => wNot
  | .bin o _ _ => o.word
def Sy.isL : Sy → Bool
  | .ltr _ => true
  | _ => false
theorem enc_ix0 (s : Sy) : ixD (enc s) (.int 0) = .ok (.str s.word, .sh) := by cases s <;> exact ixD_tup rfl
theorem word_letter (s : Sy) : eqD (.str s.word) (.str (Str.ofString "letter")) = .ok s.isL := by
  cases s with
  | ltr z => exact eqw_letter_letter
  | not s => exact eqw_not_letter
  | bin o a b => cases o <;> simp [Sy.word, Op3.word, wAnd, wOr, wIf, Sy.isL]
theorem enc_kids {s : Sy} (h : s.isL = false) : sliceD (enc s) (some 1) none = .ok (.tup (s.kids.map enc), .sh) := by
  cases s with
  | ltr z => cases h
  | not s => rfl
  | bin o a b => rfl
theorem kids_depth {s k : Sy} (h : k ∈ s.kids) : k.depth + 1 ≤ s.depth := by
  cases s with
  | ltr z => cases h
  | not s => simp [Sy.kids] at h; subst h; exact Nat.le_refl _
  | bin o a b =>
    simp only [Sy.kids, List.mem_cons, List.not_mem_nil, or_false] at h
    simp only [Sy.depth]
    rcases h with rfl | rfl <;> omega
theorem kids_pieces {s : Sy} (h : s.isL = false) : s.pieces = 1 + (s.kids.map Sy.pieces).sum := by
  cases s with
  | ltr z => cases h
  | not s => simp [Sy.kids, Sy.pieces]; omega
  | bin o a b => simp [Sy.kids, Sy.pieces]; omega
theorem kids_le {s k : Sy} (h : k ∈ s.kids) : k.pieces ≤ s.pieces := by
  cases s with
  | ltr z => cases h
  | not s => simp [Sy.kids] at h; subst h; simp [Sy.pieces]
  | bin o a b =>
    simp only [Sy.kids, List.mem_cons, List.not_mem_nil, or_false] at h
    simp only [Sy.pieces]
    rcases h with rfl | rfl <;> omega
theorem kids_lets {s : Sy} (h : s.isL = false) : s.lets = (s.kids.map Sy.lets).flatten := by
  cases s with
  | ltr z => cases h
  | not s => simp [Sy.kids, Sy.lets]
  | bin o a b => simp [Sy.kids, Sy.lets]
theorem cast_sum : ∀ l : List Nat, ((l.sum : Nat) : Int) = (l.map fun n : Nat => (n : Int)).sum
  | [] => rfl
  | x :: l => by simp [cast_sum l]
section
variable {T : Str → Option Fn}
theorem pieces_in_ev (f : T "pieces_in" = some fn_pieces_in) : ∀ (n : Nat) (s : Sy), s.depth ≤ n → evFn T n "pieces_in" [enc s] = .ok (.int s.pieces, false)
  | 0, s, h => by cases s <;> simp [Sy.depth] at h
  | n + 1, s, h => by
    rw [evFn_succ f rfl]
    simp only [fn_pieces_in, startSl]
    cases hs : s.isL with
    | true =>
      cases s with
      | ltr z => simp [enc_ix0, word_letter, Sy.isL, Sy.pieces]
      | _ => cases hs
    | false =>
      have ih : ∀ k ∈ s.kids, evFn T n "pieces_in" [enc k] = .ok (.int k.pieces, false) := fun k hk => pieces_in_ev f n k (by have := kids_depth hk; omega)
      have body := lcFold_map (f := lcBody (CG.name 1) CIf.no fn_pieces_in_e0 (evFn T n) [.sh (enc s), .no]) enc (fun k => .int k.pieces) (as := s.kids) fun k hk => by simp [lcBody, fn_pieces_in_e0, noEx, ih k hk]
      have hsum : sumD [.lst (s.kids.map fun k => .int k.pieces)] = .ok (.int ((s.kids.map Sy.pieces).sum : Nat), .sh) := by
        rw [show (s.kids.map fun k => D.int k.pieces) = (s.kids.map fun k => (k.pieces : Int)).map .int by rw [List.map_map]; rfl, sum_ints, cast_sum, List.map_map]; rfl
      have hl : s.kids.length ≤ 2 := by cases s <;> simp [Sy.kids]
      simp [enc_ix0, word_letter, hs, enc_kids hs, lcRes_eq, wipeSl, body, small_len (show s.kids.length ≤ 1000000 by omega), hsum, kids_pieces hs]
theorem letters_in_ev (f : T "letters_in" = some fn_letters_in) : ∀ (n : Nat) (s : Sy), s.depth ≤ n → s.pieces ≤ 1000000 → evFn T n "letters_in" [enc s] = .ok (.lst (s.lets.map .str), true)
  | 0, s, h, _ => by cases s <;> simp [Sy.depth] at h
  | n + 1, s, h, hp => by
    rw [evFn_succ f rfl]
    simp only [fn_letters_in, startSl]
    have one : 1 ≤ sizeLine := by decide
    cases hs : s.isL with
    | true =>
      cases s with
      | ltr z =>
        have z1 : ixD (enc (.ltr z)) (.int 1) = .ok (.str z, .sh) := ixD_tup rfl
        simp [enc_ix0, word_letter, Sy.isL, z1, one, Sy.lets]
      | _ => cases hs
    | false =>
      have hkp : ∀ k ∈ s.kids, k.pieces ≤ 1000000 := fun k hk => Nat.le_trans (kids_le hk) hp
      have ih : ∀ k ∈ s.kids, evFn T n "letters_in" [enc k] = .ok (.lst (k.lets.map .str), true) := fun k hk => letters_in_ev f n k (by have := kids_depth hk; omega) (hkp k hk)
      obtain ⟨ρ, eρ, x, rfl⟩ := forFold_nx (step := forStep (CG.name 2) fn_letters_in_b0 (evFn T n)) (ds := s.kids.map enc) (ρ := [.sh (enc s), .ow (.lst []), .no])
        (fun i ρ => ∃ x, ρ = [.sh (enc s), .ow (.lst ((((s.kids.take i).map Sy.lets).flatten).map .str)), x]) ⟨.no, rfl⟩ (by
          rintro i d ρ hd ⟨x, rfl⟩
          rw [List.getElem?_map, Option.map_eq_some_iff] at hd
          obtain ⟨k, hk, rfl⟩ := hd
          have hkm := List.mem_of_getElem? hk
          have tk : s.kids.take (i + 1) = s.kids.take i ++ [k] := by rw [List.take_succ, hk]; rfl
          have hl : (((s.kids.take (i + 1)).map Sy.lets).flatten).length ≤ 1000000 := by
            have h1 := lets_le s
            rw [kids_lets hs] at h1
            have h2 : (((s.kids.take (i + 1)).map Sy.lets).flatten).length ≤ ((s.kids.map Sy.lets).flatten).length := by
              rw [List.map_take]
              conv => rhs; rw [← List.take_append_drop (i + 1) (s.kids.map Sy.lets)]
              rw [List.flatten_append, List.length_append]; omega
            omega
          rw [tk] at hl ⊢
          simp only [List.map_append, List.flatten_append, List.map_cons, List.map_nil, List.flatten_cons, List.flatten_nil, List.append_nil, List.length_append] at hl ⊢
          generalize (List.map Sy.lets (List.take i s.kids)).flatten = acc at hl ⊢
          simp [forStep, fn_letters_in_b0, ih k hkm, small_len hl])
      have zero : 0 ≤ sizeLine := Nat.zero_le _
      rw [List.length_map, List.take_length] at eρ
      simp [enc_ix0, word_letter, hs, enc_kids hs, zero, eρ, kids_lets hs]
end
end MJ

namespace MJ
open PySem PySem.Spec PyProof.Rows L2
/-- the names of a saying, sorted, each once -/
def namesS (zs : List Str) : List Str := sortU ordS.toOrd zs
/-- a list of different things, one more where it lacks -/
def addU (us : List Str) (z : Str) : List Str := if z ∈ us then us else us ++ [z]
theorem addU_nd {us : List Str} {z : Str} (h : us.Nodup) : (addU us z).Nodup := by
  unfold addU
  split
  · exact h
  · rename_i c
    rw [List.nodup_append]
    refine ⟨h, by simp, fun a ha b hb => ?_⟩
    rw [List.mem_singleton.mp hb]
    intro e; subst e; exact c ha
theorem addU_mem {us : List Str} {z x : Str} : x ∈ addU us z ↔ x ∈ us ∨ x = z := by
  unfold addU
  split
  · rename_i c
    constructor
    · exact .inl
    · rintro (h | rfl)
      · exact h
      · exact c
  · simp
theorem addU_len (us : List Str) (z : Str) : (addU us z).length ≤ us.length + 1 := by
  unfold addU; split <;> simp
theorem hasD_str (z : Str) : ∀ us : List Str, hasD (.inr z) (us.map .str) = decide (z ∈ us)
  | [] => rfl
  | u :: us => by
    have ih := hasD_str z us
    simp only [hasD, List.map_cons, List.any_cons, keyD] at ih ⊢
    rw [ih]
    by_cases e : u = z
    · subst e; simp
    · have e' : ¬ z = u := fun x => e x.symm
      simp [e, e']
theorem repl_true (k : Key) : ∀ us : List Str, replD k (.bl true) (us.map .str) (us.map fun _ => .bl true) = us.map fun _ => .bl true
  | [] => rfl
  | u :: us => by
    simp only [List.map_cons, replD, repl_true k us]
    simp
/-- found[name] = True -/
theorem putD_true (z : Str) (us : List Str) : putD (.inr z) (.bl true) (us.map .str) (us.map fun _ => .bl true) = ((addU us z).map .str, (addU us z).map fun _ => .bl true) := by
  unfold putD addU
  rw [hasD_str]
  by_cases c : z ∈ us
  · simp only [c, decide_true, if_true, repl_true]
  · simp [c, kD]
theorem sortU_same {K : Type} [DecidableEq K] (O : OrdT K) {a b : List K} (h : ∀ z, z ∈ a ↔ z ∈ b) : sortU O.toOrd a = sortU O.toOrd b :=
  rising_eq O (sortU_pw O a) (sortU_pw O b) fun z => by rw [sortU_mem, sortU_mem]; exact h z
theorem sorted_dic {us : List Str} (n : us.Nodup) (h : us.length < 64) (ds : List D) : sortedD [.dic (us.map .str) ds] = .ok (.lst ((namesS us).map .str), .fr) := by
  simp [sortedD, strsD_map, n, h, namesS]
theorem sset_strs {zs : List Str} (h : zs.length < 4000) : ssetD (.lst (zs.map .str)) = .ok (.lst ((namesS zs).map .str), .fr) := by
  simp [ssetD, strsD_map, h, namesS]
theorem toPy_strs (hd : List Str) : toPy (.tup (hd.map .str)) = some (.tuple (hd.map PyData.str)) := by simp [toPy, toPys_strs]
theorem eqvAll_strs : ∀ a b : List Str, PyData.eqvAll (a.map .str) (b.map .str) = decide (a = b)
  | [], [] => by simp [PyData.eqvAll]
  | [], _ :: _ => by simp [PyData.eqvAll]
  | _ :: _, [] => by simp [PyData.eqvAll]
  | x :: a, y :: b => by
    rw [List.map_cons, List.map_cons, PyData.eqvAll, eqvAll_strs a b]
    simp only [PyData.eqv]
    rw [Bool.eq_iff_iff]
    simp
theorem eqD_strs {a b : List Str} (ha : ∀ z ∈ a, PyData.strOk z = true) (hb : ∀ z ∈ b, PyData.strOk z = true) : eqD (.tup (a.map .str)) (.tup (b.map .str)) = .ok (decide (a = b)) := by
  have s : ∀ {hd : List Str}, (∀ z ∈ hd, PyData.strOk z = true) → SeqAt.shaped (.tuple (hd.map PyData.str)) = true := fun {hd} h => by
    have := depth_strs hd
    simp [SeqAt.shaped, PyData.canLay0, lay_strs h, PyData.depth]; omega
  simp only [eqD, toPy_strs, s ha, s hb]
  simp only [and_self, if_true, PyData.eqv, eqvAll_strs]
section
variable {T : Str → Option Fn}
theorem names_in_ev (f : T "letters_in" = some fn_letters_in) (g : T "names_in" = some fn_names_in) (n : Nat) (s : Sy) (h : s.depth ≤ n) (hp : s.pieces < 4000) : evFn T (n + 1) "names_in" [enc s] = .ok (.tup ((namesS s.lets).map .str), false) := by
  rw [evFn_succ g rfl]
  have := lets_le s
  simp [fn_names_in, startSl, letters_in_ev f n s h (by omega), sset_strs (show s.lets.length < 4000 by omega)]
/-- the law's own walk -/
theorem walked_ev (f : T "_law_walked" = some fn_law_walked) (n : Nat) (s : Sy) (hp : s.pieces ≤ 60) : evFn T (n + 1) "_law_walked" [enc s] = .ok (.tup [.int s.pieces, .tup ((namesS s.lets).map .str)], false) := by
  rw [evFn_succ f rfl]
  have one : 1 ≤ sizeLine := by decide
  have two : 2 ≤ sizeLine := by decide
  have := while_nx (c := CT.ev (.cmp _ .gt (.blt .len (.cons (.var 1) .nil)) (CE.int 0)) (evFn T n)) (b := fn_law_walked_b0.ev (evFn T n))
    (fun m ρ => ∃ (st : List Sy) (us : List Str) (k : Nat) (x : Sl), ρ = [.sh (enc s), .ow (.lst (st.map enc)), .sh (.int k), .ow (.dic (us.map .str) (us.map fun _ => .bl true)), x] ∧ (st.map Sy.pieces).sum = m ∧ k + m = s.pieces ∧ us.Nodup ∧ us.length ≤ k ∧
      ∀ z, z ∈ s.lets ↔ z ∈ us ∨ ∃ t ∈ st, z ∈ t.lets)
    (fun ρ => ∃ (us : List Str) (x : Sl), ρ = [.sh (enc s), .ow (.lst []), .sh (.int s.pieces), .ow (.dic (us.map .str) (us.map fun _ => .bl true)), x] ∧ us.Nodup ∧ us.length < 64 ∧ ∀ z, z ∈ s.lets ↔ z ∈ us)
    (by
      rintro m ρ ⟨st, us, k, x, rfl, hm, hk, hn, hl, hz⟩
      rcases List.eq_nil_or_concat st with rfl | ⟨r, t, rfl⟩
      · refine .inr ⟨by simp, us, x, ?_, hn, ?_, fun z => ?_⟩
        · simp at hm
          have : k = s.pieces := by omega
          subst this; rfl
        · omega
        · rw [hz z]; simp
      · rw [List.concat_eq_append] at hm hz ⊢
        refine .inl ⟨?_, m - 1, ?_, ?_⟩
        · simp
        · have := t.pos
          simp at hm
          omega
        · have hlast : ((r ++ [t]).map enc).getLast? = some (enc t) := by simp
          have hdrop : ((r ++ [t]).map enc).dropLast = r.map enc := by simp
          cases ht : t.isL with
          | true =>
            cases t with
            | ltr z =>
              have z1 : ixD (enc (.ltr z)) (.int 1) = .ok (.str z, .sh) := ixD_tup rfl
              have hus : us.length < sizeLine := by
                rw [sizeLine_eq]; omega
              have := addU_len us z
              simp [fn_law_walked_b0, enc_ix0, word_letter, Sy.isL, z1, hus, putD_true]
              refine ⟨r, addU us z, k + 1, ⟨rfl, rfl, rfl, rfl⟩, ?_⟩
              simp [Sy.pieces] at hm
              refine ⟨by omega, by omega, addU_nd hn, by omega, fun y => ?_⟩
              rw [hz y, addU_mem]
              simp only [List.mem_append, List.mem_singleton]
              constructor
              · rintro (h | ⟨t, h | rfl, h2⟩)
                · exact .inl (.inl h)
                · exact .inr ⟨t, h, h2⟩
                · simp [Sy.lets] at h2; exact .inl (.inr h2)
              · rintro ((h | rfl) | ⟨t, h, h2⟩)
                · exact .inl h
                · exact .inr ⟨_, .inr rfl, by simp [Sy.lets]⟩
                · exact .inr ⟨t, .inl h, h2⟩
            | _ => cases ht
          | false =>
            have hkl : t.kids.length ≤ 2 := by cases t <;> simp [Sy.kids]
            have hpos : ∀ l : List Sy, l.length ≤ (l.map Sy.pieces).sum := fun l => by
              induction l with
              | nil => simp
              | cons a l ih => have := a.pos; simp; omega
            have hr := hpos r
            have hpc := kids_pieces ht
            simp at hm
            have hadd : r.length + t.kids.length ≤ sizeLine := by rw [sizeLine_eq]; omega
            simp [fn_law_walked_b0, enc_ix0, word_letter, ht, enc_kids ht, addD, hadd]
            refine ⟨r ++ t.kids, us, k + 1, ⟨by simp, rfl, rfl, rfl⟩, by simp; omega, by omega, hn, by omega, fun y => ?_⟩
            rw [hz y]
            simp only [List.mem_append, List.mem_singleton]
            constructor
            · rintro (h | ⟨q, h | rfl, h2⟩)
              · exact .inl h
              · exact .inr ⟨q, .inl h, h2⟩
              · rw [kids_lets ht] at h2
                obtain ⟨l, hl1, hl2⟩ := List.mem_flatten.mp h2
                obtain ⟨q2, hq, rfl⟩ := List.mem_map.mp hl1
                exact .inr ⟨q2, .inr hq, hl2⟩
            · rintro (h | ⟨q, h | h, h2⟩)
              · exact .inl h
              · exact .inr ⟨q, .inl h, h2⟩
              · refine .inr ⟨t, .inr rfl, ?_⟩
                rw [kids_lets ht]
                exact List.mem_flatten.mpr ⟨_, List.mem_map.mpr ⟨q, h, rfl⟩, h2⟩)
    wfuel s.pieces [.sh (enc s), .ow (.lst [enc s]), .sh (.int 0), .ow (.dic [] []), .no] ⟨[s], [], 0, .no, rfl, by simp, by omega, by simp, by simp, by simp⟩ (by rw [wfuel_eq]; omega)
  obtain ⟨ρ, eρ, us, x, rfl, n1, n2, n3⟩ := this
  simp only [fn_law_walked, startSl]
  simp [one, two, eρ, sorted_dic n1 n2, namesS, sortU_same ordS n3]
end
end MJ

namespace MJ
open PySem PySem.Spec PyProof.Rows L2
def fn_all_bits : Fn where
  ps := ["names"]
  N := ["names"]
  body := (.cons (.ret (.op _ .sub (.op _ .shl (CE.int 1) (.op _ .shl (CE.int 1) (.blt .len (.cons (.var 0) .nil)))) (CE.int 1))) .nil)
def fn_letter_bits_b0 : CS := (.cons (.set 3 (.op _ .or_ (.var 3) (.op _ .shl (.var 3) (.var 4)))) (.cons (.set 4 (.op _ .add (.var 4) (.var 4))) .nil))
def fn_letter_bits : Fn where
  ps := ["at", "many"]
  N := ["at", "many", "half", "found", "wide"]
  body := (.cons (.set 2 (.op _ .shl (CE.int 1) (.var 0))) (.cons (.set 3 (.op _ .shl (.op _ .sub (.op _ .shl (CE.int 1) (.var 2)) (CE.int 1)) (.var 2))) (.cons (.set 4 (.op _ .add (.var 2) (.var 2))) (.cons (.while_ (.cmp _ .lt (.var 4) (.op _ .shl (CE.int 1) (.var 1))) fn_letter_bits_b0) (.cons (.retv 3) .nil)))))
def fn_table : Fn where
  ps := ["saying", "names"]
  N := ["saying", "names", "first", "second"]
  body := (.cons (.ite (.cmp _ .eq (.ix .ix (.var 0) (CE.int 0)) (CE.str "letter")) (.cons (.ret (.call "letter_bits" (.cons (.tidx (.var 1) (.ix .ix (.var 0) (CE.int 1))) (.cons (.blt .len (.cons (.var 1) .nil)) .nil)))) .nil) .nil) (.cons (.set 2 (.call "table" (.cons (.ix .ix (.var 0) (CE.int 1)) (.cons (.var 1) .nil)))) (.cons (.ite (.cmp _ .eq (.ix .ix (.var 0) (CE.int 0)) (CE.str "not")) (.cons (.ret (.op _ .xor (.call "all_bits" (.cons (.var 1) .nil)) (.var 2))) .nil) .nil) (.cons (.set 3 (.call "table" (.cons (.ix .ix (.var 0) (CE.int 2)) (.cons (.var 1) .nil)))) (.cons (.ite (.cmp _ .eq (.ix .ix (.var 0) (CE.int 0)) (CE.str "and")) (.cons (.ret (.op _ .and_ (.var 2) (.var 3))) .nil) .nil) (.cons (.ite (.cmp _ .eq (.ix .ix (.var 0) (CE.int 0)) (CE.str "or")) (.cons (.ret (.op _ .or_ (.var 2) (.var 3))) .nil) .nil) (.cons (.ret (.op _ .or_ (.op _ .xor (.call "all_bits" (.cons (.var 1) .nil)) (.var 2)) (.var 3))) .nil)))))))
def fn_held_by_e0 : CE := (.var 3)
def fn_held_by : Fn where
  ps := ["number", "names"]
  N := ["number", "names", "at", "name"]
  body := (.cons (.ret (.blt .tuple (.cons (.lc [("at", 2), ("name", 3)] (.tup (.cons 2 (.cons 3 .nil))) (.enum (.var 1)) (.one (.cmp _ .eq (.op _ .and_ (.op _ .shr (.var 0) (.var 2)) (CE.int 1)) (CE.int 1))) fn_held_by_e0) .nil))) .nil)
def fn_law2_b0 : CS := (.cons (.set 8 (.op _ .mod (.call "_law_cell" (.cons (.var 0) (.cons (.var 7) .nil))) (.var 5))) (.cons (.set 9 (.call "held_by" (.cons (.var 8) (.cons (.var 3) .nil)))) (.cons (.ite (.bop (op := .Or) (.or (.not (.val (.isi (.var 9) "tuple" "tuple"))) (.or1 (.cmp _ .ne (.var 9) (.call "_law_held" (.cons (.var 8) (.cons (.var 3) .nil))))))) (.cons (.ret (CE.bl false)) .nil) .nil) .nil)))
def fn_law2_b1 : CS := (.cons (.ite (.cmp _ .ne (.cmp _ .eq (.op _ .mod (.var 4) (CE.int 2)) (CE.int 1)) (.call "_law_so" (.cons (.var 2) (.cons (.call "_law_held" (.cons (.var 7) (.cons (.var 3) .nil))) .nil)))) (.cons (.ret (CE.bl false)) .nil) .nil) (.cons (.set 4 (.op _ .fdiv (.var 4) (CE.int 2))) .nil))
def fn_law2_b2 : CS := (.cons (.set 5 (.op _ .mul (CE.int 2) (.var 5))) .nil)
def fn_law2 : Fn where
  ps := ["_law_script"]
  N := ["_law_script", "_law_drawn", "_law_saying_here", "_law_names_here", "_law_left", "_law_many", "_law_name", "_law_k", "_law_number", "_law_found"]
  body := (.cons (.set 1 (.blt .sorted (.cons (.call "_law_names" (.cons (.var 0) (.cons (CE.int 0) (.cons (.op _ .add (CE.int 1) (.call "_law_pick" (.cons (.var 0) (.cons (CE.int 5) (.cons (CE.int 5) .nil))))) .nil)))) .nil))) (.cons (.set 2 (.call "_law_saying" (.cons (.var 0) (.cons (CE.int 6) (.cons (.op _ .add (CE.int 1) (.call "_law_pick" (.cons (.var 0) (.cons (CE.int 6) (.cons (CE.int 40) .nil))))) (.cons (.slc (.var 1) .no (.at (.op _ .add (CE.int 1) (.call "_law_pick" (.cons (.var 0) (.cons (CE.int 7) (.cons (.blt .len (.cons (.var 1) .nil)) .nil))))))) .nil)))))) (.cons (.set 3 (.blt .tupleN (.cons (.var 1) .nil))) (.cons (.set 4 (.call "table" (.cons (.var 2) (.cons (.var 3) .nil)))) (.cons (.ite (.bop (op := .Or) (.or (.not (.val (.isi (.var 4) "int" "int"))) (.or (.val (.isi (.var 4) "bool" "bool")) (.or1 (.cmp _ .lt (.var 4) (CE.int 0)))))) (.cons (.ret (CE.bl false)) .nil) .nil) (.cons (.set 5 (CE.int 1)) (.cons (.for_ (.name 6) (.seq (.var 3)) fn_law2_b2) (.cons (.for_ (.name 7) (.range1 (.var 5)) fn_law2_b1) (.cons (.ite (.cmp _ .ne (.var 4) (CE.int 0)) (.cons (.ret (CE.bl false)) .nil) .nil) (.cons (.for_ (.name 7) (.range1 (.blt .max (.cons (CE.int 8) (.cons (.blt .min (.cons (CE.int 63) (.cons (.blt .len (.cons (.var 0) .nil)) .nil))) .nil)))) fn_law2_b0) (.cons (.ret (CE.bl true)) .nil)))))))))))
end MJ

namespace MJ
open PySem PySem.Spec PyProof.Rows L2
/-! ### numbers by their bits -/
def bitsN : Nat → (Nat → Bool) → Nat
  | 0, _ => 0
  | n + 1, P => bitsN n P ||| (if P n then 2 ^ n else 0)
theorem bitsN_bit (P : Nat → Bool) (k : Nat) : ∀ n, (bitsN n P).testBit k = (decide (k < n) && P k)
  | 0 => by simp [bitsN]
  | n + 1 => by
    rw [bitsN, Nat.testBit_or, bitsN_bit P k n]
    by_cases e : k = n
    · subst e
      cases h : P k <;> simp [Nat.testBit_two_pow_self]
    · have h2 : (if P n then 2 ^ n else 0 : Nat).testBit k = false := by
        cases P n
        · simp
        · simp only [if_true]; exact Nat.testBit_two_pow_of_ne (Ne.symm e)
      rw [h2, Bool.or_false]
      congr 1
      rw [decide_eq_decide]; omega
theorem bits_ext {a b : Nat} (h : ∀ k, a.testBit k = b.testBit k) : a = b := Nat.eq_of_testBit_eq h
theorem bitsN_lt (n : Nat) (P : Nat → Bool) : bitsN n P < 2 ^ n := Nat.lt_pow_two_of_testBit _ fun i hi => by
  rw [bitsN_bit]
  simp; omega
theorem bits_of {f n : Nat} {P : Nat → Bool} (h : ∀ k, f.testBit k = (decide (k < n) && P k)) : f = bitsN n P := bits_ext fun k => by rw [h, bitsN_bit]
theorem bitsN_congr {n : Nat} {P Q : Nat → Bool} (h : ∀ k, k < n → P k = Q k) : bitsN n P = bitsN n Q := bits_ext fun k => by
  rw [bitsN_bit, bitsN_bit]
  by_cases c : k < n
  · rw [h k c]
  · simp [c]
theorem bitsN_all (n : Nat) : bitsN n (fun _ => true) = 2 ^ n - 1 := bits_ext fun k => by
  rw [bitsN_bit, Nat.testBit_two_pow_sub_one]; simp
theorem bitsN_and (n : Nat) (P Q : Nat → Bool) : bitsN n P &&& bitsN n Q = bitsN n fun k => P k && Q k := bits_ext fun k => by
  rw [Nat.testBit_and, bitsN_bit, bitsN_bit, bitsN_bit]
  cases decide (k < n) <;> simp
theorem bitsN_or (n : Nat) (P Q : Nat → Bool) : bitsN n P ||| bitsN n Q = bitsN n fun k => P k || Q k := bits_ext fun k => by
  rw [Nat.testBit_or, bitsN_bit, bitsN_bit, bitsN_bit]
  cases decide (k < n) <;> simp
theorem bitsN_xor (n : Nat) (P : Nat → Bool) : (2 ^ n - 1) ^^^ bitsN n P = bitsN n fun k => !P k := bits_ext fun k => by
  rw [Nat.testBit_xor, Nat.testBit_two_pow_sub_one, bitsN_bit, bitsN_bit]
  cases decide (k < n) <;> simp
/-! as ints -/
theorem or_nat (a b : Nat) : Builtin.bitOr (a : Int) (b : Int) = ((a ||| b : Nat) : Int) := by
  rw [bitOr_nn (Int.natCast_nonneg _) (Int.natCast_nonneg _)]; rfl
theorem xor_nat (a b : Nat) : Builtin.bitXor (a : Int) (b : Int) = ((a ^^^ b : Nat) : Int) := by
  rw [Bits.bitXor_pp (Int.natCast_nonneg _) (Int.natCast_nonneg _)]; rfl
theorem and_nat (a b : Nat) : Builtin.bitAnd (a : Int) (b : Int) = ((a &&& b : Nat) : Int) := by
  unfold Builtin.bitAnd
  simp
theorem shl_nat (a b : Nat) : (a : Int) * 2 ^ (Int.toNat (b : Int)) = ((a * 2 ^ b : Nat) : Int) := by simp
theorem cpow_nat {a : Nat} {j : Nat} (h : a < 2 ^ 64) (hj : j ≤ 1000000) : CPow (a : Int) (j : Int) := ⟨Int.natCast_nonneg _, Int.ofNat_le.mpr hj, by rw [Int.natAbs_natCast]; exact h⟩
/-! ### the names held by a number's bits -/
theorem heldF_cons (k : Int) (y : Str) (ys : List Str) : heldF k (y :: ys) = if k % 2 = 1 then y :: heldF (k / 2) ys else heldF (k / 2) ys := rfl

theorem heldF_bit {z : Str} : ∀ {nms : List Str} {j : Nat} (k : Nat), nms.Nodup → idxS z nms = some j → (z ∈ heldF (k : Int) nms ↔ k.testBit j = true)
  | [], j, k, _, h => by simp [idxS] at h
  | y :: ys, j, k, hn, h => by
    obtain ⟨h1, h2⟩ := List.nodup_cons.mp hn
    have hd : (k : Int) / 2 = ((k / 2 : Nat) : Int) := by simp
    have hm : ((k : Int) % 2 = 1) ↔ k % 2 = 1 := by omega
    unfold idxS at h
    by_cases e : y = z
    · rw [if_pos e] at h
      cases h
      subst e
      have hz : y ∉ heldF ((k : Int) / 2) ys := fun hc => h1 (heldF_mem hc)
      rw [Nat.testBit_zero, decide_eq_true_eq]
      rw [heldF_cons]
      by_cases c : (k : Int) % 2 = 1
      · rw [if_pos c]; simp [hm.mp c]
      · rw [if_neg c]
        constructor
        · intro x; exact absurd x hz
        · intro x; exact absurd (hm.mpr x) c
    · rw [if_neg e, Option.map_eq_some_iff] at h
      obtain ⟨i, hi, rfl⟩ := h
      have ih := heldF_bit (k / 2) h2 hi
      rw [← hd] at ih
      rw [Nat.testBit_succ, ← ih]
      rw [heldF_cons]
      by_cases c : (k : Int) % 2 = 1
      · rw [if_pos c, List.mem_cons]
        constructor
        · rintro (x | x)
          · exact absurd x.symm e
          · exact x
        · exact .inr
      · rw [if_neg c]
/-- the rows of a saying, as a number: a bit for each way to hold the names -/
def tabN (nms : List Str) (s : Sy) : Nat := bitsN (2 ^ nms.length) fun k => s.so (heldF (k : Int) nms)
section
variable {T : Str → Option Fn}
theorem all_bits_ev (f : T "all_bits" = some fn_all_bits) (n : Nat) {nms : List Str} (h : nms.length ≤ 10) : evFn T (n + 1) "all_bits" [.nms nms] = .ok (.int ((2 ^ (2 ^ nms.length) - 1 : Nat) : Int), false) := by
  rw [evFn_succ f rfl]
  have c1 : CPow 1 (nms.length : Int) := cpow_nat (a := 1) (by decide) (by omega)
  have hp : 2 ^ nms.length ≤ 2 ^ 10 := Nat.pow_le_pow_right (by decide) h
  have c2 : CPow 1 ((2 ^ nms.length : Nat) : Int) := cpow_nat (a := 1) (by decide) (by omega)
  have e1 : (2 : Int) ^ nms.length = ((2 ^ nms.length : Nat) : Int) := by simp
  have hpos : 0 < 2 ^ 2 ^ nms.length := Nat.pow_pos (by decide)
  have e2 : (2 : Int) ^ (2 ^ nms.length) - 1 = ((2 ^ 2 ^ nms.length - 1 : Nat) : Int) := by
    rw [Int.ofNat_sub hpos]; simp
  simp [fn_all_bits, startSl, c1]
  rw [e1, if_pos c2]
  simp
  exact e2
/-- the bits of a letter -/
theorem letter_bits_ev (f : T "letter_bits" = some fn_letter_bits) (n : Nat) {a m : Nat} (h : a < m) (hm : m ≤ 5) : evFn T (n + 1) "letter_bits" [.int a, .int m] = .ok (.int (bitsN (2 ^ m) fun k => k.testBit a), false) := by
  rw [evFn_succ f rfl]
  have p64 : ∀ {x e : Nat}, e ≤ 32 → x < 2 ^ e → x < 2 ^ 64 := fun {x e} he hx => Nat.lt_of_lt_of_le hx (Nat.pow_le_pow_right (by decide) (by omega))
  have h32 : ∀ {e : Nat}, e ≤ 5 → 2 ^ e ≤ 32 := fun {e} he => Nat.pow_le_pow_right (n := 2) (by decide) he
  have key := while_nx (c := CT.ev (.cmp _ .lt (.var 4) (.op _ .shl (CE.int 1) (.var 1))) (evFn T n)) (b := fn_letter_bits_b0.ev (evFn T n))
    (fun r ρ => ∃ e x, e + r = m ∧ a < e ∧ ρ = [.sh (.int a), .sh (.int m), x, .sh (.int (bitsN (2 ^ e) fun k => k.testBit a : Nat)), .sh (.int ((2 ^ e : Nat) : Int))])
    (fun ρ => ∃ x y, ρ = [.sh (.int a), .sh (.int m), x, .sh (.int (bitsN (2 ^ m) fun k => k.testBit a : Nat)), y])
    (by
      rintro r ρ ⟨e, x, hr, ha, rfl⟩
      have c1 : CPow 1 (m : Int) := cpow_nat (a := 1) (by decide) (by omega)
      have em : (2 : Int) ^ m = ((2 ^ m : Nat) : Int) := by simp
      by_cases c : e = m
      · subst c
        refine .inr ⟨by simp [c1], x, _, rfl⟩
      · have lt : e < m := by omega
        have pl : 2 ^ e < 2 ^ m := Nat.pow_lt_pow_right (by decide) lt
        have he := h32 (e := e) (by omega)
        have hb := bitsN_lt (2 ^ e) fun k => k.testBit a
        have c2 : CPow ((bitsN (2 ^ e) fun k => k.testBit a : Nat) : Int) ((2 ^ e : Nat) : Int) := cpow_nat (p64 he hb) (by omega)
        refine .inl ⟨by simp [c1]; exact_mod_cast pl, r - 1, by omega, ?_⟩
        have val : Builtin.bitOr ((bitsN (2 ^ e) fun k => k.testBit a : Nat) : Int) (((bitsN (2 ^ e) fun k => k.testBit a : Nat) : Int) * 2 ^ (Int.toNat ((2 ^ e : Nat) : Int))) = ((bitsN (2 ^ (e + 1)) fun k => k.testBit a : Nat) : Int) := by
          rw [shl_nat, or_nat]
          congr 1
          refine bits_of fun k => ?_
          rw [Nat.testBit_or, Nat.mul_comm, Nat.testBit_two_pow_mul, bitsN_bit, bitsN_bit]
          have p2 : 2 ^ (e + 1) = 2 ^ e + 2 ^ e := by rw [Nat.pow_succ]; omega
          by_cases k1 : k < 2 ^ e
          · have : ¬ 2 ^ e ≤ k := by omega
            have k2 : k < 2 ^ (e + 1) := by omega
            simp [k1, k2, this]
          · have k3 : 2 ^ e ≤ k := by omega
            by_cases k2 : k < 2 ^ (e + 1)
            · have : k - 2 ^ e < 2 ^ e := by omega
              have tb : (k - 2 ^ e).testBit a = k.testBit a := by
                have e1 : k = 2 ^ e + (k - 2 ^ e) := by omega
                conv => rhs; rw [e1]
                rw [Nat.testBit_two_pow_add_gt ha]
              simp [k1, k2, k3, this, tb]
            · have : ¬ k - 2 ^ e < 2 ^ e := by omega
              simp [k1, k2, k3, this]
        have wid : ((2 ^ e : Nat) : Int) + ((2 ^ e : Nat) : Int) = ((2 ^ (e + 1) : Nat) : Int) := by rw [Nat.pow_succ]; omega
        simp only [fn_letter_bits_b0, CS.cons_ev, C1.set_ev, CE.op_ev, CE.var_ev, B2.or_1, B2.or_2, B2.shl_1, B2.shl_2, List.getD_cons_succ, List.getD_cons_zero, slD_sh, argR_sh, Res.bind_ok, B2.shl_g, if_pos c2, B2.or_g, val, stR_ok, setR_sh, List.set_cons_succ, List.set_cons_zero, andThen_nx, B2.add_1, B2.add_2, B2.add_g, addD_int, wid, CS.nil_ev, Nx_nx]
        exact ⟨e + 1, x, by omega, by omega, rfl⟩)
    wfuel (m - (a + 1)) [.sh (.int a), .sh (.int m), .sh (.int ((2 ^ a : Nat) : Int)), .sh (.int (bitsN (2 ^ (a + 1)) fun k => k.testBit a : Nat)), .sh (.int ((2 ^ (a + 1) : Nat) : Int))] ⟨a + 1, _, by omega, by omega, rfl⟩ (by rw [wfuel_eq]; omega)
  obtain ⟨ρ, eρ, x, y, rfl⟩ := key
  have c1 : CPow 1 (a : Int) := cpow_nat (a := 1) (by decide) (by omega)
  have ha := h32 (e := a) (by omega)
  have c2 : CPow 1 ((2 ^ a : Nat) : Int) := cpow_nat (a := 1) (by decide) (by omega)
  have hpos : 0 < 2 ^ 2 ^ a := Nat.pow_pos (by decide)
  have e0 : (1 : Int) * 2 ^ (Int.toNat (a : Int)) = ((2 ^ a : Nat) : Int) := by simp
  have e1 : (1 : Int) * 2 ^ (Int.toNat ((2 ^ a : Nat) : Int)) - 1 = ((2 ^ 2 ^ a - 1 : Nat) : Int) := by
    have := shl_nat 1 (2 ^ a)
    rw [Nat.one_mul] at this
    rw [Int.ofNat_sub hpos, ← this]; rfl
  have c3 : CPow ((2 ^ 2 ^ a - 1 : Nat) : Int) ((2 ^ a : Nat) : Int) := cpow_nat (p64 ha (by omega)) (by omega)
  have e2 : ((2 ^ 2 ^ a - 1 : Nat) : Int) * 2 ^ (Int.toNat ((2 ^ a : Nat) : Int)) = ((bitsN (2 ^ (a + 1)) fun k => k.testBit a : Nat) : Int) := by
    rw [shl_nat]
    congr 1
    refine bits_of fun k => ?_
    have p2 : 2 ^ (a + 1) = 2 ^ a + 2 ^ a := by rw [Nat.pow_succ]; omega
    rw [Nat.mul_comm, Nat.testBit_two_pow_mul, Nat.testBit_two_pow_sub_one]
    by_cases k1 : k < 2 ^ a
    · have : ¬ 2 ^ a ≤ k := by omega
      simp [this, Nat.testBit_lt_two_pow k1]
    · have k3 : 2 ^ a ≤ k := by omega
      by_cases k2 : k < 2 ^ (a + 1)
      · have t1 : k - 2 ^ a < 2 ^ a := by omega
        have tb : k.testBit a = true := by
          have e1 : k = 2 ^ a + (k - 2 ^ a) := by omega
          rw [e1, Nat.testBit_two_pow_add_eq, Nat.testBit_lt_two_pow t1]; rfl
        simp [k3, k2, t1, tb]
      · have t1 : ¬ k - 2 ^ a < 2 ^ a := by omega
        simp [k2, t1]
  have wid : ((2 ^ a : Nat) : Int) + ((2 ^ a : Nat) : Int) = ((2 ^ (a + 1) : Nat) : Int) := by rw [Nat.pow_succ]; omega
  simp only [fn_letter_bits, startSl, List.map_cons, List.map_nil, List.length_cons, List.length_nil]
  simp only [CS.cons_ev, C1.set_ev, CE.op_ev, CE.var_ev, CE.int_ev, B2.shl_1, B2.shl_2, B2.sub_1, B2.sub_2, B2.sub_g, Nat.reduceAdd, Nat.reduceSub, List.replicate, List.cons_append, List.nil_append, List.getD_cons_succ, List.getD_cons_zero, slD_sh, argR_sh, Res.bind_ok, B2.shl_g, if_pos c1, e0, if_pos c2, e1, if_pos c3, e2, stR_ok, setR_sh, List.set_cons_succ, List.set_cons_zero, andThen_nx, B2.add_1, B2.add_2, B2.add_g, addD_int, wid, C1.while_ev]
  rw [show whileFold _ _ _ _ = _ from eρ]
  simp
end
end MJ

namespace MJ
open PySem PySem.Spec PyProof.Rows L2
section
variable {T : Str → Option Fn}
theorem table_ev (f1 : T "all_bits" = some fn_all_bits) (f2 : T "letter_bits" = some fn_letter_bits) (f : T "table" = some fn_table) {nms : List Str} (hn : nms.Nodup) (hm : nms.length ≤ 5) : ∀ (n : Nat) (s : Sy), s.depth < n → (∀ z ∈ s.lets, z ∈ nms) →
    evFn T n "table" [enc s, .nms nms] = .ok (.int (tabN nms s : Nat), false)
  | 0, s, h, _ => absurd h (Nat.not_lt_zero _)
  | 1, s, h, _ => by cases s <;> simp [Sy.depth] at h
  | n + 2, s, h, hz => by
    rw [evFn_succ f rfl]
    simp only [fn_table, startSl]
    have ab := all_bits_ev (T := T) f1 n (nms := nms) (by omega)
    cases s with
    | ltr z =>
      obtain ⟨j, hj, hl⟩ := idxS_some (hz z (by simp [Sy.lets]))
      have lb := letter_bits_ev (T := T) f2 n hl hm
      have z1 : ixD (enc (.ltr z)) (.int 1) = .ok (.str z, .sh) := ixD_tup rfl
      have e : tabN nms (.ltr z) = bitsN (2 ^ nms.length) fun k => k.testBit j := bitsN_congr fun k _ => by
        show decide (z ∈ heldF (k : Int) nms) = k.testBit j
        rw [Bool.eq_iff_iff, decide_eq_true_eq]
        exact heldF_bit k hn hj
      simp [enc_ix0, word_letter, Sy.isL, z1, idxD, hj, lb, e]
    | not s =>
      have ih := table_ev f1 f2 f hn hm (n + 1) s (by simp [Sy.depth] at h; omega) hz
      have z1 : ixD (enc (.not s)) (.int 1) = .ok (enc s, .sh) := ixD_tup rfl
      have e : tabN nms (.not s) = (2 ^ 2 ^ nms.length - 1) ^^^ tabN nms s := by rw [tabN, tabN, bitsN_xor]; rfl
      simp [enc_ix0, word_letter, Sy.isL, Sy.word, wNot, z1, ih, ab, xor_nat, e]
    | bin o a b =>
      have ia := table_ev f1 f2 f hn hm (n + 1) a (by simp [Sy.depth] at h; omega) fun z m => hz z (List.mem_append_left _ m)
      have ib := table_ev f1 f2 f hn hm (n + 1) b (by simp [Sy.depth] at h; omega) fun z m => hz z (List.mem_append_right _ m)
      have z0 : ∀ w, ixD (.tup [.str w, enc a, enc b]) (.int 0) = .ok (.str w, .sh) := fun w => ixD_tup rfl
      have z1 : ∀ w, ixD (.tup [.str w, enc a, enc b]) (.int 1) = .ok (enc a, .sh) := fun w => ixD_tup rfl
      have z2 : ∀ w, ixD (.tup [.str w, enc a, enc b]) (.int 2) = .ok (enc b, .sh) := fun w => ixD_tup rfl
      cases o with
      | and =>
        have e : tabN nms (.bin .and a b) = tabN nms a &&& tabN nms b := by rw [tabN, tabN, tabN, bitsN_and]; rfl
        simp only [enc, Op3.word, wAnd]
        simp [z0, z1, z2, ia, ib, and_nat, e]
      | or =>
        have e : tabN nms (.bin .or a b) = tabN nms a ||| tabN nms b := by rw [tabN, tabN, tabN, bitsN_or]; rfl
        simp only [enc, Op3.word, wOr]
        simp [z0, z1, z2, ia, ib, or_nat, e]
      | «if» =>
        have e : tabN nms (.bin .if a b) = ((2 ^ 2 ^ nms.length - 1) ^^^ tabN nms a) ||| tabN nms b := by rw [tabN, tabN, tabN, bitsN_xor, bitsN_or]; rfl
        simp only [enc, Op3.word, wIf]
        simp [z0, z1, z2, ia, ib, ab, or_nat, xor_nat, e]
/-- held_by: the same as by halving -/
theorem held_by_ev (f : T "held_by" = some fn_held_by) (n : Nat) (k : Nat) {nms : List Str} (hl : nms.length ≤ 1000000) : evFn T (n + 1) "held_by" [.int k, .nms nms] = .ok (.tup ((heldF (k : Int) nms).map .str), false) := by
  rw [evFn_succ f rfl]
  have body : ∀ (zs : List Str) (i : Nat), lcFold (lcBody (.tup (.cons 2 (.cons 3 .nil))) (.one (.cmp _ .eq (.op _ .and_ (.op _ .shr (.var 0) (.var 2)) (CE.int 1)) (CE.int 1))) fn_held_by_e0 (evFn T n) [.sh (.int k), .sh (.nms nms), .no, .no]) (enumD i (zs.map .str)) = .ok ((heldF ((k : Int) / 2 ^ i) zs).map .str) := by
    intro zs
    induction zs with
    | nil => intro i; rfl
    | cons z zs ih =>
      intro i
      have h2 : Builtin.bitAnd ((k : Int) / 2 ^ i) 1 = (k : Int) / 2 ^ i % 2 := by
        have := and_nat (k / 2 ^ i) 1
        rw [Nat.and_one_is_mod] at this
        simpa using this
      have h3 : (k : Int) / 2 ^ (i + 1) = (k : Int) / 2 ^ i / 2 := by
        have : ((k / 2 ^ (i + 1) : Nat) : Int) = ((k / 2 ^ i / 2 : Nat) : Int) := by rw [Nat.pow_succ, ← Nat.div_div_eq_div_mul]
        simpa using this
      have h4 : (0 : Int) ≤ (i : Int) := Int.natCast_nonneg _
      have ih' := ih (i + 1)
      rw [h3] at ih'
      simp only [List.map_cons, enumD, lcFold, ih', heldF_cons]
      by_cases c : (k : Int) / 2 ^ i % 2 = 1
      · simp [lcBody, noEx, fn_held_by_e0, h2, c]
      · simp [lcBody, noEx, h2, c]
  have b0 := body nms 0
  rw [Int.pow_zero, Int.ediv_one] at b0
  have := heldF_len nms (k : Int)
  simp [fn_held_by, startSl, lcRes_eq, wipeSl, b0, small_len (show (heldF (k : Int) nms).length ≤ 1000000 by omega)]
end
end MJ

namespace MJ
open PySem PySem.Spec PyProof.Rows L2
open PySem.W (EachIs dataLe dataLt AllAlike Sortable alike alikeAll)
theorem ms_sortU {K : Type} [DecidableEq K] {enc : K → PyData} (O : OrdT K) (le : ∀ a b, dataLe false enc a b = !O.lt b a) {L : List K} (hn : L.Nodup) : L.mergeSort (dataLe false enc) = sortU O.toOrd L := by
  have p := PySem.W.sort_pairwise (PySem.W.sortLe_total (listOrd itemOrd) false fun b => PySem.W.keyToks (enc b)) L
  have n : (L.mergeSort (dataLe false enc)).Nodup := (List.mergeSort_perm L _).nodup_iff.mpr hn
  have h1 : (L.mergeSort (dataLe false enc)).Pairwise (fun a b => O.lt a b = true) := by
    refine List.Pairwise.imp ?_ (List.Pairwise.and p n)
    rintro a b ⟨h, ne⟩
    have h' : dataLe false enc a b = true := h
    rw [le, Bool.not_eq_true'] at h'
    cases q : O.lt a b with
    | true => rfl
    | false => exact absurd (O.tri _ _ q h') ne
  exact rising_eq O h1 (sortU_pw O L) fun z => by rw [(List.mergeSort_perm L _).mem_iff, sortU_mem]
/-- sorting data that is given by keys -/
theorem sortD_keys {K : Type} {enc : K → PyData} {emb : K → D} (h : ∀ L : List K, toPys (L.map emb) = some (L.map enc)) {L : List K} (hs : sortable (L.map enc) = true) : sortD (L.map emb) = some ((L.mergeSort (dataLe false enc)).map emb) := by
  unfold sortD
  rw [h L]
  simp only [hs, if_true]
  congr 1
  have e : (L.map emb).zip (L.map enc) = L.map fun k => (emb k, enc k) := by
    clear hs
    induction L with
    | nil => rfl
    | cons k L ih => simp [ih]
  rw [e]
  have := PySem.W.sort_maps (r := dataLe false enc) (s := dataLe false (Prod.snd (α := D) (β := PyData))) (fun k : K => (emb k, enc k)) (l := L) fun a _ b _ => rfl
  rw [← this, List.map_map]
  rfl
theorem sortable_strs (L : List Str) : sortable (L.map encS) = true := by
  unfold sortable
  simp only [Bool.and_eq_true, Bool.or_eq_true, List.all_eq_true, List.mem_map, decide_eq_true_eq]
  refine ⟨⟨?_, .inr ?_⟩, ?_⟩
  · rintro _ ⟨a, _, rfl⟩ _ ⟨b, _, rfl⟩
    simp [encS, alike]
  · rintro _ ⟨a, _, rfl⟩; rfl
  · rintro _ ⟨a, _, rfl⟩; simp [encS, PyData.depth]
theorem sorted_strs {L : List Str} (h : L.Nodup) : sortedD [.lst (L.map .str)] = .ok (.lst ((namesS L).map .str), .fr) := by
  have := sortD_keys (emb := D.str) (enc := encS) (fun L => toPys_strs L) (sortable_strs L)
  show (match sortD (L.map D.str) with
    | some es => Res.ok (D.lst es, Fr.fr)
    | none => Res.bad) = _
  rw [this, ms_sortU ordS le_str h]; rfl
theorem sortU_len {K : Type} [DecidableEq K] (O : OrdT K) {L : List K} (h : L.Nodup) : (sortU O.toOrd L).length = L.length := by
  have p : (sortU O.toOrd L).Perm L := (List.perm_ext_iff_of_nodup (rising_nodup O (sortU_pw O L)) h).mpr fun z => sortU_mem O.toOrd
  exact p.length_eq
theorem namesS_nd (L : List Str) : (namesS L).Nodup := rising_nodup ordS (sortU_pw ordS L)
theorem tupleN_strs (zs : List Str) : tupleND [.lst (zs.map .str)] = .ok (.nms zs, .sh) := by simp [tupleND, strsD_map]
theorem sliceD_lst (ds : List D) (lo hi : Option Int) : sliceD (.lst ds) lo hi = .ok (.lst (cutD ds lo hi), .fr) := rfl
theorem andThen_nx' (ρ : List Sl) (k : List Sl → Option Fl) : andThen (some (.nx ρ)) k = k ρ := by
  cases h : k ρ <;> rw [andThen_nx, h]
end MJ

namespace MJ
open PySem PySem.Spec PyProof.Rows L2
def rangeCD (lo c : Int) (n : Nat) : List D := (List.range n).map fun i => .int (lo + (i : Nat) * c)
theorem yields_rangeC {X : Cx} {Hs H : Hp} {lo c : Int} {n : Nat} : Yields X (Itc lo c n) Hs H (rangeCD lo c n) := by
  intro Hs2 H2 s1 s2
  refine ⟨fun i hi => ?_, fun i d e => ?_⟩
  · show n ≤ i
    simpa [rangeCD] using hi
  · simp only [rangeCD, List.getElem?_map, Option.map_eq_some_iff] at e
    obtain ⟨j, hj', rfl⟩ := e
    have hj : i < n := by simpa using (List.getElem?_eq_some_iff.mp hj').1
    rw [List.getElem?_range hj] at hj'
    obtain rfl : i = j := Option.some.inj hj'
    refine ⟨hj, fun x H3 y => ?_⟩
    obtain ⟨rfl, rfl⟩ := y
    exact ⟨Hs2, .rfl s2, by simp [Rp]⟩
theorem rangeSize_nonneg (i j c : Int) : 0 ≤ Builtin.Range.rangeSize i j c := by
  unfold Builtin.Range.rangeSize
  split
  · split
    · have := Int.ediv_nonneg (a := j - i - 1) (b := c) (by omega) (by omega); omega
    · omega
  · split
    · have := Int.ediv_nonneg (a := i - j - 1) (b := -c) (by omega) (by omega); omega
    · omega
def rg3 : D → D → D → Res (List D)
  | .int i, .int j, .int c => if c ≠ 0 ∧ c.natAbs < 1073741824 ∧ Builtin.Range.small i j c = true then .ok (rangeCD i c (Builtin.Range.rangeSize i j c).toNat) else .bad
  | _, _, _ => .bad
def CI.range3 (a b c : CE) : CI where
  ev := fun call ρ => (a.arg true call ρ).bind fun d => (b.arg true call ρ).bind fun e => (c.arg true call ρ).bind fun f => rg3 d e f
  chk := fun cf tg x => match x with
    | .Call (.Name y _) [l, r, s] [] _ => decide (y = ("range" : Str)) && glob cf ("range" : Str) && a.chk cf l && b.chk cf r && c.chk cf s
    | _ => false
  ok := fun {X W cf call} g tg x h => by
    split at h
    · simp only [Bool.and_eq_true, decide_eq_true_eq] at h
      obtain ⟨⟨⟨⟨rfl, h1⟩, h2⟩, h3⟩, h4⟩ := h
      have hst := a.star _ _ h2
      have hst2 := b.star _ _ h3
      have hst3 := c.star _ _ h4
      obtain ⟨t, p, q⟩ := ja_cons ((a.ok g _ h2).arg true) (ja_cons ((b.ok g _ h3).arg true) (ja_cons ((c.ok g _ h4).arg true) ja_nil hst3) hst2) hst
      refine ⟨rfl, _, pi_range3 (g.gl h1) (g.blt _ (by decide +kernel)) p (starEach_cons hst) (by rw [starEach_cons hst2, starEach_cons hst3]; rfl), fun Hs0 H0 Hs H ρ σ R ok h => ?_⟩
      dsimp only at h
      refine q Hs0 H0 Hs H ρ σ _ ok ?_
      dsimp only
      revert h
      show PostI X W Hs H σ R ((argR true (a.ev call ρ)).bind fun d => (argR true (b.ev call ρ)).bind fun e => (argR true (c.ev call ρ)).bind fun f => rg3 d e f) → _
      cases argR true (a.ev call ρ) with
      | bad => exact fun h => h
      | ex c es => exact fun h => h
      | ok d =>
        simp only [Res.bind_ok]
        cases argR true (b.ev call ρ) with
        | bad => exact fun h => h
        | ex c es => exact fun h => h
        | ok e =>
          simp only [Res.bind_ok]
          cases argR true (c.ev call ρ) with
          | bad => exact fun h => h
          | ex c es => exact fun h => h
          | ok f =>
            simp only [Res.bind_ok]
            cases d with
            | int i =>
              cases e with
              | int j =>
                cases f with
                | int k =>
                  dsimp only [rg3]
                  intro h vs Hs' H' e ps
                  by_cases c : k ≠ 0 ∧ k.natAbs < 1073741824 ∧ Builtin.Range.small i j k = true
                  · rw [if_pos c] at h
                    cases ps with
                    | cons p1 p2 =>
                      cases p2 with
                      | cons p2 p3 =>
                        cases p3 with
                        | cons p3 p4 =>
                          cases p4
                          have e1 := p1.int
                          have e2 := p2.int
                          have e3 := p3.int
                          exact ⟨i, j, k, _, by rw [e1, e2, e3], ⟨c.1, c.2.1, c.2.2, (Int.toNat_of_nonneg (rangeSize_nonneg i j k)).symm⟩, h _ Hs' H' e yields_rangeC⟩
                  · rw [if_neg c] at h; exact h.elim
                | _ => exact fun h => h.elim
              | _ => exact fun h => h.elim
            | _ => exact fun h => h.elim
    · cases h
@[simp] theorem CI.range3_ev {call : Calls} {ρ : List Sl} (a b c : CE) : (CI.range3 a b c).ev call ρ = (argR true (a.ev call ρ)).bind fun d => (argR true (b.ev call ρ)).bind fun e => (argR true (c.ev call ρ)).bind fun f => rg3 d e f := rfl
end MJ

namespace MJ
open PySem PySem.Spec PyProof.Rows L2
def fn_outcome_e0 : CE := (.blt .int (.cons (.ix .ix (.var 5) (.var 3)) .nil))
def fn_outcome_b0 : CS := (.cons (.set 4 (.blt .sum (.cons (.lc [("row", 5)] (.name 5) (.seq (.var 0)) .no fn_outcome_e0) .nil))) (.cons (.ite (.cmp _ .ge (.var 4) (.var 1)) (.cons (.meth .append 2 (.cons (CE.bl true) .nil)) .nil) (.cons (.ite (.cmp _ .ge (.op _ .sub (.blt .len (.cons (.var 0) .nil)) (.var 4)) (.var 1)) (.cons (.meth .append 2 (.cons (CE.bl false) .nil)) .nil) (.cons (.meth .append 2 (.cons CE.non .nil)) .nil)) .nil)) .nil))
def fn_outcome : Fn where
  ps := ["judges", "quota"]
  N := ["judges", "quota", "found", "number", "yes", "row"]
  body := (.cons (.set 2 (.lst .nil)) (.cons (.for_ (.name 3) (.range1 (.blt .len (.cons (.ix .ix (.var 0) (CE.int 0)) .nil))) fn_outcome_b0) (.cons (.ret (.blt .tuple (.cons (.var 2) .nil))) .nil)))
def fn_law_within_b0 : CS := (.cons (.set 1 (.op _ .add (.var 1) (.call "_law_within" (.cons (.var 2) .nil)))) .nil)
def fn_law_within : Fn where
  ps := ["_law_saying_here"]
  N := ["_law_saying_here", "_law_found", "_law_part"]
  body := (.cons (.ite (.cmp _ .eq (.ix .ix (.var 0) (CE.int 0)) (CE.str "letter")) (.cons (.ret (.lst (.cons (.ix .ix (.var 0) (CE.int 1)) .nil))) .nil) .nil) (.cons (.set 1 (.lst .nil)) (.cons (.for_ (.name 2) (.seq (.slc (.var 0) (.at (CE.int 1)) .no)) fn_law_within_b0) (.cons (.retv 1) .nil))))
def fn_law_all_names_b0 : CS := (.cons (.set 1 (.op _ .add (.var 1) (.call "_law_within" (.cons (.var 2) .nil)))) .nil)
def fn_law_all_names : Fn where
  ps := ["_law_sayings"]
  N := ["_law_sayings", "_law_found", "_law_saying_here"]
  body := (.cons (.set 1 (.lst .nil)) (.cons (.for_ (.name 2) (.seq (.var 0)) fn_law_all_names_b0) (.share 1 (.cons (.ret (.sortedSet (.var 1))) .nil))))
def fn_law_knit2_b0 : CS := (.cons (.set 5 (.tup (.cons (.var 2) (.cons (.var 5) (.cons (.var 6) .nil))))) .nil)
def fn_law_knit2_b1 : CS := (.cons (.ite (.not (.val (.ix .ix (.var 1) (.var 4)))) (.cons (.put .list 3 (.var 4) (.tup (.cons (CE.str "not") (.cons (.ix .ix (.var 3) (.var 4)) .nil)))) .nil) .nil) .nil)
def fn_law_knit2_e0 : CE := (.tup (.cons (CE.str "letter") (.cons (.var 7) .nil)))
def fn_law_knit2 : Fn where
  ps := ["_law_names_here", "_law_truths", "_law_word"]
  N := ["_law_names_here", "_law_truths", "_law_word", "_law_parts", "_law_k", "_law_saying_here", "_law_part", "_law_name"]
  body := (.cons (.setLc 3 [("_law_name", 7)] (.name 7) (.seq (.var 0)) .no fn_law_knit2_e0) (.cons (.for_ (.name 4) (.range1 (.blt .len (.cons (.var 3) .nil))) fn_law_knit2_b1) (.cons (.set 5 (.ix .ix (.var 3) (CE.int 0))) (.cons (.for_ (.name 6) (.seq (.slc (.var 3) (.at (CE.int 1)) .no)) fn_law_knit2_b0) (.cons (.retv 5) .nil)))))
def fn_law_linked1_e0 : CE := (.cmp _ .gt (.call "_law_pick" (.cons (.var 0) (.cons (.op _ .add (.op _ .add (.var 1) (CE.int 1)) (.var 8)) (.cons (CE.int 3) .nil)))) (CE.int 0))
def fn_law_linked1_e1 : CE := (.tup (.cons (CE.str "letter") (.cons (.var 7) .nil)))
def fn_law_linked1 : Fn where
  ps := ["_law_script", "_law_k", "_law_names_here"]
  N := ["_law_script", "_law_k", "_law_names_here", "_law_many", "_law_sayings", "_law_truths", "_law_last", "_law_name", "_law_j"]
  body := (.cons (.set 3 (.op _ .add (.call "_law_pick" (.cons (.var 0) (.cons (.var 1) (.cons (.blt .min (.cons (CE.int 5) (.cons (.blt .len (.cons (.var 2) .nil)) .nil))) .nil)))) (CE.int 1))) (.cons (.setLc 4 [("_law_name", 7)] (.name 7) (.seq (.slc (.var 2) .no (.at (.var 3)))) .no fn_law_linked1_e1) (.cons (.setLc 5 [("_law_j", 8)] (.name 8) (.range1 (.var 3)) .no fn_law_linked1_e0) (.share 5 (.cons (.set 6 (.call "_law_knit" (.cons (.slc (.var 2) .no (.at (.var 3))) (.cons (.var 5) (.cons (.ix .ix (.lst (.cons (CE.str "and") (.cons (CE.str "or") (.cons (CE.str "if") .nil)))) (.call "_law_pick" (.cons (.var 0) (.cons (.op _ .add (.var 1) (CE.int 6)) (.cons (CE.int 3) .nil))))) .nil))))) (.cons (.ite (.cmp _ .eq (.call "_law_pick" (.cons (.var 0) (.cons (.op _ .add (.var 1) (CE.int 7)) (.cons (CE.int 3) .nil)))) (CE.int 0)) (.cons (.set 6 (.tup (.cons (CE.str "not") (.cons (.var 6) .nil)))) .nil) .nil) (.cons (.meth .insert 4 (.cons (.call "_law_pick" (.cons (.var 0) (.cons (.op _ .add (.var 1) (CE.int 8)) (.cons (.op _ .add (.var 3) (CE.int 1)) .nil)))) (.cons (.var 6) .nil))) (.cons (.retv 4) .nil))))))))
def fn_law_list1_b0 : CS := (.cons (.set 5 (.ix .ix (.lst (.cons (CE.int 1) (.cons (CE.int 1) (.cons (CE.int 3) (.cons (CE.int 4) (.cons (CE.int 9) .nil)))))) (.call "_law_pick" (.cons (.var 0) (.cons (.op _ .add (.op _ .add (.var 1) (CE.int 8)) (.var 4)) (.cons (CE.int 5) .nil)))))) (.share 2 (.cons (.meth .append 3 (.cons (.call "_law_saying" (.cons (.var 0) (.cons (.op _ .add (.op _ .add (.var 1) (CE.int 20)) (.op _ .mul (CE.int 31) (.var 4))) (.cons (.var 5) (.cons (.var 2) .nil))))) .nil)) .nil)))
def fn_law_list1 : Fn where
  ps := ["_law_script", "_law_k"]
  N := ["_law_script", "_law_k", "_law_names_here", "_law_sayings", "_law_j", "_law_room"]
  body := (.cons (.set 2 (.call "_law_names" (.cons (.var 0) (.cons (.var 1) (.cons (.op _ .add (CE.int 1) (.call "_law_pick" (.cons (.var 0) (.cons (.op _ .add (.var 1) (CE.int 5)) (.cons (CE.int 5) .nil))))) .nil))))) (.cons (.ite (.cmp _ .eq (.call "_law_pick" (.cons (.var 0) (.cons (.op _ .add (.var 1) (CE.int 6)) (.cons (CE.int 2) .nil)))) (CE.int 0)) (.share 2 (.cons (.ret (.blt .tuple (.cons (.call "_law_linked" (.cons (.var 0) (.cons (.op _ .add (.var 1) (CE.int 7)) (.cons (.var 2) .nil)))) .nil))) .nil)) .nil) (.cons (.set 3 (.lst .nil)) (.cons (.for_ (.name 4) (.range1 (.op _ .add (CE.int 1) (.call "_law_pick" (.cons (.var 0) (.cons (.op _ .add (.var 1) (CE.int 7)) (.cons (CE.int 6) .nil)))))) fn_law_list1_b0) (.cons (.ret (.blt .tuple (.cons (.var 3) .nil))) .nil)))))
def fn_law_row_e0 : CE := (.call "_law_so" (.cons (.var 2) (.cons (.var 1) .nil)))
def fn_law_row : Fn where
  ps := ["_law_sayings", "_law_held_here"]
  N := ["_law_sayings", "_law_held_here", "_law_saying_here"]
  body := (.cons (.ret (.blt .tuple (.cons (.lc [("_law_saying_here", 2)] (.name 2) (.seq (.var 0)) .no fn_law_row_e0) .nil))) .nil)
def fn_law_fit_rows_e0 : CE := (.call "_law_row" (.cons (.var 0) (.cons (.call "_law_held" (.cons (.var 4) (.cons (.var 1) .nil))) .nil)))
def fn_law_fit_rows_b0 : CS := (.cons (.set 2 (.op _ .mul (CE.int 2) (.var 2))) .nil)
def fn_law_fit_rows : Fn where
  ps := ["_law_sayings"]
  N := ["_law_sayings", "_law_names_here", "_law_number", "_law_name", "_law_k"]
  body := (.cons (.set 1 (.call "_law_all_names" (.cons (.var 0) .nil))) (.cons (.set 2 (CE.int 1)) (.share 1 (.cons (.for_ (.name 3) (.seq (.var 1)) fn_law_fit_rows_b0) (.share 1 (.cons (.ret (.sortedSet (.lc [("_law_k", 4)] (.name 4) (.range1 (.var 2)) .no fn_law_fit_rows_e0))) .nil))))))
def fn_law_judges_e0 : CE := (.ix .ix (.var 2) (.call "_law_pick" (.cons (.var 0) (.cons (.op _ .add (.var 1) (.var 4)) (.cons (.blt .len (.cons (.var 2) .nil)) .nil)))))
def fn_law_judges : Fn where
  ps := ["_law_script", "_law_k", "_law_rows", "_law_many"]
  N := ["_law_script", "_law_k", "_law_rows", "_law_many", "_law_j"]
  body := (.cons (.ret (.blt .tuple (.cons (.lc [("_law_j", 4)] (.name 4) (.range1 (.var 3)) .no fn_law_judges_e0) .nil))) .nil)
def fn_law_outcome_e0 : CE := (.var 6)
def fn_law_outcome_b0 : CS := (.cons (.set 4 (.blt .len (.cons (.lc [("_law_row_here", 6)] (.name 6) (.seq (.var 0)) (.one (.val (.ix .ix (.var 6) (.var 3)))) fn_law_outcome_e0) .nil))) (.cons (.set 5 CE.non) (.cons (.ite (.cmp _ .ge (.var 4) (.var 1)) (.cons (.set 5 (CE.bl true)) .nil) .nil) (.cons (.ite (.cmp _ .ge (.op _ .sub (.blt .len (.cons (.var 0) .nil)) (.var 4)) (.var 1)) (.cons (.set 5 (CE.bl false)) .nil) .nil) (.cons (.meth .append 2 (.cons (.var 5) .nil)) .nil)))))
def fn_law_outcome : Fn where
  ps := ["_law_judges_here", "_law_quota"]
  N := ["_law_judges_here", "_law_quota", "_law_found", "_law_number", "_law_yes", "_law_truth", "_law_row_here"]
  body := (.cons (.set 2 (.lst .nil)) (.cons (.for_ (.name 3) (.range1 (.blt .len (.cons (.ix .ix (.var 0) (CE.int 0)) .nil))) fn_law_outcome_b0) (.cons (.ret (.blt .tuple (.cons (.var 2) .nil))) .nil)))
def fn_law_part_of1_e0 : CE := (.tup (.cons (.var 1) (.cons (.ix .ix (.var 0) (.var 1)) .nil)))
def fn_law_part_of1 : Fn where
  ps := ["_law_found"]
  N := ["_law_found", "_law_number"]
  body := (.cons (.ret (.blt .tuple (.cons (.lc [("_law_number", 1)] (.name 1) (.range1 (.blt .len (.cons (.var 0) .nil))) (.one (.cmp _ .notN (.ix .ix (.var 0) (.var 1)) .non)) fn_law_part_of1_e0) .nil))) .nil)
def fn_law_groups_e0 : CE := (.ix .ix (.var 1) (.op _ .mod (.call "_law_cell" (.cons (.var 0) (.cons (.var 7) .nil))) (.blt .len (.cons (.var 1) .nil))))
def fn_law_groups_b0 : CS := (.cons (.setLc 6 [("_law_k", 7)] (.name 7) (.range2 (.var 5) (.blt .min (.cons (.op _ .add (.var 5) (.var 4)) (.cons (.var 3) .nil)))) .no fn_law_groups_e0) (.cons (.meth .append 2 (.cons (.blt .tuple (.cons (.var 6) .nil)) .nil)) .nil))
def fn_law_groups : Fn where
  ps := ["_law_script", "_law_rows"]
  N := ["_law_script", "_law_rows", "_law_groups_here", "_law_cells", "_law_many", "_law_start", "_law_group", "_law_k"]
  body := (.cons (.set 2 (.lst .nil)) (.cons (.set 3 (.blt .max (.cons (CE.int 9) (.cons (.blt .min (.cons (CE.int 63) (.cons (.blt .len (.cons (.var 0) .nil)) .nil))) .nil)))) (.cons (.set 4 (.op _ .add (CE.int 1) (.call "_law_pick" (.cons (.var 0) (.cons (CE.int 9) (.cons (CE.int 21) .nil)))))) (.cons (.for_ (.name 5) (.range3 (CE.int 0) (.var 3) (.var 4)) fn_law_groups_b0) (.cons (.retv 2) .nil)))))
def fn_law_same_b0 : CS := (.cons (.ite (.bop (op := .And) (.and (.cmp _ .isN (.var 3) .non) (.and1 (.cmp _ .notN (.var 2) .non)))) (.cons (.ret (CE.bl false)) .nil) .nil) (.cons (.ite (.bop (op := .And) (.and (.cmp _ .notN (.var 3) .non) (.and1 (.bop (op := .Or) (.or (.not (.val (.isi (.var 2) "bool" "bool"))) (.or1 (.cmp _ .ne (.var 2) (.var 3)))))))) (.cons (.ret (CE.bl false)) .nil) .nil) .nil))
def fn_law_same : Fn where
  ps := ["_law_found", "_law_due"]
  N := ["_law_found", "_law_due", "_law_one", "_law_other"]
  body := (.cons (.ite (.bop (op := .Or) (.or (.not (.val (.isi (.var 0) "tuple" "tuple"))) (.or1 (.cmp _ .ne (.blt .len (.cons (.var 0) .nil)) (.blt .len (.cons (.var 1) .nil)))))) (.cons (.ret (CE.bl false)) .nil) .nil) (.cons (.for_ (.tup (.cons 2 (.cons 3 .nil))) (.zip2 (.var 0) (.var 1)) fn_law_same_b0) (.cons (.ret (CE.bl true)) .nil)))
def fn_law14_b0 : CS := (.cons (.ite (.not (.val (.call "_law_same" (.cons (.call "outcome" (.cons (.var 2) (.cons (.var 3) .nil))) (.cons (.call "_law_outcome" (.cons (.var 2) (.cons (.var 3) .nil))) .nil))))) (.cons (.ret (CE.bl false)) .nil) .nil) .nil)
def fn_law14_b1 : CS := (.cons (.for_ (.name 3) (.range2 (.op _ .add (.op _ .fdiv (.blt .len (.cons (.var 2) .nil)) (CE.int 2)) (CE.int 1)) (.op _ .add (.blt .len (.cons (.var 2) .nil)) (CE.int 1))) fn_law14_b0) .nil)
def fn_law14 : Fn where
  ps := ["_law_script"]
  N := ["_law_script", "_law_sayings", "_law_judges_here", "_law_quota"]
  body := (.cons (.set 1 (.call "_law_list" (.cons (.var 0) (.cons (CE.int 10) .nil)))) (.cons (.for_ (.name 2) (.seq (.call "_law_groups" (.cons (.var 0) (.cons (.call "_law_fit_rows" (.cons (.var 1) .nil)) .nil)))) fn_law14_b1) (.cons (.ret (CE.bl true)) .nil)))
end MJ

namespace MJ
open PySem PySem.Spec PyProof.Rows L2
theorem addD_lst {as bs : List D} (h : as.length + bs.length ≤ 1000000) : addD (.lst as) (.lst bs) = .ok (.lst (as ++ bs), .fr) := by
  have := small_len h
  simp only [addD, this, if_true]
theorem nodup_le {α : Type} [DecidableEq α] : ∀ {a b : List α}, a.Nodup → (∀ x ∈ a, x ∈ b) → a.length ≤ b.length
  | [], b, _, _ => Nat.zero_le _
  | x :: a, b, n, h => by
    have n1 := List.nodup_cons.mp n
    have hx : x ∈ b := h x (by simp)
    have := nodup_le (a := a) (b := b.erase x) n1.2 fun y hy => by
      have hne : y ≠ x := fun z => n1.1 (z ▸ hy)
      exact (List.mem_erase_of_ne hne).mpr (h y (List.mem_cons_of_mem _ hy))
    have hl := List.length_erase_of_mem hx
    have hp := List.length_pos_of_mem hx
    simp only [List.length_cons]
    omega
/-- the letters of a list of sayings -/
def letsL (ss : List Sy) : List Str := (ss.map Sy.lets).flatten
/-- the names of a list of sayings -/
def namesL (ss : List Sy) : List Str := namesS (letsL ss)
def rowF (ss : List Sy) (hd : List Str) : List Bool := ss.map fun s => s.so hd
def fitR (ss : List Sy) : List (List Bool) := sortU ordR.toOrd ((List.range (2 ^ (namesL ss).length)).map fun k : Nat => rowF ss (heldF (k : Int) (namesL ss)))
structure Lst (ss : List Sy) : Prop where
  ne : 1 ≤ ss.length
  le : ss.length ≤ 6
  pc : ∀ s ∈ ss, s.pieces ≤ 40
  nm : (namesL ss).length ≤ 5
  ok : ∀ z ∈ letsL ss, NameOk z
theorem mem_letsL {z : Str} {ss : List Sy} : z ∈ letsL ss ↔ ∃ s ∈ ss, z ∈ s.lets := by
  simp only [letsL, List.mem_flatten, List.mem_map]
  exact ⟨fun ⟨l, ⟨a, ha, e⟩, m⟩ => ⟨a, ha, e ▸ m⟩, fun ⟨a, ha, m⟩ => ⟨_, ⟨a, ha, rfl⟩, m⟩⟩
theorem mem_namesL {z : Str} {ss : List Sy} : z ∈ namesL ss ↔ ∃ s ∈ ss, z ∈ s.lets := by
  unfold namesL namesS
  rw [sortU_mem, mem_letsL]
theorem Lst.of {ss : List Sy} {nms : List Str} (ne : 1 ≤ ss.length) (le : ss.length ≤ 6) (hn : nms.length ≤ 5) (ok : ∀ z ∈ nms, NameOk z) (h : ∀ s ∈ ss, s.pieces ≤ 40 ∧ ∀ z ∈ s.lets, z ∈ nms) : Lst ss where
  ne := ne
  le := le
  pc := fun s m => (h s m).1
  nm := Nat.le_trans (nodup_le (namesS_nd _) fun z m => by
    obtain ⟨s, hs, m⟩ := mem_namesL.mp m
    exact (h s hs).2 z m) hn
  ok := fun z m => by
    obtain ⟨s, hs, m⟩ := mem_letsL.mp m
    exact ok z ((h s hs).2 z m)
theorem Lst.dp {ss : List Sy} (L : Lst ss) {s : Sy} (h : s ∈ ss) : s.depth ≤ 40 := Nat.le_trans s.depth_le (L.pc s h)
theorem Lst.sok {ss : List Sy} (L : Lst ss) {s : Sy} (h : s ∈ ss) : ∀ z ∈ s.lets, PyData.strOk z = true := fun z m => low_ok (L.ok z (mem_letsL.mpr ⟨s, h, m⟩)).low
theorem Lst.nok {ss : List Sy} (L : Lst ss) : ∀ z ∈ namesL ss, PyData.strOk z = true := fun z m => by
  obtain ⟨s, hs, m⟩ := mem_namesL.mp m
  exact L.sok hs z m
theorem Lst.inn {ss : List Sy} {s : Sy} (h : s ∈ ss) : ∀ z ∈ s.lets, z ∈ namesL ss := fun z m => mem_namesL.mpr ⟨s, h, m⟩
theorem letsL_len {ss : List Sy} {b : Nat} (h : ∀ s ∈ ss, s.pieces ≤ b) : (letsL ss).length ≤ ss.length * b := by
  unfold letsL
  induction ss with
  | nil => simp
  | cons s ss ih =>
    have h1 := h s (by simp)
    have h2 := lets_le s
    have h3 := ih fun s m => h s (List.mem_cons_of_mem _ m)
    simp only [List.map_cons, List.flatten_cons, List.length_append, List.length_cons]
    rw [Nat.add_mul]
    omega
theorem Lst.lets_len {ss : List Sy} (L : Lst ss) : (letsL ss).length ≤ 240 := by
  have h1 := letsL_len L.pc
  have h2 := Nat.mul_le_mul_right 40 L.le
  omega
theorem flat_take {α : Type} {f : α → List Str} {l : List α} {i : Nat} {x : α} (h : l[i]? = some x) : ((l.take (i + 1)).map f).flatten = ((l.take i).map f).flatten ++ f x := by
  rw [List.take_succ, h]
  simp
theorem flat_le {α : Type} (f : α → List Str) (l : List α) (i : Nat) : ((l.take i).map f).flatten.length ≤ (l.map f).flatten.length := by
  have : (l.map f).flatten = ((l.take i).map f).flatten ++ ((l.drop i).map f).flatten := by rw [← List.flatten_append, ← List.map_append, List.take_append_drop]
  rw [this, List.length_append]
  omega
section
variable {T : Str → Option Fn}
theorem within_ev (f : T "_law_within" = some fn_law_within) : ∀ (n : Nat) (s : Sy), s.depth ≤ n → s.pieces ≤ 10000 → evFn T n "_law_within" [enc s] = .ok (.lst (s.lets.map .str), true)
  | 0, s, h, _ => by cases s <;> simp [Sy.depth] at h
  | n + 1, s, h, hp => by
    rw [evFn_succ f rfl]
    simp only [fn_law_within, startSl]
    have one : 1 ≤ sizeLine := by decide
    cases hs : s.isL with
    | true =>
      cases s with
      | ltr z =>
        have z1 : ixD (enc (.ltr z)) (.int 1) = .ok (.str z, .sh) := ixD_tup rfl
        simp [enc_ix0, word_letter, Sy.isL, z1, one, Sy.lets]
      | _ => cases hs
    | false =>
      have hkp : ∀ k ∈ s.kids, k.pieces ≤ 10000 := fun k hk => Nat.le_trans (kids_le hk) hp
      have ih : ∀ k ∈ s.kids, evFn T n "_law_within" [enc k] = .ok (.lst (k.lets.map .str), true) := fun k hk => within_ev f n k (by have := kids_depth hk; omega) (hkp k hk)
      obtain ⟨ρ, eρ, x, rfl⟩ := forFold_nx (step := forStep (CG.name 2) fn_law_within_b0 (evFn T n)) (ds := s.kids.map enc) (ρ := [.sh (enc s), .ow (.lst []), .no])
        (fun i ρ => ∃ x, ρ = [.sh (enc s), .ow (.lst ((((s.kids.take i).map Sy.lets).flatten).map .str)), x]) ⟨.no, rfl⟩ (by
          rintro i d ρ hd ⟨x, rfl⟩
          rw [List.getElem?_map, Option.map_eq_some_iff] at hd
          obtain ⟨k, hk, rfl⟩ := hd
          have hkm := List.mem_of_getElem? hk
          have hl := flat_le Sy.lets s.kids (i + 1)
          rw [← kids_lets hs] at hl
          have h1 := lets_le s
          rw [flat_take hk, List.length_append] at hl
          have ad := addD_lst (as := (((s.kids.take i).map Sy.lets).flatten).map .str) (bs := k.lets.map .str) (by simp only [List.length_map]; omega)
          rw [flat_take hk, List.map_append]
          have ih := ih k hkm
          generalize ((s.kids.take i).map Sy.lets).flatten.map D.str = us at ad
          simp [forStep, fn_law_within_b0, ih, ad])
      rw [List.length_map, List.take_length, ← kids_lets hs] at eρ
      simp [enc_ix0, word_letter, hs, enc_kids hs, one, eρ]
theorem all_names_ev (w : T "_law_within" = some fn_law_within) (f : T "_law_all_names" = some fn_law_all_names) (n : Nat) {ss : List Sy} (L : Lst ss) {d : D} (hd : items d = .ok (ss.map enc)) : evFn T (n + 41) "_law_all_names" [d] = .ok (.lst ((namesL ss).map .str), true) := by
  rw [evFn_succ f rfl]
  simp only [fn_law_all_names, startSl]
  have lt := L.lets_len
  obtain ⟨ρ, eρ, x, rfl⟩ := forFold_nx (step := forStep (CG.name 2) fn_law_all_names_b0 (evFn T (n + 40))) (ds := ss.map enc) (ρ := [.sh d, .ow (.lst []), .no])
    (fun i ρ => ∃ x, ρ = [.sh d, .ow (.lst ((((ss.take i).map Sy.lets).flatten).map .str)), x]) ⟨.no, rfl⟩ (by
      rintro i d' ρ hd' ⟨x, rfl⟩
      rw [List.getElem?_map, Option.map_eq_some_iff] at hd'
      obtain ⟨k, hk, rfl⟩ := hd'
      have hkm := List.mem_of_getElem? hk
      have hl := flat_le Sy.lets ss (i + 1)
      rw [flat_take hk, List.length_append] at hl
      have lt : (ss.map Sy.lets).flatten.length ≤ 240 := lt
      have ad := addD_lst (as := (((ss.take i).map Sy.lets).flatten).map .str) (bs := k.lets.map .str) (by simp only [List.length_map]; omega)
      have wi := within_ev w (n + 40) k (by have := L.dp hkm; omega) (by have := L.pc k hkm; omega)
      rw [flat_take hk, List.map_append]
      generalize ((ss.take i).map Sy.lets).flatten.map D.str = us at ad
      simp [forStep, fn_law_all_names_b0, wi, ad])
  rw [List.length_map, List.take_length] at eρ
  have lt : (letsL ss).length < 4000 := by omega
  have ss' := sset_strs lt
  simp only [namesL]
  simp only [letsL] at ss' ⊢
  generalize (ss.map Sy.lets).flatten = us at *
  simp [hd, eρ, ss', shareSl]
theorem row_ev (so : T "_law_so" = some fn_law_so) (f : T "_law_row" = some fn_law_row) (n : Nat) {ss : List Sy} (L : Lst ss) {hd : List Str} (hh : ∀ z ∈ hd, PyData.strOk z = true) :
    evFn T (n + 41) "_law_row" [.tup (ss.map enc), .tup (hd.map .str)] = .ok (rowD (rowF ss hd), false) := by
  rw [evFn_succ f rfl]
  simp only [fn_law_row, startSl]
  have body := lcFold_map (f := lcBody (CG.name 2) CIf.no fn_law_row_e0 (evFn T (n + 40)) [.sh (.tup (ss.map enc)), .sh (.tup (hd.map .str)), .no]) enc (fun s => .bl (s.so hd)) (as := ss) fun s hs => by
    have e := law_so_ev (T := T) so hh s (n + 40 - s.depth) (L.sok hs)
    rw [Nat.sub_add_cancel (by have := L.dp hs; omega)] at e
    simp [lcBody, fn_law_row_e0, noEx, e]
  have := L.le
  simp [lcRes_eq, wipeSl, body, small_len (show ss.length ≤ 1000000 by omega), rowD, rowF]
end
end MJ

namespace MJ
open PySem PySem.Spec PyProof.Rows L2
theorem cutD_from {α : Type} (xs : List α) {k : Int} (h : 0 ≤ k) : cutD xs (some k) none = xs.drop k.toNat := by
  simp only [cutD]
  rw [HT.sIx_none, sIx_of h]
  by_cases c : k.toNat ≤ xs.length
  · rw [Nat.min_eq_left c, List.take_of_length_le]
    simp
  · rw [Nat.min_eq_right (by omega), List.drop_of_length_le (Nat.le_refl _), List.drop_of_length_le (by omega)]
    simp
theorem cutD_to {α : Type} (xs : List α) {k : Int} (h : 0 ≤ k) : cutD xs none (some k) = xs.take k.toNat := by
  simp only [cutD]
  rw [HT.sIx_none, sIx_of h, List.drop_zero, Nat.sub_zero]
  by_cases c : k.toNat ≤ xs.length
  · rw [Nat.min_eq_left c]
  · rw [Nat.min_eq_right (by omega), List.take_of_length_le (Nat.le_refl _), List.take_of_length_le (by omega)]
theorem atI_nn {α : Type} {xs : List α} {i : Nat} {x : α} (h : xs[i]? = some x) : atI xs (i : Int) = some x := atI_nat h
theorem ixD_lst_nat {ds : List D} {i : Nat} {d : D} (h : ds[i]? = some d) : ixD (.lst ds) (.int i) = .ok (d, .sh) := ixD_lst (atI_nat h)
theorem ixD_tup_nat {ds : List D} {i : Nat} {d : D} (h : ds[i]? = some d) : ixD (.tup ds) (.int i) = .ok (d, .sh) := ixD_tup (atI_nat h)
theorem setAtD_nat {ds : List D} {i : Nat} (h : i < ds.length) (v : D) : setAtD ds (i : Int) v = some (ds.set i v) := by
  have : ixN ds.length (i : Int) = some i := by
    unfold ixN
    rw [if_pos (by omega), if_pos (by omega)]
    simp
  simp [setAtD, this]
section
variable {T : Str → Option Fn}
theorem knit_ev (f : T "_law_knit" = some fn_law_knit2) (n : Nat) {zs : List Str} {bs : List Bool} (o : Op3) (h : 1 ≤ zs.length) (hl : zs.length ≤ 1000) (hb : bs.length = zs.length) :
    ∃ s : Sy, evFn T (n + 1) "_law_knit" [.lst (zs.map .str), .lst (bs.map .bl), .str o.word] = .ok (enc s, false) ∧ s.pieces ≤ 3 * zs.length ∧ ∀ z ∈ s.lets, z ∈ zs := by
  rw [evFn_succ f rfl]
  simp only [fn_law_knit2, startSl]
  have two : 2 ≤ sizeLine := by decide
  have three : 3 ≤ sizeLine := by decide
  have body := lcFold_map (f := lcBody (CG.name 7) CIf.no fn_law_knit2_e0 (evFn T n) [.sh (.lst (zs.map .str)), .sh (.lst (bs.map .bl)), .sh (.str o.word), .no, .no, .no, .no, .no]) D.str (fun z => enc (.ltr z)) (as := zs) fun z hz => by
    simp [lcBody, fn_law_knit2_e0, noEx, two, enc, wLetter]
  have b2 : zs.map (fun z => enc (.ltr z)) = (zs.map Sy.ltr).map enc := by simp
  rw [b2] at body
  have rg := rg1_of (show (0 : Int) ≤ (zs.length : Int) by omega) (show ((zs.length : Nat) : Int) < 4611686018427387904 by omega)
  rw [Int.toNat_natCast] at rg
  -- not
  obtain ⟨ρ1, eρ1, ps, x, rfl, pl, pp⟩ := forFold_nx (step := forStep (CG.name 4) fn_law_knit2_b1 (evFn T n)) (ds := rangeD 0 zs.length)
    (ρ := [.sh (.lst (zs.map .str)), .sh (.lst (bs.map .bl)), .sh (.str o.word), .ow (.lst ((zs.map Sy.ltr).map enc)), .no, .no, .no, .no])
    (fun i ρ => ∃ (ps : List Sy) (x : Sl), ρ = [.sh (.lst (zs.map .str)), .sh (.lst (bs.map .bl)), .sh (.str o.word), .ow (.lst (ps.map enc)), x, .no, .no, .no] ∧ ps.length = zs.length ∧ ∀ j p, ps[j]? = some p → p.pieces ≤ (if j < i then 2 else 1) ∧ ∀ z ∈ p.lets, z ∈ zs)
    ⟨_, _, rfl, by simp, fun j p hj => by
      rw [List.getElem?_map, Option.map_eq_some_iff] at hj
      obtain ⟨z, hz, rfl⟩ := hj
      have := List.mem_of_getElem? hz
      simp [Sy.pieces, Sy.lets, this]⟩ (by
      rintro i d ρ hd ⟨ps, x, rfl, pl, pp⟩
      obtain ⟨hi, rfl⟩ := rangeD_get hd
      obtain ⟨b, hb'⟩ : ∃ b, bs[i]? = some b := ⟨_, List.getElem?_eq_getElem (by omega)⟩
      obtain ⟨p, hp⟩ : ∃ p, ps[i]? = some p := ⟨_, List.getElem?_eq_getElem (by omega)⟩
      have e1 : ixD (.lst (bs.map .bl)) (.int (i : Int)) = .ok (.bl b, .sh) := ixD_lst_nat (by simp [hb'])
      have e2 : ixD (.lst (ps.map enc)) (.int (i : Int)) = .ok (enc p, .sh) := ixD_lst_nat (by simp [hp])
      have e3 := setAtD_nat (ds := ps.map enc) (i := i) (by simp; omega) (enc (.not p))
      have pi := pp i p hp
      rw [if_neg (by omega)] at pi
      have hset : (ps.map enc).set i (enc (.not p)) = (ps.set i (.not p)).map enc := by simp
      rw [hset] at e3
      cases b with
      | true =>
        simp [forStep, fn_law_knit2_b1, e1]
        refine ⟨ps, rfl, pl, fun j q hq => ?_⟩
        have := pp j q hq
        refine ⟨?_, this.2⟩
        have := this.1
        split at this <;> split <;> omega
      | false =>
        simp only [enc, wNot] at e3
        simp [forStep, fn_law_knit2_b1, e1, e2, e3, two]
        refine ⟨ps.set i (.not p), ?_, by simpa using pl, fun j q hq => ?_⟩
        · simp [enc, wNot]
        rw [List.getElem?_set] at hq
        split at hq
        · rename_i hij
          subst hij
          rw [if_pos (by omega)] at hq
          cases hq
          refine ⟨?_, pi.2⟩
          rw [if_pos (by omega)]
          simp only [Sy.pieces]
          omega
        · have := pp j q hq
          refine ⟨?_, this.2⟩
          have := this.1
          split at this <;> split <;> omega)
  rw [rangeD_len] at pp
  -- put together
  obtain ⟨p0, hp0⟩ : ∃ p, ps[0]? = some p := ⟨_, List.getElem?_eq_getElem (by omega)⟩
  have q0 := pp 0 p0 hp0
  have e0 : ixD (.lst (ps.map enc)) (.int 0) = .ok (enc p0, .sh) := ixD_lst_nat (i := 0) (by simp [hp0])
  obtain ⟨ρ2, eρ2, s, y, rfl, sp, sl⟩ := forFold_nx (step := forStep (CG.name 6) fn_law_knit2_b0 (evFn T n)) (ds := (ps.drop 1).map enc)
    (ρ := [.sh (.lst (zs.map .str)), .sh (.lst (bs.map .bl)), .sh (.str o.word), .ow (.lst (ps.map enc)), x, .sh (enc p0), .no, .no])
    (fun i ρ => ∃ (s : Sy) (y : Sl), ρ = [.sh (.lst (zs.map .str)), .sh (.lst (bs.map .bl)), .sh (.str o.word), .ow (.lst (ps.map enc)), x, .sh (enc s), y, .no] ∧ s.pieces ≤ 2 + 3 * i ∧ ∀ z ∈ s.lets, z ∈ zs)
    ⟨p0, _, rfl, by have := q0.1; split at this <;> omega, q0.2⟩ (by
      rintro i d ρ hd ⟨s, y, rfl, sp, sl⟩
      rw [List.getElem?_map, Option.map_eq_some_iff] at hd
      obtain ⟨p, hp, rfl⟩ := hd
      rw [List.getElem?_drop] at hp
      have q := pp _ p hp
      simp [forStep, fn_law_knit2_b0, three]
      refine ⟨.bin o s p, by simp [enc], ?_, fun z hz => ?_⟩
      · have := q.1
        simp only [Sy.pieces]
        split at this <;> omega
      · rcases List.mem_append.mp hz with m | m
        · exact sl z m
        · exact q.2 z m)
  rw [List.length_map, List.length_drop, pl] at sp
  refine ⟨s, ?_, by omega, sl⟩
  have hc : cutD (ps.map enc) (some 1) none = (ps.drop 1).map enc := by rw [cutD_from _ (by decide), List.map_drop]; rfl
  have sz := small_len (show zs.length ≤ 1000000 by omega)
  generalize (ps.drop 1).map enc = tl at hc eρ2
  generalize hps1 : (zs.map Sy.ltr).map enc = ps1 at body eρ1
  have lps1 : ps1.length = zs.length := by rw [← hps1]; simp
  simp [lcRes_eq, wipeSl, body, sz, lps1, rg, eρ1, pl, e0, sliceD_lst, hc, eρ2]
end
end MJ

namespace MJ
open PySem PySem.Spec PyProof.Rows L2
theorem bdk {k : Int} {a : Nat} (h0 : 0 ≤ k) (h : k < 1000000) (ha : 20 ≤ a := by decide) : bd k a := bd_le (bd_of h0 h (show bd 1000000 20 by decide)) ha
theorem sset_rows {rs : List (List Bool)} (h : rs.length < 64) (ne : ∀ r ∈ rs, r ≠ []) (n0 : rs ≠ []) : ssetD (.lst (rs.map rowD)) = .ok (.lst ((sortU ordR.toOrd rs).map rowD), .fr) := by
  have e : ∀ {rs : List (List Bool)}, (∀ r ∈ rs, r ≠ []) → rowsD (rs.map rowD) = some rs := fun {rs} => by
    induction rs with
    | nil => intro _; rfl
    | cons r rs ih =>
      intro ne
      cases r with
      | nil => exact absurd rfl (ne [] (by simp))
      | cons b r =>
        have := ih fun r m => ne r (List.mem_cons_of_mem _ m)
        have hb := bools_map (b :: r)
        simp only [List.map_cons, rowD] at hb ⊢
        simp only [rowsD, hb]
        rw [this]
  have e0 : strsD (rs.map rowD) = none := by
    cases rs with
    | nil => exact absurd rfl n0
    | cons r rs => rfl
  simp only [ssetD, e0, e ne]
  rw [if_pos h]
def SayOk (T : Str → Option Fn) (ns : List Int) (lev : Nat) : Prop := ∀ (nms : List Str) (k room : Int), nms ≠ [] → nms.length ≤ 5 → 0 ≤ k → k < 1000000 → 1 ≤ room → room ≤ 40 →
  ∃ s : Sy, evFn T lev "_law_saying" [sc ns, .int k, .int room, .lst (nms.map .str)] = .ok (enc s, false) ∧ (s.pieces : Int) ≤ room ∧ ∀ z ∈ s.lets, z ∈ nms
section
variable {T : Str → Option Fn} (ns : List Int)
theorem SayOk.next (h : T "_law_cell" = some fn_law_cell) (g : T "_law_pick" = some fn_law_pick) (nx : T "_law_next" = some fn_law_next) (f : T "_law_saying" = some fn_law_saying) (hl : ns.length ≤ 4000) (n : Nat) : SayOk T ns (n + 42) :=
  fun nms k room hn h5 k0 k1 r1 r40 => saying_ev ns h g nx f hl hn (by omega) 40 n k room r1 r40 (by decide) k0 (bdk k0 k1)
theorem op3_at {o : Int} (o0 : 0 ≤ o) (o1 : o < 3) : ∃ o3 : Op3, ixD (.lst [.str (Str.ofString "and"), .str (Str.ofString "or"), .str (Str.ofString "if")]) (.int o) = .ok (.str o3.word, .sh) := by
  have : o = 0 ∨ o = 1 ∨ o = 2 := by omega
  rcases this with rfl | rfl | rfl
  · exact ⟨.and, rfl⟩
  · exact ⟨.or, rfl⟩
  · exact ⟨.if, rfl⟩
theorem linked_ev (h : T "_law_cell" = some fn_law_cell) (g : T "_law_pick" = some fn_law_pick) (kn : T "_law_knit" = some fn_law_knit2) (f : T "_law_linked" = some fn_law_linked1) (hl : ns.length ≤ 4000) (n : Nat) {k : Int} (k0 : 0 ≤ k) (k1 : k < 10000)
    {nms : List Str} (hn : 1 ≤ nms.length) (hn5 : nms.length ≤ 5) :
    ∃ ss : List Sy, evFn T (n + 3) "_law_linked" [sc ns, .int k, .lst (nms.map .str)] = .ok (.lst (ss.map enc), true) ∧ 1 ≤ ss.length ∧ ss.length ≤ 6 ∧ ∀ s ∈ ss, s.pieces ≤ 40 ∧ ∀ z ∈ s.lets, z ∈ nms := by
  have P := fun {k m : Int} (h0 : 0 ≤ k) (h1 : k < 1000000) => pick_ev ns h g hl n (k := k) (m := m) h0 (bdk h0 h1)
  have two : 2 ≤ sizeLine := by decide
  have three : 3 ≤ sizeLine := by decide
  have hm : ∃ m : Int, (if (nms.length : Int) < 5 then (nms.length : Int) else 5) = m ∧ 1 ≤ m ∧ m ≤ nms.length := ⟨_, rfl, by split <;> omega, by split <;> omega⟩
  obtain ⟨m, hm, m1, m2⟩ := hm
  obtain ⟨q, q0, q1, eq⟩ := P (k := k) (m := m) (by omega) (by omega) (by omega)
  obtain ⟨o, o0, o1, eo⟩ := P (k := k + 6) (m := 3) (by omega) (by omega) (by decide)
  obtain ⟨t, t0, t1, et⟩ := P (k := k + 7) (m := 3) (by omega) (by omega) (by decide)
  obtain ⟨p, p0, p1, ep⟩ := P (k := k + 8) (m := q + 1 + 1) (by omega) (by omega) (by omega)
  obtain ⟨o3, ho⟩ := op3_at o0 o1
  have hz : (nms.take (q + 1).toNat).length = (q + 1).toNat := by rw [List.length_take]; omega
  have zm : ∀ z ∈ nms.take (q + 1).toNat, z ∈ nms := fun z m => List.mem_of_mem_take m
  have hcut : cutD (nms.map D.str) none (some (q + 1)) = (nms.take (q + 1).toNat).map .str := by rw [cutD_to _ (by omega), List.map_take]
  generalize nms.take (q + 1).toNat = zs at hz zm hcut
  have sz := small_len (show zs.length ≤ 1000000 by omega)
  -- letters
  have body := lcFold_map (f := lcBody (CG.name 7) CIf.no fn_law_linked1_e1 (evFn T (n + 2)) [.sh (sc ns), .sh (.int k), .sh (.lst (nms.map .str)), .sh (.int (q + 1)), .no, .no, .no, .no, .no]) D.str (fun z => enc (.ltr z)) (as := zs) fun z hz => by
    simp [lcBody, fn_law_linked1_e1, noEx, two, enc, wLetter]
  have b2 : zs.map (fun z => enc (.ltr z)) = (zs.map Sy.ltr).map enc := by simp
  rw [b2] at body
  -- truths
  obtain ⟨bs, ebs, bl, _⟩ := lcFold_all (f := lcBody (CG.name 8) CIf.no fn_law_linked1_e0 (evFn T (n + 2)) [.sh (sc ns), .sh (.int k), .sh (.lst (nms.map .str)), .sh (.int (q + 1)), .ow (.lst ((zs.map Sy.ltr).map enc)), .no, .no, .no, .no]) (g := D.bl) (R := fun _ _ => True) (ds := rangeD 0 zs.length) fun d hd => by
    obtain ⟨i, hi⟩ := List.mem_iff_getElem?.mp hd
    obtain ⟨hi, rfl⟩ := rangeD_get hi
    obtain ⟨r, r0, r1, er⟩ := P (k := k + 1 + (0 + (i : Int))) (m := 3) (by omega) (by omega) (by decide)
    rw [Int.zero_add] at er
    refine ⟨decide (0 < r), ?_, trivial⟩
    simp [lcBody, fn_law_linked1_e0, noEx, er]
  rw [rangeD_len] at bl
  obtain ⟨s, es, sp, sl⟩ := knit_ev kn (n + 1) (zs := zs) (bs := bs) o3 (by omega) (by omega) bl
  have rg := rg1_of (show (0 : Int) ≤ q + 1 by omega) (show q + 1 < 4611686018427387904 by omega)
  rw [← hz] at rg
  have szb := small_len (show bs.length ≤ 1000000 by omega)
  have hzl : (zs.map Sy.ltr).length = zs.length := by simp
  generalize hps : zs.map Sy.ltr = ps at body ebs hzl
  have pp : ∀ s ∈ ps, s.pieces ≤ 40 ∧ ∀ z ∈ s.lets, z ∈ nms := fun s m => by
    rw [← hps] at m
    obtain ⟨z, hz, rfl⟩ := List.mem_map.mp m
    refine ⟨by simp [Sy.pieces], fun y hy => ?_⟩
    simp only [Sy.lets, List.mem_singleton] at hy
    subst hy
    exact zm _ hz
  -- the last one
  obtain ⟨s', hs', sp', sl'⟩ : ∃ s' : Sy, (if t = 0 then s' = .not s else s' = s) ∧ s'.pieces ≤ 40 ∧ ∀ z ∈ s'.lets, z ∈ nms := by
    by_cases c : t = 0
    · exact ⟨.not s, by simp [c], by simp only [Sy.pieces]; omega, fun z m => zm z (sl z m)⟩
    · exact ⟨s, by simp [c], by omega, fun z m => zm z (sl z m)⟩
  refine ⟨ps.take p.toNat ++ [s'] ++ ps.drop p.toNat, ?_, ?_, ?_, ?_⟩
  · rw [evFn_succ f rfl]
    simp only [fn_law_linked1, startSl]
    have lps : ps.length < sizeLine := Nat.lt_of_lt_of_le (by omega) (small_len (Nat.le_refl 1000000))
    have pz : p < 2 ^ 63 := by omega
    have ins : MC.insert.g (.lst (ps.map enc)) [.int p, enc s'] = some (.lst ((ps.take p.toNat ++ [s'] ++ ps.drop p.toNat).map enc), .non) := by
      rw [insert_g, if_pos ⟨by simpa using lps, p0, pz⟩]
      simp
    generalize ps.take p.toNat ++ [s'] ++ ps.drop p.toNat = res at ins
    by_cases c : t = 0
    · rw [if_pos c] at hs'
      subst hs'
      simp only [enc, wNot] at ins
      simp [hm, eq, sliceD_lst, hcut, lcRes_eq, wipeSl, body, sz, hzl, rg, ebs, szb, bl, shareSl, three, eo, ho, es, et, c, two, three, ep, MC.run_eq, -insert_g, ins]
    · rw [if_neg c] at hs'
      subst hs'
      have c' : (t == 0) = false := by simpa using c
      simp [hm, eq, sliceD_lst, hcut, lcRes_eq, wipeSl, body, sz, hzl, rg, ebs, szb, bl, shareSl, three, eo, ho, es, et, c', two, three, ep, MC.run_eq, -insert_g, ins]
  · simp; omega
  · simp only [List.length_append, List.length_take, List.length_drop, List.length_singleton]; omega
  · intro s'' m
    rcases List.mem_append.mp m with m | m
    · rcases List.mem_append.mp m with m | m
      · exact pp s'' (List.mem_of_mem_take m)
      · simp only [List.mem_singleton] at m
        subst m
        exact ⟨sp', sl'⟩
    · exact pp s'' (List.mem_of_mem_drop m)
end
end MJ

namespace MJ
open PySem PySem.Spec PyProof.Rows L2
theorem heldF_lets {k : Int} {nms : List Str} (h : ∀ z ∈ nms, PyData.strOk z = true) : ∀ z ∈ heldF k nms, PyData.strOk z = true := fun z m => h z (heldF_mem m)
/-- a list of rows as it lies -/
def RowsOk (rs : List (List Bool)) (w : Nat) : Prop := ∀ r ∈ rs, r.length = w
theorem fitR_mem {ss : List Sy} {r : List Bool} : r ∈ fitR ss ↔ ∃ k : Nat, k < 2 ^ (namesL ss).length ∧ rowF ss (heldF (k : Int) (namesL ss)) = r := by
  unfold fitR
  rw [sortU_mem, List.mem_map]
  simp only [List.mem_range]
theorem fitR_len {ss : List Sy} {r : List Bool} (h : r ∈ fitR ss) : r.length = ss.length := by
  obtain ⟨k, _, rfl⟩ := fitR_mem.mp h
  simp [rowF]
theorem fitR_ne (ss : List Sy) : fitR ss ≠ [] := by
  have h : rowF ss (heldF ((0 : Nat) : Int) (namesL ss)) ∈ fitR ss := fitR_mem.mpr ⟨0, Nat.pow_pos (by decide), rfl⟩
  intro z
  rw [z] at h
  cases h
theorem fitR_nd (ss : List Sy) : (fitR ss).Nodup := rising_nodup ordR (sortU_pw ordR _)
theorem Lst.two5 {ss : List Sy} (L : Lst ss) : 2 ^ (namesL ss).length ≤ 32 := Nat.pow_le_pow_right (n := 2) (by decide) L.nm
theorem Lst.fit_le {ss : List Sy} (L : Lst ss) : (fitR ss).length ≤ 32 := by
  have h : (fitR ss).length ≤ ((List.range (2 ^ (namesL ss).length)).map fun k : Nat => rowF ss (heldF (k : Int) (namesL ss))).length := nodup_le (fitR_nd ss) fun r m => by
    unfold fitR at m
    exact (sortU_mem _).mp m
  simp only [List.length_map, List.length_range] at h
  have := L.two5
  omega
section
variable {T : Str → Option Fn} (ns : List Int)
theorem list1_ev (h : T "_law_cell" = some fn_law_cell) (g : T "_law_pick" = some fn_law_pick) (nmf : T "_law_names" = some fn_law_names) (kn : T "_law_knit" = some fn_law_knit2) (lk : T "_law_linked" = some fn_law_linked1)
    (f : T "_law_list" = some fn_law_list1) (hl : ns.length ≤ 4000) (n : Nat) (sy : SayOk T ns (n + 60)) {k : Int} (k0 : 0 ≤ k) (k1 : k < 1000) :
    ∃ ss : List Sy, evFn T (n + 61) "_law_list" [sc ns, .int k] = .ok (.tup (ss.map enc), false) ∧ Lst ss := by
  have P := fun {k m : Int} (h0 : 0 ≤ k) (h1 : k < 1000000) => pick_ev ns h g hl (n + 58) (k := k) (m := m) h0 (bdk h0 h1)
  obtain ⟨r1, r10, r11, e1⟩ := P (k := k + 5) (m := 5) (by omega) (by omega) (by decide)
  obtain ⟨r2, r20, r21, e2⟩ := P (k := k + 6) (m := 2) (by omega) (by omega) (by decide)
  obtain ⟨r3, r30, r31, e3⟩ := P (k := k + 7) (m := 6) (by omega) (by omega) (by decide)
  obtain ⟨nms, en, hn, hnm, hnd⟩ := names_ev ns h g nmf hl (n + 57) (k := k) (m := 1 + r1) k0 (bdk k0 (by omega)) (by omega) (by omega)
  by_cases c : r2 = 0
  · subst c
    obtain ⟨ss, es, s1, s6, sp⟩ := linked_ev ns h g kn lk hl (n + 57) (k := k + 7) (by omega) (by omega) (nms := nms) (by omega) (by omega)
    refine ⟨ss, ?_, .of s1 s6 (by omega) hnm sp⟩
    rw [evFn_succ f rfl]
    simp only [fn_law_list1, startSl]
    simp [e1, en, e2, shareSl, es]
  · have c' : (r2 == 0) = false := by simpa using c
    have rg := rg1_of (show (0 : Int) ≤ 1 + r3 by omega) (show 1 + r3 < 4611686018427387904 by omega)
    have hne : nms ≠ [] := by intro z; subst z; simp at hn; omega
    have five : 5 ≤ sizeLine := by decide
    obtain ⟨ρ, eρ, ss, q, x, y, rfl, sl, sp⟩ := forFold_nx (step := forStep (CG.name 4) fn_law_list1_b0 (evFn T (n + 60))) (ds := rangeD 0 (1 + r3).toNat)
      (ρ := [.sh (sc ns), .sh (.int k), .ow (.lst (nms.map .str)), .ow (.lst []), .no, .no])
      (fun i ρ => ∃ (ss : List Sy) (q x y : Sl), ρ = [.sh (sc ns), .sh (.int k), q, .ow (.lst (ss.map enc)), x, y] ∧ ss.length = i ∧ (q = .ow (.lst (nms.map .str)) ∨ q = .sh (.lst (nms.map .str))) ∧ ∀ s ∈ ss, s.pieces ≤ 40 ∧ ∀ z ∈ s.lets, z ∈ nms)
      ⟨[], _, _, _, rfl, rfl, .inl rfl, fun s m => by cases m⟩ (by
        rintro i d ρ hd ⟨ss, q, x, y, rfl, sl, hq, sp⟩
        obtain ⟨hi, rfl⟩ := rangeD_get hd
        have i6 : (i : Int) < 6 := by omega
        obtain ⟨p, p0, p1, ep⟩ := P (k := k + 8 + (i : Int)) (m := 5) (by omega) (by omega) (by decide)
        obtain ⟨m, em, m1, m9⟩ : ∃ m : Int, ixD (.lst [.int 1, .int 1, .int 3, .int 4, .int 9]) (.int p) = .ok (.int m, .sh) ∧ 1 ≤ m ∧ m ≤ 9 := by
          have : p = 0 ∨ p = 1 ∨ p = 2 ∨ p = 3 ∨ p = 4 := by omega
          rcases this with rfl | rfl | rfl | rfl | rfl
          · exact ⟨1, rfl, by decide, by decide⟩
          · exact ⟨1, rfl, by decide, by decide⟩
          · exact ⟨3, rfl, by decide, by decide⟩
          · exact ⟨4, rfl, by decide, by decide⟩
          · exact ⟨9, rfl, by decide, by decide⟩
        obtain ⟨s, es, hp, hz⟩ := sy nms (k + 20 + 31 * (i : Int)) m hne (by omega) (by omega) (by omega) m1 (by omega)
        have m31 : CMulW 31 (i : Int) := cmul_of (show bd 31 5 by decide) (bdk (a := 20) (by omega) (by omega))
        have lt : ss.length < sizeLine := Nat.lt_of_lt_of_le (by omega) (small_len (Nat.le_refl 1000000))
        rcases hq with rfl | rfl
        · simp [forStep, fn_law_list1_b0, ep, em, m31, shareSl, es, MC.run_eq, lt, five]
          refine ⟨ss ++ [s], .sh (.lst (nms.map .str)), by simp, by simp [sl], .inr rfl, fun t m => ?_⟩
          rcases List.mem_append.mp m with m | m
          · exact sp t m
          · simp only [List.mem_singleton] at m; subst m; exact ⟨by omega, hz⟩
        · simp [forStep, fn_law_list1_b0, ep, em, m31, shareSl, es, MC.run_eq, lt, five]
          refine ⟨ss ++ [s], .sh (.lst (nms.map .str)), by simp, by simp [sl], .inr rfl, fun t m => ?_⟩
          rcases List.mem_append.mp m with m | m
          · exact sp t m
          · simp only [List.mem_singleton] at m; subst m; exact ⟨by omega, hz⟩)
    rw [rangeD_len] at sl
    refine ⟨ss, ?_, .of (by omega) (by omega) (by omega) hnm sp.2⟩
    rw [evFn_succ f rfl]
    simp only [fn_law_list1, startSl]
    simp [e1, en, e2, c', e3, rg, eρ]
theorem fit_rows_ev (w : T "_law_within" = some fn_law_within) (an : T "_law_all_names" = some fn_law_all_names) (hd : T "_law_held" = some fn_law_held) (so : T "_law_so" = some fn_law_so) (rw_ : T "_law_row" = some fn_law_row)
    (f : T "_law_fit_rows" = some fn_law_fit_rows) (n : Nat) {ss : List Sy} (L : Lst ss) : evFn T (n + 42) "_law_fit_rows" [.tup (ss.map enc)] = .ok (.lst ((fitR ss).map rowD), true) := by
  have ea := all_names_ev w an n L (d := .tup (ss.map enc)) rfl
  have nok := L.nok
  have h5 := L.nm
  have two5 := L.two5
  have eq : fitR ss = sortU ordR.toOrd ((List.range (2 ^ (namesL ss).length)).map fun k : Nat => rowF ss (heldF (k : Int) (namesL ss))) := rfl
  rw [eq]
  generalize namesL ss = nms at *
  rw [evFn_succ f rfl]
  simp only [fn_law_fit_rows, startSl]
  obtain ⟨ρ1, eρ1, x1, rfl⟩ := forFold_nx (step := forStep (CG.name 3) fn_law_fit_rows_b0 (evFn T (n + 41))) (ds := nms.map .str) (ρ := [.sh (.tup (ss.map enc)), .sh (.lst (nms.map .str)), .sh (.int 1), .no, .no])
    (fun i ρ => ∃ x, ρ = [.sh (.tup (ss.map enc)), .sh (.lst (nms.map .str)), .sh (.int (2 ^ i)), x, .no]) ⟨.no, rfl⟩ (by
      rintro i d ρ hd ⟨x, rfl⟩
      have hi : i < nms.length := by simpa using (List.getElem?_eq_some_iff.mp hd).1
      have bi : bd ((2 : Int) ^ i) 6 := by
        have : i ≤ 5 := by omega
        have h5 : (2 : Nat) ^ i ≤ 2 ^ 5 := Nat.pow_le_pow_right (by decide) this
        unfold bd
        rw [Int.natAbs_pow]
        show 2 ^ i < 2 ^ 6
        omega
      have m1 : CMulW 2 ((2 : Int) ^ i) := cmul_of (show bd 2 2 by decide) bi
      have e : (2 : Int) * 2 ^ i = 2 ^ (i + 1) := by rw [Int.pow_succ, Int.mul_comm]
      simp [forStep, fn_law_fit_rows_b0, m1, e])
  rw [List.length_map] at eρ1
  have pw : ((2 : Int) ^ nms.length) = ((2 ^ nms.length : Nat) : Int) := by simp
  rw [pw] at eρ1
  have hM1 : 1 ≤ 2 ^ nms.length := Nat.pow_pos (by decide)
  generalize 2 ^ nms.length = M at *
  have rg := rg1_of (show (0 : Int) ≤ (M : Int) by omega) (show (M : Int) < 4611686018427387904 by omega)
  rw [Int.toNat_natCast] at rg
  have body := lcFold_map (f := lcBody (CG.name 4) CIf.no fn_law_fit_rows_e0 (evFn T (n + 41)) [.sh (.tup (ss.map enc)), .sh (.lst (nms.map .str)), .sh (.int M), x1, .no]) (fun k : Nat => D.int (0 + (k : Int))) (fun k : Nat => rowD (rowF ss (heldF (k : Int) nms))) (as := List.range M) fun k hk => by
    have eh := held_evD (T := T) hd (n + 40) (k : Int) (nms := nms) (d := .lst (nms.map .str)) rfl (by omega)
    have er := row_ev so rw_ n L (heldF_lets nok (k := (k : Int)))
    simp [lcBody, fn_law_fit_rows_e0, noEx, eh, er]
  have rd : rangeD 0 M = (List.range M).map fun k : Nat => D.int (0 + (k : Int)) := rfl
  rw [← rd] at body
  have szM := small_len (show M ≤ 1000000 by omega)
  have sr := sset_rows (rs := (List.range M).map fun k : Nat => rowF ss (heldF (k : Int) nms)) (by simp; omega) (fun r m => by
    obtain ⟨k, _, rfl⟩ := List.mem_map.mp m
    have := L.ne
    intro z
    have : (rowF ss (heldF (k : Int) nms)).length = 0 := by rw [z]; rfl
    simp [rowF] at this
    subst this
    simp at *) (by
      intro z
      have := congrArg List.length z
      simp at this
      omega)
  rw [List.map_map] at sr
  have sr' : ssetD (.lst ((List.range M).map fun k : Nat => rowD (rowF ss (heldF (k : Int) nms)))) = _ := sr
  have ol : ((List.range M).map fun k : Nat => rowD (rowF ss (heldF (k : Int) nms))).length = M := by simp
  generalize ((List.range M).map fun k : Nat => rowD (rowF ss (heldF (k : Int) nms))) = out at body sr' ol
  simp [ea, shareSl, eρ1, rg, lcRes_eq, wipeSl, body, ol, szM, sr']
theorem judges_ev (h : T "_law_cell" = some fn_law_cell) (g : T "_law_pick" = some fn_law_pick) (f : T "_law_judges" = some fn_law_judges) (hl : ns.length ≤ 4000) (n : Nat) {k m : Int} (k0 : 0 ≤ k) (k1 : k < 1000) (m0 : 0 ≤ m) (m1 : m < 1000)
    {rs : List (List Bool)} (hr : rs ≠ []) : ∃ js : List (List Bool), evFn T (n + 3) "_law_judges" [sc ns, .int k, .lst (rs.map rowD), .int m] = .ok (.tup (js.map rowD), false) ∧ js.length = m.toNat ∧ ∀ r ∈ js, r ∈ rs := by
  rw [evFn_succ f rfl]
  simp only [fn_law_judges, startSl]
  have hr0 : 0 < rs.length := List.length_pos_iff.mpr hr
  obtain ⟨js, ejs, jl, jr⟩ := lcFold_all (f := lcBody (CG.name 4) CIf.no fn_law_judges_e0 (evFn T (n + 2)) [.sh (sc ns), .sh (.int k), .sh (.lst (rs.map rowD)), .sh (.int m), .no]) (g := rowD) (R := fun _ r => r ∈ rs) (ds := rangeD 0 m.toNat) fun d hd => by
    obtain ⟨i, hi⟩ := List.mem_iff_getElem?.mp hd
    obtain ⟨hi, rfl⟩ := rangeD_get hi
    obtain ⟨r, r0, r1, er⟩ := pick_ev ns h g hl n (k := k + (i : Int)) (m := (rs.length : Int)) (by omega) (bdk (by omega) (by omega)) (by omega)
    obtain ⟨d, ed, _, hm⟩ := atI_of (xs := rs.map rowD) r0 (by simpa using r1)
    obtain ⟨row, hrow, rfl⟩ := List.mem_map.mp hm
    refine ⟨row, ?_, hrow⟩
    simp [lcBody, fn_law_judges_e0, noEx, er, ixD_lst ed]
  rw [rangeD_len] at jl
  refine ⟨js, ?_, jl, fun r hm => ?_⟩
  · have rg := rg1_of m0 (show m < 4611686018427387904 by omega)
    simp [rg, lcRes_eq, wipeSl, ejs, small_len (show js.length ≤ 1000000 by omega)]
  · obtain ⟨i, hi⟩ := List.mem_iff_getElem?.mp hm
    have hi2 : i < (rangeD 0 m.toNat).length := by
      rw [rangeD_len, ← jl]
      exact (List.getElem?_eq_some_iff.mp hi).1
    exact jr i _ r (List.getElem?_eq_getElem hi2) hi
end
end MJ

namespace MJ
open PySem PySem.Spec PyProof.Rows L2
theorem lcFold_filter {f : D → Res (Option D)} {α : Type} (e : α → D) (p : α → Bool) (g : α → D) : ∀ {as : List α}, (∀ a ∈ as, f (e a) = .ok (if p a = true then some (g a) else none)) → lcFold f (as.map e) = .ok ((as.filter p).map g)
  | [], _ => rfl
  | a :: as, h => by
    have h1 := h a (by simp)
    have h2 := lcFold_filter e p g (as := as) fun a' ha => h a' (List.mem_cons_of_mem _ ha)
    cases hp : p a <;> simp [lcFold, h1, h2, hp, List.filter_cons]
@[simp] theorem lenD_row (r : List Bool) : lenD [rowD r] = .ok (.int r.length, .sh) := by simp [rowD]
theorem ixD_row {r : List Bool} {i : Nat} (h : i < r.length) : ixD (rowD r) (.int i) = .ok (.bl (r.getD i false), .sh) := by
  have : r.getD i false = r[i] := by simp [List.getD_eq_getElem?_getD, List.getElem?_eq_getElem h]
  rw [this]
  exact ixD_tup_nat (by simp [List.getElem?_eq_getElem h])
def optD : Option Bool → D
  | none => .non
  | some b => .bl b
/-- how many say yes -/
def yesN (js : List (List Bool)) (i : Nat) : Nat := (js.filter fun r => r.getD i false).length
theorem yesN_le (js : List (List Bool)) (i : Nat) : yesN js i ≤ js.length := List.length_filter_le _ _
theorem yesN_sum (js : List (List Bool)) (i : Nat) : (js.map fun r => if r.getD i false = true then (1 : Int) else 0).sum = (yesN js i : Int) := by
  induction js with
  | nil => rfl
  | cons r js ih =>
    simp only [List.map_cons, List.sum_cons, ih, yesN, List.filter_cons]
    split <;> simp <;> omega
def outP (js : List (List Bool)) (q : Int) (i : Nat) : Option Bool := if (yesN js i : Int) ≥ q then some true else if (js.length : Int) - yesN js i ≥ q then some false else none
def judD (js : List (List Bool)) : D := .tup (js.map rowD)
@[simp] theorem lenD_jud (js : List (List Bool)) : lenD [judD js] = .ok (.int js.length, .sh) := by simp [judD]
@[simp] theorem items_jud (js : List (List Bool)) : items (judD js) = .ok (js.map rowD) := rfl
section
variable {T : Str → Option Fn} (ns : List Int)
theorem jud0 {js : List (List Bool)} {w : Nat} (hw : ∀ r ∈ js, r.length = w) (h0 : js ≠ []) : ∃ r, r.length = w ∧ ixD (judD js) (.int 0) = .ok (rowD r, .sh) := by
  cases js with
  | nil => exact absurd rfl h0
  | cons r js => exact ⟨r, hw r (by simp), ixD_tup_nat (i := 0) (by simp)⟩
theorem outcome_ev (f : T "outcome" = some fn_outcome) (n : Nat) {js : List (List Bool)} {w : Nat} (hw : ∀ r ∈ js, r.length = w) (h0 : js ≠ []) (hj : js.length ≤ 1000) (h6 : w ≤ 1000) (q : Int) :
    evFn T (n + 1) "outcome" [judD js, .int q] = .ok (.tup (((List.range w).map (outP js q)).map optD), false) := by
  rw [evFn_succ f rfl]
  simp only [fn_outcome, startSl]
  obtain ⟨r0, rw0, e0⟩ := jud0 hw h0
  have rg := rg1_of (show (0 : Int) ≤ (w : Int) by omega) (show (w : Int) < 4611686018427387904 by omega)
  rw [Int.toNat_natCast] at rg
  have szj := small_len (show js.length ≤ 1000000 by omega)
  obtain ⟨ρ, eρ, x, y, rfl⟩ := forFold_nx (step := forStep (CG.name 3) fn_outcome_b0 (evFn T n)) (ds := rangeD 0 w) (ρ := [.sh (judD js), .sh (.int q), .ow (.lst []), .no, .no, .no])
    (fun i ρ => ∃ x y, ρ = [.sh (judD js), .sh (.int q), .ow (.lst (((List.range i).map (outP js q)).map optD)), x, y, .no]) ⟨_, _, rfl⟩ (by
      rintro i d ρ hd ⟨x, y, rfl⟩
      obtain ⟨hi, rfl⟩ := rangeD_get hd
      have body := lcFold_map (f := lcBody (CG.name 5) CIf.no fn_outcome_e0 (evFn T n) [.sh (judD js), .sh (.int q), .ow (.lst (((List.range i).map (outP js q)).map optD)), .sh (.int (i : Int)), y, .no]) rowD (fun r => .int (if r.getD i false = true then 1 else 0)) (as := js) fun r hr => by
        simp [lcBody, fn_outcome_e0, noEx, ixD_row (show i < r.length by rw [hw r hr]; exact hi)]
      have hsum : sumD [.lst (js.map fun r => D.int (if r.getD i false = true then 1 else 0))] = .ok (.int (yesN js i : Int), .sh) := by
        rw [show (js.map fun r => D.int (if r.getD i false = true then 1 else 0)) = (js.map fun r => if r.getD i false = true then (1 : Int) else 0).map .int by rw [List.map_map]; rfl, sum_ints, yesN_sum]
      have ol : (js.map fun r => D.int (if r.getD i false = true then 1 else 0)).length ≤ sizeLine := by simpa using szj
      generalize (js.map fun r => D.int (if r.getD i false = true then 1 else 0)) = out at body hsum ol
      have hs : ((List.range (i + 1)).map (outP js q)).map optD = ((List.range i).map (outP js q)).map optD ++ [optD (outP js q i)] := by simp [List.range_succ]
      rw [hs]
      have lt : (((List.range i).map (outP js q)).map optD).length < sizeLine := Nat.lt_of_lt_of_le (by simp; omega) (small_len (Nat.le_refl 1000000))
      generalize ((List.range i).map (outP js q)).map optD = fd at body lt
      by_cases c1 : q ≤ (yesN js i : Int)
      · simp [forStep, fn_outcome_b0, lcRes_eq, wipeSl, body, ol, hsum, c1, MC.run_eq, lt, outP, optD]
      · by_cases c2 : q ≤ (js.length : Int) - yesN js i
        · simp [forStep, fn_outcome_b0, lcRes_eq, wipeSl, body, ol, hsum, c1, c2, MC.run_eq, lt, outP, optD]
        · simp [forStep, fn_outcome_b0, lcRes_eq, wipeSl, body, ol, hsum, c1, c2, MC.run_eq, lt, outP, optD])
  rw [rangeD_len] at eρ
  simp [e0, rw0, rg, eρ]
theorem law_outcome_ev (f : T "_law_outcome" = some fn_law_outcome) (n : Nat) {js : List (List Bool)} {w : Nat} (hw : ∀ r ∈ js, r.length = w) (h0 : js ≠ []) (hj : js.length ≤ 1000) (h6 : w ≤ 1000) {q : Int} (hq : (js.length : Int) < 2 * q) :
    evFn T (n + 1) "_law_outcome" [judD js, .int q] = .ok (.tup (((List.range w).map (outP js q)).map optD), false) := by
  rw [evFn_succ f rfl]
  simp only [fn_law_outcome, startSl]
  obtain ⟨r0, rw0, e0⟩ := jud0 hw h0
  have rg := rg1_of (show (0 : Int) ≤ (w : Int) by omega) (show (w : Int) < 4611686018427387904 by omega)
  rw [Int.toNat_natCast] at rg
  have szj := small_len (show js.length ≤ 1000000 by omega)
  obtain ⟨ρ, eρ, x, y, z, rfl⟩ := forFold_nx (step := forStep (CG.name 3) fn_law_outcome_b0 (evFn T n)) (ds := rangeD 0 w) (ρ := [.sh (judD js), .sh (.int q), .ow (.lst []), .no, .no, .no, .no])
    (fun i ρ => ∃ x y z, ρ = [.sh (judD js), .sh (.int q), .ow (.lst (((List.range i).map (outP js q)).map optD)), x, y, z, .no]) ⟨_, _, _, rfl⟩ (by
      rintro i d ρ hd ⟨x, y, z, rfl⟩
      obtain ⟨hi, rfl⟩ := rangeD_get hd
      have body := lcFold_filter (f := lcBody (CG.name 6) (CIf.one (.val (.ix .ix (.var 6) (.var 3)))) fn_law_outcome_e0 (evFn T n) [.sh (judD js), .sh (.int q), .ow (.lst (((List.range i).map (outP js q)).map optD)), .sh (.int (i : Int)), y, z, .no]) rowD (fun r => r.getD i false) rowD (as := js) fun r hr => by
        have e := ixD_row (show i < r.length by rw [hw r hr]; exact hi)
        cases hb : r.getD i false <;> rw [hb] at e <;> simp [lcBody, fn_law_outcome_e0, noEx, e]
      have ol : ((js.filter fun r => r.getD i false).map rowD).length = yesN js i := by simp [yesN]
      generalize ((js.filter fun r => r.getD i false).map rowD) = out at body ol
      have ol2 : yesN js i ≤ sizeLine := Nat.le_trans (yesN_le js i) szj
      have hs : ((List.range (i + 1)).map (outP js q)).map optD = ((List.range i).map (outP js q)).map optD ++ [optD (outP js q i)] := by simp [List.range_succ]
      rw [hs]
      have lt : (((List.range i).map (outP js q)).map optD).length < sizeLine := Nat.lt_of_lt_of_le (by simp; omega) (small_len (Nat.le_refl 1000000))
      generalize ((List.range i).map (outP js q)).map optD = fd at body lt
      by_cases c1 : q ≤ (yesN js i : Int)
      · have c2 : ¬ q ≤ (js.length : Int) - yesN js i := by omega
        simp [forStep, fn_law_outcome_b0, lcRes_eq, wipeSl, body, ol, ol2, c1, c2, MC.run_eq, lt, outP, optD]
      · by_cases c2 : q ≤ (js.length : Int) - yesN js i
        · simp [forStep, fn_law_outcome_b0, lcRes_eq, wipeSl, body, ol, ol2, c1, c2, MC.run_eq, lt, outP, optD]
        · simp [forStep, fn_law_outcome_b0, lcRes_eq, wipeSl, body, ol, ol2, c1, c2, MC.run_eq, lt, outP, optD])
  rw [rangeD_len] at eρ
  simp [e0, rw0, rg, eρ]
theorem rg3_of {j c : Int} (hj0 : 0 ≤ j) (hj : j < 1000000) (hc0 : 1 ≤ c) (hc : c < 1000000) : ∃ m : Nat, rg3 (.int 0) (.int j) (.int c) = .ok (rangeCD 0 c m) ∧ ∀ i : Nat, i < m → (i : Int) * c < j := by
  have hs : Builtin.Range.rangeSize 0 j c = if 0 < j then (j - 0 - 1) / c + 1 else 0 := by
    unfold Builtin.Range.rangeSize
    rw [if_pos (show c > 0 by omega)]
  have hb : Builtin.Range.rangeSize 0 j c ≤ 1000000 ∧ 0 ≤ Builtin.Range.rangeSize 0 j c := by
    rw [hs]
    split
    · have h1 : 0 ≤ (j - 0 - 1) / c := Int.ediv_nonneg (by omega) (by omega)
      have h2 : (j - 0 - 1) / c ≤ j - 0 - 1 := Int.ediv_le_self _ (by omega)
      omega
    · omega
  refine ⟨(Builtin.Range.rangeSize 0 j c).toNat, ?_, fun i hi => ?_⟩
  · simp only [rg3]
    rw [if_pos]
    refine ⟨by omega, by omega, ?_⟩
    have hc1 : c > 0 := by omega
    simp only [Builtin.Range.small, Builtin.Range.rangeFitsLong, if_pos hc1, Bool.and_eq_true, Bool.or_eq_true, decide_eq_true_eq, beq_iff_eq]
    omega
  · have hi' : (i : Int) < Builtin.Range.rangeSize 0 j c := by omega
    rw [hs] at hi'
    split at hi'
    · have h1 : (i : Int) ≤ (j - 0 - 1) / c := by omega
      have h2 := (Int.le_ediv_iff_mul_le (show 0 < c by omega)).mp h1
      omega
    · omega
theorem rangeCD_get {lo c : Int} {n i : Nat} {d : D} (h : (rangeCD lo c n)[i]? = some d) : i < n ∧ d = .int (lo + (i : Nat) * c) := by
  have hi : i < n := by simpa [rangeCD] using (List.getElem?_eq_some_iff.mp h).1
  simp only [rangeCD, List.getElem?_map, List.getElem?_range hi, Option.map_some, Option.some.injEq] at h
  exact ⟨hi, h.symm⟩
theorem rg2_of {i j : Int} (hi0 : 0 ≤ i) (hi : i < 1000000) (hj0 : 0 ≤ j) (hj : j < 1000000) : rg2 (.int i) (.int j) = .ok (rangeD i (j - i).toNat) := by
  simp only [rg2]
  rw [if_pos ⟨small62_of (by omega) (by omega), small62_of (by omega) (by omega)⟩]
theorem groups_ev (h : T "_law_cell" = some fn_law_cell) (g : T "_law_pick" = some fn_law_pick) (f : T "_law_groups" = some fn_law_groups) (hl : ns.length ≤ 4000) (n : Nat) {rs : List (List Bool)} (hr : rs ≠ []) :
    ∃ gs : List (List (List Bool)), evFn T (n + 3) "_law_groups" [sc ns, .lst (rs.map rowD)] = .ok (.lst (gs.map judD), true) ∧ (∀ js ∈ gs, js ≠ [] ∧ js.length ≤ 21 ∧ ∀ r ∈ js, r ∈ rs) ∧ gs.length ≤ 1000 := by
  obtain ⟨q, q0, q1, eq⟩ := pick_ev ns h g hl n (k := 9) (m := 21) (by decide) (by decide) (by decide)
  have hr0 : 0 < rs.length := List.length_pos_iff.mpr hr
  obtain ⟨c, hc, c9, c63⟩ : ∃ c : Int, (if (if (ns.length : Int) < 63 then (ns.length : Int) else 63) > 9 then (if (ns.length : Int) < 63 then (ns.length : Int) else 63) else 9) = c ∧ 9 ≤ c ∧ c ≤ 63 := ⟨_, rfl, by split <;> split <;> omega, by split <;> split <;> omega⟩
  obtain ⟨M, rg, hM⟩ := rg3_of (j := c) (c := 1 + q) (by omega) (by omega) (by omega) (by omega)
  obtain ⟨ρ, eρ, gs, x, y, rfl, gp⟩ := forFold_nx (step := forStep (CG.name 5) fn_law_groups_b0 (evFn T (n + 2))) (ds := rangeCD 0 (1 + q) M) (ρ := [.sh (sc ns), .sh (.lst (rs.map rowD)), .ow (.lst []), .sh (.int c), .sh (.int (1 + q)), .no, .no, .no])
    (fun i ρ => ∃ (gs : List (List (List Bool))) (x y : Sl), ρ = [.sh (sc ns), .sh (.lst (rs.map rowD)), .ow (.lst (gs.map judD)), .sh (.int c), .sh (.int (1 + q)), x, y, .no] ∧ gs.length = i ∧ ∀ js ∈ gs, js ≠ [] ∧ js.length ≤ 21 ∧ ∀ r ∈ js, r ∈ rs)
    ⟨[], _, _, rfl, rfl, fun _ m => by cases m⟩ (by
      rintro i d ρ hd ⟨gs, x, y, rfl, gl, gp⟩
      obtain ⟨hi, rfl⟩ := rangeCD_get hd
      have hs := hM i hi
      have hs0 : 0 ≤ (i : Int) * (1 + q) := Int.mul_nonneg (by omega) (by omega)
      have il : (i : Int) ≤ (i : Int) * (1 + q) := by
        have := Int.mul_le_mul_of_nonneg_left (show (1 : Int) ≤ 1 + q by omega) (show (0 : Int) ≤ (i : Int) by omega)
        omega
      rw [Int.zero_add] at *
      generalize (i : Int) * (1 + q) = st at *
      obtain ⟨e, he, e1, e2, e3⟩ : ∃ e : Int, (if c < st + (1 + q) then c else st + (1 + q)) = e ∧ st < e ∧ e ≤ c ∧ e ≤ st + 21 := ⟨_, rfl, by split <;> omega, by split <;> omega, by split <;> omega⟩
      obtain ⟨js, ejs, jl, jr⟩ := lcFold_all (f := lcBody (CG.name 7) CIf.no fn_law_groups_e0 (evFn T (n + 2)) [.sh (sc ns), .sh (.lst (rs.map rowD)), .ow (.lst (gs.map judD)), .sh (.int c), .sh (.int (1 + q)), .sh (.int st), y, .no]) (g := rowD) (R := fun _ r => r ∈ rs) (ds := rangeD st (e - st).toNat) fun d hd => by
        obtain ⟨k, hk⟩ := List.mem_iff_getElem?.mp hd
        obtain ⟨hk, rfl⟩ := rangeD_get hk
        obtain ⟨v, ev⟩ := cell_ev ns h hl (n + 1) (k := st + (k : Int)) (by omega) (bdk (by omega) (by omega))
        obtain ⟨d, ed, _, hm⟩ := atI_of (xs := rs.map rowD) (i := v % (rs.length : Int)) (Int.emod_nonneg _ (by omega)) (by simpa using Int.emod_lt_of_pos v (show (0 : Int) < (rs.length : Int) by omega))
        obtain ⟨row, hrow, rfl⟩ := List.mem_map.mp hm
        refine ⟨row, ?_, hrow⟩
        simp [lcBody, fn_law_groups_e0, noEx, ev, hr0, ixD_lst ed]
      rw [rangeD_len] at jl
      have rg' := rg2_of (i := st) (j := e) hs0 (by omega) (by omega) (by omega)
      have lt : gs.length < sizeLine := Nat.lt_of_lt_of_le (by omega) (small_len (Nat.le_refl 1000000))
      simp [forStep, fn_law_groups_b0, he, rg', lcRes_eq, wipeSl, ejs, small_len (show js.length ≤ 1000000 by omega), MC.run_eq, lt]
      refine ⟨gs ++ [js], by simp [judD], by simp [gl], fun t m => ?_⟩
      rcases List.mem_append.mp m with m | m
      · exact gp t m
      · simp only [List.mem_singleton] at m
        subst m
        refine ⟨fun z => by subst z; simp at jl; omega, by omega, fun r hm => ?_⟩
        obtain ⟨i, hi⟩ := List.mem_iff_getElem?.mp hm
        have hi2 : i < (rangeD st (e - st).toNat).length := by
          rw [rangeD_len, ← jl]
          exact (List.getElem?_eq_some_iff.mp hi).1
        exact jr i _ r (List.getElem?_eq_getElem hi2) hi)
  have hlen : (rangeCD 0 (1 + q) M).length = M := by simp [rangeCD]
  rw [hlen] at gp
  refine ⟨gs, ?_, gp.2, ?_⟩
  rotate_left
  · rw [gp.1]
    apply Classical.byContradiction
    intro z
    have := hM (M - 1) (by omega)
    have h2 : ((M - 1 : Nat) : Int) ≤ ((M - 1 : Nat) : Int) * (1 + q) := by
      have := Int.mul_le_mul_of_nonneg_left (show (1 : Int) ≤ 1 + q by omega) (show (0 : Int) ≤ ((M - 1 : Nat) : Int) by omega)
      omega
    omega
  rw [evFn_succ f rfl]
  simp only [fn_law_groups, startSl]
  have lsc : lenD [sc ns] = .ok (.int ns.length, .sh) := by simp [sc]
  simp [lsc, hc, eq, rg, eρ]
end
end MJ

namespace MJ
open PySem PySem.Spec PyProof.Rows L2
/-- a call that leaves the last argument to its default None -/
def CE.call1 (f : Str) (es : CEs) : CE where
  ev := fun call ρ => (es.ev false call ρ).bind fun ds => toE (call f (ds ++ [.non]))
  chk := fun cf x => match x with
    | .Call (.Name y _) (a :: r) [] _ => decide (y = f) && glob cf f && es.chk cf (a :: r) && !(f == ("__debug__" : Str)) && decide (f ∈ cf.d1)
    | _ => false
  star := fun cf x h => by cases x <;> first | rfl | cases h
  ok := fun {X W cf call} g x h => by
    split at h
    · simp only [Bool.and_eq_true, decide_eq_true_eq, Bool.not_eq_true'] at h
      obtain ⟨⟨⟨⟨rfl, h1⟩, h2⟩, h3⟩, h4⟩ := h
      rename_i y _ a r pos
      have hst := es.star cf (a :: r) h2
      rw [List.all_cons, Bool.and_eq_true] at hst
      obtain ⟨t, pa, qa⟩ := es.ok g false _ h2
      obtain ⟨k, ad, fd, ps, us, F, hr, hm, hk, hd, hb⟩ := g.call1 y h4
      refine ⟨_, pe_callSD F hr (g.gl h1) hm hk hb hd (fun σ => passAt g.tk σ) pa h3 (starEach_cons hst.1) (no_star hst.2), fun Hs0 H0 Hs H ρ σ Q ok h => ?_⟩
      refine seqA (g := fun ds => toE (call y (ds ++ [.non]))) qa ok h fun ds vs Hs' H' e p h' => ?_
      refine ⟨Hs', ds ++ [.non], e.i, Rps.append p.sh (.cons (by simp [Rp]) .nil), ?_⟩
      cases ec : call y (ds ++ [.non]) with
      | bad => rw [ec] at h'; exact h'
      | ex c es => rw [ec] at h'; exact h'
      | ok q => rw [ec] at h'; exact h'
    · cases h
@[simp] theorem CE.call1_ev {call : Calls} {ρ : List Sl} (f : Str) (es : CEs) : (CE.call1 f es).ev call ρ = (es.ev false call ρ).bind fun ds => toE (call f (ds ++ [.non])) := rfl
end MJ

namespace MJ
open PySem PySem.Spec PyProof.Rows L2
def fn_names_of_b0 : CS := (.cons (.put .dict 1 (.var 3) (CE.bl true)) .nil)
def fn_names_of_b1 : CS := (.cons (.for_ (.name 3) (.seq (.call "names_in" (.cons (.var 2) .nil))) fn_names_of_b0) .nil)
def fn_names_of : Fn where
  ps := ["sayings"]
  N := ["sayings", "found", "saying", "name"]
  body := (.cons (.set 1 .dic0) (.cons (.for_ (.name 2) (.seq (.var 0)) fn_names_of_b1) (.cons (.ret (.blt .tupleN (.cons (.blt .sorted (.cons (.var 1) .nil)) .nil))) .nil)))
def fn_bits_of_b0 : CS := (.cons (.set 4 (.call "table" (.cons (.var 3) (.cons (.var 1) .nil)))) (.cons (.meth .append 2 (.cons (.tup (.cons (.op _ .xor (.call "all_bits" (.cons (.var 1) .nil)) (.var 4)) (.cons (.var 4) .nil))) .nil)) .nil))
def fn_bits_of : Fn where
  ps := ["sayings"]
  N := ["sayings", "names", "found", "saying", "yes"]
  body := (.cons (.set 1 (.call "names_of" (.cons (.var 0) .nil))) (.cons (.set 2 (.lst .nil)) (.cons (.for_ (.name 3) (.seq (.var 0)) fn_bits_of_b0) (.cons (.retv 2) .nil))))
def fn_bits_for_b0 : CS := (.cons (.set 2 (.op _ .and_ (.var 2) (.ix .ix (.ix .ix (.var 3) (.var 4)) (.blt .int (.cons (.var 5) .nil))))) .nil)
def fn_bits_for : Fn where
  ps := ["sayings", "part"]
  N := ["sayings", "part", "found", "pairs", "number", "truth"]
  body := (.cons (.set 2 (.call "all_bits" (.cons (.call "names_of" (.cons (.var 0) .nil)) .nil))) (.cons (.set 3 (.call "bits_of" (.cons (.var 0) .nil))) (.cons (.for_ (.tup (.cons 4 (.cons 5 .nil))) (.seq (.var 1)) fn_bits_for_b0) (.cons (.retv 2) .nil))))
def fn_first_bit_b0 : CS := (.cons (.augI 1 (CE.int 1)) .nil)
def fn_first_bit : Fn where
  ps := ["bits"]
  N := ["bits", "number"]
  body := (.cons (.set 1 (CE.int 0)) (.cons (.while_ (.cmp _ .eq (.op _ .and_ (.op _ .shr (.var 0) (.var 1)) (CE.int 1)) (CE.int 0)) fn_first_bit_b0) (.cons (.retv 1) .nil)))
def fn_fits : Fn where
  ps := ["sayings", "part"]
  N := ["sayings", "part", "bits"]
  body := (.cons (.set 2 (.call "bits_for" (.cons (.var 0) (.cons (.var 1) .nil)))) (.cons (.ite (.cmp _ .eq (.var 2) (CE.int 0)) (.cons (.ret CE.non) .nil) .nil) (.cons (.ret (.call "held_by" (.cons (.call "first_bit" (.cons (.var 2) .nil)) (.cons (.call "names_of" (.cons (.var 0) .nil)) .nil)))) .nil)))
def fn_law_so2_e0 : CE := (.call "_law_so" (.cons (.var 3) (.cons (.var 1) .nil)))
def fn_law_so2 : Fn where
  ps := ["_law_saying_here", "_law_held_here"]
  N := ["_law_saying_here", "_law_held_here", "_law_truths", "_law_part_here"]
  body := (.cons (.ite (.cmp _ .eq (.ix .ix (.var 0) (CE.int 0)) (CE.str "letter")) (.cons (.ret (.cmp _ .in_ (.ix .ix (.var 0) (CE.int 1)) (.var 1))) .nil) .nil) (.cons (.setLc 2 [("_law_part_here", 3)] (.name 3) (.seq (.slc (.var 0) (.at (CE.int 1)) .no)) .no fn_law_so2_e0) (.cons (.ite (.cmp _ .eq (.ix .ix (.var 0) (CE.int 0)) (CE.str "not")) (.cons (.ret (.not (.ix .ix (.var 2) (CE.int 0)))) .nil) .nil) (.cons (.ite (.cmp _ .eq (.ix .ix (.var 0) (CE.int 0)) (CE.str "and")) (.cons (.ret (.blt .min (.cons (.var 2) .nil))) .nil) .nil) (.cons (.ite (.cmp _ .eq (.ix .ix (.var 0) (CE.int 0)) (CE.str "or")) (.cons (.ret (.blt .max (.cons (.var 2) .nil))) .nil) .nil) (.cons (.ret (.cmp _ .leA (.ix .ix (.var 2) (CE.int 0)) (.ix .ix (.var 2) (CE.int 1)))) .nil))))))
def fn_law_within1_b0 : CS := (.cons (.set 1 (.op _ .add (.var 1) (.call "_law_within" (.cons (.var 2) .nil)))) .nil)
def fn_law_within1 : Fn where
  ps := ["_law_saying_here"]
  N := ["_law_saying_here", "_law_found", "_law_part_here"]
  body := (.cons (.ite (.cmp _ .eq (.ix .ix (.var 0) (CE.int 0)) (CE.str "letter")) (.cons (.ret (.lst (.cons (.ix .ix (.var 0) (CE.int 1)) .nil))) .nil) .nil) (.cons (.set 1 (.lst .nil)) (.cons (.for_ (.name 2) (.seq (.slc (.var 0) (.at (CE.int 1)) .no)) fn_law_within1_b0) (.cons (.retv 1) .nil))))
def fn_law_knit1_b0 : CS := (.cons (.set 5 (.tup (.cons (.var 2) (.cons (.var 5) (.cons (.var 6) .nil))))) .nil)
def fn_law_knit1_b1 : CS := (.cons (.ite (.not (.val (.ix .ix (.var 1) (.var 4)))) (.cons (.put .list 3 (.var 4) (.tup (.cons (CE.str "not") (.cons (.ix .ix (.var 3) (.var 4)) .nil)))) .nil) .nil) .nil)
def fn_law_knit1_e0 : CE := (.tup (.cons (CE.str "letter") (.cons (.var 7) .nil)))
def fn_law_knit1 : Fn where
  ps := ["_law_names_here", "_law_truths", "_law_word"]
  N := ["_law_names_here", "_law_truths", "_law_word", "_law_parts", "_law_k", "_law_saying_here", "_law_part_here", "_law_name"]
  body := (.cons (.setLc 3 [("_law_name", 7)] (.name 7) (.seq (.var 0)) .no fn_law_knit1_e0) (.cons (.for_ (.name 4) (.range1 (.blt .len (.cons (.var 3) .nil))) fn_law_knit1_b1) (.cons (.set 5 (.ix .ix (.var 3) (CE.int 0))) (.cons (.for_ (.name 6) (.seq (.slc (.var 3) (.at (CE.int 1)) .no)) fn_law_knit1_b0) (.cons (.retv 5) .nil)))))
def fn_law_part_b0 : CS := (.cons (.set 8 (.cmp _ .eq (.op _ .mod (.var 3) (CE.int 3)) (CE.int 2))) (.cons (.ite (.val (.var 5)) (.cons (.set 8 (.ix .ix (.var 4) (.var 7))) .nil) .nil) (.cons (.ite (.cmp _ .gt (.op _ .mod (.var 3) (CE.int 3)) (CE.int 0)) (.cons (.meth .append 6 (.cons (.tup (.cons (.var 7) (.cons (.var 8) .nil))) .nil)) .nil) .nil) (.cons (.set 3 (.op _ .fdiv (.var 3) (CE.int 3))) .nil))))
def fn_law_part : Fn where
  ps := ["_law_script", "_law_k", "_law_rows"]
  N := ["_law_script", "_law_k", "_law_rows", "_law_number", "_law_row_here", "_law_own", "_law_pairs", "_law_j", "_law_truth"]
  body := (.cons (.set 3 (.op _ .mod (.call "_law_cell" (.cons (.var 0) (.cons (.var 1) .nil))) (CE.int 729))) (.cons (.set 4 (.ix .ix (.var 2) (.call "_law_pick" (.cons (.var 0) (.cons (.op _ .add (.var 1) (CE.int 7)) (.cons (.blt .len (.cons (.var 2) .nil)) .nil)))))) (.cons (.set 5 (.cmp _ .eq (.call "_law_pick" (.cons (.var 0) (.cons (.op _ .add (.var 1) (CE.int 3)) (.cons (CE.int 2) .nil)))) (CE.int 0))) (.cons (.set 6 (.lst .nil)) (.cons (.for_ (.name 7) (.range1 (.blt .len (.cons (.var 4) .nil))) fn_law_part_b0) (.cons (.ret (.blt .tuple (.cons (.var 6) .nil))) .nil))))))
def fn_law_agrees_e0 : CE := (.var 2)
def fn_law_agrees : Fn where
  ps := ["_law_row_here", "_law_part_here"]
  N := ["_law_row_here", "_law_part_here", "_law_number", "_law_truth"]
  body := (.cons (.ret (.cmp _ .eq (.blt .len (.cons (.lc [("_law_number", 2), ("_law_truth", 3)] (.tup (.cons 2 (.cons 3 .nil))) (.seq (.var 1)) (.one (.cmp _ .ne (.ix .ix (.var 0) (.var 2)) (.var 3))) fn_law_agrees_e0) .nil)) (CE.int 0))) .nil)
def fn_law4_e0 : CE := (.var 9)
def fn_law4_e1 : CE := (.var 8)
def fn_law4_b0 : CS := (.share 3 (.cons (.set 5 (.call "_law_part" (.cons (.var 0) (.cons (.var 4) (.cons (.var 3) .nil))))) (.cons (.set 6 (.call "fits" (.cons (.var 1) (.cons (.var 5) .nil)))) (.share 3 (.cons (.set 7 (.cmp _ .gt (.blt .len (.cons (.lc [("_law_row_here", 8)] (.name 8) (.seq (.var 3)) (.one (.val (.call "_law_agrees" (.cons (.var 8) (.cons (.var 5) .nil))))) fn_law4_e1) .nil)) (CE.int 0))) (.cons (.ite (.not (.val (.var 7))) (.cons (.ite (.cmp _ .notN (.var 6) .non) (.cons (.ret (CE.bl false)) .nil) .nil) .nil) (.cons (.ite (.bop (op := .Or) (.or (.not (.val (.isi (.var 6) "tuple" "tuple"))) (.or1 (.cmp _ .ne (.blt .list (.cons (.var 6) .nil)) (.sortedSet (.var 6)))))) (.cons (.ret (CE.bl false)) .nil) .nil) (.cons (.ite (.cmp _ .gt (.blt .len (.cons (.lc [("_law_name", 9)] (.name 9) (.seq (.var 6)) (.one (.cmp _ .notin (.var 9) (.var 2))) fn_law4_e0) .nil)) (CE.int 0)) (.cons (.ret (CE.bl false)) .nil) .nil) (.cons (.ite (.not (.val (.call "_law_agrees" (.cons (.call "_law_row" (.cons (.var 1) (.cons (.var 6) .nil))) (.cons (.var 5) .nil))))) (.cons (.ret (CE.bl false)) .nil) .nil) .nil)))) .nil))))))
def fn_law4 : Fn where
  ps := ["_law_script"]
  N := ["_law_script", "_law_sayings", "_law_names_here", "_law_rows", "_law_k", "_law_part_here", "_law_found", "_law_fit", "_law_row_here", "_law_name"]
  body := (.cons (.set 1 (.call "_law_list" (.cons (.var 0) (.cons (CE.int 0) .nil)))) (.cons (.set 2 (.call "_law_all_names" (.cons (.var 1) .nil))) (.cons (.set 3 (.call "_law_fit_rows" (.cons (.var 1) .nil))) (.cons (.for_ (.name 4) (.range1 (.blt .max (.cons (CE.int 6) (.cons (.blt .min (.cons (CE.int 40) (.cons (.blt .len (.cons (.var 0) .nil)) .nil))) .nil)))) fn_law4_b0) (.cons (.ret (CE.bl true)) .nil)))))
def fn_follows : Fn where
  ps := ["sayings", "part", "number"]
  N := ["sayings", "part", "number", "bits", "both"]
  body := (.cons (.set 3 (.call "bits_for" (.cons (.var 0) (.cons (.var 1) .nil)))) (.cons (.set 4 (.op _ .and_ (.var 3) (.ix .ix (.ix .ix (.call "bits_of" (.cons (.var 0) .nil)) (.var 2)) (CE.int 1)))) (.cons (.ite (.cmp _ .eq (.var 4) (.var 3)) (.cons (.ret (CE.bl true)) .nil) .nil) (.cons (.ite (.cmp _ .eq (.var 4) (CE.int 0)) (.cons (.ret (CE.bl false)) .nil) .nil) (.cons (.ret CE.non) .nil)))))
def fn_law_agrees1_e0 : CE := (.var 2)
def fn_law_agrees1 : Fn where
  ps := ["_law_row_here", "_law_part"]
  N := ["_law_row_here", "_law_part", "_law_number", "_law_truth"]
  body := (.cons (.ret (.cmp _ .eq (.blt .len (.cons (.lc [("_law_number", 2), ("_law_truth", 3)] (.tup (.cons 2 (.cons 3 .nil))) (.seq (.var 1)) (.one (.cmp _ .ne (.ix .ix (.var 0) (.var 2)) (.var 3))) fn_law_agrees1_e0) .nil)) (CE.int 0))) .nil)
def fn_law5_e0 : CE := (.ix .ix (.var 12) (.var 7))
def fn_law5_b0 : CS := (.share 8 (.cons (.setLc 9 [("_law_one", 12)] (.name 12) (.seq (.var 8)) .no fn_law5_e0) (.cons (.set 10 CE.non) (.cons (.ite (.cmp _ .eq (.blt .min (.cons (.var 9) .nil)) (.blt .max (.cons (.var 9) .nil))) (.cons (.set 10 (.ix .ix (.var 9) (CE.int 0))) .nil) .nil) (.cons (.set 11 (.call "follows" (.cons (.var 1) (.cons (.blt .tuple (.cons (.var 6) .nil)) (.cons (.var 7) .nil))))) (.cons (.ite (.bop (op := .And) (.and (.cmp _ .isN (.var 10) .non) (.and1 (.cmp _ .notN (.var 11) .non)))) (.cons (.ret (CE.bl false)) .nil) .nil) (.cons (.ite (.bop (op := .And) (.and (.cmp _ .notN (.var 10) .non) (.and1 (.bop (op := .Or) (.or (.not (.val (.isi (.var 11) "bool" "bool"))) (.or1 (.cmp _ .ne (.var 11) (.var 10)))))))) (.cons (.ret (CE.bl false)) .nil) .nil) .nil)))))))
def fn_law5_e1 : CE := (.var 12)
def fn_law5_b1 : CS := (.cons (.ite (.cmp _ .eq (.op _ .mod (.var 4) (CE.int 2)) (CE.int 1)) (.cons (.meth .append 6 (.cons (.tup (.cons (.var 7) (.cons (.ix .ix (.var 5) (.var 7)) .nil))) .nil)) .nil) .nil) (.cons (.set 4 (.op _ .fdiv (.var 4) (CE.int 2))) .nil))
def fn_law5_b2 : CS := (.cons (.set 4 (.op _ .mod (.call "_law_cell" (.cons (.var 0) (.cons (.var 3) .nil))) (CE.int 64))) (.cons (.set 5 (.ix .ix (.var 2) (.call "_law_pick" (.cons (.var 0) (.cons (.op _ .add (.var 3) (CE.int 7)) (.cons (.blt .len (.cons (.var 2) .nil)) .nil)))))) (.cons (.set 6 (.lst .nil)) (.cons (.for_ (.name 7) (.range1 (.blt .len (.cons (.var 5) .nil))) fn_law5_b1) (.share 6 (.share 2 (.cons (.setLc 8 [("_law_one", 12)] (.name 12) (.seq (.var 2)) (.one (.val (.call "_law_agrees" (.cons (.var 12) (.cons (.var 6) .nil))))) fn_law5_e1) (.cons (.for_ (.name 7) (.range1 (.blt .len (.cons (.var 1) .nil))) fn_law5_b0) .nil))))))))
def fn_law5 : Fn where
  ps := ["_law_script"]
  N := ["_law_script", "_law_sayings", "_law_rows", "_law_k", "_law_number", "_law_row_here", "_law_part", "_law_j", "_law_left", "_law_truths", "_law_due", "_law_found", "_law_one"]
  body := (.cons (.set 1 (.call "_law_list" (.cons (.var 0) (.cons (CE.int 0) .nil)))) (.cons (.set 2 (.call "_law_fit_rows" (.cons (.var 1) .nil))) (.cons (.for_ (.name 3) (.range1 (.blt .max (.cons (CE.int 6) (.cons (.blt .min (.cons (CE.int 24) (.cons (.blt .len (.cons (.var 0) .nil)) .nil))) .nil)))) fn_law5_b2) (.cons (.ret (CE.bl true)) .nil))))
end MJ

namespace MJ
open PySem PySem.Spec PyProof.Rows L2
theorem nx_gen {r : Option Fl} {P : List Sl → Prop} (h : ∀ Q : List Sl → Prop, (∀ ρ, P ρ → Q ρ) → Nx r Q) : Nx r P := h P fun _ p => p
theorem take_mem {α : Type} {l : List α} {i : Nat} {x y : α} (h : l[i]? = some x) : y ∈ l.take (i + 1) ↔ y ∈ l.take i ∨ y = x := by
  rw [List.take_succ, h]
  simp
/-- the row of the held letters of a number -/
def rowK (ss : List Sy) (k : Nat) : List Bool := rowF ss (heldF (k : Int) (namesL ss))
def agree (row : List Bool) (ps : List (Nat × Bool)) : Bool := ps.all fun p => row.getD p.1 false == p.2
def prD (p : Nat × Bool) : D := .tup [.int p.1, .bl p.2]
def many (ss : List Sy) : Nat := 2 ^ (namesL ss).length
theorem fitR_mem' {ss : List Sy} {r : List Bool} : r ∈ fitR ss ↔ ∃ k : Nat, k < many ss ∧ rowK ss k = r := fitR_mem
theorem rowK_len (ss : List Sy) (k : Nat) : (rowK ss k).length = ss.length := by simp [rowK, rowF]
theorem rowK_get {ss : List Sy} {i : Nat} {s : Sy} (h : ss[i]? = some s) (k : Nat) : (rowK ss k).getD i false = s.so (heldF (k : Int) (namesL ss)) := by
  simp [rowK, rowF, List.getD_eq_getElem?_getD, h]
/-- the bits of one truth of a saying -/
def tabB (ss : List Sy) (i : Nat) (b : Bool) : Nat := bitsN (many ss) fun k => (rowK ss k).getD i false == b
def bitP (ss : List Sy) (ps : List (Nat × Bool)) : Nat := bitsN (many ss) fun k => agree (rowK ss k) ps
def pairD (ss : List Sy) (i : Nat) : D := .tup [.int (tabB ss i false), .int (tabB ss i true)]
theorem tabB_true {ss : List Sy} {i : Nat} {s : Sy} (h : ss[i]? = some s) : tabB ss i true = tabN (namesL ss) s := bitsN_congr fun k _ => by
  rw [rowK_get h]; simp
theorem tabB_false {ss : List Sy} {i : Nat} {s : Sy} (h : ss[i]? = some s) : tabB ss i false = (2 ^ many ss - 1) ^^^ tabN (namesL ss) s := by
  unfold tabN many
  rw [bitsN_xor]
  exact bitsN_congr fun k _ => by rw [rowK_get h]; simp
theorem bitP_snoc (ss : List Sy) (ps : List (Nat × Bool)) (p : Nat × Bool) : bitP ss (ps ++ [p]) = bitP ss ps &&& tabB ss p.1 p.2 := by
  unfold bitP tabB
  rw [bitsN_and]
  exact bitsN_congr fun k _ => by simp [agree]
theorem bitP_nil (ss : List Sy) : bitP ss [] = 2 ^ many ss - 1 := by
  unfold bitP
  rw [← bitsN_all]
  exact bitsN_congr fun k _ => rfl
theorem bitsN_zero {n : Nat} {P : Nat → Bool} : bitsN n P = 0 ↔ ∀ k, k < n → P k = false := by
  constructor
  · intro h k hk
    have := bitsN_bit P k n
    rw [h] at this
    simpa [hk] using this.symm
  · intro h
    refine bits_ext fun k => ?_
    rw [bitsN_bit]
    by_cases c : k < n
    · simp [c, h k c]
    · simp [c]
theorem bitsN_eq {n : Nat} {P Q : Nat → Bool} : bitsN n P = bitsN n Q ↔ ∀ k, k < n → P k = Q k := by
  constructor
  · intro h k hk
    have h1 := bitsN_bit P k n
    have h2 := bitsN_bit Q k n
    rw [h, h2] at h1
    simpa [hk] using h1.symm
  · exact bitsN_congr
def PartOk (ss : List Sy) (ps : List (Nat × Bool)) : Prop := ∀ p ∈ ps, p.1 < ss.length
section
variable {T : Str → Option Fn}
theorem names_of_ev (li : T "letters_in" = some fn_letters_in) (ni : T "names_in" = some fn_names_in) (f : T "names_of" = some fn_names_of) (n : Nat) {ss : List Sy} (L : Lst ss) : evFn T (n + 42) "names_of" [.tup (ss.map enc)] = .ok (.nms (namesL ss), false) := by
  rw [evFn_succ f rfl]
  simp only [fn_names_of, startSl]
  have hbound : ∀ us : List Str, us.Nodup → (∀ z ∈ us, z ∈ namesL ss) → us.length ≤ 5 := fun us n m => Nat.le_trans (nodup_le n m) L.nm
  obtain ⟨ρ, eρ, us, x, y, rfl, hn, hm⟩ := forFold_nx (step := forStep (CG.name 2) fn_names_of_b1 (evFn T (n + 41))) (ds := ss.map enc) (ρ := [.sh (.tup (ss.map enc)), .ow (.dic [] []), .no, .no])
    (fun i ρ => ∃ (us : List Str) (x y : Sl), ρ = [.sh (.tup (ss.map enc)), .ow (.dic (us.map .str) (us.map fun _ => .bl true)), x, y] ∧ us.Nodup ∧ ∀ z, z ∈ us ↔ ∃ s ∈ ss.take i, z ∈ s.lets)
    ⟨[], _, _, rfl, List.nodup_nil, fun z => by simp⟩ (by
      rintro i d ρ hd ⟨us, x, y, rfl, hn, hm⟩
      rw [List.getElem?_map, Option.map_eq_some_iff] at hd
      obtain ⟨s, hs, rfl⟩ := hd
      have hsm := List.mem_of_getElem? hs
      have en := names_in_ev li ni (n + 40) s (by have := L.dp hsm; omega) (by have := L.pc s hsm; omega)
      have hmz : ∀ z ∈ us, z ∈ namesL ss := fun z m => by
        obtain ⟨t, ht, m⟩ := (hm z).mp m
        exact Lst.inn (List.mem_of_mem_take ht) z m
      obtain ⟨ρ2, eρ2, us2, y2, rfl, hn2, hm2⟩ := forFold_nx (step := forStep (CG.name 3) fn_names_of_b0 (evFn T (n + 41))) (ds := (namesS s.lets).map .str) (ρ := [.sh (.tup (ss.map enc)), .ow (.dic (us.map .str) (us.map fun _ => .bl true)), .sh (enc s), y])
        (fun j ρ => ∃ (us2 : List Str) (y : Sl), ρ = [.sh (.tup (ss.map enc)), .ow (.dic (us2.map .str) (us2.map fun _ => .bl true)), .sh (enc s), y] ∧ us2.Nodup ∧ ∀ z, z ∈ us2 ↔ z ∈ us ∨ z ∈ (namesS s.lets).take j)
        ⟨us, _, rfl, hn, fun z => by simp⟩ (by
          rintro j d ρ hd ⟨us2, y, rfl, hn2, hm2⟩
          rw [List.getElem?_map, Option.map_eq_some_iff] at hd
          obtain ⟨z, hz, rfl⟩ := hd
          have lb : us2.length ≤ 5 := hbound us2 hn2 fun z m => by
            rcases (hm2 z).mp m with m | m
            · exact hmz z m
            · exact Lst.inn hsm z ((sortU_mem _).mp (List.mem_of_mem_take m))
          have lt : us2.length < sizeLine := Nat.lt_of_lt_of_le (by omega) (small_len (Nat.le_refl 1000000))
          simp [forStep, fn_names_of_b0, lt, putD_true]
          refine ⟨addU us2 z, ⟨rfl, rfl⟩, addU_nd hn2, fun w => ?_⟩
          rw [addU_mem, hm2 w, take_mem hz, or_assoc])
      rw [List.length_map, List.take_length] at hm2
      simp [forStep, fn_names_of_b1, en, eρ2]
      refine ⟨us2, ⟨rfl, rfl⟩, hn2, fun z => ?_⟩
      rw [hm2 z, hm z]
      have e : z ∈ namesS s.lets ↔ z ∈ s.lets := sortU_mem _
      rw [e]
      constructor
      · rintro (⟨t, ht, m⟩ | m)
        · exact ⟨t, (take_mem hs).mpr (.inl ht), m⟩
        · exact ⟨s, (take_mem hs).mpr (.inr rfl), m⟩
      · rintro ⟨t, ht, m⟩
        rcases (take_mem hs).mp ht with ht | rfl
        · exact .inl ⟨t, ht, m⟩
        · exact .inr m)
  rw [List.length_map, List.take_length] at hm
  have lb : us.length ≤ 5 := hbound us hn fun z m => mem_namesL.mpr ((hm z).mp m)
  have sd := sorted_dic hn (by omega) (us.map fun _ => .bl true)
  have e : namesS us = namesL ss := by
    refine sortU_same ordS fun z => ?_
    rw [hm z, mem_letsL]
  rw [e] at sd
  simp [eρ, sd, tupleN_strs]
theorem tab_lt (ss : List Sy) (i : Nat) (b : Bool) : tabB ss i b < 2 ^ many ss := bitsN_lt _ _
theorem bits_of_ev (li : T "letters_in" = some fn_letters_in) (ni : T "names_in" = some fn_names_in) (no : T "names_of" = some fn_names_of) (f1 : T "all_bits" = some fn_all_bits) (f2 : T "letter_bits" = some fn_letter_bits) (f3 : T "table" = some fn_table)
    (f : T "bits_of" = some fn_bits_of) (n : Nat) {ss : List Sy} (L : Lst ss) : evFn T (n + 43) "bits_of" [.tup (ss.map enc)] = .ok (.lst ((List.range ss.length).map (pairD ss)), true) := by
  have en := names_of_ev li ni no n L
  have ab := all_bits_ev (T := T) f1 (n + 41) (nms := namesL ss) (by have := L.nm; omega)
  have s6 := L.le
  have two : 2 ≤ sizeLine := by decide
  rw [evFn_succ f rfl]
  simp only [fn_bits_of, startSl]
  obtain ⟨ρ, eρ, x, y, rfl⟩ := forFold_nx (step := forStep (CG.name 3) fn_bits_of_b0 (evFn T (n + 42))) (ds := ss.map enc) (ρ := [.sh (.tup (ss.map enc)), .sh (.nms (namesL ss)), .ow (.lst []), .no, .no])
    (fun i ρ => ∃ x y, ρ = [.sh (.tup (ss.map enc)), .sh (.nms (namesL ss)), .ow (.lst ((List.range i).map (pairD ss))), x, y]) ⟨_, _, rfl⟩ (by
      rintro i d ρ hd ⟨x, y, rfl⟩
      rw [List.getElem?_map, Option.map_eq_some_iff] at hd
      obtain ⟨s, hs, rfl⟩ := hd
      have hsm := List.mem_of_getElem? hs
      have hi : i < ss.length := (List.getElem?_eq_some_iff.mp hs).1
      have tb := table_ev (T := T) f1 f2 f3 (namesS_nd _) L.nm (n + 42) s (by have := L.dp hsm; omega) (Lst.inn hsm)
      have e1 := tabB_true hs
      have e2 := tabB_false hs
      have hs2 : (List.range (i + 1)).map (pairD ss) = (List.range i).map (pairD ss) ++ [pairD ss i] := by simp [List.range_succ]
      rw [hs2]
      have lt : ((List.range i).map (pairD ss)).length < sizeLine := Nat.lt_of_lt_of_le (by simp; omega) (small_len (Nat.le_refl 1000000))
      generalize (List.range i).map (pairD ss) = fd at lt
      unfold pairD
      rw [e1, e2]
      have tb : evFn T (n + 42) "table" [enc s, .nms (namesL ss)] = .ok (.int (tabN (namesL ss) s : Nat), false) := tb
      have ab : evFn T (n + 42) "all_bits" [.nms (namesL ss)] = .ok (.int ((2 ^ many ss - 1 : Nat) : Int), false) := ab
      generalize tabN (namesL ss) s = t at *
      generalize 2 ^ many ss - 1 = a at *
      simp [forStep, fn_bits_of_b0, tb, ab, xor_nat, MC.run_eq, lt, two])
  rw [List.length_map] at eρ
  simp [en, eρ]
theorem pairs_at {ss : List Sy} {p : Nat × Bool} (h : p.1 < ss.length) : ixD (.lst ((List.range ss.length).map (pairD ss))) (.int p.1) = .ok (pairD ss p.1, .sh) := ixD_lst_nat (by simp [h])
theorem pair_at (ss : List Sy) (i : Nat) (b : Bool) : ixD (pairD ss i) (.int (if b then 1 else 0)) = .ok (.int (tabB ss i b), .sh) := by
  cases b <;> exact ixD_tup rfl
theorem bits_for_ev (li : T "letters_in" = some fn_letters_in) (ni : T "names_in" = some fn_names_in) (no : T "names_of" = some fn_names_of) (f1 : T "all_bits" = some fn_all_bits) (f2 : T "letter_bits" = some fn_letter_bits) (f3 : T "table" = some fn_table)
    (bo : T "bits_of" = some fn_bits_of) (f : T "bits_for" = some fn_bits_for) (n : Nat) {ss : List Sy} (L : Lst ss) {ps : List (Nat × Bool)} (hp : PartOk ss ps) : evFn T (n + 44) "bits_for" [.tup (ss.map enc), .tup (ps.map prD)] = .ok (.int (bitP ss ps), false) := by
  have en := names_of_ev li ni no (n + 1) L
  have eb := bits_of_ev li ni no f1 f2 f3 bo n L
  have ab := all_bits_ev (T := T) f1 (n + 42) (nms := namesL ss) (by have := L.nm; omega)
  have ab : evFn T (n + 43) "all_bits" [.nms (namesL ss)] = .ok (.int ((2 ^ many ss - 1 : Nat) : Int), false) := ab
  rw [← bitP_nil] at ab
  rw [evFn_succ f rfl]
  simp only [fn_bits_for, startSl]
  obtain ⟨ρ, eρ, x, y, rfl⟩ := forFold_nx (step := forStep (CG.tup (.cons 4 (.cons 5 .nil))) fn_bits_for_b0 (evFn T (n + 43))) (ds := ps.map prD) (ρ := [.sh (.tup (ss.map enc)), .sh (.tup (ps.map prD)), .sh (.int (bitP ss [])), .ow (.lst ((List.range ss.length).map (pairD ss))), .no, .no])
    (fun i ρ => ∃ x y, ρ = [.sh (.tup (ss.map enc)), .sh (.tup (ps.map prD)), .sh (.int (bitP ss (ps.take i))), .ow (.lst ((List.range ss.length).map (pairD ss))), x, y]) ⟨_, _, rfl⟩ (by
      rintro i d ρ hd ⟨x, y, rfl⟩
      rw [List.getElem?_map, Option.map_eq_some_iff] at hd
      obtain ⟨p, hp1, rfl⟩ := hd
      have e1 := pairs_at (ss := ss) (hp p (List.mem_of_getElem? hp1))
      have e2 := pair_at ss p.1 p.2
      have e3 : bitP ss (ps.take (i + 1)) = bitP ss (ps.take i) &&& tabB ss p.1 p.2 := by
        rw [List.take_succ, hp1]
        exact bitP_snoc _ _ _
      rw [e3]
      generalize bitP ss (ps.take i) = b at *
      generalize (List.range ss.length).map (pairD ss) = prs at *
      generalize pairD ss p.1 = pr at *
      generalize tabB ss p.1 p.2 = t at *
      simp [forStep, prD, fn_bits_for_b0, e1, e2, and_nat])
  rw [List.length_map, List.take_length] at eρ
  simp [en, ab, eb, eρ]
theorem agrees1_ev (f : T "_law_agrees" = some fn_law_agrees1) (n : Nat) {row : List Bool} {ps : List (Nat × Bool)} (hp : ∀ p ∈ ps, p.1 < row.length) (hl : ps.length ≤ 1000) {d : D} (hd : items d = .ok (ps.map prD)) : evFn T (n + 1) "_law_agrees" [rowD row, d] = .ok (.bl (agree row ps), false) := by
  rw [evFn_succ f rfl]
  simp only [fn_law_agrees1, startSl]
  have body := lcFold_filter (f := lcBody (CG.tup (.cons 2 (.cons 3 .nil))) (CIf.one (.cmp _ .ne (.ix .ix (.var 0) (.var 2)) (.var 3))) fn_law_agrees1_e0 (evFn T n) [.sh (rowD row), .sh d, .no, .no]) prD (fun p => !(row.getD p.1 false == p.2)) (fun p => .int p.1) (as := ps) fun p m => by
    have e := ixD_row (hp p m)
    obtain ⟨i, t⟩ := p
    show _ = Res.ok (if (!(row.getD i false == t)) = true then _ else _)
    replace e : ixD (rowD row) (.int i) = .ok (.bl (row.getD i false), .sh) := e
    clear m
    generalize row.getD i false = b at e ⊢
    cases b <;> cases t <;> simp [lcBody, prD, fn_law_agrees1_e0, noEx, e]
  have ol : (ps.filter fun p => !(row.getD p.1 false == p.2)).length ≤ sizeLine := Nat.le_trans (List.length_filter_le _ _) (small_len (by omega))
  have e : (((ps.filter fun p => !(row.getD p.1 false == p.2)).length : Int) == 0) = agree row ps := by
    rw [Bool.eq_iff_iff, beq_iff_eq]
    simp [agree, List.length_eq_zero_iff]
  generalize (ps.filter fun p => !(row.getD p.1 false == p.2)) = fl at body ol e
  simp [hd, lcRes_eq, wipeSl, body, ol, e]
/-- what follows from a part -/
def folF (ss : List Sy) (ps : List (Nat × Bool)) (j : Nat) : Option Bool := if bitP ss (ps ++ [(j, true)]) = bitP ss ps then some true else if bitP ss (ps ++ [(j, true)]) = 0 then some false else none
theorem follows_ev (li : T "letters_in" = some fn_letters_in) (ni : T "names_in" = some fn_names_in) (no : T "names_of" = some fn_names_of) (f1 : T "all_bits" = some fn_all_bits) (f2 : T "letter_bits" = some fn_letter_bits) (f3 : T "table" = some fn_table)
    (bo : T "bits_of" = some fn_bits_of) (bf : T "bits_for" = some fn_bits_for) (f : T "follows" = some fn_follows) (n : Nat) {ss : List Sy} (L : Lst ss) {ps : List (Nat × Bool)} (hp : PartOk ss ps) {j : Nat} (hj : j < ss.length) :
    evFn T (n + 45) "follows" [.tup (ss.map enc), .tup (ps.map prD), .int j] = .ok (optD (folF ss ps j), false) := by
  have eb := bits_of_ev li ni no f1 f2 f3 bo (n + 1) L
  have ef := bits_for_ev li ni no f1 f2 f3 bo bf n L hp
  have e1 := pairs_at (ss := ss) (p := (j, true)) hj
  have e2 := pair_at ss j true
  have e3 := bitP_snoc ss ps (j, true)
  rw [evFn_succ f rfl]
  simp only [fn_follows, startSl, folF, e3]
  simp only [if_true] at e1 e2
  generalize (List.range ss.length).map (pairD ss) = prs at *
  generalize pairD ss j = pr at *
  generalize bitP ss ps = b at *
  generalize tabB ss j true = t at *
  have c1 : (((b &&& t : Nat) : Int) == (b : Int)) = decide (b &&& t = b) := by
    rw [Bool.eq_iff_iff, beq_iff_eq, decide_eq_true_eq]; omega
  have c2 : (((b &&& t : Nat) : Int) == 0) = decide (b &&& t = 0) := by
    rw [Bool.eq_iff_iff, beq_iff_eq, decide_eq_true_eq]; omega
  by_cases d1 : b &&& t = b
  · rw [if_pos d1]
    simp [ef, eb, e1, e2, and_nat, c1, d1, optD]
  · rw [if_neg d1]
    by_cases d2 : b &&& t = 0
    · rw [if_pos d2]
      have d1' : ¬ (0 : Int) = (b : Int) := fun z => d1 (d2.trans (by omega))
      simp [ef, eb, e1, e2, and_nat, c1, c2, d1, d2, d1', optD]
    · rw [if_neg d2]
      simp [ef, eb, e1, e2, and_nat, c1, c2, d1, d2, optD]
theorem folF_true {ss : List Sy} {ps : List (Nat × Bool)} {j : Nat} : bitP ss (ps ++ [(j, true)]) = bitP ss ps ↔ ∀ r ∈ fitR ss, agree r ps = true → r.getD j false = true := by
  unfold bitP
  rw [bitsN_eq]
  constructor
  · intro h r hr ha
    obtain ⟨k, hk, rfl⟩ := fitR_mem'.mp hr
    have := h k hk
    rw [ha] at this
    simp [agree] at this ha
    simpa using this.2
  · intro h k hk
    have := h (rowK ss k) (fitR_mem'.mpr ⟨k, hk, rfl⟩)
    cases ha : agree (rowK ss k) ps with
    | false => simp only [agree] at ha ⊢; simp only [List.all_append, ha, Bool.false_and]
    | true => have t := this ha; simp only [agree] at ha ⊢; simp only [List.all_append, ha, List.all_cons, List.all_nil, t]; rfl
theorem folF_false {ss : List Sy} {ps : List (Nat × Bool)} {j : Nat} : bitP ss (ps ++ [(j, true)]) = 0 ↔ ∀ r ∈ fitR ss, agree r ps = true → r.getD j false = false := by
  unfold bitP
  rw [bitsN_zero]
  constructor
  · intro h r hr ha
    obtain ⟨k, hk, rfl⟩ := fitR_mem'.mp hr
    have := h k hk
    simp only [agree] at ha this
    simp only [List.all_append, ha, List.all_cons, List.all_nil, Bool.true_and, Bool.and_true] at this
    simpa using this
  · intro h k hk
    have := h (rowK ss k) (fitR_mem'.mpr ⟨k, hk, rfl⟩)
    cases ha : agree (rowK ss k) ps with
    | false => simp only [agree] at ha ⊢; simp only [List.all_append, ha, Bool.false_and]
    | true => have t := this ha; simp only [agree] at ha ⊢; simp only [List.all_append, ha, List.all_cons, List.all_nil, t]; rfl
end
end MJ

namespace MJ
open PySem PySem.Spec PyProof.Rows L2
/-- tuple * int, where the tuple itself comes back -/
theorem tuple_mul1 (l : Addr) (items : Array Value) (n : Nat) (dd : Option Addr) (sl : Array (Option Value)) (x : Int) (u : Tok) (c0 : (decide (x < -(2 ^ 63)) || decide (x ≥ 2 ^ 63)) = false) (c1 : (items.isEmpty || x == 1) = true) :
    Meets (Builtin.«tuple.__mul__» ⟨[.ref l, .int x u], []⟩) (fun _ R s => s.heap.get? l = some { cls := .type "tuple", dict := dd, data := .seq items n, slots := sl } ∧
      R (.ok (.ret (Value.ref l))) s) :=
  .of_wp fun prog w A R s h => by
    obtain ⟨hp, g, d, tk, os⟩ := s
    obtain ⟨hl, h⟩ := h
    have f1 := AutoSeq1.idx_int
    wp_walk using wpAny_loadPart' hl
    repeat (first
      | (refine wpAny_ite_false (decide_eq_false (by rw [c0]; exact Bool.false_ne_true)) ?_; wp_walk using wpAny_loadPart' hl)
      | (refine wpAny_ite_true (decide_eq_true (by rw [c1])) ?_; wp_walk using wpAny_loadPart' hl))
    exact ⟨_, rfl, h⟩
def rRepT1 (K : PySem.W.Frag) : R2 := fun x y H Q => ∃ l k xs, x = .ref l ∧ y = .int k ∧ SqT K H l xs ∧ (xs = [] ∨ k = 1) ∧ 0 ≤ k ∧ k ≤ 1000 ∧ Q (.ref l) H
theorem op_repT1 {X : Cx} : OpR X (binaryOp .Mult) (rRepT1 X.K) := by
  intro pins s σ H x y v u Q I rx ry h
  obtain ⟨l, k, xs, rfl, rfl, hT, hne, h1, h2, q⟩ := h
  cases rx
  obtain ⟨t, rfl⟩ := ry
  obtain ⟨its, r, ⟨⟨cls, dd, data, sl⟩, ho, hc, n, hd⟩, hs⟩ := I.tuple hT
  simp only at hc hd
  subst hc hd
  have hle : its.length = xs.length := r.length.symm
  have c0 : (decide (k < -(2 ^ 63)) || decide (k ≥ 2 ^ 63)) = false := by
    rw [decide_eq_false (by omega), decide_eq_false (by omega)] <;> rfl
  have c1 : (its.toArray.isEmpty || k == 1) = true := by
    rcases hne with rfl | rfl
    · have : its = [] := List.eq_nil_of_length_eq_zero (by rw [hle]; rfl)
      subst this
      rfl
    · simp
  exact wpAny_binaryOp_repeat_ref (T := "tuple") (U := "int") (by decide) ⟨_, ho, rfl⟩ (fun s' => typeIs_int s' k t) noFill_tuple_mul F.fills_int_mul F.slot_int_rmul repeat_tuple F.slot_int_index.lookup
    (call_meets F.slot_int_rmul (typeIs_int s k t) F.entry_int_rmul (F.args_int_rmul_2 _ _) (int_rmul_tuple k t l its.toArray n dd sl)
      ⟨ho, rfl, ⟨_, ho, rfl⟩, call_meets F.slot_tuple_mul ⟨_, ho, rfl⟩ F.entry_tuple_mul (F.args_tuple_mul_2 _ _) (tuple_mul1 l its.toArray n dd sl k t c0 c1) ⟨ho, ⟨.ref l, H, I, rfl, q⟩⟩⟩)
def repD : D → D → Res (D × Fr)
  | .tup ds, .int k => if 1 ≤ k ∧ k ≤ 1000 ∧ ds.length ≤ 1000 then .ok (.tup (List.replicate k.toNat ds).flatten, .sh) else .bad
  | _, _ => .bad
theorem Rps.rep {K : PySem.W.Frag} {mg : Str → Option Value} {H : Hp} {ds : List D} {vs : List V} (r : Rps K mg H ds vs) : ∀ n : Nat, Rps K mg H (List.replicate n ds).flatten (List.replicate n vs).flatten
  | 0 => .nil
  | n + 1 => by
    simp only [List.replicate_succ, List.flatten_cons]
    exact r.append (Rps.rep r n)
/-- tuple * int -/
def B2.rep : B2 (binaryOp .Mult) where
  b1 := true
  b2 := true
  g := repD
  ok := fun X hc hu => ⟨_, op_repT.or op_repT1, fun W Hs H σ d e x y Q i p1 p2 h => by
    unfold repD at h
    split at h
    · rename_i ds k
      split at h
      · rename_i hz
        obtain ⟨a, xs, rfl, q1, r1⟩ := p1.tup
        have l1 := r1.len
        by_cases c : xs = [] ∨ k = 1
        · refine .inr ⟨a, k, xs, rfl, p2.int, i.seqT q1, c, by omega, hz.2.1, ?_⟩
          refine post_sh i h ?_
          simp only [Rp]
          refine ⟨a, xs, rfl, q1, ?_⟩
          rcases c with rfl | rfl
          · have : ds = [] := List.eq_nil_of_length_eq_zero (by simpa using l1.symm)
            subst this
            have e : (List.replicate k.toNat ([] : List D)).flatten = [] := by simp
            rw [e]; exact .nil
          · have e : (List.replicate (1 : Int).toNat ds).flatten = ds := by simp
            rw [e]; exact r1
        · have c1 : xs ≠ [] := fun z => c (.inl z)
          have c2 : k ≠ 1 := fun z => c (.inr z)
          exact .inl ⟨a, k, xs, rfl, p2.int, i.seqT q1, c1, by omega, hz.2.1, by omega, fun p nz => post_tup i h (r1.rep k.toNat) nz⟩
      · exact h.elim
    · exact h.elim⟩
@[simp] theorem B2.rep_1 : B2.rep.b1 = true := rfl
@[simp] theorem B2.rep_2 : B2.rep.b2 = true := rfl
@[simp] theorem B2.rep_g : B2.rep.g = repD := rfl
end MJ

namespace MJ
open PySem PySem.Spec PyProof.Rows L2
def fn_meet_of_b0 : CS := (.cons (.set 3 (.op _ .and_ (.var 3) (.ix .ix (.ix .ix (.var 0) (.var 4)) (.blt .int (.cons (.var 5) .nil))))) .nil)
def fn_meet_of : Fn where
  ps := ["pairs", "part", "start"]
  N := ["pairs", "part", "start", "found", "number", "truth"]
  body := (.cons (.set 3 (.var 2)) (.cons (.for_ (.tup (.cons 4 (.cons 5 .nil))) (.seq (.var 1)) fn_meet_of_b0) (.cons (.retv 3) .nil)))
def fn_is_smallest_b0 : CS := (.cons (.ite (.cmp _ .eq (.call "meet_of" (.cons (.var 0) (.cons (.op _ .add (.slc (.var 1) .no (.at (.var 3))) (.slc (.var 1) (.at (.op _ .add (.var 3) (CE.int 1))) .no)) (.cons (.var 2) .nil)))) (CE.int 0)) (.cons (.ret (CE.bl false)) .nil) .nil) .nil)
def fn_is_smallest : Fn where
  ps := ["pairs", "part", "start"]
  N := ["pairs", "part", "start", "at"]
  body := (.cons (.for_ (.name 3) (.range1 (.blt .len (.cons (.var 1) .nil))) fn_is_smallest_b0) (.cons (.ret (CE.bl true)) .nil))
def fn_longer_parts_b0 : CS := (.cons (.meth .append 3 (.cons (.op _ .add (.var 0) (.tup (.cons (.tup (.cons (.var 4) (.cons (.var 5) .nil))) .nil))) .nil)) .nil)
def fn_longer_parts_b1 : CS := (.cons (.for_ (.name 5) (.seq (.lst (.cons (CE.bl false) (.cons (CE.bl true) .nil)))) fn_longer_parts_b0) .nil)
def fn_longer_parts : Fn where
  ps := ["part", "many"]
  N := ["part", "many", "first", "found", "number", "truth"]
  body := (.cons (.set 2 (CE.int 0)) (.cons (.ite (.cmp _ .gt (.blt .len (.cons (.var 0) .nil)) (CE.int 0)) (.cons (.set 2 (.op _ .add (.ix .ix (.ix .ix (.var 0) (.neg (CE.int 1))) (CE.int 0)) (CE.int 1))) .nil) .nil) (.cons (.set 3 (.lst .nil)) (.cons (.for_ (.name 4) (.range2 (.var 2) (.var 1)) fn_longer_parts_b1) (.cons (.retv 3) .nil)))))
def fn_smallest_unfit_b0 : CS := (.share 1 (.cons (.ite (.cmp _ .gt (.call "meet_of" (.cons (.var 1) (.cons (.var 7) (.cons (.var 2) .nil)))) (CE.int 0)) (.cons (.meth .append 5 (.cons (.var 7) .nil)) .nil) (.share 1 (.cons (.ite (.val (.call "is_smallest" (.cons (.var 1) (.cons (.var 7) (.cons (.var 2) .nil))))) (.cons (.meth .append 3 (.cons (.var 7) .nil)) .nil) .nil) .nil))) .nil))
def fn_smallest_unfit_b1 : CS := (.cons (.for_ (.name 7) (.seq (.call "longer_parts" (.cons (.var 6) (.cons (.blt .len (.cons (.var 0) .nil)) .nil)))) fn_smallest_unfit_b0) .nil)
def fn_smallest_unfit_b2 : CS := (.cons (.set 5 (.lst .nil)) (.share 4 (.cons (.for_ (.name 6) (.seq (.var 4)) fn_smallest_unfit_b1) (.share 5 (.cons (.set 4 (.var 5)) .nil)))))
def fn_smallest_unfit : Fn where
  ps := ["sayings"]
  N := ["sayings", "pairs", "start", "found", "level", "fit_ones", "part", "longer"]
  body := (.cons (.set 1 (.call "bits_of" (.cons (.var 0) .nil))) (.cons (.set 2 (.call "all_bits" (.cons (.call "names_of" (.cons (.var 0) .nil)) .nil))) (.cons (.set 3 (.lst .nil)) (.cons (.set 4 (.lst (.cons (.tup .nil) .nil))) (.cons (.while_ (.cmp _ .ne (.var 4) (.lst .nil)) fn_smallest_unfit_b2) (.cons (.ret (.blt .sorted (.cons (.var 3) .nil))) .nil))))))
def fn_law_any_agrees_e0 : CE := (.var 2)
def fn_law_any_agrees : Fn where
  ps := ["_law_rows", "_law_part"]
  N := ["_law_rows", "_law_part", "_law_row_here"]
  body := (.cons (.ret (.cmp _ .gt (.blt .len (.cons (.lc [("_law_row_here", 2)] (.name 2) (.seq (.var 0)) (.one (.val (.call "_law_agrees" (.cons (.var 2) (.cons (.var 1) .nil))))) fn_law_any_agrees_e0) .nil)) (CE.int 0))) .nil)
def fn_law_is_part_b0 : CS := (.cons (.ite (.bop (op := .Or) (.or (.not (.val (.isi (.var 3) "tuple" "tuple"))) (.or (.cmp _ .ne (.blt .len (.cons (.var 3) .nil)) (CE.int 2)) (.or1 (.not (.val (.isi (.ix .ix (.var 3) (CE.int 1)) "bool" "bool"))))))) (.cons (.ret (CE.bl false)) .nil) .nil) (.cons (.ite (.bop (op := .Or) (.or (.not (.val (.isi (.ix .ix (.var 3) (CE.int 0)) "int" "int"))) (.or (.val (.isi (.ix .ix (.var 3) (CE.int 0)) "bool" "bool")) (.or (.cmp _ .leA (.ix .ix (.var 3) (CE.int 0)) (.var 2)) (.or1 (.cmp _ .ge (.ix .ix (.var 3) (CE.int 0)) (.var 1))))))) (.cons (.ret (CE.bl false)) .nil) .nil) (.cons (.set 2 (.ix .ix (.var 3) (CE.int 0))) .nil)))
def fn_law_is_part : Fn where
  ps := ["_law_part", "_law_many"]
  N := ["_law_part", "_law_many", "_law_last", "_law_pair"]
  body := (.cons (.ite (.not (.val (.isi (.var 0) "tuple" "tuple"))) (.cons (.ret (CE.bl false)) .nil) .nil) (.cons (.set 2 (.neg (CE.int 1))) (.cons (.for_ (.name 3) (.seq (.var 0)) fn_law_is_part_b0) (.cons (.ret (CE.bl true)) .nil))))
def fn_law_smallest_b0 : CS := (.cons (.ite (.not (.val (.call "_law_any_agrees" (.cons (.var 0) (.cons (.op _ .add (.slc (.var 1) .no (.at (.var 2))) (.slc (.var 1) (.at (.op _ .add (.var 2) (CE.int 1))) .no)) .nil))))) (.cons (.ret (CE.bl false)) .nil) .nil) .nil)
def fn_law_smallest : Fn where
  ps := ["_law_rows", "_law_part"]
  N := ["_law_rows", "_law_part", "_law_at"]
  body := (.cons (.ite (.val (.call "_law_any_agrees" (.cons (.var 0) (.cons (.var 1) .nil)))) (.cons (.ret (CE.bl false)) .nil) .nil) (.cons (.for_ (.name 2) (.range1 (.blt .len (.cons (.var 1) .nil))) fn_law_smallest_b0) (.cons (.ret (CE.bl true)) .nil)))
def fn_law6_b0 : CS := (.cons (.ite (.cmp _ .ge (.var 5) (.var 6)) (.cons (.ret (CE.bl false)) .nil) .nil) .nil)
def fn_law6_b1 : CS := (.share 2 (.cons (.ite (.bop (op := .Or) (.or (.not (.val (.call "_law_is_part" (.cons (.var 4) (.cons (.blt .len (.cons (.var 1) .nil)) .nil))))) (.or1 (.not (.val (.call "_law_smallest" (.cons (.var 2) (.cons (.var 4) .nil)))))))) (.cons (.ret (CE.bl false)) .nil) .nil) .nil))
def fn_law6 : Fn where
  ps := ["_law_script"]
  N := ["_law_script", "_law_sayings", "_law_rows", "_law_found", "_law_part", "_law_one", "_law_other", "_law_kept"]
  body := (.cons (.set 1 (.call "_law_list" (.cons (.var 0) (.cons (CE.int 0) .nil)))) (.cons (.set 2 (.call "_law_fit_rows" (.cons (.var 1) .nil))) (.cons (.set 3 (.call "smallest_unfit" (.cons (.var 1) .nil))) (.cons (.ite (.not (.val (.isi (.var 3) "list" "list"))) (.cons (.ret (CE.bl false)) .nil) .nil) (.share 3 (.cons (.for_ (.name 4) (.seq (.var 3)) fn_law6_b1) (.cons (.for_ (.tup (.cons 5 (.cons 6 .nil))) (.zip2 (.slc (.var 3) .no (.at (.neg (CE.int 1)))) (.slc (.var 3) (.at (CE.int 1)) .no)) fn_law6_b0) (.cons (.set 7 (.blt .list (.cons (.var 3) .nil))) (.cons (.expr (.call "smallest_unfit" (.cons (.slc (.var 1) .no (.at (CE.int 1))) .nil))) (.cons (.ite (.cmp _ .ne (.var 3) (.var 7)) (.cons (.ret (CE.bl false)) .nil) .nil) (.cons (.meth .append 3 (.cons (.tup .nil) .nil)) (.cons (.ret (.cmp _ .eq (.call "smallest_unfit" (.cons (.var 1) .nil)) (.var 7))) .nil))))))))))))
def fn_law_saying1 : Fn where
  ps := ["_law_script", "_law_k", "_law_room", "_law_names_here"]
  N := ["_law_script", "_law_k", "_law_room", "_law_names_here", "_law_way", "_law_left", "_law_one", "_law_other"]
  body := (.cons (.set 4 (.call "_law_pick" (.cons (.var 0) (.cons (.var 1) (.cons (CE.int 9) .nil))))) (.cons (.ite (.bop (op := .Or) (.or (.cmp _ .lt (.var 2) (CE.int 2)) (.or1 (.cmp _ .eq (.var 4) (CE.int 0))))) (.cons (.ret (.tup (.cons (CE.str "letter") (.cons (.ix .ix (.var 3) (.call "_law_pick" (.cons (.var 0) (.cons (.op _ .add (.var 1) (CE.int 1)) (.cons (.blt .len (.cons (.var 3) .nil)) .nil))))) .nil)))) .nil) .nil) (.cons (.ite (.bop (op := .Or) (.or (.cmp _ .eq (.var 2) (CE.int 2)) (.or1 (.cmp _ .eq (.var 4) (CE.int 1))))) (.cons (.ret (.tup (.cons (CE.str "not") (.cons (.call "_law_saying" (.cons (.var 0) (.cons (.op _ .add (.var 1) (CE.int 3)) (.cons (.op _ .sub (.var 2) (CE.int 1)) (.cons (.var 3) .nil))))) .nil)))) .nil) .nil) (.cons (.set 5 (.op _ .add (CE.int 1) (.call "_law_pick" (.cons (.var 0) (.cons (.op _ .add (.var 1) (CE.int 1)) (.cons (.op _ .sub (.var 2) (CE.int 2)) .nil)))))) (.cons (.set 6 (.call "_law_saying" (.cons (.var 0) (.cons (.op _ .add (.var 1) (CE.int 3)) (.cons (.var 5) (.cons (.var 3) .nil)))))) (.cons (.set 7 (.call "_law_saying" (.cons (.var 0) (.cons (.op _ .add (.op _ .add (.var 1) (CE.int 3)) (.op _ .mul (CE.int 3) (.var 5))) (.cons (.op _ .sub (.op _ .sub (.var 2) (CE.int 1)) (.var 5)) (.cons (.var 3) .nil)))))) (.cons (.ret (.tup (.cons (.ix .ix (.lst (.cons (CE.str "and") (.cons (CE.str "or") (.cons (CE.str "if") .nil)))) (.call "_law_pick" (.cons (.var 0) (.cons (.op _ .add (.var 1) (CE.int 2)) (.cons (CE.int 3) .nil))))) (.cons (.var 6) (.cons (.var 7) .nil))))) .nil)))))))
def fn_law_list_b0 : CS := (.cons (.set 5 (.ix .ix (.lst (.cons (CE.int 1) (.cons (CE.int 1) (.cons (CE.int 3) (.cons (CE.int 4) (.cons (CE.int 9) .nil)))))) (.call "_law_pick" (.cons (.var 0) (.cons (.op _ .add (.op _ .add (.var 1) (CE.int 60)) (.var 4)) (.cons (CE.int 5) .nil)))))) (.share 2 (.cons (.meth .append 3 (.cons (.call "_law_saying" (.cons (.var 0) (.cons (.op _ .add (.op _ .add (.var 1) (CE.int 80)) (.op _ .mul (CE.int 31) (.var 4))) (.cons (.var 5) (.cons (.var 2) .nil))))) .nil)) .nil)))
def fn_law_list : Fn where
  ps := ["_law_script", "_law_k"]
  N := ["_law_script", "_law_k", "_law_names_here", "_law_sayings", "_law_j", "_law_room"]
  body := (.cons (.set 2 (.call "_law_names" (.cons (.var 0) (.cons (.var 1) (.cons (.op _ .add (CE.int 1) (.call "_law_pick" (.cons (.var 0) (.cons (.op _ .add (.var 1) (CE.int 5)) (.cons (CE.int 5) .nil))))) .nil))))) (.cons (.ite (.cmp _ .eq (.call "_law_pick" (.cons (.var 0) (.cons (.op _ .add (.var 1) (CE.int 6)) (.cons (CE.int 2) .nil)))) (CE.int 0)) (.share 2 (.cons (.ret (.blt .tuple (.cons (.call "_law_linked" (.cons (.var 0) (.cons (.op _ .add (.var 1) (CE.int 70)) (.cons (.var 2) .nil)))) .nil))) .nil)) .nil) (.cons (.set 3 (.lst .nil)) (.cons (.for_ (.name 4) (.range1 (.op _ .add (CE.int 1) (.call "_law_pick" (.cons (.var 0) (.cons (.op _ .add (.var 1) (CE.int 7)) (.cons (CE.int 6) .nil)))))) fn_law_list_b0) (.cons (.ret (.blt .tuple (.cons (.var 3) .nil))) .nil)))))
def fn_law_has_one_e0 : CE := (.var 3)
def fn_law_has_one_b0 : CS := (.cons (.ite (.cmp _ .eq (.blt .len (.cons (.lc [("_law_pair", 3)] (.name 3) (.seq (.var 2)) (.one (.cmp _ .notin (.var 3) (.var 0))) fn_law_has_one_e0) .nil)) (CE.int 0)) (.cons (.ret (CE.bl true)) .nil) .nil) .nil)
def fn_law_has_one : Fn where
  ps := ["_law_part", "_law_told"]
  N := ["_law_part", "_law_told", "_law_one", "_law_pair"]
  body := (.cons (.for_ (.name 2) (.seq (.var 1)) fn_law_has_one_b0) (.cons (.ret (CE.bl false)) .nil))
def fn_law_holds_for1_b0 : CS := (.share 2 (.cons (.ite (.cmp _ .ne (.cmp _ .eq (.blt .len (.cons (.var 7) .nil)) (CE.int 0)) (.call "_law_has_one" (.cons (.var 6) (.cons (.var 2) .nil)))) (.cons (.ret (CE.bl false)) .nil) .nil) .nil))
def fn_law_holds_for1_e0 : CE := (.var 10)
def fn_law_holds_for1_b1 : CS := (.cons (.setLc 9 [("_law_row_here", 10)] (.name 10) (.seq (.var 7)) (.one (.cmp _ .eq (.ix .ix (.var 10) (.var 4)) (.var 8))) fn_law_holds_for1_e0) (.share 9 (.cons (.meth .append 5 (.cons (.tup (.cons (.op _ .add (.var 6) (.tup (.cons (.tup (.cons (.var 4) (.cons (.var 8) .nil))) .nil))) (.cons (.var 9) .nil))) .nil)) .nil)))
def fn_law_holds_for1_b2 : CS := (.cons (.for_ (.name 8) (.seq (.lst (.cons (CE.bl false) (.cons (CE.bl true) .nil)))) fn_law_holds_for1_b1) .nil)
def fn_law_holds_for1_b3 : CS := (.cons (.set 5 (.blt .list (.cons (.var 3) .nil))) (.share 3 (.cons (.for_ (.tup (.cons 6 (.cons 7 .nil))) (.seq (.var 3)) fn_law_holds_for1_b2) (.share 5 (.cons (.set 3 (.var 5)) .nil)))))
def fn_law_holds_for1 : Fn where
  ps := ["_law_script"]
  N := ["_law_script", "_law_sayings", "_law_told", "_law_level", "_law_number", "_law_longer", "_law_part", "_law_rows", "_law_truth", "_law_left", "_law_row_here"]
  body := (.cons (.set 1 (.call "_law_list" (.cons (.var 0) (.cons (CE.int 0) .nil)))) (.cons (.set 2 (.call "smallest_unfit" (.cons (.var 1) .nil))) (.cons (.set 3 (.lst (.cons (.tup (.cons (.tup .nil) (.cons (.call "_law_fit_rows" (.cons (.var 1) .nil)) .nil))) .nil))) (.cons (.for_ (.name 4) (.range1 (.blt .len (.cons (.var 1) .nil))) fn_law_holds_for1_b3) (.share 3 (.cons (.for_ (.tup (.cons 6 (.cons 7 .nil))) (.seq (.var 3)) fn_law_holds_for1_b0) (.cons (.ret (CE.bl true)) .nil)))))))
def fn_law_free_b0 : CS := (.cons (.meth .append 2 (.cons (.op _ .mod (.ix .ix (.var 1) (.var 4)) (.op _ .pow (CE.int 10) (CE.int 61))) .nil)) (.cons (.put .list 1 (.var 4) (.op _ .fdiv (.ix .ix (.var 1) (.var 4)) (.op _ .pow (CE.int 10) (CE.int 61)))) .nil))
def fn_law_free_b1 : CS := (.cons (.for_ (.name 4) (.range1 (.blt .len (.cons (.var 1) .nil))) fn_law_free_b0) .nil)
def fn_law_free : Fn where
  ps := ["_law_script"]
  N := ["_law_script", "_law_left", "_law_found", "_law_k", "_law_j"]
  body := (.cons (.ite (.bop (op := .Or) (.or (.cmp _ .eq (.blt .len (.cons (.var 0) .nil)) (CE.int 0)) (.or1 (.cmp _ .eq (.op _ .mod (.ix .ix (.var 0) (CE.int 0)) (CE.int 2)) (CE.int 0))))) (.cons (.retv 0) .nil) .nil) (.cons (.set 1 (.op _ .add (.lst (.cons (.op _ .fdiv (.ix .ix (.var 0) (CE.int 0)) (CE.int 2)) .nil)) (.blt .list (.cons (.slc (.var 0) (.at (CE.int 1)) (.at (CE.int 63))) .nil)))) (.cons (.set 2 (.lst .nil)) (.cons (.for_ (.name 3) (.range1 (CE.int 26)) fn_law_free_b1) (.cons (.retv 2) .nil)))))
def fn_law3 : Fn where
  ps := ["_law_script"]
  N := ["_law_script"]
  body := (.cons (.ret (.call "_law_holds_for" (.cons (.call "_law_free" (.cons (.var 0) .nil)) .nil))) .nil)
def fn_always_fit_b0 : CS := (.cons (.ite (.cmp _ .gt (.blt .len (.cons (.var 1) .nil)) (CE.int 2)) (.cons (.ret (CE.bl false)) .nil) .nil) .nil)
def fn_always_fit : Fn where
  ps := ["sayings"]
  N := ["sayings", "part"]
  body := (.cons (.for_ (.name 1) (.seq (.call "smallest_unfit" (.cons (.var 0) .nil))) fn_always_fit_b0) (.cons (.ret (CE.bl true)) .nil))
def fn_law_list2_b0 : CS := (.cons (.set 5 (.ix .ix (.lst (.cons (CE.int 1) (.cons (CE.int 1) (.cons (CE.int 3) (.cons (CE.int 4) (.cons (CE.int 9) .nil)))))) (.call "_law_pick" (.cons (.var 0) (.cons (.op _ .add (.op _ .add (.var 1) (CE.int 60)) (.var 4)) (.cons (CE.int 5) .nil)))))) (.share 2 (.cons (.meth .append 3 (.cons (.call "_law_saying" (.cons (.var 0) (.cons (.op _ .add (.op _ .add (.var 1) (CE.int 80)) (.op _ .mul (CE.int 31) (.var 4))) (.cons (.var 5) (.cons (.var 2) .nil))))) .nil)) .nil)))
def fn_law_list2 : Fn where
  ps := ["_law_script", "_law_k"]
  N := ["_law_script", "_law_k", "_law_names_here", "_law_sayings", "_law_j", "_law_room"]
  body := (.cons (.set 2 (.call "_law_names" (.cons (.var 0) (.cons (.var 1) (.cons (.op _ .add (CE.int 1) (.call "_law_pick" (.cons (.var 0) (.cons (.op _ .add (.var 1) (CE.int 5)) (.cons (CE.int 4) .nil))))) .nil))))) (.cons (.ite (.cmp _ .eq (.call "_law_pick" (.cons (.var 0) (.cons (.op _ .add (.var 1) (CE.int 6)) (.cons (CE.int 2) .nil)))) (CE.int 0)) (.share 2 (.cons (.ret (.blt .tuple (.cons (.call "_law_linked" (.cons (.var 0) (.cons (.op _ .add (.var 1) (CE.int 70)) (.cons (.var 2) .nil)))) .nil))) .nil)) .nil) (.cons (.set 3 (.lst .nil)) (.cons (.for_ (.name 4) (.range1 (.op _ .add (CE.int 1) (.call "_law_pick" (.cons (.var 0) (.cons (.op _ .add (.var 1) (CE.int 7)) (.cons (CE.int 6) .nil)))))) fn_law_list2_b0) (.cons (.ret (.blt .tuple (.cons (.var 3) .nil))) .nil)))))
def fn_law_closed_e0 : CE := (.cmp _ .gt (.op _ .add (.op _ .add (.blt .int (.cons (.var 5) .nil)) (.blt .int (.cons (.var 6) .nil))) (.blt .int (.cons (.var 7) .nil))) (CE.int 1))
def fn_law_closed_b0 : CS := (.cons (.setLc 4 [("_law_a", 5), ("_law_b", 6), ("_law_c", 7)] (.tup (.cons 5 (.cons 6 (.cons 7 .nil)))) (.zip3 (.ix .ix (.var 0) (.var 1)) (.ix .ix (.var 0) (.var 2)) (.ix .ix (.var 0) (.var 3))) .no fn_law_closed_e0) (.cons (.ite (.cmp _ .notin (.blt .tuple (.cons (.var 4) .nil)) (.var 0)) (.cons (.ret (CE.bl false)) .nil) .nil) .nil))
def fn_law_closed_b1 : CS := (.cons (.for_ (.name 3) (.range1 (.var 2)) fn_law_closed_b0) .nil)
def fn_law_closed_b2 : CS := (.cons (.for_ (.name 2) (.range1 (.var 1)) fn_law_closed_b1) .nil)
def fn_law_closed : Fn where
  ps := ["_law_rows"]
  N := ["_law_rows", "_law_i", "_law_j", "_law_k", "_law_three", "_law_a", "_law_b", "_law_c"]
  body := (.cons (.for_ (.name 1) (.range1 (.blt .len (.cons (.var 0) .nil))) fn_law_closed_b2) (.cons (.ret (CE.bl true)) .nil))
def fn_law_holds_for2 : Fn where
  ps := ["_law_script"]
  N := ["_law_script", "_law_sayings", "_law_found"]
  body := (.cons (.set 1 (.call "_law_list" (.cons (.var 0) (.cons (CE.int 0) .nil)))) (.cons (.set 2 (.call "always_fit" (.cons (.var 1) .nil))) (.cons (.ret (.bop (op := .And) (.and (.isi (.var 2) "bool" "bool") (.one .And (.cmp _ .eq (.var 2) (.call "_law_closed" (.cons (.call "_law_fit_rows" (.cons (.var 1) .nil)) .nil))))))) .nil)))
def fn_greatest_unfit_b0 : CS := (.cons (.ite (.cmp _ .gt (.blt .len (.cons (.var 2) .nil)) (.blt .len (.cons (.var 1) .nil))) (.cons (.set 1 (.var 2)) .nil) .nil) .nil)
def fn_greatest_unfit : Fn where
  ps := ["sayings"]
  N := ["sayings", "found", "part"]
  body := (.cons (.set 1 (.tup .nil)) (.cons (.for_ (.name 2) (.seq (.call "smallest_unfit" (.cons (.var 0) .nil))) fn_greatest_unfit_b0) (.cons (.retv 1) .nil)))
def fn_least_quota : Fn where
  ps := ["sayings", "many"]
  N := ["sayings", "many", "size", "found"]
  body := (.cons (.set 2 (.blt .len (.cons (.call "greatest_unfit" (.cons (.var 0) .nil)) .nil))) (.cons (.set 3 (.op _ .add (.op _ .fdiv (.var 1) (CE.int 2)) (CE.int 1))) (.cons (.ite (.cmp _ .gt (.var 2) (CE.int 2)) (.cons (.set 3 (.blt .max (.cons (.var 3) (.cons (.op _ .add (.op _ .fdiv (.op _ .mul (.var 1) (.op _ .sub (.var 2) (CE.int 1))) (.var 2)) (CE.int 1)) .nil)))) .nil) .nil) (.cons (.retv 3) .nil))))
def fn_law15_e0 : CE := (.var 9)
def fn_law15_b0 : CS := (.cons (.set 6 (.op _ .add (.var 6) (CE.int 1))) .nil)
def fn_law15_b1 : CS := (.cons (.set 5 (.op _ .add (CE.int 1) (.op _ .mod (.op _ .add (.var 3) (.op _ .mul (CE.int 4) (.var 4))) (CE.int 21)))) (.cons (.set 6 (.op _ .add (.op _ .fdiv (.var 5) (CE.int 2)) (CE.int 1))) (.share 2 (.cons (.while_ (.cmp _ .gt (.blt .len (.cons (.lc [("_law_size", 9)] (.name 9) (.seq (.var 2)) (.one (.cmp _ .leA (.op _ .mul (.var 9) (.var 6)) (.op _ .mul (.var 5) (.op _ .sub (.var 9) (CE.int 1))))) fn_law15_e0) .nil)) (CE.int 0)) fn_law15_b0) (.cons (.set 7 (.call "least_quota" (.cons (.var 1) (.cons (.var 5) .nil)))) (.cons (.ite (.bop (op := .Or) (.or (.not (.val (.isi (.var 7) "int" "int"))) (.or (.val (.isi (.var 7) "bool" "bool")) (.or1 (.cmp _ .ne (.var 7) (.var 6)))))) (.cons (.ret (CE.bl false)) .nil) .nil) .nil))))))
def fn_law15_e1 : CE := (.blt .len (.cons (.var 8) .nil))
def fn_law15 : Fn where
  ps := ["_law_script"]
  N := ["_law_script", "_law_sayings", "_law_sizes", "_law_first", "_law_k", "_law_many", "_law_due", "_law_found", "_law_part", "_law_size"]
  body := (.cons (.set 1 (.call "_law_list" (.cons (.var 0) (.cons (CE.int 0) .nil)))) (.cons (.setLc 2 [("_law_part", 8)] (.name 8) (.seq (.call "smallest_unfit" (.cons (.var 1) .nil))) .no fn_law15_e1) (.cons (.set 3 (.call "_law_pick" (.cons (.var 0) (.cons (CE.int 5) (.cons (CE.int 21) .nil))))) (.cons (.for_ (.name 4) (.range1 (CE.int 6)) fn_law15_b1) (.cons (.ret (CE.bl true)) .nil)))))
end MJ

namespace MJ
open PySem PySem.Spec PyProof.Rows L2
open PySem.W (EachIs dataLe dataLt AllAlike Sortable alike alikeAll)
abbrev Part := List (Nat × Bool)
def partD (p : Part) : D := .tup (p.map prD)
/-! ### the order of parts -/
def prP (p : Nat × Bool) : PyData := .tuple [.int p.1, .bool p.2]
def encP (p : Part) : PyData := .tuple (p.map prP)
def pairLt (p q : Nat × Bool) : Bool := if p.1 = q.1 then (!p.2 && q.2) else decide (p.1 < q.1)
def partLt : Part → Part → Bool
  | _, [] => false
  | [], _ :: _ => true
  | a :: as, b :: bs => if a = b then partLt as bs else pairLt a b
theorem partLt_irr : ∀ a, partLt a a = false
  | [] => rfl
  | a :: as => by simp [partLt, partLt_irr as]
theorem pairLt_tri {p q : Nat × Bool} (h : pairLt p q = false) (g : pairLt q p = false) : p = q := by
  obtain ⟨i, b⟩ := p
  obtain ⟨j, c⟩ := q
  unfold pairLt at h g
  by_cases e : i = j
  · subst e
    simp only [if_true] at h g
    cases b <;> cases c <;> simp_all
  · simp only [if_neg e, if_neg (Ne.symm e), decide_eq_false_iff_not] at h g
    omega
theorem partLt_tri : ∀ a b, partLt a b = false → partLt b a = false → a = b
  | [], [], _, _ => rfl
  | [], _ :: _, h, _ => by simp [partLt] at h
  | _ :: _, [], _, g => by simp [partLt] at g
  | a :: as, b :: bs, h, g => by
    by_cases e : a = b
    · subst e
      simp only [partLt, if_true] at h g
      rw [partLt_tri as bs h g]
    · simp only [partLt, if_neg e, if_neg (Ne.symm e)] at h g
      exact absurd (pairLt_tri h g) e
theorem pairLt_trans {p q r : Nat × Bool} (h : pairLt p q = true) (g : pairLt q r = true) : pairLt p r = true := by
  obtain ⟨i, b⟩ := p
  obtain ⟨j, c⟩ := q
  obtain ⟨k, d⟩ := r
  unfold pairLt at *
  by_cases e : i = j
  · subst e
    by_cases f : i = k
    · subst f
      simp only [if_true] at *
      cases b <;> cases c <;> cases d <;> simp_all
    · simp only [if_neg f] at *
      exact g
  · simp only [if_neg e, decide_eq_true_eq] at h
    by_cases f : j = k
    · subst f
      simp only [if_neg e, decide_eq_true_eq]
      exact h
    · simp only [if_neg f, decide_eq_true_eq] at g
      rw [if_neg (by omega)]
      simp only [decide_eq_true_eq]
      omega
theorem pairLt_irr (p : Nat × Bool) : pairLt p p = false := by
  unfold pairLt
  cases p.2 <;> simp
theorem partLt_trans : ∀ a b c, partLt a b = true → partLt b c = true → partLt a c = true
  | _, [], _, h, _ => by simp [partLt] at h
  | [], _ :: _, [], _, g => by simp [partLt] at g
  | [], _ :: _, _ :: _, _, _ => rfl
  | _ :: _, _ :: _, [], _, g => by simp [partLt] at g
  | a :: as, b :: bs, c :: cs, h, g => by
    simp only [partLt] at h g ⊢
    by_cases e : a = b
    · subst e
      rw [if_pos rfl] at h
      by_cases f : a = c
      · subst f
        rw [if_pos rfl] at g ⊢
        exact partLt_trans as bs cs h g
      · rw [if_neg f] at g ⊢; exact g
    · rw [if_neg e] at h
      by_cases f : b = c
      · subst f; rw [if_neg e]; exact h
      · rw [if_neg f] at g
        have t := pairLt_trans h g
        rw [if_neg]
        · exact t
        · intro z
          subst z
          rw [pairLt_irr] at t
          cases t
def ordP : OrdT Part where
  lt := partLt
  irr := partLt_irr
  tri := partLt_tri
  trans := partLt_trans
theorem rowLt_cons {x y : PyData} {xs ys : List PyData} (h : alike x y = true) : PySem.W.rowLt (x :: xs) (y :: ys) = if PyData.eqv x y = true then PySem.W.rowLt xs ys else dataLt x y := by
  unfold PySem.W.rowLt
  rw [PySem.W.dataLt_cons h]
theorem rowLt_nil : PySem.W.rowLt [] [] = false := lex_irrefl _
theorem alike_pr (p q : Nat × Bool) : alike (prP p) (prP q) = true := by simp [prP, alike, alikeAll]
theorem eqv_pr (p q : Nat × Bool) : PyData.eqv (prP p) (prP q) = decide (p = q) := by
  obtain ⟨i, b⟩ := p
  obtain ⟨j, c⟩ := q
  simp only [prP, PyData.eqv, PyData.eqvAll, Bool.and_true]
  rw [Bool.eq_iff_iff]
  simp only [Bool.and_eq_true, beq_iff_eq, decide_eq_true_eq, Prod.mk.injEq]
  exact ⟨fun h => ⟨Int.ofNat.inj h.1, h.2⟩, fun h => ⟨congrArg Int.ofNat h.1, h.2⟩⟩
theorem dataLt_pr (p q : Nat × Bool) : dataLt (prP p) (prP q) = pairLt p q := by
  obtain ⟨i, b⟩ := p
  obtain ⟨j, c⟩ := q
  unfold prP
  rw [PySem.W.dataLt_tuple]
  show PySem.W.rowLt [.int i, .bool b] [.int j, .bool c] = _
  rw [rowLt_cons (by simp [alike]), rowLt_cons (by simp [alike]), rowLt_nil, dataLt_bl]
  unfold pairLt
  by_cases e : i = j
  · subst e
    simp only [PyData.eqv, beq_self_eq_true, if_true]
    cases b <;> cases c <;> rfl
  · have e' : ¬ ((i : Int) = (j : Int)) := by omega
    have e2 : ¬ PyData.eqv (.int (i : Int)) (.int (j : Int)) = true := by simpa [PyData.eqv] using e'
    rw [if_neg e2, if_neg e]
    show PyProof.Rows.lexLt itemOrd [.inl (i : Int)] [.inl (j : Int)] = _
    rw [lex_diff (O := itemOrd) (by simpa using e')]
    show decide ((i : Int) < (j : Int)) = decide (i < j)
    rw [Bool.eq_iff_iff]
    simp
theorem rowLt_pr : ∀ a b : Part, PySem.W.rowLt (a.map prP) (b.map prP) = partLt a b
  | [], [] => lex_irrefl _
  | [], y :: ys => by
    unfold PySem.W.rowLt
    rw [List.map_cons, PySem.W.toks_all_cons, List.map_nil]
    simp only [PySem.W.keyToksAll]
    rw [lex_diff (O := itemOrd) (by simp)]
    rfl
  | x :: xs, [] => by
    unfold PySem.W.rowLt
    rw [List.map_cons, PySem.W.toks_all_cons, List.map_nil]
    simp only [PySem.W.keyToksAll]
    rw [lex_diff (O := itemOrd) (by simp)]
    rfl
  | x :: xs, y :: ys => by
    rw [List.map_cons, List.map_cons, rowLt_cons (alike_pr x y), eqv_pr, dataLt_pr, rowLt_pr xs ys]
    simp only [partLt, decide_eq_true_eq]
theorem le_part (a b : Part) : dataLe false encP a b = !partLt b a := by
  show (!dataLt (.tuple (b.map prP)) (.tuple (a.map prP))) = _
  rw [PySem.W.dataLt_tuple]
  show (!PySem.W.rowLt (b.map prP) (a.map prP)) = _
  rw [rowLt_pr]
theorem alike_parts : ∀ a b : Part, alikeAll (a.map prP) (b.map prP) = true
  | [], _ => by simp [alikeAll]
  | _ :: _, [] => by simp [alikeAll]
  | x :: xs, y :: ys => by
    rw [List.map_cons, List.map_cons, alikeAll, alike_parts xs ys, alike_pr]
    rfl
theorem depth_parts : ∀ xs : Part, PyData.depthAll (xs.map prP) ≤ 1
  | [] => by simp [PyData.depthAll]
  | x :: xs => by
    rw [List.map_cons, PyData.depthAll]
    have := depth_parts xs
    have e : (prP x).depth ≤ 1 := by simp [prP, PyData.depth, PyData.depthAll]
    omega
theorem toPy_pr (p : Nat × Bool) : toPy (prD p) = some (prP p) := by simp [prD, prP, toPy, toPys]
theorem toPys_pr : ∀ L : Part, toPys (L.map prD) = some (L.map prP)
  | [] => rfl
  | p :: L => by simp [toPys, toPy_pr, toPys_pr L]
theorem toPy_part (p : Part) : toPy (partD p) = some (encP p) := by simp [partD, encP, toPy, toPys_pr]
theorem toPys_part : ∀ L : List Part, toPys (L.map partD) = some (L.map encP)
  | [] => rfl
  | p :: L => by simp [toPys, toPy_part, toPys_part L]
theorem sortable_parts {L : List Part} (h : ∀ p ∈ L, p ≠ []) : sortable (L.map encP) = true := by
  unfold sortable
  simp only [Bool.and_eq_true, Bool.or_eq_true, List.all_eq_true, List.mem_map, decide_eq_true_eq]
  refine ⟨⟨?_, .inl ?_⟩, ?_⟩
  · rintro _ ⟨a, _, rfl⟩ _ ⟨b, _, rfl⟩
    simp [encP, alike, alike_parts]
  · rintro _ ⟨a, ha, rfl⟩
    cases a with
    | nil => exact absurd rfl (h [] ha)
    | cons x xs => rfl
  · rintro _ ⟨a, _, rfl⟩
    have := depth_parts a
    simp only [encP, PyData.depth]
    omega
def sortP (L : List Part) : List Part := sortU ordP.toOrd L
theorem sorted_parts {L : List Part} (n : L.Nodup) (h : ∀ p ∈ L, p ≠ []) : sortedD [.lst (L.map partD)] = .ok (.lst ((sortP L).map partD), .fr) := by
  have := sortD_keys (emb := partD) (enc := encP) (fun L => toPys_part L) (sortable_parts h)
  show (match sortD (L.map partD) with
    | some es => Res.ok (D.lst es, Fr.fr)
    | none => Res.bad) = _
  rw [this, ms_sortU ordP le_part n]; rfl
theorem sortP_mem {L : List Part} {p : Part} : p ∈ sortP L ↔ p ∈ L := sortU_mem _
theorem sortP_nd (L : List Part) : (sortP L).Nodup := rising_nodup ordP (sortU_pw ordP L)
theorem sortP_len {L : List Part} (n : L.Nodup) : (sortP L).length = L.length := sortU_len ordP n
/-! ### equal, in: data given by keys -/
structure Flat (K : Type) [DecidableEq K] where
  emb : K → D
  enc : K → PyData
  ok : K → Prop
  to : ∀ k, toPy (emb k) = some (enc k)
  eqv : ∀ a b, PyData.eqv (enc a) (enc b) = decide (a = b)
  lay : ∀ k, ok k → (enc k).canLay0 = true
  dp : ∀ k, (enc k).depth ≤ 20
section
variable {K : Type} [DecidableEq K] (F : Flat K)
theorem Flat.tos : ∀ L : List K, toPys (L.map F.emb) = some (L.map F.enc)
  | [] => rfl
  | k :: L => by simp [toPys, F.to, Flat.tos L]
theorem Flat.lays : ∀ {L : List K}, (∀ k ∈ L, F.ok k) → PyData.canLayAll0 (L.map F.enc) = true
  | [], _ => by simp [PyData.canLayAll0]
  | k :: L, h => by
    have h1 := F.lay k (h k (by simp))
    have h2 := Flat.lays (L := L) fun k m => h k (List.mem_cons_of_mem _ m)
    simp [PyData.canLayAll0, h1, h2]
theorem Flat.dps : ∀ L : List K, PyData.depthAll (L.map F.enc) ≤ 21
  | [] => by simp [PyData.depthAll]
  | k :: L => by
    have h1 := F.dp k
    have h2 := Flat.dps L
    simp only [List.map_cons, PyData.depthAll]
    omega
theorem Flat.sh {k : K} (h : F.ok k) : SeqAt.shaped (F.enc k) = true := by
  have := F.dp k
  simp [SeqAt.shaped, F.lay k h]
  omega
theorem Flat.shL {L : List K} (h : ∀ k ∈ L, F.ok k) : SeqAt.shaped (.list (L.map F.enc)) = true := by
  have := F.dps L
  simp [SeqAt.shaped, PyData.canLay0, F.lays h, PyData.depth]
  omega
theorem Flat.shT {L : List K} (h : ∀ k ∈ L, F.ok k) : SeqAt.shaped (.tuple (L.map F.enc)) = true := by
  have := F.dps L
  simp [SeqAt.shaped, PyData.canLay0, F.lays h, PyData.depth]
  omega
theorem Flat.eqvs : ∀ a b : List K, PyData.eqvAll (a.map F.enc) (b.map F.enc) = decide (a = b)
  | [], [] => rfl
  | [], _ :: _ => by simp [PyData.eqvAll]
  | _ :: _, [] => by simp [PyData.eqvAll]
  | x :: a, y :: b => by
    simp only [List.map_cons, PyData.eqvAll, F.eqv, Flat.eqvs a b]
    rw [Bool.eq_iff_iff]
    simp
theorem Flat.eqD {a b : K} (ha : F.ok a) (hb : F.ok b) : MJ.eqD (F.emb a) (F.emb b) = .ok (decide (a = b)) := by
  simp only [MJ.eqD, F.to, F.sh ha, F.sh hb]
  simp only [and_self, if_true, F.eqv]
theorem Flat.eqL {a b : List K} (ha : ∀ k ∈ a, F.ok k) (hb : ∀ k ∈ b, F.ok k) : MJ.eqD (.lst (a.map F.emb)) (.lst (b.map F.emb)) = .ok (decide (a = b)) := by
  have e1 : ∀ L : List K, toPy (.lst (L.map F.emb)) = some (.list (L.map F.enc)) := fun L => by simp [toPy, F.tos]
  simp only [MJ.eqD, e1, F.shL ha, F.shL hb]
  simp only [and_self, if_true, PyData.eqv, F.eqvs]
theorem Flat.eqT {a b : List K} (ha : ∀ k ∈ a, F.ok k) (hb : ∀ k ∈ b, F.ok k) : MJ.eqD (.tup (a.map F.emb)) (.tup (b.map F.emb)) = .ok (decide (a = b)) := by
  have e1 : ∀ L : List K, toPy (.tup (L.map F.emb)) = some (.tuple (L.map F.enc)) := fun L => by simp [toPy, F.tos]
  simp only [MJ.eqD, e1, F.shT ha, F.shT hb]
  simp only [and_self, if_true, PyData.eqv, F.eqvs]
theorem Flat.anyv {z : K} {L : List K} : (L.map F.enc).any (fun y => PyData.eqv (F.enc z) y) = decide (z ∈ L) := by
  rw [Bool.eq_iff_iff]
  simp [F.eqv]
theorem Flat.anyv' {z : K} {L : List K} : (L.map F.enc).any (fun y => PyData.eqv y (F.enc z)) = decide (z ∈ L) := by
  rw [Bool.eq_iff_iff]
  simp [F.eqv]
theorem Flat.inL {z : K} {L : List K} (hz : F.ok z) (h : ∀ k ∈ L, F.ok k) : inD (F.emb z) (.lst (L.map F.emb)) = .ok (decide (z ∈ L)) := by
  have e1 : toPy (.lst (L.map F.emb)) = some (.list (L.map F.enc)) := by simp [toPy, F.tos]
  simp only [inD, F.to, e1, F.sh hz, F.shL h]
  simp only [and_self, if_true, F.anyv']
theorem Flat.inT {z : K} {L : List K} (hz : F.ok z) (h : ∀ k ∈ L, F.ok k) : inD (F.emb z) (.tup (L.map F.emb)) = .ok (decide (z ∈ L)) := by
  have e1 : toPy (.tup (L.map F.emb)) = some (.tuple (L.map F.enc)) := by simp [toPy, F.tos]
  simp only [inD, F.to, e1, F.sh hz, F.shT h]
  simp only [and_self, if_true, F.anyv']
end
def flB : Flat Bool := ⟨.bl, .bool, fun _ => True, fun _ => rfl, fun a b => by cases a <;> cases b <;> rfl, fun _ _ => by simp [PyData.canLay0], fun _ => by simp [PyData.depth]⟩
def flI : Flat Int := ⟨.int, .int, fun _ => True, fun _ => rfl, fun a b => by simp only [PyData.eqv]; rw [Bool.eq_iff_iff]; simp, fun _ _ => by simp [PyData.canLay0], fun _ => by simp [PyData.depth]⟩
def flR : Flat (List Bool) where
  emb := rowD
  enc := encR
  ok := fun _ => True
  to := fun r => by
    show toPy (.tup (r.map flB.emb)) = _
    simp only [toPy, flB.tos]; rfl
  eqv := fun a b => by
    show PyData.eqv (.tuple (a.map flB.enc)) (.tuple (b.map flB.enc)) = _
    simp only [PyData.eqv, flB.eqvs]
  lay := fun r _ => by
    show PyData.canLay0 (.tuple (r.map flB.enc)) = true
    simp only [PyData.canLay0]; exact flB.lays fun _ _ => trivial
  dp := fun r => by
    have := depth_bls r
    simp only [encR, PyData.depth]; omega
def flPr : Flat (Nat × Bool) where
  emb := prD
  enc := prP
  ok := fun _ => True
  to := toPy_pr
  eqv := eqv_pr
  lay := fun p _ => by simp [prP, PyData.canLay0, PyData.canLayAll0]
  dp := fun p => by simp [prP, PyData.depth, PyData.depthAll]
def flP : Flat Part where
  emb := partD
  enc := encP
  ok := fun _ => True
  to := toPy_part
  eqv := fun a b => by
    show PyData.eqv (.tuple (a.map flPr.enc)) (.tuple (b.map flPr.enc)) = _
    simp only [PyData.eqv, flPr.eqvs]
  lay := fun r _ => by
    show PyData.canLay0 (.tuple (r.map flPr.enc)) = true
    simp only [PyData.canLay0]; exact flPr.lays fun _ _ => trivial
  dp := fun r => by
    have := depth_parts r
    simp only [encP, PyData.depth]; omega
/-- level != [] -/
theorem eqD_parts_nil (L : List Part) : eqD (.lst (L.map partD)) (.lst []) = .ok (decide (L = [])) := flP.eqL (a := L) (b := []) (fun _ _ => trivial) (fun _ _ => trivial)
theorem in_rows (z : List Bool) (L : List (List Bool)) : inD (rowD z) (.lst (L.map rowD)) = .ok (decide (z ∈ L)) := (flR.inL trivial fun _ _ => trivial).trans (congrArg Res.ok (decide_eq_decide.mpr Iff.rfl))
theorem in_part (z : Nat × Bool) (p : Part) : inD (prD z) (partD p) = .ok (decide (z ∈ p)) := (flPr.inT trivial fun _ _ => trivial).trans (congrArg Res.ok (decide_eq_decide.mpr Iff.rfl))
theorem eqD_parts (L M : List Part) : eqD (.lst (L.map partD)) (.lst (M.map partD)) = .ok (decide (L = M)) := flP.eqL (fun _ _ => trivial) (fun _ _ => trivial)
theorem eqD_row (a b : List Bool) : eqD (rowD a) (rowD b) = .ok (decide (a = b)) := flR.eqD trivial trivial
theorem eqD_rows (L M : List (List Bool)) : eqD (.lst (L.map rowD)) (.lst (M.map rowD)) = .ok (decide (L = M)) := flR.eqL (fun _ _ => trivial) (fun _ _ => trivial)
end MJ

namespace MJ
open PySem PySem.Spec PyProof.Rows L2
/-! ### the parts, in plain Lean -/
def Rising (w : Nat) (p : Part) : Prop := p.Pairwise (fun a b => a.1 < b.1) ∧ ∀ q ∈ p, q.1 < w
def nextN (p : Part) : Nat := match p.getLast? with
  | none => 0
  | some q => q.1 + 1
def extN (p : Part) (n : Nat) : List Part := [p ++ [(n, false)], p ++ [(n, true)]]
def longerF (w : Nat) (p : Part) : List Part := (((List.range (w - nextN p)).map (nextN p + ·)).map (extN p)).flatten
theorem nextN_nil : nextN [] = 0 := rfl
theorem nextN_snoc (p : Part) (q : Nat × Bool) : nextN (p ++ [q]) = q.1 + 1 := by simp [nextN]
theorem mem_longer {w : Nat} {p r : Part} : r ∈ longerF w p ↔ ∃ n t, nextN p ≤ n ∧ n < w ∧ r = p ++ [(n, t)] := by
  simp only [longerF, List.mem_flatten, List.mem_map, List.mem_range, extN]
  constructor
  · rintro ⟨l, ⟨n, ⟨i, hi, rfl⟩, rfl⟩, hr⟩
    simp only [List.mem_cons, List.not_mem_nil, or_false] at hr
    rcases hr with rfl | rfl
    · exact ⟨nextN p + i, false, by omega, by omega, rfl⟩
    · exact ⟨nextN p + i, true, by omega, by omega, rfl⟩
  · rintro ⟨n, t, h1, h2, rfl⟩
    refine ⟨_, ⟨n, ⟨n - nextN p, by omega, by omega⟩, rfl⟩, ?_⟩
    cases t <;> simp
theorem lt_next {w : Nat} {p : Part} (h : Rising w p) : ∀ q ∈ p, q.1 < nextN p := by
  intro q hq
  rcases List.eq_nil_or_concat p with rfl | ⟨r, x, rfl⟩
  · cases hq
  · rw [List.concat_eq_append] at *
    rw [nextN_snoc]
    rcases List.mem_append.mp hq with m | m
    · have := (List.pairwise_append.mp h.1).2.2 q m x (by simp)
      omega
    · simp only [List.mem_singleton] at m
      subst m
      omega
theorem rising_snoc {w : Nat} {p : Part} {n : Nat} {t : Bool} : Rising w (p ++ [(n, t)]) ↔ Rising w p ∧ nextN p ≤ n ∧ n < w := by
  constructor
  · rintro ⟨h1, h2⟩
    have hp := List.pairwise_append.mp h1
    have rp : Rising w p := ⟨hp.1, fun q m => h2 q (List.mem_append_left _ m)⟩
    refine ⟨rp, ?_, h2 (n, t) (by simp)⟩
    rcases List.eq_nil_or_concat p with rfl | ⟨r, x, rfl⟩
    · simp [nextN]
    · rw [List.concat_eq_append] at *
      rw [nextN_snoc]
      have := hp.2.2 x (by simp) (n, t) (by simp)
      exact this
  · rintro ⟨rp, h1, h2⟩
    refine ⟨List.pairwise_append.mpr ⟨rp.1, by simp, fun a ha b hb => ?_⟩, fun q m => ?_⟩
    · simp only [List.mem_singleton] at hb
      subst hb
      have := lt_next rp a ha
      show a.1 < n
      omega
    · rcases List.mem_append.mp m with m | m
      · exact rp.2 q m
      · simp only [List.mem_singleton] at m; subst m; exact h2
theorem rising_len : ∀ {w : Nat} {p : Part}, Rising w p → p.length ≤ w := by
  intro w p h
  have : ∀ (p : Part), Rising w p → p.length ≤ nextN p := fun p => by
    induction hn : p.length generalizing p with
    | zero => intro _; omega
    | succ n ih =>
      intro h
      rcases List.eq_nil_or_concat p with rfl | ⟨r, x, rfl⟩
      · simp at hn
      · rw [List.concat_eq_append] at *
        obtain ⟨i, t⟩ := x
        have hs := rising_snoc.mp h
        rw [List.length_append] at hn
        simp only [List.length_singleton] at hn
        have := ih r (by omega) hs.1
        rw [nextN_snoc]
        simp only
        omega
  rcases List.eq_nil_or_concat p with rfl | ⟨r, x, rfl⟩
  · simp
  · rw [List.concat_eq_append] at *
    have h1 := this _ h
    rw [nextN_snoc] at h1
    have := h.2 x (by simp)
    omega
/-- all parts over w sayings -/
def allParts : Nat → List Part
  | 0 => [[]]
  | w + 1 => allParts w ++ ((allParts w).map (· ++ [(w, false)]) ++ (allParts w).map (· ++ [(w, true)]))
theorem allParts_len : ∀ w, (allParts w).length = 3 ^ w
  | 0 => rfl
  | w + 1 => by simp only [allParts, List.length_append, List.length_map, allParts_len w, Nat.pow_succ]; omega
theorem mem_allParts : ∀ {w : Nat} {p : Part}, Rising w p → p ∈ allParts w
  | 0, p, h => by
    have := rising_len h
    have : p = [] := List.eq_nil_of_length_eq_zero (by omega)
    subst this
    simp [allParts]
  | w + 1, p, h => by
    simp only [allParts, List.mem_append, List.mem_map]
    rcases List.eq_nil_or_concat p with rfl | ⟨r, x, rfl⟩
    · exact .inl (mem_allParts ⟨List.Pairwise.nil, fun q m => by cases m⟩)
    · rw [List.concat_eq_append] at *
      obtain ⟨i, t⟩ := x
      have hs := rising_snoc.mp h
      by_cases c : i = w
      · subst c
        have hr : r ∈ allParts i := mem_allParts ⟨hs.1.1, fun q m => by have := lt_next hs.1 q m; omega⟩
        cases t
        · exact .inr (.inl ⟨r, hr, rfl⟩)
        · exact .inr (.inr ⟨r, hr, rfl⟩)
      · exact .inl (mem_allParts (rising_snoc.mpr ⟨⟨hs.1.1, fun q m => by have := lt_next hs.1 q m; omega⟩, hs.2.1, by omega⟩))
def fitB (ss : List Sy) (p : Part) : Bool := decide (bitP ss p ≠ 0)
def smallB (ss : List Sy) (p : Part) : Bool := (List.range p.length).all fun i => fitB ss (p.eraseIdx i)
def candF (ss : List Sy) (lv : List Part) : List Part := (lv.map (longerF ss.length)).flatten
def newB (ss : List Sy) (p : Part) : Bool := !fitB ss p && smallB ss p
def lvK (ss : List Sy) : Nat → List Part
  | 0 => [[]]
  | k + 1 => (candF ss (lvK ss k)).filter (fitB ss)
def foundK (ss : List Sy) : Nat → List Part
  | 0 => []
  | k + 1 => foundK ss k ++ (candF ss (lvK ss k)).filter (newB ss)
theorem mem_cand {ss : List Sy} {lv : List Part} {r : Part} : r ∈ candF ss lv ↔ ∃ p ∈ lv, r ∈ longerF ss.length p := by
  simp only [candF, List.mem_flatten, List.mem_map]
  exact ⟨fun ⟨_, ⟨p, hp, rfl⟩, m⟩ => ⟨p, hp, m⟩, fun ⟨p, hp, m⟩ => ⟨_, ⟨p, hp, rfl⟩, m⟩⟩
theorem lvK_ok (ss : List Sy) : ∀ k, ∀ p ∈ lvK ss k, p.length = k ∧ Rising ss.length p
  | 0, p, h => by
    simp only [lvK, List.mem_singleton] at h
    subst h
    exact ⟨rfl, List.Pairwise.nil, fun q m => by cases m⟩
  | k + 1, p, h => by
    obtain ⟨q, hq, m⟩ := mem_cand.mp (List.mem_filter.mp h).1
    obtain ⟨n, t, h1, h2, rfl⟩ := mem_longer.mp m
    have ih := lvK_ok ss k q hq
    exact ⟨by simp [ih.1], rising_snoc.mpr ⟨ih.2, h1, h2⟩⟩
theorem cand_ok (ss : List Sy) (k : Nat) : ∀ p ∈ candF ss (lvK ss k), p.length = k + 1 ∧ Rising ss.length p := by
  intro p h
  obtain ⟨q, hq, m⟩ := mem_cand.mp h
  obtain ⟨n, t, h1, h2, rfl⟩ := mem_longer.mp m
  have ih := lvK_ok ss k q hq
  exact ⟨by simp [ih.1], rising_snoc.mpr ⟨ih.2, h1, h2⟩⟩
theorem snoc_inj {p q : Part} {x y : Nat × Bool} (h : p ++ [x] = q ++ [y]) : p = q ∧ x = y := by
  have := List.append_inj' h rfl
  exact ⟨this.1, by simpa using this.2⟩
theorem longer_nd (w : Nat) (p : Part) : (longerF w p).Nodup := by
  unfold longerF List.Nodup
  rw [List.pairwise_flatten]
  refine ⟨fun l hl => ?_, ?_⟩
  · obtain ⟨n, _, rfl⟩ := List.mem_map.mp hl
    simp [extN]
  · rw [List.pairwise_map, List.pairwise_map]
    refine List.Pairwise.imp ?_ List.nodup_range
    intro a b ne x hx y hy e
    subst e
    simp only [extN, List.mem_cons, List.not_mem_nil, or_false] at hx hy
    rcases hx with rfl | rfl <;> rcases hy with h | h <;> have := (snoc_inj h).2 <;> simp at this <;> omega
theorem cand_nd {ss : List Sy} {lv : List Part} (h : lv.Nodup) : (candF ss lv).Nodup := by
  unfold candF List.Nodup
  rw [List.pairwise_flatten]
  refine ⟨fun l hl => ?_, ?_⟩
  · obtain ⟨p, _, rfl⟩ := List.mem_map.mp hl
    exact longer_nd _ p
  · rw [List.pairwise_map]
    refine List.Pairwise.imp ?_ h
    intro a b ne x hx y hy e
    subst e
    obtain ⟨n, t, _, _, e1⟩ := mem_longer.mp hx
    obtain ⟨m, u, _, _, e2⟩ := mem_longer.mp hy
    exact ne (snoc_inj (e1.symm.trans e2)).1
theorem lvK_nd (ss : List Sy) : ∀ k, (lvK ss k).Nodup
  | 0 => by simp [lvK]
  | k + 1 => (cand_nd (lvK_nd ss k)).filter _
theorem cand_le {ss : List Sy} (h : ss.length ≤ 6) (k : Nat) : (candF ss (lvK ss k)).length ≤ 729 := by
  have h1 := nodup_le (cand_nd (lvK_nd ss k)) fun p m => mem_allParts (cand_ok ss k p m).2
  rw [allParts_len] at h1
  have h2 : 3 ^ ss.length ≤ 3 ^ 6 := Nat.pow_le_pow_right (by decide) h
  omega
theorem found_ok (ss : List Sy) : ∀ k, ∀ p ∈ foundK ss k, 1 ≤ p.length ∧ p.length ≤ k ∧ Rising ss.length p ∧ newB ss p = true
  | 0, p, h => by cases h
  | k + 1, p, h => by
    rcases List.mem_append.mp h with m | m
    · have := found_ok ss k p m
      exact ⟨this.1, by omega, this.2.2⟩
    · have m1 := List.mem_filter.mp m
      have := cand_ok ss k p m1.1
      exact ⟨by omega, by omega, this.2, m1.2⟩
theorem found_nd (ss : List Sy) : ∀ k, (foundK ss k).Nodup
  | 0 => List.nodup_nil
  | k + 1 => by
    refine List.nodup_append.mpr ⟨found_nd ss k, (cand_nd (lvK_nd ss k)).filter _, fun a ha b hb e => ?_⟩
    subst e
    have h1 := (found_ok ss k a ha).2.1
    have h2 := (cand_ok ss k a (List.mem_filter.mp hb).1).1
    omega
theorem found_le {ss : List Sy} (h : ss.length ≤ 6) (k : Nat) : (foundK ss k).length ≤ 729 := by
  have h1 := nodup_le (found_nd ss k) fun p m => mem_allParts (found_ok ss k p m).2.2.1
  rw [allParts_len] at h1
  have h2 : 3 ^ ss.length ≤ 3 ^ 6 := Nat.pow_le_pow_right (by decide) h
  omega
theorem lvK_end (ss : List Sy) {k : Nat} (h : ss.length < k) : lvK ss k = [] := by
  cases e : lvK ss k with
  | nil => rfl
  | cons p l =>
    have := lvK_ok ss k p (by rw [e]; simp)
    have := rising_len this.2
    omega
theorem lvK_stay (ss : List Sy) {k : Nat} (h : lvK ss k = []) : ∀ j, lvK ss (k + j) = []
  | 0 => h
  | j + 1 => by
    show (candF ss (lvK ss (k + j))).filter _ = []
    rw [lvK_stay ss h j]; rfl
theorem found_stay (ss : List Sy) {k : Nat} (h : lvK ss k = []) : ∀ j, foundK ss (k + j) = foundK ss k
  | 0 => rfl
  | j + 1 => by
    show foundK ss (k + j) ++ (candF ss (lvK ss (k + j))).filter _ = _
    rw [lvK_stay ss h j, found_stay ss h j]
    simp [candF]
/-- what smallest_unfit finds, ahead of the sort -/
def unfitL (ss : List Sy) : List Part := foundK ss (ss.length + 1)
theorem found_end {ss : List Sy} {k : Nat} (h : lvK ss k = []) : foundK ss k = unfitL ss := by
  unfold unfitL
  by_cases c : k ≤ ss.length + 1
  · have := found_stay ss h (ss.length + 1 - k)
    rw [show k + (ss.length + 1 - k) = ss.length + 1 by omega] at this
    exact this.symm
  · have := found_stay ss (lvK_end ss (k := ss.length + 1) (by omega)) (k - (ss.length + 1))
    rw [show ss.length + 1 + (k - (ss.length + 1)) = k by omega] at this
    exact this
def smallestF (ss : List Sy) : List Part := sortP (unfitL ss)
theorem unfit_nd (ss : List Sy) : (unfitL ss).Nodup := found_nd ss _
theorem smallest_le {ss : List Sy} (h : ss.length ≤ 6) : (smallestF ss).length ≤ 729 := by
  unfold smallestF
  rw [sortP_len (unfit_nd ss)]
  exact found_le h _
theorem smallest_ok {ss : List Sy} {p : Part} (h : p ∈ smallestF ss) : 1 ≤ p.length ∧ p.length ≤ ss.length ∧ Rising ss.length p ∧ newB ss p = true := by
  have := found_ok ss _ p (sortP_mem.mp h)
  exact ⟨this.1, rising_len this.2.2.1, this.2.2⟩
theorem Rising.po {ss : List Sy} {p : Part} (h : Rising ss.length p) : PartOk ss p := h.2
end MJ

namespace MJ
open PySem PySem.Spec PyProof.Rows L2
/-- a loop that may return early -/
theorem forFold_if {step : D → List Sl → Option Fl} {ds : List D} {ρ : List Sl} (P : Nat → List Sl → Prop) (c : Nat → Bool) (r : D) (fb : Bool) (h0 : P 0 ρ)
    (hs : ∀ i d ρ, ds[i]? = some d → P i ρ → (c i = true ∧ Nx (step d ρ) (P (i + 1))) ∨ (c i = false ∧ step d ρ = some (.rt r fb))) :
    ((∀ i, i < ds.length → c i = true) ∧ ∃ ρ', forFold step ds ρ = some (.nx ρ') ∧ P ds.length ρ') ∨ ((∃ i, i < ds.length ∧ c i = false) ∧ forFold step ds ρ = some (.rt r fb)) := by
  induction ds generalizing P c ρ with
  | nil => exact .inl ⟨fun i h => absurd h (Nat.not_lt_zero _), ρ, rfl, h0⟩
  | cons d ds ih =>
    rcases hs 0 d ρ rfl h0 with ⟨c0, nx⟩ | ⟨c0, e⟩
    · unfold Nx at nx
      split at nx
      · rename_i ρ1 e1
        rcases ih (fun i => P (i + 1)) (fun i => c (i + 1)) nx (fun i d ρ h p => hs (i + 1) d ρ (by simpa using h) p) with ⟨h1, ρ2, h2, h3⟩ | ⟨⟨i, h1, h2⟩, h3⟩
        · refine .inl ⟨fun i hi => ?_, ρ2, by simp [forFold, e1, h2], h3⟩
          cases i with
          | zero => exact c0
          | succ i => exact h1 i (by simpa using hi)
        · exact .inr ⟨⟨i + 1, by simpa using h1, h2⟩, by simp [forFold, e1, h3]⟩
      · exact nx.elim
    · exact .inr ⟨⟨0, by simp, c0⟩, by simp [forFold, e]⟩
theorem atI_last {α : Type} {xs : List α} {x : α} (l : List α) (h : xs = l ++ [x]) : atI xs (-1) = some x := by
  subst h
  have e : ixN (l ++ [x]).length (-1) = some l.length := by
    unfold ixN
    rw [if_neg (by decide), if_pos (by simp; omega)]
    simp
    omega
  unfold atI
  rw [e]
  simp
theorem add_part {p : Part} {n : Nat} {t : Bool} (h : p.length ≤ 1000) : addD (partD p) (.tup [.tup [.int n, .bl t]]) = .ok (partD (p ++ [(n, t)]), .sh) := by
  have := addD_tup (as := p.map prD) (bs := [.tup [.int n, .bl t]]) (by simp; omega)
  unfold partD
  rw [this]
  simp [prD]
@[simp] theorem lenD_part (p : Part) : lenD [partD p] = .ok (.int p.length, .sh) := by simp [partD]
@[simp] theorem items_part (p : Part) : items (partD p) = .ok (p.map prD) := rfl
def prsD (ss : List Sy) : D := .lst ((List.range ss.length).map (pairD ss))
theorem prs_at {ss : List Sy} {p : Nat × Bool} (h : p.1 < ss.length) : ixD (prsD ss) (.int p.1) = .ok (pairD ss p.1, .sh) := pairs_at h
theorem cut_at (p : Part) (i : Nat) : addD (.tup (cutD (p.map prD) none (some (i : Int)))) (.tup (cutD (p.map prD) (some ((i : Int) + 1)) none)) = if p.length ≤ 1000 then .ok (partD (p.eraseIdx i), .sh) else addD (.tup (cutD (p.map prD) none (some (i : Int)))) (.tup (cutD (p.map prD) (some ((i : Int) + 1)) none)) := by
  split
  · rename_i h
    rw [cutD_to _ (by omega), cutD_from _ (by omega), addD_tup (by simp; omega)]
    rw [show ((i : Int) + 1).toNat = i + 1 by omega, Int.toNat_natCast]
    unfold partD
    rw [List.eraseIdx_eq_take_drop_succ]
    simp
  · rfl
section
variable {T : Str → Option Fn}
theorem meet_of_ev (f : T "meet_of" = some fn_meet_of) (n : Nat) {ss : List Sy} {ps : Part} (hp : PartOk ss ps) (qs : Part) : evFn T (n + 1) "meet_of" [prsD ss, partD ps, .int (bitP ss qs)] = .ok (.int (bitP ss (qs ++ ps)), false) := by
  rw [evFn_succ f rfl]
  simp only [fn_meet_of, startSl]
  obtain ⟨ρ, eρ, x, y, rfl⟩ := forFold_nx (step := forStep (CG.tup (.cons 4 (.cons 5 .nil))) fn_meet_of_b0 (evFn T n)) (ds := ps.map prD) (ρ := [.sh (prsD ss), .sh (partD ps), .sh (.int (bitP ss qs)), .sh (.int (bitP ss qs)), .no, .no])
    (fun i ρ => ∃ x y, ρ = [.sh (prsD ss), .sh (partD ps), .sh (.int (bitP ss qs)), .sh (.int (bitP ss (qs ++ ps.take i))), x, y]) ⟨.no, .no, by simp⟩ (by
      rintro i d ρ hd ⟨x, y, rfl⟩
      rw [List.getElem?_map, Option.map_eq_some_iff] at hd
      obtain ⟨p, hp1, rfl⟩ := hd
      have e1 := prs_at (ss := ss) (hp p (List.mem_of_getElem? hp1))
      have e2 := pair_at ss p.1 p.2
      have e3 : bitP ss (qs ++ ps.take (i + 1)) = bitP ss (qs ++ ps.take i) &&& tabB ss p.1 p.2 := by
        rw [List.take_succ, hp1]
        show bitP ss (qs ++ (ps.take i ++ [p])) = _
        rw [← List.append_assoc]
        exact bitP_snoc _ _ _
      rw [e3]
      generalize bitP ss (qs ++ ps.take i) = b at *
      generalize prsD ss = prs at *
      generalize pairD ss p.1 = pr at *
      generalize tabB ss p.1 p.2 = t at *
      simp [forStep, prD, fn_meet_of_b0, e1, e2, and_nat])
  rw [List.length_map, List.take_length] at eρ
  simp [eρ]
theorem is_smallest_ev (m : T "meet_of" = some fn_meet_of) (f : T "is_smallest" = some fn_is_smallest) (n : Nat) {ss : List Sy} {ps : Part} (hp : PartOk ss ps) (hl : ps.length ≤ 1000) : evFn T (n + 2) "is_smallest" [prsD ss, partD ps, .int (bitP ss [])] = .ok (.bl (smallB ss ps), false) := by
  rw [evFn_succ f rfl]
  simp only [fn_is_smallest, startSl]
  have rg := rg1_of (show (0 : Int) ≤ (ps.length : Int) by omega) (show (ps.length : Int) < 4611686018427387904 by omega)
  rw [Int.toNat_natCast] at rg
  have key := forFold_if (step := forStep (CG.name 3) fn_is_smallest_b0 (evFn T (n + 1))) (ds := rangeD 0 ps.length) (ρ := [.sh (prsD ss), .sh (partD ps), .sh (.int (bitP ss [])), .no])
    (fun i ρ => ∃ x, ρ = [.sh (prsD ss), .sh (partD ps), .sh (.int (bitP ss [])), x]) (fun i => fitB ss (ps.eraseIdx i)) (.bl false) false ⟨_, rfl⟩ (by
      rintro i d ρ hd ⟨x, rfl⟩
      obtain ⟨hi, rfl⟩ := rangeD_get hd
      have hp2 : PartOk ss (ps.eraseIdx i) := fun q hq => hp q (List.mem_of_mem_eraseIdx hq)
      have em := meet_of_ev m n hp2 []
      rw [List.nil_append] at em
      have ec := cut_at ps i
      rw [if_pos hl] at ec
      have c0 : ((bitP ss (ps.eraseIdx i) : Nat) : Int) = 0 ↔ fitB ss (ps.eraseIdx i) = false := by
        unfold fitB
        rw [decide_eq_false_iff_not]
        omega
      generalize fitB ss (ps.eraseIdx i) = c at *
      generalize bitP ss (ps.eraseIdx i) = b at *
      generalize prsD ss = prs at *
      generalize partD (ps.eraseIdx i) = er at *
      cases c with
      | true =>
        have c1 : ¬ b = 0 := fun z => by have := c0.mp (by omega); cases this
        refine .inl ⟨rfl, ?_⟩
        simp [forStep, fn_is_smallest_b0, partD, ec, em, c1]
      | false =>
        have c1 : b = 0 := by have := c0.mpr rfl; omega
        refine .inr ⟨rfl, ?_⟩
        simp [forStep, fn_is_smallest_b0, partD, ec, em, c1])
  rw [rangeD_len] at key
  rcases key with ⟨h1, ρ', e, x, rfl⟩ | ⟨⟨i, h1, h2⟩, e⟩
  · have : smallB ss ps = true := by
      simp only [smallB, List.all_eq_true, List.mem_range]
      exact h1
    simp [rg, e, this]
  · have : smallB ss ps = false := by
      simp only [smallB]
      rw [Bool.eq_false_iff]
      intro z
      rw [List.all_eq_true] at z
      have := z i (List.mem_range.mpr h1)
      rw [h2] at this
      cases this
    simp [rg, e, this]
theorem longer_parts_ev (f : T "longer_parts" = some fn_longer_parts) (n : Nat) {p : Part} {w : Nat} (hw : w ≤ 1000) (hp : Rising w p) : evFn T (n + 1) "longer_parts" [partD p, .int w] = .ok (.lst ((longerF w p).map partD), true) := by
  rw [evFn_succ f rfl]
  simp only [fn_longer_parts, startSl]
  have hpl := rising_len hp
  have two : 2 ≤ sizeLine := by decide
  have one : 1 ≤ sizeLine := by decide
  have hn : nextN p ≤ w := by
    rcases List.eq_nil_or_concat p with rfl | ⟨r, x, rfl⟩
    · simp [nextN]
    · rw [List.concat_eq_append] at *
      rw [nextN_snoc]
      exact hp.2 x (by simp)
  have rg := rg2_of (i := (nextN p : Int)) (j := (w : Int)) (by omega) (by omega) (by omega) (by omega)
  rw [show ((w : Int) - (nextN p : Int)).toNat = w - nextN p by omega] at rg
  obtain ⟨ρ, eρ, x, y, rfl⟩ := forFold_nx (step := forStep (CG.name 4) fn_longer_parts_b1 (evFn T n)) (ds := rangeD (nextN p) (w - nextN p)) (ρ := [.sh (partD p), .sh (.int w), .sh (.int (nextN p)), .ow (.lst []), .no, .no])
    (fun i ρ => ∃ x y, ρ = [.sh (partD p), .sh (.int w), .sh (.int (nextN p)), .ow (.lst (((((List.range i).map (nextN p + ·)).map (extN p)).flatten).map partD)), x, y]) ⟨_, _, rfl⟩ (by
      rintro i d ρ hd ⟨x, y, rfl⟩
      obtain ⟨hi, rfl⟩ := rangeD_get hd
      have e0 : ((nextN p : Nat) : Int) + (i : Nat) = ((nextN p + i : Nat) : Int) := by omega
      rw [e0]
      have hs : ((((List.range (i + 1)).map (nextN p + ·)).map (extN p)).flatten).map partD = ((((List.range i).map (nextN p + ·)).map (extN p)).flatten).map partD ++ [partD (p ++ [(nextN p + i, false)]), partD (p ++ [(nextN p + i, true)])] := by
        simp [List.range_succ, extN]
      rw [hs]
      have ll : (((((List.range i).map (nextN p + ·)).map (extN p)).flatten).map partD).length ≤ 2 * i := by
        rw [List.length_map, List.length_flatten]
        have : ∀ l : List Nat, ((l.map (extN p)).map List.length).sum = 2 * l.length := fun l => by
          induction l with
          | nil => rfl
          | cons a l ih => simp only [List.map_cons, List.sum_cons, ih, extN, List.length_cons, List.length_nil]; omega
        rw [this]
        simp
      generalize ((((List.range i).map (nextN p + ·)).map (extN p)).flatten).map partD = fd at ll
      have lt1 : fd.length < sizeLine := Nat.lt_of_lt_of_le (by omega) (small_len (Nat.le_refl 1000000))
      have lt2 : fd.length + 1 < sizeLine := Nat.lt_of_lt_of_le (by omega) (small_len (Nat.le_refl 1000000))
      have a1 := add_part (p := p) (n := nextN p + i) (t := false) (by omega)
      have a2 := add_part (p := p) (n := nextN p + i) (t := true) (by omega)
      generalize partD p = pd at *
      generalize partD (p ++ [(nextN p + i, false)]) = p1 at *
      generalize partD (p ++ [(nextN p + i, true)]) = p2 at *
      generalize nextN p + i = k at *
      simp [forStep, forFold, fn_longer_parts_b1, fn_longer_parts_b0, two, one, a1, a2, MC.run_eq, lt1, lt2])
  rw [rangeD_len] at eρ
  have eq : longerF w p = (((List.range (w - nextN p)).map (nextN p + ·)).map (extN p)).flatten := rfl
  rw [eq]
  rcases List.eq_nil_or_concat p with rfl | ⟨r, q, rfl⟩
  · have n0 : ((nextN [] : Nat) : Int) = 0 := rfl
    rw [n0] at rg eρ
    have l0 : lenD [partD []] = .ok (.int 0, .sh) := rfl
    simp [l0, rg, eρ]
  · rw [List.concat_eq_append] at *
    rw [nextN_snoc] at *
    have e1 : ixD (partD (r ++ [q])) (.int (-1)) = .ok (prD q, .sh) := by
      refine ixD_tup ?_
      exact atI_last (r.map prD) (by simp)
    have e2 : ixD (prD q) (.int 0) = .ok (.int q.1, .sh) := ixD_tup rfl
    have l0 : lenD [partD (r ++ [q])] = .ok (.int ((r.length + 1 : Nat) : Int), .sh) := by simp
    generalize partD (r ++ [q]) = pd at *
    have c1 : ((q.1 + 1 : Nat) : Int) = (q.1 : Int) + 1 := by omega
    rw [c1] at rg eρ
    simp [l0, e1, e2, rg, eρ]
theorem smallest_unfit_ev (li : T "letters_in" = some fn_letters_in) (ni : T "names_in" = some fn_names_in) (no : T "names_of" = some fn_names_of) (f1 : T "all_bits" = some fn_all_bits) (f2 : T "letter_bits" = some fn_letter_bits) (f3 : T "table" = some fn_table)
    (bo : T "bits_of" = some fn_bits_of) (mo : T "meet_of" = some fn_meet_of) (sm : T "is_smallest" = some fn_is_smallest) (lp : T "longer_parts" = some fn_longer_parts) (f : T "smallest_unfit" = some fn_smallest_unfit) (n : Nat) {ss : List Sy} (L : Lst ss) :
    evFn T (n + 44) "smallest_unfit" [.tup (ss.map enc)] = .ok (.lst ((smallestF ss).map partD), true) := by
  have en := names_of_ev li ni no (n + 1) L
  have eb := bits_of_ev li ni no f1 f2 f3 bo n L
  have ab := all_bits_ev (T := T) f1 (n + 42) (nms := namesL ss) (by have := L.nm; omega)
  have ab : evFn T (n + 43) "all_bits" [.nms (namesL ss)] = .ok (.int ((2 ^ many ss - 1 : Nat) : Int), false) := ab
  rw [← bitP_nil] at ab
  have s6 := L.le
  have eb : evFn T (n + 43) "bits_of" [.tup (ss.map enc)] = .ok (prsD ss, true) := eb
  have mt := fun {ps : Part} (hp : PartOk ss ps) => meet_of_ev mo (n + 42) hp []
  have sl := fun {ps : Part} (hp : PartOk ss ps) (hl : ps.length ≤ 1000) => is_smallest_ev mo sm (n + 41) hp hl
  have lg := fun {p : Part} (hp : Rising ss.length p) => longer_parts_ev lp (n + 42) (by omega) hp
  have one : 1 ≤ sizeLine := by decide
  rw [evFn_succ f rfl]
  simp only [fn_smallest_unfit, startSl]
  have loop := while_nx (c := CT.ev (.cmp _ .ne (.var 4) (.lst .nil)) (evFn T (n + 43))) (b := fn_smallest_unfit_b2.ev (evFn T (n + 43)))
    (fun m ρ => ∃ (k : Nat) (q1 q4 x5 x6 x7 : Sl), ρ = [.sh (.tup (ss.map enc)), q1, .sh (.int (bitP ss [])), .ow (.lst ((foundK ss k).map partD)), q4, x5, x6, x7] ∧ (q1 = .ow (prsD ss) ∨ q1 = .sh (prsD ss)) ∧ (q4 = .ow (.lst ((lvK ss k).map partD)) ∨ q4 = .sh (.lst ((lvK ss k).map partD))) ∧ (m + k = ss.length + 2 ∨ (m = 0 ∧ lvK ss k = [])))
    (fun ρ => ∃ (q1 q4 x5 x6 x7 : Sl), ρ = [.sh (.tup (ss.map enc)), q1, .sh (.int (bitP ss [])), .ow (.lst ((unfitL ss).map partD)), q4, x5, x6, x7])
    (by
      rintro m ρ ⟨k, q1, q4, x5, x6, x7, rfl, h1, h4, hm⟩
      have ec := eqD_parts_nil (lvK ss k)
      by_cases c : lvK ss k = []
      · refine .inr ⟨?_, q1, q4, x5, x6, x7, by rw [found_end c]⟩
        rw [decide_eq_true c] at ec
        rcases h4 with rfl | rfl <;> simp [ec]
      · have hm : m + k = ss.length + 2 := by
          rcases hm with hm | hm
          · exact hm
          · exact absurd hm.2 c
        have hk : k ≤ ss.length := by
          apply Classical.byContradiction
          intro z
          exact c (lvK_end ss (by omega))
        refine .inl ⟨?_, m - 1, by omega, ?_⟩
        · rw [decide_eq_false c] at ec
          rcases h4 with rfl | rfl <;> simp [ec]
        · -- one level
          have inner : ∀ (q1 x6 x7 : Sl), (q1 = .ow (prsD ss) ∨ q1 = .sh (prsD ss)) → ∃ ρ', forFold (forStep (CG.name 6) fn_smallest_unfit_b1 (evFn T (n + 43))) ((lvK ss k).map partD) [.sh (.tup (ss.map enc)), q1, .sh (.int (bitP ss [])), .ow (.lst ((foundK ss k).map partD)), .sh (.lst ((lvK ss k).map partD)), .ow (.lst []), x6, x7] = some (.nx ρ') ∧
              ∃ q1 x6 x7, ρ' = [.sh (.tup (ss.map enc)), q1, .sh (.int (bitP ss [])), .ow (.lst ((foundK ss (k + 1)).map partD)), .sh (.lst ((lvK ss k).map partD)), .ow (.lst ((lvK ss (k + 1)).map partD)), x6, x7] ∧ (q1 = .ow (prsD ss) ∨ q1 = .sh (prsD ss)) := by
            intro q1 x6 x7 h1
            obtain ⟨ρ', e, q1, x6, x7, rfl, h1⟩ := forFold_nx (step := forStep (CG.name 6) fn_smallest_unfit_b1 (evFn T (n + 43))) (ds := (lvK ss k).map partD)
              (ρ := [.sh (.tup (ss.map enc)), q1, .sh (.int (bitP ss [])), .ow (.lst ((foundK ss k).map partD)), .sh (.lst ((lvK ss k).map partD)), .ow (.lst []), x6, x7])
              (fun i ρ => ∃ q1 x6 x7, ρ = [.sh (.tup (ss.map enc)), q1, .sh (.int (bitP ss [])), .ow (.lst ((foundK ss k ++ (candF ss ((lvK ss k).take i)).filter (newB ss)).map partD)), .sh (.lst ((lvK ss k).map partD)), .ow (.lst (((candF ss ((lvK ss k).take i)).filter (fitB ss)).map partD)), x6, x7] ∧ (q1 = .ow (prsD ss) ∨ q1 = .sh (prsD ss)))
              ⟨q1, x6, x7, by simp [candF], h1⟩ (by
                rintro i d ρ hd ⟨q1, x6, x7, rfl, h1⟩
                rw [List.getElem?_map, Option.map_eq_some_iff] at hd
                obtain ⟨p, hp, rfl⟩ := hd
                have hpm := List.mem_of_getElem? hp
                have pok := lvK_ok ss k p hpm
                have el := lg pok.2
                have ct : candF ss ((lvK ss k).take (i + 1)) = candF ss ((lvK ss k).take i) ++ longerF ss.length p := by
                  unfold candF
                  rw [List.take_succ, hp]
                  simp
                have pre : candF ss ((lvK ss k).take (i + 1)) <+: candF ss (lvK ss k) := by
                  have : candF ss (lvK ss k) = candF ss ((lvK ss k).take (i + 1)) ++ candF ss ((lvK ss k).drop (i + 1)) := by
                    unfold candF
                    rw [← List.flatten_append, ← List.map_append, List.take_append_drop]
                  rw [this]
                  exact List.prefix_append _ _
                have cl := cand_le s6 k
                have fl := found_le s6 k
                rw [ct] at pre ⊢
                have cl2 := pre.length_le
                have cmem : ∀ r ∈ longerF ss.length p, r.length = k + 1 ∧ Rising ss.length r := fun r m => cand_ok ss k r (mem_cand.mpr ⟨p, hpm, m⟩)
                generalize hc : candF ss ((lvK ss k).take i) = cs at *
                generalize hlf : longerF ss.length p = lf at *
                obtain ⟨ρ2, e2, q1, x7, rfl, h1⟩ := forFold_nx (step := forStep (CG.name 7) fn_smallest_unfit_b0 (evFn T (n + 43))) (ds := lf.map partD)
                  (ρ := [.sh (.tup (ss.map enc)), q1, .sh (.int (bitP ss [])), .ow (.lst ((foundK ss k ++ cs.filter (newB ss)).map partD)), .sh (.lst ((lvK ss k).map partD)), .ow (.lst ((cs.filter (fitB ss)).map partD)), .sh (partD p), x7])
                  (fun j ρ => ∃ q1 x7, ρ = [.sh (.tup (ss.map enc)), q1, .sh (.int (bitP ss [])), .ow (.lst ((foundK ss k ++ (cs ++ lf.take j).filter (newB ss)).map partD)), .sh (.lst ((lvK ss k).map partD)), .ow (.lst (((cs ++ lf.take j).filter (fitB ss)).map partD)), .sh (partD p), x7] ∧ (q1 = .ow (prsD ss) ∨ q1 = .sh (prsD ss)))
                  ⟨q1, x7, by simp, h1⟩ (by
                    rintro j d ρ hd ⟨q1, x7, rfl, h1⟩
                    rw [List.getElem?_map, Option.map_eq_some_iff] at hd
                    obtain ⟨r, hr, rfl⟩ := hd
                    have hrm := List.mem_of_getElem? hr
                    have rok := cmem r hrm
                    have em := mt rok.2.po
                    rw [List.nil_append] at em
                    have es := sl rok.2.po (by omega)
                    have tk : cs ++ lf.take (j + 1) = (cs ++ lf.take j) ++ [r] := by rw [List.take_succ, hr]; simp
                    rw [tk]
                    have cl3 : (cs ++ lf.take j).length ≤ 729 := by
                      have : (cs ++ lf.take j).length ≤ (cs ++ lf).length := by simp only [List.length_append, List.length_take]; omega
                      omega
                    have lt1 : ((cs ++ lf.take j).filter (fitB ss)).length < sizeLine := Nat.lt_of_lt_of_le (Nat.lt_of_le_of_lt (List.length_filter_le _ _) (Nat.lt_of_le_of_lt cl3 (by decide))) (small_len (Nat.le_refl 1000000))
                    have lt2 : (foundK ss k).length + ((cs ++ lf.take j).filter (newB ss)).length < sizeLine := by
                      have := List.length_filter_le (newB ss) (cs ++ lf.take j)
                      exact Nat.lt_of_lt_of_le (show _ < 1000000 by omega) (small_len (Nat.le_refl 1000000))
                    generalize cs ++ lf.take j = c1 at *
                    have c0 : ((bitP ss r : Nat) : Int) = 0 ↔ fitB ss r = false := by
                      unfold fitB
                      rw [decide_eq_false_iff_not]
                      omega
                    have nb : newB ss r = (!fitB ss r && smallB ss r) := rfl
                    have f1 : ∀ g : Part → Bool, (c1 ++ [r]).filter g = c1.filter g ++ (if g r = true then [r] else []) := fun g => by
                      rw [List.filter_append]
                      cases hg : g r <;> simp [hg]
                    rw [f1, f1, nb]
                    clear f1 nb
                    refine nx_gen fun Q hQ => ?_
                    have fin : ∀ {A B : List Part}, A = foundK ss k ++ (c1.filter (newB ss) ++ (if (!fitB ss r && smallB ss r) = true then [r] else [])) → B = c1.filter (fitB ss) ++ (if fitB ss r = true then [r] else []) → Q [.sh (.tup (ss.map enc)), .sh (prsD ss), .sh (.int (bitP ss [])), .ow (.lst (A.map partD)), .sh (.lst ((lvK ss k).map partD)), .ow (.lst (B.map partD)), .sh (partD p), .sh (partD r)] := fun {A B} ea eb => hQ _ ⟨.sh (prsD ss), .sh (partD r), by rw [ea, eb], .inr rfl⟩
                    clear hQ
                    generalize c1.filter (newB ss) = A0 at *
                    generalize c1.filter (fitB ss) = B0 at *
                    generalize foundK ss k = F0 at *
                    generalize (lvK ss k).map partD = LV at *
                    generalize prsD ss = prs at *
                    generalize bitP ss [] = st at *
                    generalize fitB ss r = cf at *
                    generalize smallB ss r = cs2 at *
                    have em : evFn T (n + 43) "meet_of" [prs, partD r, .int st] = .ok (.int (bitP ss r), false) := em
                    have es : evFn T (n + 43) "is_smallest" [prs, partD r, .int st] = .ok (.bl cs2, false) := es
                    generalize bitP ss r = br at *
                    generalize evFn T (n + 43) = E at em es ⊢
                    cases cf with
                    | true =>
                      have hb : 0 < br := by
                        apply Classical.byContradiction
                        intro z
                        have := c0.mp (by omega)
                        cases this
                      have g := fin (A := F0 ++ A0) (B := B0 ++ [r]) (by simp) (by simp)
                      simp only [List.map_append, List.map_cons, List.map_nil] at g
                      rcases h1 with rfl | rfl <;> simp [forStep, fn_smallest_unfit_b0, shareSl, em, hb, MC.run_eq, lt1, g]
                    | false =>
                      have hb : br = 0 := by have := c0.mpr rfl; omega
                      subst hb
                      cases cs2 with
                      | true =>
                        have g := fin (A := F0 ++ A0 ++ [r]) (B := B0) (by simp) (by simp)
                        simp only [List.map_append, List.map_cons, List.map_nil] at g
                        have lt2' : F0.length + A0.length < sizeLine := lt2
                        rcases h1 with rfl | rfl <;> simp [forStep, fn_smallest_unfit_b0, shareSl, em, es, MC.run_eq, lt2', g]
                        · simpa using g
                        · simpa using g
                      | false =>
                        have g := fin (A := F0 ++ A0) (B := B0) (by simp) (by simp)
                        simp only [List.map_append] at g
                        rcases h1 with rfl | rfl <;> simp [forStep, fn_smallest_unfit_b0, shareSl, em, es, g])
                rw [List.length_map, List.take_length] at e2
                refine nx_gen fun Q hQ => ?_
                have g := hQ _ ⟨q1, .sh (partD p), x7, rfl, h1⟩
                clear hQ
                have el : evFn T (n + 43) "longer_parts" [partD p, .int ss.length] = .ok (.lst (lf.map partD), true) := el
                generalize evFn T (n + 43) = E at el e2 ⊢
                generalize partD p = pd at *
                generalize (foundK ss k ++ cs.filter (newB ss)).map partD = F1 at *
                generalize (cs.filter (fitB ss)).map partD = B1 at *
                generalize (foundK ss k ++ (cs ++ lf).filter (newB ss)).map partD = F2 at *
                generalize ((cs ++ lf).filter (fitB ss)).map partD = B2 at *
                simp [forStep, fn_smallest_unfit_b1, el, e2, g])
            rw [List.length_map, List.take_length] at e
            exact ⟨_, e, q1, x6, x7, rfl, h1⟩
          have fin : ∀ (ρ : List Sl), (∃ q1 x5 x6 x7, ρ = [.sh (.tup (ss.map enc)), q1, .sh (.int (bitP ss [])), .ow (.lst ((foundK ss (k + 1)).map partD)), .sh (.lst ((lvK ss (k + 1)).map partD)), x5, x6, x7] ∧ (q1 = .ow (prsD ss) ∨ q1 = .sh (prsD ss))) → ∃ (k : Nat) (q1 q4 x5 x6 x7 : Sl), ρ = [.sh (.tup (ss.map enc)), q1, .sh (.int (bitP ss [])), .ow (.lst ((foundK ss k).map partD)), q4, x5, x6, x7] ∧ (q1 = .ow (prsD ss) ∨ q1 = .sh (prsD ss)) ∧ (q4 = .ow (.lst ((lvK ss k).map partD)) ∨ q4 = .sh (.lst ((lvK ss k).map partD))) ∧ (m - 1 + k = ss.length + 2 ∨ (m - 1 = 0 ∧ lvK ss k = [])) := by
            rintro ρ ⟨q1, x5, x6, x7, rfl, h1⟩
            exact ⟨k + 1, q1, _, x5, x6, x7, rfl, h1, .inr rfl, .inl (by omega)⟩
          refine nx_gen fun Q hQ => ?_
          obtain ⟨_, e, q1', x6', x7', rfl, h1'⟩ := inner q1 x6 x7 h1
          have g := hQ _ (fin _ ⟨q1', .sh (.lst ((lvK ss (k + 1)).map partD)), x6', x7', rfl, h1'⟩)
          clear hQ fin inner
          generalize evFn T (n + 43) = E at e ⊢
          rcases h4 with rfl | rfl <;> simp [fn_smallest_unfit_b2, shareSl, e, g]) wfuel (ss.length + 2) _ ⟨0, .ow (prsD ss), .ow (.lst ((lvK ss 0).map partD)), .no, .no, .no, rfl, .inl rfl, .inl rfl, .inl rfl⟩ (by rw [wfuel_eq]; omega)
  obtain ⟨ρ, eρ, q1, q4, x5, x6, x7, rfl⟩ := loop
  have so := sorted_parts (unfit_nd ss) fun p m => by
    have := (found_ok ss _ p m).1
    intro z
    subst z
    simp at this
  have so : sortedD [.lst ((unfitL ss).map partD)] = .ok (.lst ((smallestF ss).map partD), .fr) := so
  have lv0 : (lvK ss 0).map partD = [.tup []] := rfl
  have f0 : (foundK ss 0).map partD = [] := rfl
  rw [lv0, f0] at eρ
  generalize evFn T (n + 43) = E at *
  generalize bitP ss [] = st at *
  generalize prsD ss = prs at *
  simp [eb, en, ab, one, eρ, so]
end
end MJ

namespace MJ
open PySem PySem.Spec PyProof.Rows L2
def grStep (f p : Part) : Part := if f.length < p.length then p else f
def greatF (ss : List Sy) : Part := (smallestF ss).foldl grStep []
theorem gr_fold : ∀ (l : List Part) (f : Part), (l.foldl grStep f = f ∨ l.foldl grStep f ∈ l) ∧ f.length ≤ (l.foldl grStep f).length ∧ ∀ p ∈ l, p.length ≤ (l.foldl grStep f).length
  | [], f => ⟨.inl rfl, Nat.le_refl _, fun p m => by cases m⟩
  | x :: l, f => by
    obtain ⟨h1, h2, h3⟩ := gr_fold l (grStep f x)
    simp only [List.foldl_cons]
    have hs : f.length ≤ (grStep f x).length ∧ x.length ≤ (grStep f x).length ∧ (grStep f x = f ∨ grStep f x = x) := by
      unfold grStep
      split
      · exact ⟨by omega, Nat.le_refl _, .inr rfl⟩
      · exact ⟨Nat.le_refl _, by omega, .inl rfl⟩
    refine ⟨?_, by omega, fun p m => ?_⟩
    · rcases h1 with h1 | h1
      · rw [h1]
        rcases hs.2.2 with e | e
        · exact .inl e
        · exact .inr (by rw [e]; simp)
      · exact .inr (List.mem_cons_of_mem _ h1)
    · rcases List.mem_cons.mp m with rfl | m
      · omega
      · exact h3 p m
theorem great_mem (ss : List Sy) : greatF ss = [] ∨ greatF ss ∈ smallestF ss := (gr_fold _ _).1
theorem great_max {ss : List Sy} {p : Part} (h : p ∈ smallestF ss) : p.length ≤ (greatF ss).length := (gr_fold _ _).2.2 p h
theorem great_le {ss : List Sy} (h : ss.length ≤ 6) : (greatF ss).length ≤ 6 := by
  rcases great_mem ss with e | m
  · rw [e]; simp
  · have := (smallest_ok m).2.1
    omega
/-- the least quota -/
def lqF (s : Nat) (m : Int) : Int := if 2 < s then (if m * ((s : Int) - 1) / (s : Int) + 1 > m / 2 + 1 then m * ((s : Int) - 1) / (s : Int) + 1 else m / 2 + 1) else m / 2 + 1
section
variable {T : Str → Option Fn}
theorem greatest_ev {lev : Nat} {ss : List Sy} (su : evFn T lev "smallest_unfit" [.tup (ss.map enc)] = .ok (.lst ((smallestF ss).map partD), true)) (f : T "greatest_unfit" = some fn_greatest_unfit) :
    evFn T (lev + 1) "greatest_unfit" [.tup (ss.map enc)] = .ok (partD (greatF ss), false) := by
  rw [evFn_succ f rfl]
  simp only [fn_greatest_unfit, startSl]
  obtain ⟨ρ, eρ, x, rfl⟩ := forFold_nx (step := forStep (CG.name 2) fn_greatest_unfit_b0 (evFn T lev)) (ds := (smallestF ss).map partD) (ρ := [.sh (.tup (ss.map enc)), .sh (partD []), .no])
    (fun i ρ => ∃ x, ρ = [.sh (.tup (ss.map enc)), .sh (partD (((smallestF ss).take i).foldl grStep [])), x]) ⟨_, rfl⟩ (by
      rintro i d ρ hd ⟨x, rfl⟩
      rw [List.getElem?_map, Option.map_eq_some_iff] at hd
      obtain ⟨p, hp, rfl⟩ := hd
      have e : ((smallestF ss).take (i + 1)).foldl grStep [] = grStep (((smallestF ss).take i).foldl grStep []) p := by rw [List.take_succ, hp]; simp
      rw [e]
      generalize ((smallestF ss).take i).foldl grStep [] = f
      unfold grStep
      by_cases c : f.length < p.length
      · rw [if_pos c]
        simp [forStep, fn_greatest_unfit_b0, c]
      · rw [if_neg c]
        simp [forStep, fn_greatest_unfit_b0, c])
  rw [List.length_map, List.take_length] at eρ
  have e : greatF ss = (smallestF ss).foldl grStep [] := rfl
  rw [← e] at eρ
  have e0 : partD [] = .tup [] := rfl
  rw [e0] at eρ
  simp [su, eρ]
theorem least_quota_ev {lev : Nat} {ss : List Sy} (L : Lst ss) (gr : evFn T lev "greatest_unfit" [.tup (ss.map enc)] = .ok (partD (greatF ss), false)) (f : T "least_quota" = some fn_least_quota) {m : Int} (m0 : 0 ≤ m) (m1 : m < 1000) :
    evFn T (lev + 1) "least_quota" [.tup (ss.map enc), .int m] = .ok (.int (lqF (greatF ss).length m), false) := by
  rw [evFn_succ f rfl]
  simp only [fn_least_quota, startSl]
  have g6 := great_le L.le
  have lp := lenD_part (greatF ss)
  have d2 : CDivW m 2 := cdiv2
  unfold lqF
  generalize (greatF ss).length = s at *
  generalize partD (greatF ss) = gd at *
  by_cases c : 2 < s
  · have ms : CMulW m ((s : Int) - 1) := cmul_of (bdk (a := 20) m0 (by omega)) (bdk (a := 20) (by omega) (by omega))
    have ds : CDivW (m * ((s : Int) - 1)) (s : Int) := cdiv_of (b := 20) (by omega) (bdk (by omega) (by omega))
    have c' : (2 : Int) < (s : Int) := by omega
    simp [gr, lp, d2, c, c', ms, ds]
  · have c' : ¬ (2 : Int) < (s : Int) := by omega
    simp [gr, lp, d2, c, c']
end
/-- the law's own count is the same -/
theorem lq_cond {m d : Int} {s : Nat} (m0 : 1 ≤ m) (hd : m / 2 + 1 ≤ d) : (s : Int) * d ≤ m * ((s : Int) - 1) ∧ 1 ≤ s ↔ d < lqF s m ∧ 1 ≤ s := by
  unfold lqF
  by_cases c : 2 < s
  · rw [if_pos c]
    have h1 : (d ≤ m * ((s : Int) - 1) / (s : Int)) ↔ d * (s : Int) ≤ m * ((s : Int) - 1) := Int.le_ediv_iff_mul_le (by omega)
    rw [Int.mul_comm d] at h1
    constructor
    · rintro ⟨h, h'⟩
      have := h1.mpr h
      exact ⟨by split <;> omega, h'⟩
    · rintro ⟨h, h'⟩
      refine ⟨h1.mp ?_, h'⟩
      split at h <;> omega
  · rw [if_neg c]
    constructor
    · rintro ⟨h, h'⟩
      have : s = 1 ∨ s = 2 := by omega
      rcases this with rfl | rfl
      · simp at h; omega
      · simp at h; omega
    · rintro ⟨h, h'⟩
      omega
theorem lq_mono {m d : Int} {s t : Nat} (m0 : 1 ≤ m) (hst : s ≤ t) (hs : 1 ≤ s) (h : (s : Int) * d ≤ m * ((s : Int) - 1)) : (t : Int) * d ≤ m * ((t : Int) - 1) := by
  have e1 : m ≤ (s : Int) * (m - d) := by
    rw [Int.mul_sub] at h ⊢
    have := Int.mul_comm (s : Int) m
    omega
  have hd : 0 ≤ m - d := by
    apply Classical.byContradiction
    intro z
    have : (s : Int) * (m - d) ≤ 0 := Int.mul_nonpos_of_nonneg_of_nonpos (by omega) (by omega)
    omega
  have e2 : (s : Int) * (m - d) ≤ (t : Int) * (m - d) := Int.mul_le_mul_of_nonneg_right (by omega) hd
  rw [Int.mul_sub] at e2 ⊢
  rw [Int.mul_sub] at e2
  rw [Int.mul_sub] at e1
  have := Int.mul_comm (s : Int) m
  have := Int.mul_comm (t : Int) m
  omega
theorem lq_le {m : Int} {s : Nat} (m0 : 1 ≤ m) : lqF s m ≤ m + 1 ∧ m / 2 + 1 ≤ lqF s m := by
  unfold lqF
  split
  · rename_i c
    have h1 : m * ((s : Int) - 1) / (s : Int) ≤ m := by
      have : m * ((s : Int) - 1) / (s : Int) < m + 1 := by
        apply Int.ediv_lt_of_lt_mul (by omega)
        rw [Int.mul_sub, Int.add_mul]
        omega
      omega
    split <;> omega
  · omega
end MJ

namespace MJ
open PySem PySem.Spec PyProof.Rows L2
section
variable {T : Str → Option Fn} (ns : List Int)
theorem saying1_ev (h : T "_law_cell" = some fn_law_cell) (g : T "_law_pick" = some fn_law_pick) (f : T "_law_saying" = some fn_law_saying1) (hl : ns.length ≤ 4000)
    {nms : List Str} (hn : nms ≠ []) (hn5 : nms.length ≤ 1000) : ∀ (r n : Nat) (k room : Int), 1 ≤ room → room ≤ r → r ≤ 1000 → 0 ≤ k → k + 6 * room ≤ 2000000 →
    ∃ s : Sy, evFn T (n + r + 2) "_law_saying" [sc ns, .int k, .int room, .lst (nms.map .str)] = .ok (enc s, false) ∧ (s.pieces : Int) ≤ room ∧ ∀ z ∈ s.lets, z ∈ nms
  | 0, n, k, room => by intros; omega
  | r + 1, n, k, room => by
    intro hr1 hr hr9 hk0 hk
    have bk : ∀ j : Int, 0 ≤ j → j ≤ 2000100 → bd j 60 := fun j h0 h1 => bd_of h0 (show j < 4000000 by omega) (by decide)
    have P := fun {k m : Int} (h0 : 0 ≤ k) (h1 : k ≤ 2000100) => pick_ev ns h g hl (n + r) (k := k) (m := m) h0 (bk k h0 h1)
    have ih := saying1_ev h g f hl hn hn5 r n
    rw [show n + (r + 1) + 2 = (n + r + 2) + 1 by omega, evFn_succ f rfl]
    have two : 2 ≤ sizeLine := by decide
    have three : 3 ≤ sizeLine := by decide
    obtain ⟨w, w0, w1, ew⟩ := P (k := k) hk0 (by omega) (show (0 : Int) < 9 by decide)
    simp only [fn_law_saying1, startSl]
    by_cases c : room < 2 ∨ w = 0
    · have hl0 : 0 < nms.length := List.length_pos_iff.mpr hn
      obtain ⟨q, q0, q1, eq⟩ := P (k := k + 1) (m := (nms.length : Int)) (by omega) (by omega) (by omega)
      obtain ⟨d, ed, _, hm⟩ := atI_of (xs := nms.map D.str) q0 (by simpa using q1)
      obtain ⟨z, hz, rfl⟩ := List.mem_map.mp hm
      refine ⟨.ltr z, ?_, by simp [Sy.pieces]; omega, by simpa [Sy.lets] using hz⟩
      by_cases c2 : room < 2
      · simp [ew, c2, eq, ixD_lst ed, two, enc, wLetter]
      · have c3 : w = 0 := by omega
        subst c3
        simp [ew, c2, eq, ixD_lst ed, two, enc, wLetter]
    · have c2 : ¬ room < 2 := fun z => c (.inl z)
      have c3 : ¬ w = 0 := fun z => c (.inr z)
      have c3' : (w == 0) = false := by simpa using c3
      by_cases c4 : room = 2 ∨ w = 1
      · obtain ⟨s, es, hs, hz⟩ := ih (k + 3) (room - 1) (by omega) (by omega) (by omega) (by omega) (by omega)
        refine ⟨.not s, ?_, by simp only [Sy.pieces]; omega, hz⟩
        by_cases c5 : room = 2
        · subst c5
          simp only [Int.reduceSub] at es
          simp [ew, c3', es, two, enc, wNot]
        · have c6 : w = 1 := by omega
          subst c6
          have c5' : (room == 2) = false := by simpa using c5
          simp [ew, c2, c5', es, two, enc, wNot]
      · have c5 : ¬ room = 2 := fun z => c4 (.inl z)
        have c6 : ¬ w = 1 := fun z => c4 (.inr z)
        have c5' : (room == 2) = false := by simpa using c5
        have c6' : (w == 1) = false := by simpa using c6
        obtain ⟨q, q0, q1, eq⟩ := P (k := k + 1) (m := room - 2) (by omega) (by omega) (by omega)
        obtain ⟨o, o0, o1, eo⟩ := P (k := k + 2) (m := 3) (by omega) (by omega) (by decide)
        have m3 : CMulW 3 (1 + q) := cmul_of (show bd 3 2 by decide) (bdk (a := 20) (by omega) (by omega))
        obtain ⟨s1, ea, h1, z1⟩ := ih (k + 3) (1 + q) (by omega) (by omega) (by omega) (by omega) (by omega)
        obtain ⟨s2, eb, h2, z2⟩ := ih (k + 3 + 3 * (1 + q)) (room - 1 - (1 + q)) (by omega) (by omega) (by omega) (by omega) (by omega)
        obtain ⟨o3, ho⟩ := op3_at o0 o1
        refine ⟨.bin o3 s1 s2, ?_, by simp only [Sy.pieces]; omega, fun z hz => ?_⟩
        · simp [ew, c2, c3', c5', c6', eq, eo, m3, ea, eb, ho, three, enc]
        · rcases List.mem_append.mp hz with m | m
          · exact z1 z m
          · exact z2 z m
theorem SayOk.plain (h : T "_law_cell" = some fn_law_cell) (g : T "_law_pick" = some fn_law_pick) (f : T "_law_saying" = some fn_law_saying1) (hl : ns.length ≤ 4000) (n : Nat) : SayOk T ns (n + 42) :=
  fun nms k room hn h5 k0 k1 r1 r40 => saying1_ev ns h g f hl hn (by omega) 40 n k room r1 r40 (by decide) k0 (by omega)
theorem list0_ev (h : T "_law_cell" = some fn_law_cell) (g : T "_law_pick" = some fn_law_pick) (nmf : T "_law_names" = some fn_law_names) (kn : T "_law_knit" = some fn_law_knit2) (lk : T "_law_linked" = some fn_law_linked1)
    (f : T "_law_list" = some fn_law_list) (hl : ns.length ≤ 4000) (n : Nat) (sy : SayOk T ns (n + 60)) {k : Int} (k0 : 0 ≤ k) (k1 : k < 1000) :
    ∃ ss : List Sy, evFn T (n + 61) "_law_list" [sc ns, .int k] = .ok (.tup (ss.map enc), false) ∧ Lst ss := by
  have P := fun {k m : Int} (h0 : 0 ≤ k) (h1 : k < 1000000) => pick_ev ns h g hl (n + 58) (k := k) (m := m) h0 (bdk h0 h1)
  obtain ⟨r1, r10, r11, e1⟩ := P (k := k + 5) (m := 5) (by omega) (by omega) (by decide)
  obtain ⟨r2, r20, r21, e2⟩ := P (k := k + 6) (m := 2) (by omega) (by omega) (by decide)
  obtain ⟨r3, r30, r31, e3⟩ := P (k := k + 7) (m := 6) (by omega) (by omega) (by decide)
  obtain ⟨nms, en, hn, hnm, hnd⟩ := names_ev ns h g nmf hl (n + 57) (k := k) (m := 1 + r1) k0 (bdk k0 (by omega)) (by omega) (by omega)
  by_cases c : r2 = 0
  · subst c
    obtain ⟨ss, es, s1, s6, sp⟩ := linked_ev ns h g kn lk hl (n + 57) (k := k + 70) (by omega) (by omega) (nms := nms) (by omega) (by omega)
    refine ⟨ss, ?_, .of s1 s6 (by omega) hnm sp⟩
    rw [evFn_succ f rfl]
    simp only [fn_law_list, startSl]
    simp [e1, en, e2, shareSl, es]
  · have c' : (r2 == 0) = false := by simpa using c
    have rg := rg1_of (show (0 : Int) ≤ 1 + r3 by omega) (show 1 + r3 < 4611686018427387904 by omega)
    have hne : nms ≠ [] := by intro z; subst z; simp at hn; omega
    have five : 5 ≤ sizeLine := by decide
    obtain ⟨ρ, eρ, ss, q, x, y, rfl, sl, sp⟩ := forFold_nx (step := forStep (CG.name 4) fn_law_list_b0 (evFn T (n + 60))) (ds := rangeD 0 (1 + r3).toNat)
      (ρ := [.sh (sc ns), .sh (.int k), .ow (.lst (nms.map .str)), .ow (.lst []), .no, .no])
      (fun i ρ => ∃ (ss : List Sy) (q x y : Sl), ρ = [.sh (sc ns), .sh (.int k), q, .ow (.lst (ss.map enc)), x, y] ∧ ss.length = i ∧ (q = .ow (.lst (nms.map .str)) ∨ q = .sh (.lst (nms.map .str))) ∧ ∀ s ∈ ss, s.pieces ≤ 40 ∧ ∀ z ∈ s.lets, z ∈ nms)
      ⟨[], _, _, _, rfl, rfl, .inl rfl, fun s m => by cases m⟩ (by
        rintro i d ρ hd ⟨ss, q, x, y, rfl, sl, hq, sp⟩
        obtain ⟨hi, rfl⟩ := rangeD_get hd
        have i6 : (i : Int) < 6 := by omega
        obtain ⟨p, p0, p1, ep⟩ := P (k := k + 60 + (i : Int)) (m := 5) (by omega) (by omega) (by decide)
        obtain ⟨m, em, m1, m9⟩ : ∃ m : Int, ixD (.lst [.int 1, .int 1, .int 3, .int 4, .int 9]) (.int p) = .ok (.int m, .sh) ∧ 1 ≤ m ∧ m ≤ 9 := by
          have : p = 0 ∨ p = 1 ∨ p = 2 ∨ p = 3 ∨ p = 4 := by omega
          rcases this with rfl | rfl | rfl | rfl | rfl
          · exact ⟨1, rfl, by decide, by decide⟩
          · exact ⟨1, rfl, by decide, by decide⟩
          · exact ⟨3, rfl, by decide, by decide⟩
          · exact ⟨4, rfl, by decide, by decide⟩
          · exact ⟨9, rfl, by decide, by decide⟩
        obtain ⟨s, es, hp, hz⟩ := sy nms (k + 80 + 31 * (i : Int)) m hne (by omega) (by omega) (by omega) m1 (by omega)
        have m31 : CMulW 31 (i : Int) := cmul_of (show bd 31 5 by decide) (bdk (a := 20) (by omega) (by omega))
        have lt : ss.length < sizeLine := Nat.lt_of_lt_of_le (by omega) (small_len (Nat.le_refl 1000000))
        rcases hq with rfl | rfl
        · simp [forStep, fn_law_list_b0, ep, em, m31, shareSl, es, MC.run_eq, lt, five]
          refine ⟨ss ++ [s], .sh (.lst (nms.map .str)), by simp, by simp [sl], .inr rfl, fun t m => ?_⟩
          rcases List.mem_append.mp m with m | m
          · exact sp t m
          · simp only [List.mem_singleton] at m; subst m; exact ⟨by omega, hz⟩
        · simp [forStep, fn_law_list_b0, ep, em, m31, shareSl, es, MC.run_eq, lt, five]
          refine ⟨ss ++ [s], .sh (.lst (nms.map .str)), by simp, by simp [sl], .inr rfl, fun t m => ?_⟩
          rcases List.mem_append.mp m with m | m
          · exact sp t m
          · simp only [List.mem_singleton] at m; subst m; exact ⟨by omega, hz⟩)
    rw [rangeD_len] at sl
    refine ⟨ss, ?_, .of (by omega) (by omega) (by omega) hnm sp.2⟩
    rw [evFn_succ f rfl]
    simp only [fn_law_list, startSl]
    simp [e1, en, e2, c', e3, rg, eρ]
theorem list2_ev (h : T "_law_cell" = some fn_law_cell) (g : T "_law_pick" = some fn_law_pick) (nmf : T "_law_names" = some fn_law_names) (kn : T "_law_knit" = some fn_law_knit2) (lk : T "_law_linked" = some fn_law_linked1)
    (f : T "_law_list" = some fn_law_list2) (hl : ns.length ≤ 4000) (n : Nat) (sy : SayOk T ns (n + 60)) {k : Int} (k0 : 0 ≤ k) (k1 : k < 1000) :
    ∃ ss : List Sy, evFn T (n + 61) "_law_list" [sc ns, .int k] = .ok (.tup (ss.map enc), false) ∧ Lst ss := by
  have P := fun {k m : Int} (h0 : 0 ≤ k) (h1 : k < 1000000) => pick_ev ns h g hl (n + 58) (k := k) (m := m) h0 (bdk h0 h1)
  obtain ⟨r1, r10, r11, e1⟩ := P (k := k + 5) (m := 4) (by omega) (by omega) (by decide)
  obtain ⟨r2, r20, r21, e2⟩ := P (k := k + 6) (m := 2) (by omega) (by omega) (by decide)
  obtain ⟨r3, r30, r31, e3⟩ := P (k := k + 7) (m := 6) (by omega) (by omega) (by decide)
  obtain ⟨nms, en, hn, hnm, hnd⟩ := names_ev ns h g nmf hl (n + 57) (k := k) (m := 1 + r1) k0 (bdk k0 (by omega)) (by omega) (by omega)
  by_cases c : r2 = 0
  · subst c
    obtain ⟨ss, es, s1, s6, sp⟩ := linked_ev ns h g kn lk hl (n + 57) (k := k + 70) (by omega) (by omega) (nms := nms) (by omega) (by omega)
    refine ⟨ss, ?_, .of s1 s6 (by omega) hnm sp⟩
    rw [evFn_succ f rfl]
    simp only [fn_law_list2, startSl]
    simp [e1, en, e2, shareSl, es]
  · have c' : (r2 == 0) = false := by simpa using c
    have rg := rg1_of (show (0 : Int) ≤ 1 + r3 by omega) (show 1 + r3 < 4611686018427387904 by omega)
    have hne : nms ≠ [] := by intro z; subst z; simp at hn; omega
    have five : 5 ≤ sizeLine := by decide
    obtain ⟨ρ, eρ, ss, q, x, y, rfl, sl, sp⟩ := forFold_nx (step := forStep (CG.name 4) fn_law_list2_b0 (evFn T (n + 60))) (ds := rangeD 0 (1 + r3).toNat)
      (ρ := [.sh (sc ns), .sh (.int k), .ow (.lst (nms.map .str)), .ow (.lst []), .no, .no])
      (fun i ρ => ∃ (ss : List Sy) (q x y : Sl), ρ = [.sh (sc ns), .sh (.int k), q, .ow (.lst (ss.map enc)), x, y] ∧ ss.length = i ∧ (q = .ow (.lst (nms.map .str)) ∨ q = .sh (.lst (nms.map .str))) ∧ ∀ s ∈ ss, s.pieces ≤ 40 ∧ ∀ z ∈ s.lets, z ∈ nms)
      ⟨[], _, _, _, rfl, rfl, .inl rfl, fun s m => by cases m⟩ (by
        rintro i d ρ hd ⟨ss, q, x, y, rfl, sl, hq, sp⟩
        obtain ⟨hi, rfl⟩ := rangeD_get hd
        have i6 : (i : Int) < 6 := by omega
        obtain ⟨p, p0, p1, ep⟩ := P (k := k + 60 + (i : Int)) (m := 5) (by omega) (by omega) (by decide)
        obtain ⟨m, em, m1, m9⟩ : ∃ m : Int, ixD (.lst [.int 1, .int 1, .int 3, .int 4, .int 9]) (.int p) = .ok (.int m, .sh) ∧ 1 ≤ m ∧ m ≤ 9 := by
          have : p = 0 ∨ p = 1 ∨ p = 2 ∨ p = 3 ∨ p = 4 := by omega
          rcases this with rfl | rfl | rfl | rfl | rfl
          · exact ⟨1, rfl, by decide, by decide⟩
          · exact ⟨1, rfl, by decide, by decide⟩
          · exact ⟨3, rfl, by decide, by decide⟩
          · exact ⟨4, rfl, by decide, by decide⟩
          · exact ⟨9, rfl, by decide, by decide⟩
        obtain ⟨s, es, hp, hz⟩ := sy nms (k + 80 + 31 * (i : Int)) m hne (by omega) (by omega) (by omega) m1 (by omega)
        have m31 : CMulW 31 (i : Int) := cmul_of (show bd 31 5 by decide) (bdk (a := 20) (by omega) (by omega))
        have lt : ss.length < sizeLine := Nat.lt_of_lt_of_le (by omega) (small_len (Nat.le_refl 1000000))
        rcases hq with rfl | rfl
        · simp [forStep, fn_law_list2_b0, ep, em, m31, shareSl, es, MC.run_eq, lt, five]
          refine ⟨ss ++ [s], .sh (.lst (nms.map .str)), by simp, by simp [sl], .inr rfl, fun t m => ?_⟩
          rcases List.mem_append.mp m with m | m
          · exact sp t m
          · simp only [List.mem_singleton] at m; subst m; exact ⟨by omega, hz⟩
        · simp [forStep, fn_law_list2_b0, ep, em, m31, shareSl, es, MC.run_eq, lt, five]
          refine ⟨ss ++ [s], .sh (.lst (nms.map .str)), by simp, by simp [sl], .inr rfl, fun t m => ?_⟩
          rcases List.mem_append.mp m with m | m
          · exact sp t m
          · simp only [List.mem_singleton] at m; subst m; exact ⟨by omega, hz⟩)
    rw [rangeD_len] at sl
    refine ⟨ss, ?_, .of (by omega) (by omega) (by omega) hnm sp.2⟩
    rw [evFn_succ f rfl]
    simp only [fn_law_list2, startSl]
    simp [e1, en, e2, c', e3, rg, eρ]
theorem free_ev (f : T "_law_free" = some fn_law_free) (n : Nat) (hl : ns.length ≤ 63) : ∃ (ms : List Int) (b : Bool), evFn T (n + 1) "_law_free" [sc ns] = .ok (sc ms, b) ∧ ms.length ≤ 4000 := by
  rw [evFn_succ f rfl]
  simp only [fn_law_free, startSl]
  cases ns with
  | nil => exact ⟨[], false, by simp [sc], by simp⟩
  | cons v vs =>
    have lsc : lenD [sc (v :: vs)] = .ok (.int ((vs.length + 1 : Nat) : Int), .sh) := by simp [sc]
    have e0 : ixD (sc (v :: vs)) (.int 0) = .ok (.int v, .sh) := ixD_lst_nat (i := 0) (by simp)
    have lne : ((((vs.length + 1 : Nat) : Int)) == 0) = false := by rw [beq_eq_false_iff_ne]; omega
    generalize ((vs.length + 1 : Nat) : Int) = N at lsc lne
    have lne' : ¬ N = 0 := by simpa using lne
    by_cases c : v % 2 = 0
    · exact ⟨v :: vs, false, by simp [lsc, e0, lne, lne', c], by omega⟩
    · have c' : (v % 2 == 0) = false := by simpa using c
      have hcut : cutD ((v :: vs).map D.int) (some 1) (some 63) = ((vs.take 62)).map .int := by
        simp only [cutD]
        rw [sIx_of (by decide), sIx_of (by decide)]
        simp only [List.length_cons, List.length_map] at hl ⊢
        rw [show min (Int.toNat 63) (vs.length + 1) = vs.length + 1 by simp at hl; omega, show min (Int.toNat 1) (vs.length + 1) = 1 by simp]
        simp only [List.map_cons, List.drop_succ_cons, List.drop_zero]
        rw [List.take_of_length_le (by simp), List.take_of_length_le (by simp at hl; omega)]
      have e1 : sliceD (sc (v :: vs)) (some 1) (some 63) = .ok (.lst ((vs.take 62).map .int), .fr) := by
        rw [← hcut]; rfl
      have one : 1 ≤ sizeLine := by decide
      have hl2 : (vs.take 62).length ≤ 62 := by rw [List.length_take]; omega
      have ad := addD_lst (as := [.int (v / 2)]) (bs := (vs.take 62).map .int) (by simp; omega)
      have d2 : CDivW v 2 := cdiv2
      have p61 : CPow 10 61 := cpow_nat (a := 10) (j := 61) (by decide) (by decide)
      have hls : ([D.int (v / 2)] ++ (vs.take 62).map .int) = (v / 2 :: vs.take 62).map .int := by simp
      rw [hls] at ad
      have hll : (v / 2 :: vs.take 62).length ≤ 63 := by simp only [List.length_cons]; omega
      generalize v / 2 :: vs.take 62 = ls at ad hll
      have rg := rg1_of (show (0 : Int) ≤ (ls.length : Int) by omega) (show (ls.length : Int) < 4611686018427387904 by omega)
      rw [Int.toNat_natCast] at rg
      obtain ⟨ρ, eρ, ls2, ms, x, y, rfl, _, hms⟩ := forFold_nx (step := forStep (CG.name 3) fn_law_free_b1 (evFn T n)) (ds := rangeD 0 26) (ρ := [.sh (sc (v :: vs)), .ow (.lst (ls.map .int)), .ow (.lst []), .no, .no])
        (fun i ρ => ∃ (ls2 ms : List Int) (x y : Sl), ρ = [.sh (sc (v :: vs)), .ow (.lst (ls2.map .int)), .ow (.lst (ms.map .int)), x, y] ∧ ls2.length = ls.length ∧ ms.length = i * ls.length)
        ⟨ls, [], _, _, rfl, rfl, by simp⟩ (by
          rintro i d ρ hd ⟨ls2, ms, x, y, rfl, h1, h2⟩
          obtain ⟨hi, rfl⟩ := rangeD_get hd
          have il : i * ls.length ≤ 25 * 63 := Nat.mul_le_mul (by omega) hll
          obtain ⟨ρ2, e2, ls3, ms3, y3, rfl, h3, h4⟩ := forFold_nx (step := forStep (CG.name 4) fn_law_free_b0 (evFn T n)) (ds := rangeD 0 ls.length) (ρ := [.sh (sc (v :: vs)), .ow (.lst (ls2.map .int)), .ow (.lst (ms.map .int)), .sh (.int (i : Int)), y])
            (fun j ρ => ∃ (ls3 ms3 : List Int) (y : Sl), ρ = [.sh (sc (v :: vs)), .ow (.lst (ls3.map .int)), .ow (.lst (ms3.map .int)), .sh (.int (i : Int)), y] ∧ ls3.length = ls.length ∧ ms3.length = i * ls.length + j)
            ⟨ls2, ms, _, rfl, h1, by omega⟩ (by
              rintro j d ρ hd ⟨ls3, ms3, y, rfl, h3, h4⟩
              obtain ⟨hj, rfl⟩ := rangeD_get hd
              obtain ⟨u, hu⟩ : ∃ u, ls3[j]? = some u := ⟨_, List.getElem?_eq_getElem (by omega)⟩
              have eu : ixD (.lst (ls3.map .int)) (.int (j : Int)) = .ok (.int u, .sh) := ixD_lst_nat (by simp [hu])
              have lt : ms3.length < sizeLine := Nat.lt_of_lt_of_le (show _ < 1000000 by omega) (small_len (Nat.le_refl 1000000))
              have dv : CDivW u 10000000000000000000000000000000000000000000000000000000000000 := cdiv_of (b := 250) (by decide) (by decide)
              have st := setAtD_nat (ds := ls3.map .int) (i := j) (by simp; omega) (.int (u / 10000000000000000000000000000000000000000000000000000000000000))
              have hs : (ls3.map D.int).set j (.int (u / 10000000000000000000000000000000000000000000000000000000000000)) = (ls3.set j (u / 10000000000000000000000000000000000000000000000000000000000000)).map .int := by simp
              rw [hs] at st
              refine nx_gen fun Q hQ => ?_
              have gq := hQ [.sh (sc (v :: vs)), .ow (.lst ((ls3.set j (u / 10000000000000000000000000000000000000000000000000000000000000)).map .int)), .ow (.lst ((ms3 ++ [u % 10000000000000000000000000000000000000000000000000000000000000]).map .int)), .sh (.int (i : Int)), .sh (.int (j : Int))] ⟨_, _, _, rfl, by simpa using h3, by simp; omega⟩
              clear hQ
              generalize (ls3.set j (u / 10000000000000000000000000000000000000000000000000000000000000)).map D.int = st2 at *
              simp only [List.map_append, List.map_cons, List.map_nil] at gq
              simp [forStep, fn_law_free_b0, eu, p61, lt, dv, MC.run_eq, st, gq])
          rw [rangeD_len] at h4
          refine nx_gen fun Q hQ => ?_
          have hl3 : ms3.length = (i + 1) * ls.length := by rw [Nat.add_mul]; omega
          have gq := hQ [.sh (sc (v :: vs)), .ow (.lst (ls3.map .int)), .ow (.lst (ms3.map .int)), .sh (.int (i : Int)), y3] ⟨ls3, ms3, _, y3, rfl, h3, hl3⟩
          clear hQ
          have ll2 : ((ls2.map D.int).length : Int) = (ls.length : Int) := by simp [h1]
          generalize ls2.map D.int = l2 at *
          simp [forStep, fn_law_free_b1, ll2, rg, e2, gq])
      rw [rangeD_len] at hms
      have rg26 : rg1 (.int 26) = .ok (rangeD 0 26) := rg1_of (by decide) (by decide)
      have m63 : 26 * ls.length ≤ 26 * 63 := Nat.mul_le_mul_left 26 hll
      refine ⟨ms, true, ?_, by omega⟩
      clear hcut hls
      generalize (vs.take 62).map D.int = tk at *
      have er : sc ms = .lst (ms.map .int) := rfl
      rw [er]
      generalize ms.map D.int = msd at *
      generalize ls.map D.int = lsd at *
      simp [lsc, e0, lne, lne', c', d2, e1, one, ad, rg26, eρ]
end
end MJ

namespace MJ
open PySem PySem.Spec PyProof.Rows L2
/-! ### what is fit, by rows -/
theorem fit_iff_row {ss : List Sy} {p : Part} : fitB ss p = true ↔ ∃ r ∈ fitR ss, agree r p = true := by
  unfold fitB
  rw [decide_eq_true_eq]
  constructor
  · intro h
    apply Classical.byContradiction
    intro z
    refine h (bitsN_zero.mpr fun k hk => ?_)
    cases e : agree (rowK ss k) p with
    | false => rfl
    | true => exact absurd ⟨_, fitR_mem'.mpr ⟨k, hk, rfl⟩, e⟩ z
  · rintro ⟨r, hr, ha⟩ z
    obtain ⟨k, hk, rfl⟩ := fitR_mem'.mp hr
    have := bitsN_zero.mp z k hk
    rw [ha] at this
    cases this
theorem agree_mem {r : List Bool} {p : Part} : agree r p = true ↔ ∀ q ∈ p, r.getD q.1 false = q.2 := by
  simp only [agree, List.all_eq_true, beq_iff_eq]
theorem agree_sub {r : List Bool} {p m : Part} (h : ∀ q ∈ m, q ∈ p) (a : agree r p = true) : agree r m = true :=
  agree_mem.mpr fun q hq => agree_mem.mp a q (h q hq)
theorem fit_sub {ss : List Sy} {p m : Part} (h : ∀ q ∈ m, q ∈ p) (a : fitB ss p = true) : fitB ss m = true := by
  obtain ⟨r, hr, ha⟩ := fit_iff_row.mp a
  exact fit_iff_row.mpr ⟨r, hr, agree_sub h ha⟩
theorem fit_nil (ss : List Sy) : fitB ss [] = true := by
  have := fitR_ne ss
  obtain ⟨r, hr⟩ := List.exists_mem_of_ne_nil _ this
  exact fit_iff_row.mpr ⟨r, hr, rfl⟩
theorem lv_complete {ss : List Sy} : ∀ (n : Nat) (p : Part), p.length = n → Rising ss.length p → fitB ss p = true → p ∈ lvK ss n
  | 0, p, hl, _, _ => by
    have : p = [] := List.eq_nil_of_length_eq_zero hl
    subst this
    simp [lvK]
  | n + 1, p, hl, hr, hf => by
    rcases List.eq_nil_or_concat p with rfl | ⟨q, x, rfl⟩
    · simp at hl
    · rw [List.concat_eq_append] at *
      obtain ⟨i, t⟩ := x
      have rs := rising_snoc.mp hr
      have hq := lv_complete n q (by simpa using hl) rs.1 (fit_sub (fun z m => List.mem_append_left _ m) hf)
      exact List.mem_filter.mpr ⟨mem_cand.mpr ⟨q, hq, mem_longer.mpr ⟨i, t, rs.2.1, rs.2.2, rfl⟩⟩, hf⟩
theorem found_mono (ss : List Sy) (k : Nat) : ∀ (j : Nat) (p : Part), p ∈ foundK ss k → p ∈ foundK ss (k + j)
  | 0, p, h => h
  | j + 1, p, h => List.mem_append_left _ (found_mono ss k j p h)
theorem eraseIdx_last (q : Part) (x : Nat × Bool) : (q ++ [x]).eraseIdx q.length = q := by
  rw [List.eraseIdx_append_of_length_le (Nat.le_refl _)]
  simp
theorem unfit_complete {ss : List Sy} {p : Part} (hr : Rising ss.length p) (hn : newB ss p = true) : p ∈ unfitL ss := by
  unfold newB at hn
  rw [Bool.and_eq_true, Bool.not_eq_true'] at hn
  obtain ⟨hu, hs⟩ := hn
  rcases List.eq_nil_or_concat p with rfl | ⟨q, x, rfl⟩
  · rw [fit_nil] at hu; cases hu
  · rw [List.concat_eq_append] at *
    obtain ⟨i, t⟩ := x
    have rs := rising_snoc.mp hr
    have hq : fitB ss q = true := by
      unfold smallB at hs
      rw [List.all_eq_true] at hs
      have := hs q.length (by simp)
      rwa [eraseIdx_last] at this
    have ql := lv_complete q.length q rfl rs.1 hq
    have hl := rising_len rs.1
    have h1 : q ++ [(i, t)] ∈ foundK ss (q.length + 1) := by
      refine List.mem_append_right _ (List.mem_filter.mpr ⟨mem_cand.mpr ⟨q, ql, mem_longer.mpr ⟨i, t, rs.2.1, rs.2.2, rfl⟩⟩, ?_⟩)
      unfold newB
      rw [hu, hs]; rfl
    have h2 := found_mono ss (q.length + 1) (ss.length - q.length) _ h1
    rw [show q.length + 1 + (ss.length - q.length) = ss.length + 1 by omega] at h2
    exact h2
theorem rising_erase {w : Nat} {p : Part} (h : Rising w p) (i : Nat) : Rising w (p.eraseIdx i) :=
  ⟨List.Pairwise.sublist (List.eraseIdx_sublist p i) h.1, fun q m => h.2 q (List.mem_of_mem_eraseIdx m)⟩
theorem unfit_sub {ss : List Sy} : ∀ (n : Nat) (p : Part), p.length = n → Rising ss.length p → fitB ss p = false → ∃ m ∈ unfitL ss, ∀ q ∈ m, q ∈ p
  | 0, p, hl, _, hf => by
    have : p = [] := List.eq_nil_of_length_eq_zero hl
    subst this
    rw [fit_nil] at hf; cases hf
  | n + 1, p, hl, hr, hf => by
    cases hs : smallB ss p with
    | true => exact ⟨p, unfit_complete hr (by unfold newB; rw [hf, hs]; rfl), fun q m => m⟩
    | false =>
      unfold smallB at hs
      rw [List.all_eq_false] at hs
      obtain ⟨i, hi, he⟩ := hs
      have hi := List.mem_range.mp hi
      have he : fitB ss (p.eraseIdx i) = false := by simpa using he
      obtain ⟨m, hm, hsub⟩ := unfit_sub n (p.eraseIdx i) (by rw [List.length_eraseIdx, if_pos hi]; omega) (rising_erase hr i) he
      exact ⟨m, hm, fun q hq => List.mem_of_mem_eraseIdx (hsub q hq)⟩
/-- a part is unfit just where it has a smallest unfit one within -/
theorem unfit_iff {ss : List Sy} {p : Part} (hr : Rising ss.length p) : fitB ss p = false ↔ ∃ m ∈ smallestF ss, ∀ q ∈ m, q ∈ p := by
  constructor
  · intro h
    obtain ⟨m, hm, hs⟩ := unfit_sub p.length p rfl hr h
    exact ⟨m, sortP_mem.mpr hm, hs⟩
  · rintro ⟨m, hm, hs⟩
    cases e : fitB ss p with
    | false => rfl
    | true =>
      have := fit_sub hs e
      have hn := (smallest_ok hm).2.2.2
      unfold newB at hn
      rw [this] at hn
      cases hn
theorem small_erase {ss : List Sy} {m : Part} (h : m ∈ smallestF ss) {i : Nat} (hi : i < m.length) : ∃ r ∈ fitR ss, agree r (m.eraseIdx i) = true := by
  have hn := (smallest_ok h).2.2.2
  unfold newB at hn
  rw [Bool.and_eq_true] at hn
  have hs := hn.2
  unfold smallB at hs
  rw [List.all_eq_true] at hs
  exact fit_iff_row.mp (hs i (List.mem_range.mpr hi))
theorem small_unfit {ss : List Sy} {m : Part} (h : m ∈ smallestF ss) {r : List Bool} (hr : r ∈ fitR ss) : agree r m = false := by
  have hn := (smallest_ok h).2.2.2
  unfold newB at hn
  rw [Bool.and_eq_true, Bool.not_eq_true'] at hn
  cases e : agree r m with
  | false => rfl
  | true =>
    have := fit_iff_row.mpr ⟨r, hr, e⟩
    rw [hn.1] at this
    cases this
/-- the part that a whole row makes -/
def wholeP (r : List Bool) : Part := (List.range r.length).map fun i => (i, r.getD i false)
theorem whole_rising (r : List Bool) : Rising r.length (wholeP r) := by
  refine ⟨?_, fun q m => ?_⟩
  · unfold wholeP
    rw [List.pairwise_map]
    exact List.pairwise_lt_range
  · obtain ⟨i, hi, rfl⟩ := List.mem_map.mp m
    exact List.mem_range.mp hi
theorem agree_whole {r s : List Bool} (hl : r.length = s.length) : agree r (wholeP s) = true ↔ r = s := by
  rw [agree_mem]
  constructor
  · intro h
    refine List.ext_getElem hl fun i h1 h2 => ?_
    have := h (i, s.getD i false) (List.mem_map.mpr ⟨i, List.mem_range.mpr h2, rfl⟩)
    simp only [List.getD_eq_getElem?_getD, List.getElem?_eq_getElem h1, List.getElem?_eq_getElem h2, Option.getD_some] at this
    exact this
  · rintro rfl q hq
    obtain ⟨i, _, rfl⟩ := List.mem_map.mp hq
    rfl
theorem row_fit {ss : List Sy} {r : List Bool} (hl : r.length = ss.length) : fitB ss (wholeP r) = true ↔ r ∈ fitR ss := by
  rw [fit_iff_row]
  constructor
  · rintro ⟨s, hs, ha⟩
    have := (agree_whole (by rw [fitR_len hs, hl])).mp ha
    rwa [← this]
  · intro h
    exact ⟨r, h, (agree_whole rfl).mpr rfl⟩
/-! ### most of three -/
def maj3 (x y z : Bool) : Bool := (x && y) || (x && z) || (y && z)
def majF (w : Nat) (a b c : List Bool) : List Bool := (List.range w).map fun i => maj3 (a.getD i false) (b.getD i false) (c.getD i false)
theorem maj_len (w : Nat) (a b c : List Bool) : (majF w a b c).length = w := by simp [majF]
theorem maj_get {w i : Nat} {a b c : List Bool} (h : i < w) : (majF w a b c).getD i false = maj3 (a.getD i false) (b.getD i false) (c.getD i false) := by
  simp [majF, List.getD_eq_getElem?_getD, h]
theorem maj_same {w : Nat} {a c : List Bool} (h : a.length = w) : majF w a a c = a := by
  refine List.ext_getElem (by rw [maj_len, h]) fun i h1 h2 => ?_
  rw [maj_len] at h1
  have e := maj_get (a := a) (b := a) (c := c) h1
  have h3 : i < (majF w a a c).length := by rw [maj_len]; exact h1
  simp only [List.getD_eq_getElem?_getD, List.getElem?_eq_getElem h3, List.getElem?_eq_getElem h2, Option.getD_some] at e
  rw [e]
  unfold maj3
  cases a[i] <;> simp
theorem maj_comm1 (w : Nat) (a b c : List Bool) : majF w a b c = majF w b a c := by
  unfold majF
  refine List.map_congr_left fun i _ => ?_
  unfold maj3
  cases a.getD i false <;> cases b.getD i false <;> cases c.getD i false <;> rfl
theorem maj_comm2 (w : Nat) (a b c : List Bool) : majF w a b c = majF w a c b := by
  unfold majF
  refine List.map_congr_left fun i _ => ?_
  unfold maj3
  cases a.getD i false <;> cases b.getD i false <;> cases c.getD i false <;> rfl
def closedB (w : Nat) (rows : List (List Bool)) : Bool := (List.range rows.length).all fun i => (List.range i).all fun j => (List.range j).all fun k => decide (majF w (rows.getD i []) (rows.getD j []) (rows.getD k []) ∈ rows)
theorem closed_all {w : Nat} {rows : List (List Bool)} (hw : ∀ r ∈ rows, r.length = w) (h : closedB w rows = true) {a b c : List Bool} (ha : a ∈ rows) (hb : b ∈ rows) (hc : c ∈ rows) : majF w a b c ∈ rows := by
  have key : ∀ {i j k : Nat}, i < rows.length → j < i → k < j → majF w (rows.getD i []) (rows.getD j []) (rows.getD k []) ∈ rows := fun {i j k} h1 h2 h3 => by
    simp only [closedB, List.all_eq_true, List.mem_range, decide_eq_true_eq] at h
    exact h i h1 j h2 k h3
  obtain ⟨i, hi⟩ := List.mem_iff_getElem?.mp ha
  obtain ⟨j, hj⟩ := List.mem_iff_getElem?.mp hb
  obtain ⟨k, hk⟩ := List.mem_iff_getElem?.mp hc
  have li := (List.getElem?_eq_some_iff.mp hi).1
  have lj := (List.getElem?_eq_some_iff.mp hj).1
  have lk := (List.getElem?_eq_some_iff.mp hk).1
  have ei : rows.getD i [] = a := by simp [List.getD_eq_getElem?_getD, hi]
  have ej : rows.getD j [] = b := by simp [List.getD_eq_getElem?_getD, hj]
  have ek : rows.getD k [] = c := by simp [List.getD_eq_getElem?_getD, hk]
  by_cases c1 : i = j
  · subst c1
    rw [ei] at ej
    subst ej
    rw [maj_same (hw a ha)]
    exact ha
  by_cases c2 : i = k
  · subst c2
    rw [ei] at ek
    subst ek
    rw [maj_comm2, maj_same (hw a ha)]
    exact ha
  by_cases c3 : j = k
  · subst c3
    rw [ej] at ek
    subst ek
    rw [maj_comm1, maj_comm2, maj_same (hw b hb)]
    exact hb
  -- six orders
  by_cases o1 : j < i
  · by_cases o2 : k < j
    · have := key li o1 o2; rw [ei, ej, ek] at this; exact this
    · by_cases o3 : k < i
      · have := key li o3 (show j < k by omega); rw [ei, ej, ek] at this; rw [maj_comm2]; exact this
      · have := key lk (show i < k by omega) o1; rw [ei, ej, ek] at this; rw [maj_comm2, maj_comm1]; exact this
  · by_cases o2 : k < i
    · have := key lj (show i < j by omega) o2; rw [ei, ej, ek] at this; rw [maj_comm1]; exact this
    · by_cases o3 : k < j
      · have := key lj o3 (show i < k by omega); rw [ei, ej, ek] at this; rw [maj_comm1, maj_comm2]; exact this
      · have := key lk (show j < k by omega) (show i < j by omega); rw [ei, ej, ek] at this; rw [maj_comm1, maj_comm2, maj_comm1]; exact this
theorem closed_iff {ss : List Sy} : closedB ss.length (fitR ss) = (smallestF ss).all fun p => decide (p.length ≤ 2) := by
  have hw : ∀ r ∈ fitR ss, r.length = ss.length := fun r m => fitR_len m
  rw [Bool.eq_iff_iff]
  constructor
  · intro h
    rw [List.all_eq_true]
    intro p hp
    rw [decide_eq_true_eq]
    apply Classical.byContradiction
    intro hl
    have ok := smallest_ok hp
    obtain ⟨r0, m0, a0⟩ := small_erase hp (show 0 < p.length by omega)
    obtain ⟨r1, m1, a1⟩ := small_erase hp (show 1 < p.length by omega)
    obtain ⟨r2, m2, a2⟩ := small_erase hp (show 2 < p.length by omega)
    have mm := closed_all hw h m0 m1 m2
    have := small_unfit hp mm
    have ag : agree (majF ss.length r0 r1 r2) p = true := agree_mem.mpr fun q hq => by
      rw [maj_get (ok.2.2.1.2 q hq)]
      obtain ⟨t, ht⟩ := List.mem_iff_getElem?.mp hq
      have inn : ∀ i, i ≠ t → q ∈ p.eraseIdx i := fun i hi => by
        refine List.mem_eraseIdx_iff_getElem?.mpr ⟨t, hi.symm, ht⟩
      unfold maj3
      by_cases t0 : t = 0
      · rw [agree_mem.mp a1 q (inn 1 (by omega)), agree_mem.mp a2 q (inn 2 (by omega))]
        cases q.2 <;> simp
      · rw [agree_mem.mp a0 q (inn 0 (by omega))]
        by_cases t1 : t = 1
        · rw [agree_mem.mp a2 q (inn 2 (by omega))]
          cases q.2 <;> simp
        · rw [agree_mem.mp a1 q (inn 1 (by omega))]
          cases q.2 <;> simp
    rw [ag] at this
    cases this
  · intro h
    rw [List.all_eq_true] at h
    simp only [closedB, List.all_eq_true, List.mem_range, decide_eq_true_eq]
    intro i hi j hj k hk
    have gm : ∀ {i}, i < (fitR ss).length → (fitR ss).getD i [] ∈ fitR ss := fun {i} hi => by
      simp [List.getD_eq_getElem?_getD, List.getElem?_eq_getElem hi]
    have ma := gm hi
    have mb := gm (show j < (fitR ss).length by omega)
    have mc := gm (show k < (fitR ss).length by omega)
    generalize (fitR ss).getD i [] = a at *
    generalize (fitR ss).getD j [] = b at *
    generalize (fitR ss).getD k [] = c at *
    have hl := maj_len ss.length a b c
    refine (row_fit hl).mp ?_
    cases e : fitB ss (wholeP (majF ss.length a b c)) with
    | true => rfl
    | false =>
      exfalso
      have rr := whole_rising (majF ss.length a b c)
      rw [hl] at rr
      obtain ⟨m, hm, hs⟩ := (unfit_iff rr).mp e
      have m2 := of_decide_eq_true (h m hm)
      have ok := smallest_ok hm
      have val : ∀ q ∈ m, maj3 (a.getD q.1 false) (b.getD q.1 false) (c.getD q.1 false) = q.2 := fun q hq => by
        obtain ⟨x, hx, rfl⟩ := List.mem_map.mp (hs q hq)
        have := List.mem_range.mp hx
        rw [hl] at this
        exact (maj_get this).symm
      have two : ∀ q1 q2, (∀ q ∈ m, q = q1 ∨ q = q2) → q1 ∈ m → q2 ∈ m → False := fun q1 q2 hall h1 h2 => by
        have v1 := val q1 h1
        have v2 := val q2 h2
        have na : ∀ r ∈ fitR ss, ¬ (r.getD q1.1 false = q1.2 ∧ r.getD q2.1 false = q2.2) := fun r hr z => by
          have := small_unfit hm hr
          have : agree r m = true := agree_mem.mpr fun q hq => by
            rcases hall q hq with rfl | rfl
            · exact z.1
            · exact z.2
          simp_all
        have n1 := na a ma
        have n2 := na b mb
        have n3 := na c mc
        revert v1 v2 n1 n2 n3
        generalize a.getD q1.1 false = x1
        generalize b.getD q1.1 false = x2
        generalize c.getD q1.1 false = x3
        generalize a.getD q2.1 false = y1
        generalize b.getD q2.1 false = y2
        generalize c.getD q2.1 false = y3
        generalize q1.2 = t1
        generalize q2.2 = t2
        revert x1 x2 x3 y1 y2 y3 t1 t2
        decide
      match m, ok.1, m2 with
      | [q1], _, _ => exact two q1 q1 (fun q hq => by simp at hq; exact .inl hq) (by simp) (by simp)
      | [q1, q2], _, _ => exact two q1 q2 (fun q hq => by simpa using hq) (by simp) (by simp)
      | _ :: _ :: _ :: _, _, h => simp at h
end MJ

namespace MJ
open PySem PySem.Spec PyProof.Rows L2
theorem zip3_maps (a b c : Nat → D) : ∀ l : List Nat, zip3D (l.map a) (l.map b) (l.map c) = l.map fun i => .tup [a i, b i, c i]
  | [] => rfl
  | x :: l => by simp [zip3D, zip3_maps a b c l]
theorem row_map {r : List Bool} {w : Nat} (h : r.length = w) : r.map D.bl = (List.range w).map fun i => .bl (r.getD i false) := by
  refine List.ext_getElem (by simp [h]) fun i h1 h2 => ?_
  have h3 : i < r.length := by simpa using h1
  simp [List.getD_eq_getElem?_getD, List.getElem?_eq_getElem h3]
def alwaysB (ss : List Sy) : Bool := (smallestF ss).all fun p => decide (p.length ≤ 2)
theorem in_rows' (z : List Bool) (L : List (List Bool)) : inD (rowD z) (.lst (L.map rowD)) = .ok (decide (z ∈ L)) := in_rows z L
section
variable {T : Str → Option Fn}
theorem always_ev {lev : Nat} {ss : List Sy} (su : evFn T lev "smallest_unfit" [.tup (ss.map enc)] = .ok (.lst ((smallestF ss).map partD), true)) (f : T "always_fit" = some fn_always_fit) :
    evFn T (lev + 1) "always_fit" [.tup (ss.map enc)] = .ok (.bl (alwaysB ss), false) := by
  rw [evFn_succ f rfl]
  simp only [fn_always_fit, startSl]
  have key := forFold_if (step := forStep (CG.name 1) fn_always_fit_b0 (evFn T lev)) (ds := (smallestF ss).map partD) (ρ := [.sh (.tup (ss.map enc)), .no])
    (fun i ρ => ∃ x, ρ = [.sh (.tup (ss.map enc)), x]) (fun i => decide (((smallestF ss).getD i []).length ≤ 2)) (.bl false) false ⟨_, rfl⟩ (by
      rintro i d ρ hd ⟨x, rfl⟩
      rw [List.getElem?_map, Option.map_eq_some_iff] at hd
      obtain ⟨p, hp, rfl⟩ := hd
      have e : (smallestF ss).getD i [] = p := by simp [List.getD_eq_getElem?_getD, hp]
      rw [e]
      have lp := lenD_part p
      by_cases c : p.length ≤ 2
      · refine .inl ⟨decide_eq_true c, ?_⟩
        have c' : ¬ (2 : Int) < (p.length : Int) := by omega
        simp [forStep, fn_always_fit_b0, c']
      · refine .inr ⟨decide_eq_false c, ?_⟩
        have c' : (2 : Int) < (p.length : Int) := by omega
        simp [forStep, fn_always_fit_b0, c'])
  rw [List.length_map] at key
  have gm : ∀ i, i < (smallestF ss).length → ∀ p ∈ smallestF ss, True := fun _ _ _ _ => trivial
  rcases key with ⟨h1, ρ', e, x, rfl⟩ | ⟨⟨i, h1, h2⟩, e⟩
  · have : alwaysB ss = true := by
      unfold alwaysB
      rw [List.all_eq_true]
      intro p hp
      obtain ⟨i, hi⟩ := List.mem_iff_getElem?.mp hp
      have := h1 i (List.getElem?_eq_some_iff.mp hi).1
      rwa [List.getD_eq_getElem?_getD, hi] at this
    simp [su, e, this]
  · have : alwaysB ss = false := by
      unfold alwaysB
      rw [List.all_eq_false]
      refine ⟨(smallestF ss)[i], List.getElem_mem h1, ?_⟩
      rw [List.getD_eq_getElem?_getD, List.getElem?_eq_getElem h1] at h2
      simpa using h2
    simp [su, e, this]
theorem closed_ev (f : T "_law_closed" = some fn_law_closed) (n : Nat) {w : Nat} {rows : List (List Bool)} (hw : ∀ r ∈ rows, r.length = w) (hr : rows.length ≤ 1000) (hw1 : w ≤ 1000) : evFn T (n + 1) "_law_closed" [.lst (rows.map rowD)] = .ok (.bl (closedB w rows), false) := by
  rw [evFn_succ f rfl]
  simp only [fn_law_closed, startSl]
  have rgn : ∀ k : Nat, k ≤ 1000 → rg1 (.int (k : Int)) = .ok (rangeD 0 k) := fun k h => by
    have := rg1_of (show (0 : Int) ≤ (k : Int) by omega) (show (k : Int) < 4611686018427387904 by omega)
    rwa [Int.toNat_natCast] at this
  have at_ : ∀ i, i < rows.length → ixD (.lst (rows.map rowD)) (.int (i : Int)) = .ok (rowD (rows.getD i []), .sh) ∧ (rows.getD i []).length = w := fun i hi => by
    have e : rows.getD i [] = rows[i] := by simp [List.getD_eq_getElem?_getD, List.getElem?_eq_getElem hi]
    rw [e]
    exact ⟨ixD_lst_nat (by simp [List.getElem?_eq_getElem hi]), hw _ (List.getElem_mem hi)⟩
  have step0 : ∀ (i j : Nat) (x4 : Sl), i < rows.length → j < i → (((∀ k, k < j → decide (majF w (rows.getD i []) (rows.getD j []) (rows.getD k []) ∈ rows) = true) ∧ ∃ ρ', forFold (forStep (CG.name 3) fn_law_closed_b0 (evFn T n)) (rangeD 0 j) [.sh (.lst (rows.map rowD)), .sh (.int (i : Int)), .sh (.int (j : Int)), x4, .no, .no, .no, .no] = some (.nx ρ') ∧ ∃ x3 x4, ρ' = [.sh (.lst (rows.map rowD)), .sh (.int (i : Int)), .sh (.int (j : Int)), x3, x4, .no, .no, .no]) ∨ True) → True := fun _ _ _ _ _ _ => trivial
  have inner : ∀ (i j : Nat) (x3 x4 : Sl), i < rows.length → j < i → ((∀ k, k < j → decide (majF w (rows.getD i []) (rows.getD j []) (rows.getD k []) ∈ rows) = true) ∧ ∃ ρ', forFold (forStep (CG.name 3) fn_law_closed_b0 (evFn T n)) (rangeD 0 j) [.sh (.lst (rows.map rowD)), .sh (.int (i : Int)), .sh (.int (j : Int)), x3, x4, .no, .no, .no] = some (.nx ρ') ∧ ∃ x3 x4, ρ' = [.sh (.lst (rows.map rowD)), .sh (.int (i : Int)), .sh (.int (j : Int)), x3, x4, .no, .no, .no]) ∨
      ((∃ k, k < j ∧ decide (majF w (rows.getD i []) (rows.getD j []) (rows.getD k []) ∈ rows) = false) ∧ forFold (forStep (CG.name 3) fn_law_closed_b0 (evFn T n)) (rangeD 0 j) [.sh (.lst (rows.map rowD)), .sh (.int (i : Int)), .sh (.int (j : Int)), x3, x4, .no, .no, .no] = some (.rt (.bl false) false)) := by
    intro i j x3 x4 hi hj
    have key := forFold_if (step := forStep (CG.name 3) fn_law_closed_b0 (evFn T n)) (ds := rangeD 0 j) (ρ := [.sh (.lst (rows.map rowD)), .sh (.int (i : Int)), .sh (.int (j : Int)), x3, x4, .no, .no, .no])
      (fun k ρ => ∃ x3 x4, ρ = [.sh (.lst (rows.map rowD)), .sh (.int (i : Int)), .sh (.int (j : Int)), x3, x4, .no, .no, .no]) (fun k => decide (majF w (rows.getD i []) (rows.getD j []) (rows.getD k []) ∈ rows)) (.bl false) false ⟨_, _, rfl⟩ (by
        rintro k d ρ hd ⟨x3, x4, rfl⟩
        obtain ⟨hk, rfl⟩ := rangeD_get hd
        have a1 := at_ i hi
        have a2 := at_ j (by omega)
        have a3 := at_ k (by omega)
        generalize rows.getD i [] = a at *
        generalize rows.getD j [] = b at *
        generalize rows.getD k [] = c at *
        have zz : zip3G [rowD a, rowD b, rowD c] = .ok ((List.range w).map fun t => .tup [.bl (a.getD t false), .bl (b.getD t false), .bl (c.getD t false)]) := by
          simp only [zip3G, rowD, seqD_tup, Res.bind_ok]
          rw [row_map a1.2, row_map a2.2, row_map a3.2, zip3_maps]
        have body := lcFold_map (f := lcBody (CG.tup (.cons 5 (.cons 6 (.cons 7 .nil)))) CIf.no fn_law_closed_e0 (evFn T n) [.sh (.lst (rows.map rowD)), .sh (.int (i : Int)), .sh (.int (j : Int)), .sh (.int (k : Int)), x4, .no, .no, .no]) (fun t => D.tup [.bl (a.getD t false), .bl (b.getD t false), .bl (c.getD t false)]) (fun t => .bl (maj3 (a.getD t false) (b.getD t false) (c.getD t false))) (as := List.range w) fun t ht => by
          generalize a.getD t false = x
          generalize b.getD t false = y
          generalize c.getD t false = z
          cases x <;> cases y <;> cases z <;> simp [lcBody, fn_law_closed_e0, noEx, maj3]
        have em : ((List.range w).map fun t => D.bl (maj3 (a.getD t false) (b.getD t false) (c.getD t false))) = (majF w a b c).map .bl := by simp [majF]
        rw [em] at body
        have ml : ((majF w a b c).map D.bl).length ≤ sizeLine := by rw [List.length_map, maj_len]; exact small_len (by omega)
        have inn := in_rows (majF w a b c) rows
        have er : rowD (majF w a b c) = .tup ((majF w a b c).map .bl) := rfl
        rw [er] at inn
        have a1 := a1.1
        have a2 := a2.1
        have a3 := a3.1
        generalize decide (majF w a b c ∈ rows) = dc at *
        generalize (majF w a b c).map D.bl = mb at *
        generalize ((List.range w).map fun t => D.tup [.bl (a.getD t false), .bl (b.getD t false), .bl (c.getD t false)]) = zs at *
        generalize rowD a = ra at *
        generalize rowD b = rb at *
        generalize rowD c = rc at *
        generalize rows.map rowD = rws at *
        cases dc with
        | true => exact .inl ⟨rfl, by simp [forStep, fn_law_closed_b0, a1, a2, a3, zz, lcRes_eq, wipeSl, body, ml, inn]⟩
        | false => exact .inr ⟨rfl, by simp [forStep, fn_law_closed_b0, a1, a2, a3, zz, lcRes_eq, wipeSl, body, ml, inn]⟩)
    rw [rangeD_len] at key
    exact key
  have mid : ∀ (i : Nat) (x2 x3 x4 : Sl), i < rows.length → ((∀ j, j < i → ((List.range j).all fun k => decide (majF w (rows.getD i []) (rows.getD j []) (rows.getD k []) ∈ rows)) = true) ∧ ∃ ρ', forFold (forStep (CG.name 2) fn_law_closed_b1 (evFn T n)) (rangeD 0 i) [.sh (.lst (rows.map rowD)), .sh (.int (i : Int)), x2, x3, x4, .no, .no, .no] = some (.nx ρ') ∧ ∃ x2 x3 x4, ρ' = [.sh (.lst (rows.map rowD)), .sh (.int (i : Int)), x2, x3, x4, .no, .no, .no]) ∨
      ((∃ j, j < i ∧ ((List.range j).all fun k => decide (majF w (rows.getD i []) (rows.getD j []) (rows.getD k []) ∈ rows)) = false) ∧ forFold (forStep (CG.name 2) fn_law_closed_b1 (evFn T n)) (rangeD 0 i) [.sh (.lst (rows.map rowD)), .sh (.int (i : Int)), x2, x3, x4, .no, .no, .no] = some (.rt (.bl false) false)) := by
    intro i x2 x3 x4 hi
    have key := forFold_if (step := forStep (CG.name 2) fn_law_closed_b1 (evFn T n)) (ds := rangeD 0 i) (ρ := [.sh (.lst (rows.map rowD)), .sh (.int (i : Int)), x2, x3, x4, .no, .no, .no])
      (fun j ρ => ∃ x2 x3 x4, ρ = [.sh (.lst (rows.map rowD)), .sh (.int (i : Int)), x2, x3, x4, .no, .no, .no]) (fun j => (List.range j).all fun k => decide (majF w (rows.getD i []) (rows.getD j []) (rows.getD k []) ∈ rows)) (.bl false) false ⟨_, _, _, rfl⟩ (by
        rintro j d ρ hd ⟨x2, x3, x4, rfl⟩
        obtain ⟨hj, rfl⟩ := rangeD_get hd
        have rg := rgn j (by omega)
        rcases inner i j x3 x4 hi hj with ⟨h1, ρ', e, x3', x4', rfl⟩ | ⟨⟨k, hk, h2⟩, e⟩
        · refine .inl ⟨by rw [List.all_eq_true]; exact fun k m => h1 k (List.mem_range.mp m), ?_⟩
          generalize rangeD 0 j = rd at *
          generalize rows.map rowD = rws at *
          simp [forStep, fn_law_closed_b1, rg, e]
        · refine .inr ⟨by rw [List.all_eq_false]; exact ⟨k, List.mem_range.mpr hk, by rw [h2]; decide⟩, ?_⟩
          generalize rangeD 0 j = rd at *
          generalize rows.map rowD = rws at *
          simp [forStep, fn_law_closed_b1, rg, e])
    rw [rangeD_len] at key
    exact key
  have key := forFold_if (step := forStep (CG.name 1) fn_law_closed_b2 (evFn T n)) (ds := rangeD 0 rows.length) (ρ := [.sh (.lst (rows.map rowD)), .no, .no, .no, .no, .no, .no, .no])
    (fun i ρ => ∃ x1 x2 x3 x4, ρ = [.sh (.lst (rows.map rowD)), x1, x2, x3, x4, .no, .no, .no]) (fun i => (List.range i).all fun j => (List.range j).all fun k => decide (majF w (rows.getD i []) (rows.getD j []) (rows.getD k []) ∈ rows)) (.bl false) false ⟨_, _, _, _, rfl⟩ (by
      rintro i d ρ hd ⟨x1, x2, x3, x4, rfl⟩
      obtain ⟨hi, rfl⟩ := rangeD_get hd
      have rg := rgn i (by omega)
      rcases mid i x2 x3 x4 hi with ⟨h1, ρ', e, x2', x3', x4', rfl⟩ | ⟨⟨k, hk, h2⟩, e⟩
      · refine .inl ⟨by rw [List.all_eq_true]; exact fun k m => h1 k (List.mem_range.mp m), ?_⟩
        generalize rangeD 0 i = rd at *
        generalize rows.map rowD = rws at *
        simp [forStep, fn_law_closed_b2, rg, e]
      · refine .inr ⟨by rw [List.all_eq_false]; exact ⟨k, List.mem_range.mpr hk, by rw [h2]; decide⟩, ?_⟩
        generalize rangeD 0 i = rd at *
        generalize rows.map rowD = rws at *
        simp [forStep, fn_law_closed_b2, rg, e])
  rw [rangeD_len] at key
  have rg := rgn rows.length hr
  have ll : ((rows.map rowD).length : Int) = (rows.length : Int) := by simp
  rcases key with ⟨h1, ρ', e, x1, x2, x3, x4, rfl⟩ | ⟨⟨i, hi, h2⟩, e⟩
  · have : closedB w rows = true := by
      unfold closedB
      rw [List.all_eq_true]
      exact fun k m => h1 k (List.mem_range.mp m)
    rw [this]
    generalize rangeD 0 rows.length = rd at *
    generalize rows.map rowD = rws at *
    simp [ll, rg, e]
  · have : closedB w rows = false := by
      unfold closedB
      rw [List.all_eq_false]
      exact ⟨i, List.mem_range.mpr hi, by rw [h2]; decide⟩
    rw [this]
    generalize rangeD 0 rows.length = rd at *
    generalize rows.map rowD = rws at *
    simp [ll, rg, e]
end
end MJ

namespace MJ
open PySem PySem.Spec PyProof.Rows L2
/-! ### all parts of a list, walked with what is left -/
def hasOne (p : Part) (told : List Part) : Bool := told.any fun m => m.all fun q => decide (q ∈ p)
def lvD (rows : List (List Bool)) (p : Part) : D := .tup [partD p, .lst ((rows.filter fun r => agree r p).map rowD)]
def wkF (w : Nat) : List Part := allParts w
/-- one step of the walk: each part, and with one pair more -/
def wkStep (n : Nat) (lv : List Part) : List Part := lv ++ (lv.map fun p => [p ++ [(n, false)], p ++ [(n, true)]]).flatten
def walk : Nat → List Part
  | 0 => [[]]
  | n + 1 => wkStep n (walk n)
theorem walk_ok : ∀ n, ∀ p ∈ walk n, Rising n p
  | 0, p, h => by
    simp only [walk, List.mem_singleton] at h
    subst h
    exact ⟨List.Pairwise.nil, fun q m => by cases m⟩
  | n + 1, p, h => by
    rcases List.mem_append.mp h with m | m
    · have := walk_ok n p m
      exact ⟨this.1, fun q hq => Nat.lt_succ_of_lt (this.2 q hq)⟩
    · obtain ⟨l, hl, m⟩ := List.mem_flatten.mp m
      obtain ⟨q, hq, rfl⟩ := List.mem_map.mp hl
      have rq := walk_ok n q hq
      have hr : Rising (n + 1) q := ⟨rq.1, fun x hx => Nat.lt_succ_of_lt (rq.2 x hx)⟩
      have hn : nextN q ≤ n := by
        rcases List.eq_nil_or_concat q with rfl | ⟨r, x, rfl⟩
        · simp [nextN]
        · rw [List.concat_eq_append] at *
          rw [nextN_snoc]
          exact rq.2 x (by simp)
      simp only [List.mem_cons, List.not_mem_nil, or_false] at m
      rcases m with rfl | rfl <;> exact rising_snoc.mpr ⟨hr, hn, Nat.lt_succ_self n⟩
theorem walk_len : ∀ n, (walk n).length = 3 ^ n
  | 0 => rfl
  | n + 1 => by
    have : ∀ l : List Part, (l.map fun p => [p ++ [(n, false)], p ++ [(n, true)]]).flatten.length = 2 * l.length := fun l => by
      induction l with
      | nil => rfl
      | cons a l ih => simp only [List.map_cons, List.flatten_cons, List.length_append, ih, List.length_cons, List.length_nil]; omega
    simp only [walk, wkStep, List.length_append, this, walk_len n, Nat.pow_succ]
    omega
section
variable {T : Str → Option Fn}
theorem has_one_ev (f : T "_law_has_one" = some fn_law_has_one) (n : Nat) {p : Part} {told : List Part} (hl : ∀ m ∈ told, m.length ≤ 1000) : evFn T (n + 1) "_law_has_one" [partD p, .lst (told.map partD)] = .ok (.bl (hasOne p told), false) := by
  rw [evFn_succ f rfl]
  simp only [fn_law_has_one, startSl]
  have key := forFold_if (step := forStep (CG.name 2) fn_law_has_one_b0 (evFn T n)) (ds := told.map partD) (ρ := [.sh (partD p), .sh (.lst (told.map partD)), .no, .no])
    (fun i ρ => ∃ x, ρ = [.sh (partD p), .sh (.lst (told.map partD)), x, .no]) (fun i => !((told.getD i []).all fun q => decide (q ∈ p))) (.bl true) false ⟨_, rfl⟩ (by
      rintro i d ρ hd ⟨x, rfl⟩
      rw [List.getElem?_map, Option.map_eq_some_iff] at hd
      obtain ⟨m, hm, rfl⟩ := hd
      have e : told.getD i [] = m := by simp [List.getD_eq_getElem?_getD, hm]
      rw [e]
      have hlm := hl m (List.mem_of_getElem? hm)
      have body := lcFold_filter (f := lcBody (CG.name 3) (CIf.one (.cmp _ .notin (.var 3) (.var 0))) fn_law_has_one_e0 (evFn T n) [.sh (partD p), .sh (.lst (told.map partD)), .sh (partD m), .no]) prD (fun q => !decide (q ∈ p)) prD (as := m) fun q hq => by
        have inn := in_part q p
        generalize decide (q ∈ p) = c at inn ⊢
        generalize prD q = qd at *
        generalize partD p = pd at *
        cases c <;> simp [lcBody, fn_law_has_one_e0, noEx, inn]
      have fl : (m.filter fun q => !decide (q ∈ p)).length ≤ sizeLine := Nat.le_trans (List.length_filter_le _ _) (small_len (by omega))
      have c0 : (m.filter fun q => !decide (q ∈ p)) = [] ↔ (m.all fun q => decide (q ∈ p)) = true := by
        rw [List.filter_eq_nil_iff, List.all_eq_true]
        simp
      generalize (m.filter fun q => !decide (q ∈ p)) = fs at *
      generalize (m.all fun q => decide (q ∈ p)) = c at *
      have im : items (partD m) = .ok (m.map prD) := rfl
      generalize m.map prD = mp at *
      generalize partD m = md at *
      generalize partD p = pd at *
      generalize told.map partD = tl at *
      cases c with
      | true =>
        have := c0.mpr rfl
        subst this
        exact .inr ⟨rfl, by simp [forStep, fn_law_has_one_b0, im, lcRes_eq, wipeSl, body]⟩
      | false =>
        have h0 : ¬ fs = [] := fun z => by have := c0.mp z; cases this
        exact .inl ⟨rfl, by simp [forStep, fn_law_has_one_b0, im, lcRes_eq, wipeSl, body, fl, h0]⟩)
  rw [List.length_map] at key
  rcases key with ⟨h1, ρ', e, x, rfl⟩ | ⟨⟨i, hi, h2⟩, e⟩
  · have : hasOne p told = false := by
      unfold hasOne
      rw [List.any_eq_false]
      intro m hm
      obtain ⟨i, hi⟩ := List.mem_iff_getElem?.mp hm
      have := h1 i (List.getElem?_eq_some_iff.mp hi).1
      rw [List.getD_eq_getElem?_getD, hi, Option.getD_some] at this
      intro z
      rw [z] at this
      cases this
    rw [this]
    generalize partD p = pd at *
    generalize told.map partD = tl at *
    simp [e]
  · have : hasOne p told = true := by
      unfold hasOne
      rw [List.any_eq_true]
      refine ⟨told[i], List.getElem_mem hi, ?_⟩
      rw [List.getD_eq_getElem?_getD, List.getElem?_eq_getElem hi] at h2
      simpa using h2
    rw [this]
    generalize partD p = pd at *
    generalize told.map partD = tl at *
    simp [e]
end
theorem hasOne_iff {ss : List Sy} {p : Part} (hr : Rising ss.length p) : hasOne p (smallestF ss) = !fitB ss p := by
  rw [Bool.eq_iff_iff, Bool.not_eq_true', unfit_iff hr]
  unfold hasOne
  rw [List.any_eq_true]
  constructor
  · rintro ⟨m, hm, h⟩
    exact ⟨m, hm, fun q hq => of_decide_eq_true (List.all_eq_true.mp h q hq)⟩
  · rintro ⟨m, hm, h⟩
    exact ⟨m, hm, List.all_eq_true.mpr fun q hq => decide_eq_true (h q hq)⟩
theorem left_nil {ss : List Sy} {p : Part} : (fitR ss).filter (fun r => agree r p) = [] ↔ fitB ss p = false := by
  rw [List.filter_eq_nil_iff]
  constructor
  · intro h
    cases e : fitB ss p with
    | false => rfl
    | true =>
      obtain ⟨r, hr, ha⟩ := fit_iff_row.mp e
      exact absurd ha (h r hr)
  · intro h r hr ha
    have := fit_iff_row.mpr ⟨r, hr, ha⟩
    rw [h] at this
    cases this
theorem agree_snoc (r : List Bool) (p : Part) (n : Nat) (t : Bool) : agree r (p ++ [(n, t)]) = (agree r p && (r.getD n false == t)) := by simp [agree]
theorem left_snoc (rows : List (List Bool)) (p : Part) (n : Nat) (t : Bool) : (rows.filter fun r => agree r p).filter (fun r => r.getD n false == t) = rows.filter fun r => agree r (p ++ [(n, t)]) := by
  rw [List.filter_filter]
  refine List.filter_congr fun r _ => ?_
  rw [agree_snoc, Bool.and_comm]
end MJ

namespace MJ
open PySem PySem.Spec PyProof.Rows L2
def rNotInK : R2 := fun x y H Q => ∃ (a : Addr) (kvs : List (Key × V)) (k : Key), y = .ref a ∧ Rd H a (.dK kvs) ∧ x = kV k ∧ Q (.bl (!(valV kvs k).isSome)) H
theorem op_notInK {X : Cx} (hu : X.A.units + 1 < cLine) : OpR X (compareOp .NotIn) rNotInK := by
  intro pins s σ H x y v u Q I rx ry h
  obtain ⟨a, kvs, k, rfl, hR, rfl, q⟩ := h
  cases ry
  exact d_notIn hu I (.inl ⟨kvs, k, hR, rfl, rfl⟩) rx fun s' I' => ⟨.bl _, H, I', rfl, q⟩
theorem val_has (k : Key) : ∀ es : List (Key × V), (valV es k).isSome = hasD k (es.map fun e => kD e.1)
  | [] => rfl
  | e :: es => by
    have ih := val_has k es
    by_cases c : e.1 = k
    · rw [valV_pos c]
      simp [hasD, keyD_kD, c]
    · rw [valV_neg c, ih]
      simp only [hasD, List.map_cons, List.any_cons, keyD_kD]
      have : ¬ some e.1 = some k := by simpa using c
      rw [decide_eq_false this, Bool.false_or]
/-- k not in d -/
def B2.notinK : B2 (compareOp .NotIn) where
  b1 := true
  b2 := true
  g := fun d e => match keyD d, e with
    | some k, .dic ks ds => .ok (.bl (!hasD k ks), .sh)
    | _, _ => .bad
  ok := fun X hc hu => ⟨_, op_notInK (by omega), fun W Hs H σ d e x y Q i p1 p2 h => by
    dsimp only at h
    split at h
    · rename_i k ks ds ek
      obtain ⟨a, es, rfl, q, hk, r⟩ : ∃ a es, y = .ref a ∧ H a = some (.dK es) ∧ (es.map fun e => kD e.1) = _ ∧ _ := p2.view i
      refine ⟨a, es, k, rfl, .inl q, argP_key p1 ek, ?_⟩
      rw [val_has, hk]
      exact post_bl i h
    · exact h.elim⟩
@[simp] theorem B2.notinK_1 : B2.notinK.b1 = true := rfl
@[simp] theorem B2.notinK_2 : B2.notinK.b2 = true := rfl
@[simp] theorem B2.notinK_int (k : Int) (ks ds : List D) : B2.notinK.g (.int k) (.dic ks ds) = .ok (.bl (!hasD (.inl k) ks), .sh) := rfl
end MJ

namespace MJ
open PySem PySem.Spec PyProof.Rows L2
theorem sw_cell {v : Expr} {y : Str} {py : Pos} {l : Nat} {env : Env} (hk : env.scope.names.lookup y = some .cell) : swapsWith v (some (.Name y py)) l env = pure false := by
  have e : (env.kindOf y == some NameKind.local) = false := by
    simp [Env.kindOf, hk]
  unfold swapsWith
  split
  · simp [e]
  · rfl
/-- x = e, x a name that inner blocks read (a comprehension too) -/
def C1.setC (i : Nat) (e : CE) : C1 where
  ev := fun call ρ => stR (e.ev call ρ) ρ (setR i ρ)
  chk := fun cf x => match x with
    | .Assign [.Name y _] v _ => chkLoc cf i y && e.chk cf v && (cf.sc.names.lookup y == some .cell)
    | _ => false
  ok := fun {X W cf call} g hp x h => by
    split at h
    · simp only [Bool.and_eq_true] at h
      obtain ⟨⟨h1, h2⟩, h3⟩ := h
      obtain ⟨l1, l2, l3⟩ := g.loc h1
      obtain ⟨t, p, q⟩ := e.ok g _ h2
      refine ⟨_, ps_set g.nodup l1 l2 p (sw_cell (by rw [g.sc]; exact beq_iff_eq.mp h3)) l3, fun Hs0 H0 Hs H ρ σ D ok h => ?_⟩
      exact stE (f := e.ev call) q ok h fun p v Hs' H' ex rs h' => set_go ok ex rs h'
    · cases h
@[simp] theorem C1.setC_ev {call : Calls} {ρ : List Sl} (i : Nat) (e : CE) : (C1.setC i e).ev call ρ = stR (e.ev call ρ) ρ (setR i ρ) := rfl
end MJ

namespace MJ
open PySem PySem.Spec PyProof.Rows L2
def fn_law_turned1_e0 : CE := (.ix .ix (.var 1) (.op _ .mod (.op _ .add (.var 3) (.op _ .mul (.var 4) (.var 5))) (.blt .len (.cons (.var 1) .nil))))
def fn_law_turned1 : Fn where
  ps := ["_law_script", "_law_rows"]
  N := ["_law_script", "_law_rows", "_law_many", "_law_start", "_law_step", "_law_k"]
  body := (.cons (.set 2 (.op _ .add (CE.int 3) (.call "_law_pick" (.cons (.var 0) (.cons (CE.int 8) (.cons (CE.int 19) .nil)))))) (.cons (.set 3 (.call "_law_pick" (.cons (.var 0) (.cons (CE.int 7) (.cons (.blt .len (.cons (.var 1) .nil)) .nil))))) (.cons (.set 4 (.op _ .add (CE.int 1) (.call "_law_pick" (.cons (.var 0) (.cons (CE.int 6) (.cons (.blt .len (.cons (.var 1) .nil)) .nil)))))) (.cons (.ret (.blt .tuple (.cons (.lc [("_law_k", 5)] (.name 5) (.range1 (.var 2)) .no fn_law_turned1_e0) .nil))) .nil))))
def fn_law_holds_for5_b0 : CS := (.share 2 (.cons (.ite (.not (.val (.call "_law_any_agrees" (.cons (.var 2) (.cons (.call "_law_part_of" (.cons (.call "_law_outcome" (.cons (.var 4) (.cons (.var 6) .nil))) .nil)) .nil))))) (.cons (.ret (CE.bl false)) .nil) .nil) .nil))
def fn_law_holds_for5_b1 : CS := (.cons (.set 5 (.blt .len (.cons (.var 4) .nil))) (.cons (.ite (.cmp _ .notinK (.var 5) (.var 3)) (.cons (.put .dict 3 (.var 5) (.call "least_quota" (.cons (.var 1) (.cons (.var 5) .nil)))) .nil) .nil) (.cons (.for_ (.name 6) (.range2 (.dget (.var 3) (.var 5)) (.op _ .add (.var 5) (CE.int 1))) fn_law_holds_for5_b0) .nil)))
def fn_law_holds_for5 : Fn where
  ps := ["_law_script"]
  N := ["_law_script", "_law_sayings", "_law_rows", "_law_least", "_law_judges_here", "_law_many", "_law_quota"]
  body := (.cons (.set 1 (.call "_law_list" (.cons (.var 0) (.cons (CE.int 70) .nil)))) (.cons (.set 2 (.call "_law_fit_rows" (.cons (.var 1) .nil))) (.cons (.set 3 .dic0) (.share 2 (.cons (.for_ (.name 4) (.seq (.op _ .add (.call "_law_groups" (.cons (.var 0) (.cons (.var 2) .nil))) (.lst (.cons (.call "_law_turned" (.cons (.var 0) (.cons (.var 2) .nil))) .nil)))) fn_law_holds_for5_b1) (.cons (.ret (CE.bl true)) .nil))))))
def fn_row_of_e0 : CE := (.call "is_so" (.cons (.var 2) (.cons (.var 1) .nil)))
def fn_row_of : Fn where
  ps := ["sayings", "held"]
  N := ["sayings", "held", "saying"]
  body := (.cons (.ret (.blt .tuple (.cons (.lc [("saying", 2)] (.name 2) (.seq (.var 0)) .no fn_row_of_e0) .nil))) .nil)
def fn_row_without : Fn where
  ps := ["sayings", "part", "at"]
  N := ["sayings", "part", "at"]
  body := (.cons (.ret (.call "row_of" (.cons (.var 0) (.cons (.call "fits" (.cons (.var 0) (.cons (.op _ .add (.slc (.var 1) .no (.at (.var 2))) (.slc (.var 1) (.at (.op _ .add (.var 2) (CE.int 1))) .no)) .nil))) .nil)))) .nil)
def fn_against_e0 : CE := (.ix .ix (.var 4) (.op _ .mod (.var 6) (.blt .len (.cons (.var 3) .nil))))
def fn_against_e1 : CE := (.call "row_without" (.cons (.var 0) (.cons (.var 3) (.cons (.var 5) .nil))))
def fn_against : Fn where
  ps := ["sayings", "many", "quota"]
  N := ["sayings", "many", "quota", "part", "rows", "at", "k"]
  body := (.cons (.ite (.cmp _ .ge (.var 2) (.call "least_quota" (.cons (.var 0) (.cons (.var 1) .nil)))) (.cons (.ret CE.non) .nil) .nil) (.cons (.set 3 (.call "greatest_unfit" (.cons (.var 0) .nil))) (.cons (.setC 4 (.lc [("at", 5)] (.name 5) (.range1 (.blt .len (.cons (.var 3) .nil))) .no fn_against_e1)) (.cons (.ret (.blt .tuple (.cons (.lc [("k", 6)] (.name 6) (.range1 (.var 1)) .no fn_against_e0) .nil))) .nil))))
def fn_law_shown_e0 : CE := (.var 5)
def fn_law_shown_b0 : CS := (.cons (.ite (.bop (op := .Or) (.or (.not (.val (.isi (.var 4) "tuple" "tuple"))) (.or1 (.cmp _ .notin (.var 4) (.var 3))))) (.cons (.ret (CE.bl false)) .nil) .nil) (.cons (.ite (.cmp _ .ne (.blt .len (.cons (.lc [("_law_truth", 5)] (.name 5) (.seq (.var 4)) (.one (.val (.isi (.var 5) "bool" "bool"))) fn_law_shown_e0) .nil)) (.blt .len (.cons (.var 4) .nil))) (.cons (.ret (CE.bl false)) .nil) .nil) .nil))
def fn_law_shown : Fn where
  ps := ["_law_found", "_law_many", "_law_quota", "_law_rows"]
  N := ["_law_found", "_law_many", "_law_quota", "_law_rows", "_law_row_here", "_law_truth"]
  body := (.cons (.ite (.bop (op := .Or) (.or (.not (.val (.isi (.var 0) "tuple" "tuple"))) (.or1 (.cmp _ .ne (.blt .len (.cons (.var 0) .nil)) (.var 1))))) (.cons (.ret (CE.bl false)) .nil) .nil) (.cons (.for_ (.name 4) (.seq (.var 0)) fn_law_shown_b0) (.cons (.ret (.not (.call "_law_any_agrees" (.cons (.var 3) (.cons (.call "_law_part_of" (.cons (.call "_law_outcome" (.cons (.var 0) (.cons (.var 2) .nil))) .nil)) .nil))))) .nil)))
def fn_law16_b0 : CS := (.cons (.set 4 (.op _ .add (CE.int 1) (.op _ .mod (.call "_law_cell" (.cons (.var 0) (.cons (.var 3) .nil))) (CE.int 21)))) (.cons (.set 5 (.op _ .add (.op _ .fdiv (.var 4) (CE.int 2)) (CE.int 1))) (.cons (.set 6 (.op _ .add (.var 5) (.call "_law_pick" (.cons (.var 0) (.cons (.op _ .add (.var 3) (CE.int 1)) (.cons (.op _ .add (.op _ .sub (.var 4) (.var 5)) (CE.int 1)) .nil)))))) (.cons (.set 7 (.call "least_quota" (.cons (.var 1) (.cons (.var 4) .nil)))) (.cons (.ite (.cmp _ .eq (.call "_law_pick" (.cons (.var 0) (.cons (.op _ .add (.var 3) (CE.int 2)) (.cons (CE.int 2) .nil)))) (CE.int 0)) (.cons (.set 6 (.blt .max (.cons (.var 5) (.cons (.op _ .sub (.var 7) (CE.int 1)) .nil)))) .nil) .nil) (.cons (.set 8 (.call "against" (.cons (.var 1) (.cons (.var 4) (.cons (.var 6) .nil))))) (.cons (.ite (.cmp _ .ge (.var 6) (.var 7)) (.cons (.ite (.cmp _ .notN (.var 8) .non) (.cons (.ret (CE.bl false)) .nil) .nil) .nil) (.share 2 (.cons (.ite (.not (.val (.call "_law_shown" (.cons (.var 8) (.cons (.var 4) (.cons (.var 6) (.cons (.var 2) .nil))))))) (.cons (.ret (CE.bl false)) .nil) .nil) .nil))) .nil)))))))
def fn_law16 : Fn where
  ps := ["_law_script"]
  N := ["_law_script", "_law_sayings", "_law_rows", "_law_k", "_law_many", "_law_low", "_law_quota", "_law_least", "_law_found"]
  body := (.cons (.set 1 (.call "_law_list" (.cons (.var 0) (.cons (CE.int 0) .nil)))) (.cons (.set 2 (.call "_law_fit_rows" (.cons (.var 1) .nil))) (.cons (.for_ (.name 3) (.range1 (CE.int 6)) fn_law16_b0) (.cons (.ret (CE.bl true)) .nil))))
def fn_law_holds_for6_e0 : CE := (.var 7)
def fn_law_holds_for6_b0 : CS := (.cons (.set 5 (.var 4)) (.cons (.ite (.cmp _ .eq (.op _ .mod (.blt .len (.cons (.var 5) .nil)) (CE.int 2)) (CE.int 0)) (.cons (.set 5 (.slc (.var 4) (.at (CE.int 1)) .no)) .nil) .nil) (.cons (.ite (.cmp _ .notin (.call "_law_outcome" (.cons (.var 5) (.cons (.op _ .add (.op _ .fdiv (.blt .len (.cons (.var 5) .nil)) (CE.int 2)) (CE.int 1)) .nil))) (.var 2)) (.cons (.ret (CE.bl false)) .nil) .nil) .nil)))
def fn_law_holds_for6_e1 : CE := (.var 6)
def fn_law_holds_for6 : Fn where
  ps := ["_law_script"]
  N := ["_law_script", "_law_sayings", "_law_rows", "_law_three", "_law_group", "_law_judges_here", "_law_row_here", "_law_many"]
  body := (.cons (.set 1 (.call "_law_list" (.cons (.var 0) (.cons (CE.int 70) .nil)))) (.cons (.set 2 (.call "_law_fit_rows" (.cons (.var 1) .nil))) (.cons (.ite (.not (.val (.call "always_fit" (.cons (.var 1) .nil)))) (.cons (.set 3 (.call "against" (.cons (.var 1) (.cons (CE.int 3) (.cons (CE.int 2) .nil))))) (.cons (.ite (.bop (op := .Or) (.or (.not (.val (.isi (.var 3) "tuple" "tuple"))) (.or (.cmp _ .ne (.blt .len (.cons (.var 3) .nil)) (CE.int 3)) (.or1 (.cmp _ .ne (.blt .len (.cons (.lc [("_law_row_here", 6)] (.name 6) (.seq (.var 3)) (.one (.cmp _ .in_ (.var 6) (.var 2))) fn_law_holds_for6_e1) .nil)) (CE.int 3)))))) (.cons (.ret (CE.bl false)) .nil) .nil) (.cons (.ret (.cmp _ .notin (.call "_law_outcome" (.cons (.var 3) (.cons (CE.int 2) .nil))) (.var 2))) .nil))) .nil) (.share 2 (.cons (.for_ (.name 4) (.seq (.call "_law_groups" (.cons (.var 0) (.cons (.var 2) .nil)))) fn_law_holds_for6_b0) (.cons (.ret (.cmp _ .eq (.blt .len (.cons (.lc [("_law_many", 7)] (.name 7) (.seq (.lst (.cons (CE.int 3) (.cons (CE.int 5) (.cons (CE.int 7) .nil))))) (.one (.cmp _ .notN (.call "against" (.cons (.var 1) (.cons (.var 7) (.cons (.op _ .add (.op _ .fdiv (.var 7) (CE.int 2)) (CE.int 1)) .nil)))) .non)) fn_law_holds_for6_e0) .nil)) (CE.int 0))) .nil))))))
end MJ

namespace MJ
open PySem PySem.Spec PyProof.Rows L2
/-! ### outcomes as parts -/
def outPart (w : Nat) (f : Nat → Option Bool) : Part := ((List.range w).filter fun i => (f i).isSome).map fun i => (i, (f i).getD false)
theorem outPart_mem {w : Nat} {f : Nat → Option Bool} {q : Nat × Bool} : q ∈ outPart w f ↔ q.1 < w ∧ f q.1 = some q.2 := by
  unfold outPart
  rw [List.mem_map]
  constructor
  · rintro ⟨i, hi, rfl⟩
    have := List.mem_filter.mp hi
    refine ⟨List.mem_range.mp this.1, ?_⟩
    obtain ⟨b, hb⟩ := Option.isSome_iff_exists.mp this.2
    simp only [hb, Option.getD_some]
  · rintro ⟨h1, h2⟩
    exact ⟨q.1, List.mem_filter.mpr ⟨List.mem_range.mpr h1, by rw [h2]; rfl⟩, by simp [h2]⟩
theorem outPart_rising (w : Nat) (f : Nat → Option Bool) : Rising w (outPart w f) := by
  refine ⟨?_, fun q m => (outPart_mem.mp m).1⟩
  unfold outPart
  rw [List.pairwise_map]
  exact List.Pairwise.filter _ List.pairwise_lt_range
theorem outPart_len (w : Nat) (f : Nat → Option Bool) : (outPart w f).length ≤ w := by
  unfold outPart
  rw [List.length_map]
  exact Nat.le_trans (List.length_filter_le _ _) (by simp)
def outD (w : Nat) (f : Nat → Option Bool) : D := .tup (((List.range w).map f).map optD)
theorem outD_at {w i : Nat} {f : Nat → Option Bool} (h : i < w) : ixD (outD w f) (.int i) = .ok (optD (f i), .sh) := ixD_tup_nat (by simp [h])
section
variable {T : Str → Option Fn} (ns : List Int)
theorem part_of_ev (f : T "_law_part_of" = some fn_law_part_of1) (n : Nat) {w : Nat} (hw : w ≤ 1000) (g : Nat → Option Bool) : evFn T (n + 1) "_law_part_of" [outD w g] = .ok (partD (outPart w g), false) := by
  rw [evFn_succ f rfl]
  simp only [fn_law_part_of1, startSl]
  have rg := rg1_of (show (0 : Int) ≤ (w : Int) by omega) (show (w : Int) < 4611686018427387904 by omega)
  rw [Int.toNat_natCast] at rg
  have body := lcFold_filter (f := lcBody (CG.name 1) (CIf.one (.cmp _ .notN (.ix .ix (.var 0) (.var 1)) .non)) fn_law_part_of1_e0 (evFn T n) [.sh (outD w g), .no]) (fun i : Nat => D.int (0 + (i : Int))) (fun i => (g i).isSome) (fun i : Nat => D.tup [.int i, .bl ((g i).getD false)]) (as := List.range w) fun i hi => by
    have e := outD_at (f := g) (List.mem_range.mp hi)
    have two : 2 ≤ sizeLine := by decide
    generalize outD w g = od at *
    cases hg : g i with
    | none =>
      rw [hg] at e
      simp only [optD] at e
      simp [lcBody, fn_law_part_of1_e0, noEx, e]
    | some b =>
      rw [hg] at e
      simp only [optD] at e
      simp [lcBody, fn_law_part_of1_e0, noEx, e, two]
  have rd : rangeD 0 w = (List.range w).map fun i : Nat => D.int (0 + (i : Int)) := rfl
  rw [← rd] at body
  have ol : (((List.range w).filter fun i => (g i).isSome).map fun i : Nat => D.tup [.int i, .bl ((g i).getD false)]).length ≤ sizeLine := by
    rw [List.length_map]
    exact Nat.le_trans (List.length_filter_le _ _) (by rw [List.length_range]; exact small_len (by omega))
  have eo : partD (outPart w g) = .tup (((List.range w).filter fun i => (g i).isSome).map fun i : Nat => D.tup [.int i, .bl ((g i).getD false)]) := by
    unfold partD outPart
    rw [List.map_map]; rfl
  rw [eo]
  have ll : lenD [outD w g] = .ok (.int w, .sh) := by simp [outD]
  generalize (((List.range w).filter fun i => (g i).isSome).map fun i : Nat => D.tup [.int i, .bl ((g i).getD false)]) = out at *
  generalize outD w g = od at *
  simp [ll, rg, lcRes_eq, wipeSl, body, ol]
theorem any_agrees_ev (ag : T "_law_agrees" = some fn_law_agrees1) (f : T "_law_any_agrees" = some fn_law_any_agrees) (n : Nat) {ss : List Sy} (L : Lst ss) {p : Part} (hp : Rising ss.length p) : evFn T (n + 2) "_law_any_agrees" [.lst ((fitR ss).map rowD), partD p] = .ok (.bl (fitB ss p), false) := by
  rw [evFn_succ f rfl]
  simp only [fn_law_any_agrees, startSl]
  have f32 := L.fit_le
  have s6 := L.le
  have pl := rising_len hp
  have body := lcFold_filter (f := lcBody (CG.name 2) (CIf.one (.val (.call "_law_agrees" (.cons (.var 2) (.cons (.var 1) .nil))))) fn_law_any_agrees_e0 (evFn T (n + 1)) [.sh (.lst ((fitR ss).map rowD)), .sh (partD p), .no]) rowD (fun r => agree r p) rowD (as := fitR ss) fun r hr => by
    have e := agrees1_ev (T := T) ag n (row := r) (ps := p) (d := partD p) (fun q m => by rw [fitR_len hr]; exact hp.2 q m) (by omega) rfl
    generalize agree r p = b at e ⊢
    generalize evFn T (n + 1) = E at e ⊢
    generalize partD p = pd at *
    cases b <;> simp [lcBody, fn_law_any_agrees_e0, noEx, e]
  have fl : ((fitR ss).filter fun r => agree r p).length ≤ sizeLine := Nat.le_trans (List.length_filter_le _ _) (small_len (by omega))
  have h0 := left_nil (ss := ss) (p := p)
  generalize ((fitR ss).filter fun r => agree r p) = fs at *
  generalize partD p = pd at *
  generalize (fitR ss).map rowD = rws at *
  generalize fitB ss p = c at *
  cases c with
  | false =>
    have := h0.mpr rfl
    subst this
    simp [lcRes_eq, wipeSl, body]
  | true =>
    have hne : ¬ fs = [] := fun z => by have := h0.mp z; cases this
    have : 0 < fs.length := List.length_pos_iff.mpr hne
    simp [lcRes_eq, wipeSl, body, fl, this]
theorem turned_ev (h : T "_law_cell" = some fn_law_cell) (g : T "_law_pick" = some fn_law_pick) (f : T "_law_turned" = some fn_law_turned1) (hl : ns.length ≤ 4000) (n : Nat) {rs : List (List Bool)} (hr : rs ≠ []) (hrl : rs.length ≤ 1000) :
    ∃ js : List (List Bool), evFn T (n + 3) "_law_turned" [sc ns, .lst (rs.map rowD)] = .ok (judD js, false) ∧ js ≠ [] ∧ js.length ≤ 21 ∧ ∀ r ∈ js, r ∈ rs := by
  have hr0 : 0 < rs.length := List.length_pos_iff.mpr hr
  have P := fun {k m : Int} (h0 : 0 ≤ k) (h1 : k < 1000000) => pick_ev ns h g hl n (k := k) (m := m) h0 (bdk h0 h1)
  obtain ⟨q1, a0, a1, e1⟩ := P (k := 8) (m := 19) (by decide) (by decide) (by decide)
  obtain ⟨q2, b0, b1, e2⟩ := P (k := 7) (m := (rs.length : Int)) (by decide) (by decide) (by omega)
  obtain ⟨q3, c0, c1, e3⟩ := P (k := 6) (m := (rs.length : Int)) (by decide) (by decide) (by omega)
  rw [evFn_succ f rfl]
  simp only [fn_law_turned1, startSl]
  obtain ⟨js, ejs, jl, jr⟩ := lcFold_all (f := lcBody (CG.name 5) CIf.no fn_law_turned1_e0 (evFn T (n + 2)) [.sh (sc ns), .sh (.lst (rs.map rowD)), .sh (.int (3 + q1)), .sh (.int q2), .sh (.int (1 + q3)), .no]) (g := rowD) (R := fun _ r => r ∈ rs) (ds := rangeD 0 (3 + q1).toNat) fun d hd => by
    obtain ⟨i, hi⟩ := List.mem_iff_getElem?.mp hd
    obtain ⟨hi, rfl⟩ := rangeD_get hi
    have m1 : CMulW (1 + q3) (i : Int) := cmul_of (bdk (a := 20) (by omega) (by omega)) (bdk (a := 20) (by omega) (by omega))
    obtain ⟨d, ed, _, hm⟩ := atI_of (xs := rs.map rowD) (i := (q2 + (1 + q3) * (i : Int)) % (rs.length : Int)) (Int.emod_nonneg _ (by omega)) (by simpa using Int.emod_lt_of_pos _ (show (0 : Int) < (rs.length : Int) by omega))
    obtain ⟨row, hrow, rfl⟩ := List.mem_map.mp hm
    refine ⟨row, ?_, hrow⟩
    simp [lcBody, fn_law_turned1_e0, noEx, m1, hr0, ixD_lst ed]
  rw [rangeD_len] at jl
  have rg := rg1_of (show 0 ≤ 3 + q1 by omega) (show 3 + q1 < 4611686018427387904 by omega)
  refine ⟨js, ?_, fun z => by subst z; simp at jl; omega, by omega, fun r hm => ?_⟩
  · simp [e1, e2, e3, rg, lcRes_eq, wipeSl, ejs, small_len (show js.length ≤ 1000000 by omega), judD]
  · obtain ⟨i, hi⟩ := List.mem_iff_getElem?.mp hm
    have hi2 : i < (rangeD 0 (3 + q1).toNat).length := by
      rw [rangeD_len, ← jl]
      exact (List.getElem?_eq_some_iff.mp hi).1
    exact jr i _ r (List.getElem?_eq_getElem hi2) hi
end
/-! ### counting -/
def cntJ (js : List (List Bool)) (q : Nat × Bool) : Nat := (js.filter fun r => r.getD q.1 false == q.2).length
def cntP (m : Part) (r : List Bool) : Nat := (m.filter fun q => r.getD q.1 false == q.2).length
theorem sum_if (m : Part) (c : Nat × Bool → Bool) (f : Nat × Bool → Nat) : (m.map fun q => if c q = true then f q + 1 else f q).sum = (m.filter c).length + (m.map f).sum := by
  induction m with
  | nil => rfl
  | cons q m ih =>
    simp only [List.map_cons, List.sum_cons, ih, List.filter_cons]
    cases c q <;> simp <;> omega
theorem count_swap (m : Part) : ∀ js : List (List Bool), (m.map (cntJ js)).sum = (js.map (cntP m)).sum
  | [] => by
    have : ∀ m : Part, (m.map (cntJ [])).sum = 0 := fun m => by
      induction m with
      | nil => rfl
      | cons q m ih => simp only [List.map_cons, List.sum_cons, ih]; rfl
    rw [this]; rfl
  | r :: js => by
    have e : (m.map (cntJ (r :: js))) = m.map fun q => if (r.getD q.1 false == q.2) = true then cntJ js q + 1 else cntJ js q := by
      refine List.map_congr_left fun q _ => ?_
      unfold cntJ
      rw [List.filter_cons]
      split <;> simp
    rw [e, sum_if, count_swap m js]
    rfl
theorem sum_ge {α : Type} (f : α → Nat) (b : Nat) : ∀ l : List α, (∀ x ∈ l, b ≤ f x) → l.length * b ≤ (l.map f).sum
  | [], _ => by simp
  | x :: l, h => by
    have h1 := h x (by simp)
    have h2 := sum_ge f b l fun y m => h y (List.mem_cons_of_mem _ m)
    simp only [List.length_cons, List.map_cons, List.sum_cons, Nat.add_mul]
    omega
theorem sum_le {α : Type} (f : α → Nat) (b : Nat) : ∀ l : List α, (∀ x ∈ l, f x ≤ b) → (l.map f).sum ≤ l.length * b
  | [], _ => by simp
  | x :: l, h => by
    have h1 := h x (by simp)
    have h2 := sum_le f b l fun y m => h y (List.mem_cons_of_mem _ m)
    simp only [List.length_cons, List.map_cons, List.sum_cons, Nat.add_mul]
    omega
theorem cnt_yes (js : List (List Bool)) (i : Nat) : cntJ js (i, true) = yesN js i := by
  unfold cntJ yesN
  congr 1
  refine List.filter_congr fun r _ => ?_
  cases r.getD i false <;> rfl
theorem filter_two {α : Type} (p : α → Bool) : ∀ l : List α, (l.filter fun r => p r == false).length + (l.filter p).length = l.length
  | [] => rfl
  | x :: l => by
    have ih := filter_two p l
    cases h : p x <;> simp [List.filter_cons, h] at ih ⊢ <;> omega
theorem cnt_no (js : List (List Bool)) (i : Nat) : cntJ js (i, false) = js.length - yesN js i ∧ yesN js i ≤ js.length := by
  have := filter_two (fun r : List Bool => r.getD i false) js
  refine ⟨?_, yesN_le js i⟩
  unfold cntJ yesN
  show (js.filter fun r => r.getD i false == false).length = _
  omega
/-- what so many judges say is fit, where they are as many as the least quota -/
theorem quota_fit {ss : List Sy} {js : List (List Bool)} (hj : ∀ r ∈ js, r ∈ fitR ss) (h0 : js ≠ []) {q : Int} (hq : lqF (greatF ss).length js.length ≤ q) : fitB ss (outPart ss.length (outP js q)) = true := by
  cases e : fitB ss (outPart ss.length (outP js q)) with
  | true => rfl
  | false =>
    exfalso
    obtain ⟨m, hm, hs⟩ := (unfit_iff (outPart_rising _ _)).mp e
    have ok := smallest_ok hm
    have jl : 1 ≤ js.length := List.length_pos_iff.mpr h0
    have hlq := lq_le (s := (greatF ss).length) (m := (js.length : Int)) (by omega)
    have ge : ∀ x ∈ m, q.toNat ≤ cntJ js x := fun x hx => by
      have := (outPart_mem.mp (hs x hx)).2
      obtain ⟨i, t⟩ := x
      simp only [outP] at this
      split at this
      · rename_i h
        cases this
        rw [cnt_yes]; omega
      · split at this
        · rename_i h
          cases this
          have := cnt_no js i
          omega
        · cases this
    have le : ∀ r ∈ js, cntP m r ≤ m.length - 1 := fun r hr => by
      have h1 := small_unfit hm (hj r hr)
      have h2 := List.length_filter_le (fun q : Nat × Bool => r.getD q.1 false == q.2) m
      unfold cntP
      apply Classical.byContradiction
      intro z
      have h3 : (m.filter fun q => r.getD q.1 false == q.2).length = m.length := by omega
      have h4 := List.length_filter_eq_length_iff.mp h3
      have : agree r m = true := by
        unfold agree
        rw [List.all_eq_true]
        exact h4
      rw [this] at h1
      cases h1
    have s1 := sum_ge (cntJ js) q.toNat m ge
    have s2 := sum_le (cntP m) (m.length - 1) js le
    rw [count_swap] at s1
    have s3 : m.length * q.toNat ≤ js.length * (m.length - 1) := Nat.le_trans s1 s2
    have s4 : (m.length : Int) * q ≤ (js.length : Int) * ((m.length : Int) - 1) := by
      have h1 : ((m.length * q.toNat : Nat) : Int) ≤ ((js.length * (m.length - 1) : Nat) : Int) := by omega
      rw [Int.natCast_mul, Int.natCast_mul, Int.toNat_of_nonneg (by omega)] at h1
      rw [show ((m.length - 1 : Nat) : Int) = (m.length : Int) - 1 by omega] at h1
      exact h1
    have s5 := lq_mono (by omega) (great_max hm) ok.1 s4
    have := (lq_cond (s := (greatF ss).length) (m := (js.length : Int)) (d := q) (by omega) (by omega)).mp ⟨s5, by have := great_max hm; omega⟩
    omega
end MJ

namespace MJ
open PySem PySem.Spec PyProof.Rows L2
theorem bit_exists {b K : Nat} (h0 : b ≠ 0) (hK : b < 2 ^ K) : ∃ n, n < K ∧ b.testBit n = true := by
  apply Classical.byContradiction
  intro z
  refine h0 (Nat.eq_of_testBit_eq fun i => ?_)
  rw [Nat.zero_testBit]
  by_cases c : i < K
  · cases e : b.testBit i with
    | false => rfl
    | true => exact absurd ⟨i, c, e⟩ z
  · exact Nat.testBit_lt_two_pow (Nat.lt_of_lt_of_le hK (Nat.pow_le_pow_right (by decide) (by omega)))
section
variable {T : Str → Option Fn}
theorem first_bit_ev (f : T "first_bit" = some fn_first_bit) (n : Nat) {b K : Nat} (h0 : b ≠ 0) (hK : b < 2 ^ K) (hk : K ≤ 1000) : ∃ i, i < K ∧ b.testBit i = true ∧ evFn T (n + 1) "first_bit" [.int b] = .ok (.int i, false) := by
  obtain ⟨m, hm, hb⟩ := bit_exists h0 hK
  have loop := while_nx (c := CT.ev (.cmp _ .eq (.op _ .and_ (.op _ .shr (.var 0) (.var 1)) (CE.int 1)) (CE.int 0)) (evFn T n)) (b := fn_first_bit_b0.ev (evFn T n))
    (fun w ρ => ∃ i : Nat, ρ = [.sh (.int b), .sh (.int i)] ∧ w + i = m)
    (fun ρ => ∃ i : Nat, ρ = [.sh (.int b), .sh (.int i)] ∧ i < K ∧ b.testBit i = true)
    (by
      rintro w ρ ⟨i, rfl, hw⟩
      have e1 : ((b : Int) / 2 ^ (Int.toNat (i : Int))) = ((b / 2 ^ i : Nat) : Int) := by simp
      have e2 := and_nat (b / 2 ^ i) 1
      rw [Nat.and_one_is_mod] at e2
      have e3 : (((b / 2 ^ i) % 2 : Nat) : Int) = 0 ↔ b.testBit i = false := by
        rw [Nat.testBit_eq_decide_div_mod_eq, decide_eq_false_iff_not]
        omega
      have e4 : Builtin.bitAnd ((b / 2 ^ i : Nat) : Int) 1 = (((b / 2 ^ i) % 2 : Nat) : Int) := e2
      have sh : CT.ev (.cmp _ .eq (.op _ .and_ (.op _ .shr (.var 0) (.var 1)) (CE.int 1)) (CE.int 0)) (evFn T n) [.sh (.int b), .sh (.int i)] = .ok ((((b / 2 ^ i) % 2 : Nat) : Int) == 0) := by
        rw [← e4, ← e1]
        simp
      by_cases c : b.testBit i = true
      · refine .inr ⟨?_, i, rfl, by omega, c⟩
        rw [sh]
        have : ¬ ((((b / 2 ^ i) % 2 : Nat) : Int) = 0) := fun z => by rw [e3.mp z] at c; cases c
        exact congrArg Res.ok (beq_eq_false_iff_ne.mpr this)
      · have c' : b.testBit i = false := by simpa using c
        have him : i ≠ m := fun z => by subst z; exact c hb
        refine .inl ⟨?_, w - 1, by omega, ?_⟩
        · rw [sh]
          exact congrArg Res.ok (beq_iff_eq.mpr (e3.mpr c'))
        · refine nx_gen fun Q hQ => ?_
          have g := hQ [.sh (.int b), .sh (.int ((i + 1 : Nat) : Int))] ⟨i + 1, rfl, by omega⟩
          have ce : ((i + 1 : Nat) : Int) = (i : Int) + 1 := by omega
          rw [ce] at g
          clear hQ
          simp [fn_first_bit_b0, g]) wfuel m _ ⟨0, rfl, by omega⟩ (by rw [wfuel_eq]; omega)
  obtain ⟨ρ, eρ, i, rfl, hi, hbi⟩ := loop
  refine ⟨i, hi, hbi, ?_⟩
  rw [evFn_succ f rfl]
  have z0 : ((0 : Nat) : Int) = 0 := rfl
  rw [z0] at eρ
  simp [fn_first_bit, startSl, eρ]
theorem fits_ev (li : T "letters_in" = some fn_letters_in) (ni : T "names_in" = some fn_names_in) (no : T "names_of" = some fn_names_of) (f1 : T "all_bits" = some fn_all_bits) (f2 : T "letter_bits" = some fn_letter_bits) (f3 : T "table" = some fn_table)
    (bo : T "bits_of" = some fn_bits_of) (bf : T "bits_for" = some fn_bits_for) (fb : T "first_bit" = some fn_first_bit) (hb : T "held_by" = some fn_held_by) (f : T "fits" = some fn_fits) (n : Nat) {ss : List Sy} (L : Lst ss) {ps : Part} (hp : PartOk ss ps) :
    (fitB ss ps = false ∧ evFn T (n + 45) "fits" [.tup (ss.map enc), partD ps] = .ok (.non, false)) ∨
    (∃ k, k < many ss ∧ agree (rowK ss k) ps = true ∧ evFn T (n + 45) "fits" [.tup (ss.map enc), partD ps] = .ok (.tup ((heldF (k : Int) (namesL ss)).map .str), false)) := by
  have ef := bits_for_ev li ni no f1 f2 f3 bo bf n L hp
  have ef : evFn T (n + 44) "bits_for" [.tup (ss.map enc), partD ps] = .ok (.int (bitP ss ps), false) := ef
  have en := names_of_ev li ni no (n + 2) L
  have two5 := L.two5
  by_cases c : bitP ss ps = 0
  · refine .inl ⟨by unfold fitB; simp [c], ?_⟩
    rw [evFn_succ f rfl]
    simp only [fn_fits, startSl]
    rw [c] at ef
    generalize partD ps = pd at *
    simp [ef]
  · obtain ⟨k, hk, hb', e1⟩ := first_bit_ev (T := T) fb (n + 43) c (K := many ss) (bitsN_lt _ _) (by unfold many; omega)
    refine .inr ⟨k, hk, ?_, ?_⟩
    · have := bitsN_bit (fun k => agree (rowK ss k) ps) k (many ss)
      unfold bitP at hb'
      rw [this] at hb'
      simp [hk] at hb'
      exact hb'
    · have eh := held_by_ev (T := T) hb (n + 43) k (nms := namesL ss) (by have := L.nm; omega)
      rw [evFn_succ f rfl]
      simp only [fn_fits, startSl]
      have c' : ¬ ((bitP ss ps : Nat) : Int) = 0 := by omega
      generalize partD ps = pd at *
      generalize bitP ss ps = b at *
      simp [ef, c, e1, en, eh]
theorem row_of_ev (so : T "is_so" = some fn_is_so) (f : T "row_of" = some fn_row_of) (n : Nat) {ss : List Sy} (L : Lst ss) {hd : List Str} (hh : ∀ z ∈ hd, PyData.strOk z = true) :
    evFn T (n + 41) "row_of" [.tup (ss.map enc), .tup (hd.map .str)] = .ok (rowD (rowF ss hd), false) := by
  rw [evFn_succ f rfl]
  simp only [fn_row_of, startSl]
  have body := lcFold_map (f := lcBody (CG.name 2) CIf.no fn_row_of_e0 (evFn T (n + 40)) [.sh (.tup (ss.map enc)), .sh (.tup (hd.map .str)), .no]) enc (fun s => .bl (s.so hd)) (as := ss) fun s hs => by
    have e := is_so_ev (T := T) so hh s (n + 40 - s.depth) (L.sok hs)
    rw [Nat.sub_add_cancel (by have := L.dp hs; omega)] at e
    simp [lcBody, fn_row_of_e0, noEx, e]
  have := L.le
  simp [lcRes_eq, wipeSl, body, small_len (show ss.length ≤ 1000000 by omega), rowD, rowF]
/-- what the callees of against do, at one level -/
structure AgEv (T : Str → Option Fn) (ss : List Sy) (lev : Nat) : Prop where
  fit : ∀ {ps : Part}, PartOk ss ps → (fitB ss ps = false ∧ evFn T lev "fits" [.tup (ss.map enc), partD ps] = .ok (.non, false)) ∨
    (∃ k, k < many ss ∧ agree (rowK ss k) ps = true ∧ evFn T lev "fits" [.tup (ss.map enc), partD ps] = .ok (.tup ((heldF (k : Int) (namesL ss)).map .str), false))
  row : ∀ {hd : List Str}, (∀ z ∈ hd, PyData.strOk z = true) → evFn T lev "row_of" [.tup (ss.map enc), .tup (hd.map .str)] = .ok (rowD (rowF ss hd), false)
theorem row_without_ev {lev : Nat} {ss : List Sy} (L : Lst ss) (A : AgEv T ss lev) (f : T "row_without" = some fn_row_without) {p : Part} (hp : PartOk ss p) (hl : p.length ≤ 1000) {i : Nat} (hf : fitB ss (p.eraseIdx i) = true) :
    ∃ r ∈ fitR ss, agree r (p.eraseIdx i) = true ∧ evFn T (lev + 1) "row_without" [.tup (ss.map enc), partD p, .int i] = .ok (rowD r, false) := by
  have hp2 : PartOk ss (p.eraseIdx i) := fun q hq => hp q (List.mem_of_mem_eraseIdx hq)
  rcases A.fit hp2 with ⟨h, _⟩ | ⟨k, hk, ha, e⟩
  · rw [hf] at h; cases h
  · refine ⟨rowK ss k, fitR_mem'.mpr ⟨k, hk, rfl⟩, ha, ?_⟩
    have er := A.row (hd := heldF (k : Int) (namesL ss)) (heldF_lets L.nok)
    have er : evFn T lev "row_of" [.tup (ss.map enc), .tup ((heldF (k : Int) (namesL ss)).map .str)] = .ok (rowD (rowK ss k), false) := er
    have ec := cut_at p i
    rw [if_pos hl] at ec
    rw [evFn_succ f rfl]
    simp only [fn_row_without, startSl]
    generalize rowD (rowK ss k) = rd at *
    generalize (heldF (k : Int) (namesL ss)).map D.str = hd at *
    generalize partD (p.eraseIdx i) = pe at *
    unfold partD
    generalize p.map prD = pm at *
    simp [ec, e, er]
theorem against_ev {lev : Nat} {ss : List Sy} (L : Lst ss) (A : AgEv T ss lev) (rw_ : T "row_without" = some fn_row_without) (gr : evFn T (lev + 1) "greatest_unfit" [.tup (ss.map enc)] = .ok (partD (greatF ss), false)) (lq : ∀ {m : Int}, 0 ≤ m → m < 1000 → evFn T (lev + 1) "least_quota" [.tup (ss.map enc), .int m] = .ok (.int (lqF (greatF ss).length m), false))
    (f : T "against" = some fn_against) {m : Nat} {q : Int} (m1 : m ≤ 900) :
    (lqF (greatF ss).length m ≤ q ∧ evFn T (lev + 2) "against" [.tup (ss.map enc), .int m, .int q] = .ok (.non, false)) ∨
    (q < lqF (greatF ss).length m ∧ (2 < (greatF ss).length → ∃ rs : List (List Bool), rs.length = (greatF ss).length ∧ (∀ i r, rs[i]? = some r → r ∈ fitR ss ∧ agree r ((greatF ss).eraseIdx i) = true) ∧
      evFn T (lev + 2) "against" [.tup (ss.map enc), .int m, .int q] = .ok (judD ((List.range m).map fun k => rs.getD (k % (greatF ss).length) []), false))) := by
  have lq := lq (m := (m : Int)) (by omega) (by omega)
  rw [evFn_succ f rfl]
  simp only [fn_against, startSl]
  by_cases c : lqF (greatF ss).length m ≤ q
  · exact .inl ⟨c, by simp [lq, c]⟩
  · refine .inr ⟨by omega, fun h2 => ?_⟩
    have gm : greatF ss ∈ smallestF ss := by
      rcases great_mem ss with e | h
      · rw [e] at h2; simp at h2
      · exact h
    have ok := smallest_ok gm
    have s6 := L.le
    obtain ⟨rs, ers, rl, rr⟩ := lcFold_all (f := lcBody (CG.name 5) CIf.no fn_against_e1 (evFn T (lev + 1)) [.sh (.tup (ss.map enc)), .sh (.int m), .sh (.int q), .sh (partD (greatF ss)), .no, .no, .no]) (g := rowD) (R := fun d r => ∀ i : Nat, d = .int (0 + (i : Int)) → r ∈ fitR ss ∧ agree r ((greatF ss).eraseIdx i) = true) (ds := rangeD 0 (greatF ss).length) fun d hd => by
      obtain ⟨i, hi⟩ := List.mem_iff_getElem?.mp hd
      obtain ⟨hlt, rfl⟩ := rangeD_get hi
      obtain ⟨r0, hr0, ha0⟩ := small_erase gm hlt
      obtain ⟨r, hr, ha, e⟩ := row_without_ev L A rw_ ok.2.2.1.po (by omega) (i := i) (fit_iff_row.mpr ⟨r0, hr0, ha0⟩)
      refine ⟨r, ?_, fun j hj => ?_⟩
      · generalize partD (greatF ss) = pd at *
        generalize evFn T (lev + 1) = E at e ⊢
        simp [lcBody, fn_against_e1, noEx, e]
      · have : i = j := by
          have := D.int.inj hj
          omega
        subst this
        exact ⟨hr, ha⟩
    rw [rangeD_len] at rl
    have rr2 : ∀ i r, rs[i]? = some r → r ∈ fitR ss ∧ agree r ((greatF ss).eraseIdx i) = true := fun i r hi => by
      have h1 := (List.getElem?_eq_some_iff.mp hi).1
      have h2 : (rangeD 0 (greatF ss).length)[i]? = some (.int (0 + (i : Int))) := by
        simp [rangeD, List.getElem?_range (show i < (greatF ss).length by omega)]
      exact rr i _ r h2 hi i rfl
    refine ⟨rs, rl, rr2, ?_⟩
    have c' : ¬ lqF (greatF ss).length m ≤ q := c
    have b2 := lcFold_map (f := lcBody (CG.name 6) CIf.no fn_against_e0 (evFn T (lev + 1)) [.sh (.tup (ss.map enc)), .sh (.int m), .sh (.int q), .sh (partD (greatF ss)), .ow (.lst (rs.map rowD)), .no, .no]) (fun k : Nat => D.int (0 + (k : Int))) (fun k : Nat => rowD (rs.getD (k % (greatF ss).length) [])) (as := List.range m) fun k hk => by
      have hlt : k % (greatF ss).length < rs.length := by rw [rl]; exact Nat.mod_lt _ (by omega)
      have e1 : ixD (.lst (rs.map rowD)) (.int ((k % (greatF ss).length : Nat) : Int)) = .ok (rowD (rs.getD (k % (greatF ss).length) []), .sh) := ixD_lst_nat (by simp [List.getD_eq_getElem?_getD, List.getElem?_eq_getElem hlt])
      have e2 : (k : Int) % ((greatF ss).length : Int) = ((k % (greatF ss).length : Nat) : Int) := by simp
      have lp := lenD_part (greatF ss)
      have pos : (0 : Int) < ((greatF ss).length : Int) := by omega
      have pos' : 0 < (greatF ss).length := by omega
      rw [← e2] at e1
      generalize rs.map rowD = rsd at *
      generalize rowD (rs.getD (k % (greatF ss).length) []) = res at *
      generalize partD (greatF ss) = pd at *
      generalize (greatF ss).length = s at *
      simp [lcBody, fn_against_e0, noEx, lp, pos', e1]
    have rd : rangeD 0 m = (List.range m).map fun k : Nat => D.int (0 + (k : Int)) := rfl
    rw [← rd] at b2
    have ol : ((List.range m).map fun k : Nat => rowD (rs.getD (k % (greatF ss).length) [])).length ≤ sizeLine := by simpa using small_len (show m ≤ 1000000 by omega)
    have rsl := small_len (show rs.length ≤ 1000000 by omega)
    have rg1' := rg1_of (show (0 : Int) ≤ ((greatF ss).length : Int) by omega) (show ((greatF ss).length : Int) < 4611686018427387904 by omega)
    have rg2' := rg1_of (show (0 : Int) ≤ (m : Int) by omega) (show (m : Int) < 4611686018427387904 by omega)
    rw [Int.toNat_natCast] at rg1' rg2'
    have lp := lenD_part (greatF ss)
    have ej : judD ((List.range m).map fun k => rs.getD (k % (greatF ss).length) []) = .tup ((List.range m).map fun k : Nat => rowD (rs.getD (k % (greatF ss).length) [])) := by
      unfold judD
      rw [List.map_map]; rfl
    rw [ej]
    have rsl2 : (rs.map rowD).length ≤ sizeLine := by rw [List.length_map]; exact rsl
    generalize ((List.range m).map fun k : Nat => rowD (rs.getD (k % (greatF ss).length) [])) = out at *
    generalize rs.map rowD = rsd at *
    generalize rangeD 0 (greatF ss).length = rd1 at *
    generalize rangeD 0 m = rd2 at *
    generalize lqF (greatF ss).length m = Q0 at *
    generalize partD (greatF ss) = pd at *
    generalize evFn T (lev + 1) = E at *
    simp [lq, c', gr, lp, rg1', lcRes_eq, wipeSl, ers, rsl2, rg2', b2, ol]
end
/-! ### the judges that against shows -/
theorem count_mod {m s x : Nat} (hs : 0 < s) (hm : 1 ≤ m) : ((List.range m).filter fun k => k % s == x).length ≤ (m - 1) / s + 1 := by
  have h1 : (((List.range m).filter fun k => k % s == x).map (· / s)).Nodup := by
    unfold List.Nodup
    rw [List.pairwise_map]
    refine List.Pairwise.imp_of_mem ?_ (List.Pairwise.filter _ List.nodup_range)
    intro a b ha hb ne e
    have ea := (List.mem_filter.mp ha).2
    have eb := (List.mem_filter.mp hb).2
    simp only [beq_iff_eq] at ea eb
    have h1 := Nat.div_add_mod a s
    have h2 := Nat.div_add_mod b s
    rw [e, ea] at h1
    rw [eb] at h2
    exact ne (h1.symm.trans h2)
  have h2 := nodup_le h1 (b := List.range ((m - 1) / s + 1)) fun y hy => by
    obtain ⟨k, hk, rfl⟩ := List.mem_map.mp hy
    have := List.mem_range.mp (List.mem_filter.mp hk).1
    have := Nat.div_le_div_right (c := s) (show k ≤ m - 1 by omega)
    exact List.mem_range.mpr (by omega)
  rw [List.length_map, List.length_range] at h2
  exact h2
theorem against_unfit {ss : List Sy} {rs : List (List Bool)} {m : Nat} {q : Int} (m1 : 1 ≤ m) (h2 : 2 < (greatF ss).length) (rl : rs.length = (greatF ss).length) (rr : ∀ i r, rs[i]? = some r → r ∈ fitR ss ∧ agree r ((greatF ss).eraseIdx i) = true)
    (hq : q < lqF (greatF ss).length m) (hq0 : (m : Int) / 2 + 1 ≤ q) : fitB ss (outPart ss.length (outP ((List.range m).map fun k => rs.getD (k % (greatF ss).length) []) q)) = false := by
  have gm : greatF ss ∈ smallestF ss := by
    rcases great_mem ss with e | h
    · rw [e] at h2; simp at h2
    · exact h
  have ok := smallest_ok gm
  cases e : fitB ss (outPart ss.length (outP ((List.range m).map fun k => rs.getD (k % (greatF ss).length) []) q)) with
  | false => rfl
  | true =>
    exfalso
    have hsub : ∀ x ∈ greatF ss, x ∈ outPart ss.length (outP ((List.range m).map fun k => rs.getD (k % (greatF ss).length) []) q) := fun x hx => by
      obtain ⟨t, ht⟩ := List.mem_iff_getElem?.mp hx
      have tl := (List.getElem?_eq_some_iff.mp ht).1
      have cond := (lq_cond (s := (greatF ss).length) (m := (m : Int)) (d := q) (by omega) hq0).mpr ⟨hq, by omega⟩
      have cm := count_mod (m := m) (s := (greatF ss).length) (x := t) (by omega) m1
      have two := filter_two (fun k : Nat => k % (greatF ss).length == t) (List.range m)
      rw [List.length_range] at two
      have cj : ((List.range m).filter fun k : Nat => (k % (greatF ss).length == t) == false).length ≤ cntJ ((List.range m).map fun k => rs.getD (k % (greatF ss).length) []) x := by
        unfold cntJ
        rw [List.filter_map, List.length_map, ← List.countP_eq_length_filter, ← List.countP_eq_length_filter]
        refine List.countP_mono_left fun k hk hne => ?_
        have hne : ¬ k % (greatF ss).length = t := by simpa using hne
        have hlt : k % (greatF ss).length < rs.length := by rw [rl]; exact Nat.mod_lt _ (by omega)
        have e1 : rs.getD (k % (greatF ss).length) [] = rs[k % (greatF ss).length] := by simp [List.getD_eq_getElem?_getD, List.getElem?_eq_getElem hlt]
        show ((rs.getD (k % (greatF ss).length) []).getD x.1 false == x.2) = true
        rw [beq_iff_eq, e1]
        exact agree_mem.mp (rr _ _ (List.getElem?_eq_getElem hlt)).2 x (List.mem_eraseIdx_iff_getElem?.mpr ⟨t, fun z => hne z.symm, ht⟩)
      have hdiv : (greatF ss).length * ((m - 1) / (greatF ss).length) ≤ m - 1 := Nat.mul_div_le _ _
      generalize ((List.range m).filter fun k : Nat => k % (greatF ss).length == t).length = ceq at *
      generalize ((List.range m).filter fun k : Nat => (k % (greatF ss).length == t) == false).length = cne at *
      have hge : q ≤ (cne : Int) := by
        generalize (greatF ss).length = s at *
        have c1 := cond.1
        generalize (m - 1) / s = dv at *
        have h1 : s * ceq ≤ s * (dv + 1) := Nat.mul_le_mul_left s cm
        rw [Nat.mul_add] at h1
        have h3 : s * cne + s * ceq = s * m := by rw [← Nat.mul_add, two]
        apply Classical.byContradiction
        intro z
        have h4 : (cne : Int) + 1 ≤ q := by omega
        have h5 : (s : Int) * ((cne : Int) + 1) ≤ (s : Int) * q := Int.mul_le_mul_of_nonneg_left h4 (by omega)
        rw [Int.mul_add] at h5
        rw [Int.mul_sub] at c1
        have h6 : ((s * cne : Nat) : Int) + ((s * ceq : Nat) : Int) = ((s * m : Nat) : Int) := by omega
        have e1 : ((s * cne : Nat) : Int) = (s : Int) * cne := Int.natCast_mul _ _
        have e2 : ((s * m : Nat) : Int) = (s : Int) * m := Int.natCast_mul _ _
        have e3 := Int.mul_comm (s : Int) m
        omega
      obtain ⟨i, b⟩ := x
      refine outPart_mem.mpr ⟨ok.2.2.1.2 _ hx, ?_⟩
      have jl : (((List.range m).map fun k => rs.getD (k % (greatF ss).length) []).length) = m := by simp
      generalize ((List.range m).map fun k => rs.getD (k % (greatF ss).length) []) = js at *
      show outP js q i = some b
      unfold outP
      cases b with
      | true =>
        rw [cnt_yes] at cj
        rw [if_pos (by omega)]
      | false =>
        have := cnt_no js i
        rw [if_neg (by omega), if_pos (by omega)]
    have hf := fit_sub hsub e
    obtain ⟨r, hr, ha⟩ := fit_iff_row.mp hf
    rw [small_unfit gm hr] at ha
    cases ha
end MJ

namespace MJ
open PySem PySem.Spec PyProof.Rows L2
theorem ArgPs.rps {X : Cx} {b : Bool} {Hs H : Hp} (i : Same Hs H) : ∀ {ds : List D} {vs : List V}, ArgPs X b Hs H ds vs → Rps X.K X.mg H ds vs
  | _, _, .nil => .nil
  | _, _, .cons h t => .cons ((h.view i).rp i) (ArgPs.rps i t)
def scal : Res (D × Bool) → Res (D × Fr)
  | .ok (.bl b, _) => .ok (.bl b, .sh)
  | .ok (.int b, _) => .ok (.int b, .sh)
  | .ok (.non, _) => .ok (.non, .sh)
  | _ => .bad
@[simp] theorem scal_bl (b c : Bool) : scal (.ok (.bl b, c)) = .ok (.bl b, .sh) := rfl
@[simp] theorem scal_int (b : Int) (c : Bool) : scal (.ok (.int b, c)) = .ok (.int b, .sh) := rfl
/-- a call that is lent one's own lists: what it tells is a truth, a number or None -/
def CE.callB (f : Str) (es : CEs) : CE where
  ev := fun call ρ => (es.ev true call ρ).bind fun ds => scal (call f ds)
  chk := fun cf x => match x with
    | .Call (.Name y _) (a :: r) [] _ => decide (y = f) && glob cf f && es.chk cf (a :: r) && !(f == ("__debug__" : Str)) && decide (f ∈ cf.fs)
    | _ => false
  star := fun cf x h => by cases x <;> first | rfl | cases h
  ok := fun {X W cf call} g x h => by
    split at h
    · simp only [Bool.and_eq_true, decide_eq_true_eq, Bool.not_eq_true'] at h
      obtain ⟨⟨⟨⟨rfl, h1⟩, h2⟩, h3⟩, h4⟩ := h
      rename_i y _ a r pos
      have hst := es.star cf (a :: r) h2
      rw [List.all_cons, Bool.and_eq_true] at hst
      obtain ⟨t, pa, qa⟩ := es.ok g true _ h2
      obtain ⟨k, ad, fd, ps, F, hr, hm, hk, hb⟩ := g.call y h4
      refine ⟨_, pe_callS F hr (g.gl h1) hm hk hb (fun σ => passAt g.tk σ) pa h3 (starEach_cons hst.1) (no_star hst.2), fun Hs0 H0 Hs H ρ σ Q ok h => ?_⟩
      refine seqA (g := fun ds => scal (call y ds)) qa ok h fun ds vs Hs' H' e p h' => ?_
      refine ⟨H', ds, .refl _, p.rps e.i, ?_⟩
      have key : ∀ {d : D} {v : V} {Hs2 H2 : Hp}, (∀ K mg H, Rp K mg H d v) → PostE X W Hs' H' σ Q (.ok (d, .sh)) → Ext H' H' Hs2 H2 → Q v H2 := fun {d v Hs2 H2} rd h' e2 =>
        h' v Hs' H2 ⟨.refl _, e2.h, e.i.trans e2.h, fun a n _ => n⟩ (rd _ _ _)
      cases ec : call y ds with
      | bad => rw [ec] at h'; exact h'
      | ex c es => rw [ec] at h'; exact h'.elim
      | ok q =>
        rw [ec] at h'
        obtain ⟨d, b⟩ := q
        cases d with
        | bl c =>
          intro v Hs2 H2 e2 r
          cases b with
          | false =>
            have : v = .bl c := by simpa [flag, Rs, Rp] using r
            subst this
            exact key (fun _ _ _ => by simp [Rp]) h' e2
          | true => obtain ⟨_, _, _, _, _, _, z⟩ := r; exact z.elim
        | int c =>
          intro v Hs2 H2 e2 r
          cases b with
          | false =>
            have : v = .int c := by simpa [flag, Rs, Rp] using r
            subst this
            exact key (fun _ _ _ => by simp [Rp]) h' e2
          | true => obtain ⟨_, _, _, _, _, _, z⟩ := r; exact z.elim
        | non =>
          intro v Hs2 H2 e2 r
          cases b with
          | false =>
            have : v = .non := by simpa [flag, Rs, Rp] using r
            subst this
            exact key (fun _ _ _ => by simp [Rp]) h' e2
          | true => obtain ⟨_, _, _, _, _, _, z⟩ := r; exact z.elim
        | _ => exact h'.elim
    · cases h
@[simp] theorem CE.callB_ev {call : Calls} {ρ : List Sl} (f : Str) (es : CEs) : (CE.callB f es).ev call ρ = (es.ev true call ρ).bind fun ds => scal (call f ds) := rfl
end MJ

namespace MJ
open PySem PySem.Spec PyProof.Rows L2
def fn_who_say_e0 : CE := (.var 3)
def fn_who_say : Fn where
  ps := ["judges", "number", "truth"]
  N := ["judges", "number", "truth", "k", "row"]
  body := (.cons (.ret (.lc [("k", 3), ("row", 4)] (.tup (.cons 3 (.cons 4 .nil))) (.enum (.var 0)) (.one (.cmp _ .eq (.ix .ix (.var 4) (.var 1)) (.var 2))) fn_who_say_e0)) .nil)
def fn_most_b0 : CS := (.cons (.meth .append 1 (.cons (.cmp _ .gt (.op _ .mul (CE.int 2) (.blt .len (.cons (.call "who_say" (.cons (.var 0) (.cons (.var 2) (.cons (CE.bl true) .nil)))) .nil))) (.blt .len (.cons (.var 0) .nil))) .nil)) .nil)
def fn_most : Fn where
  ps := ["judges"]
  N := ["judges", "found", "number"]
  body := (.cons (.set 1 (.lst .nil)) (.cons (.for_ (.name 2) (.range1 (.blt .len (.cons (.ix .ix (.var 0) (CE.int 0)) .nil))) fn_most_b0) (.cons (.ret (.blt .tuple (.cons (.var 1) .nil))) .nil)))
def fn_law_names1_b0 : CS := (.cons (.set 9 (.op _ .add (.op _ .add (.slc (.var 4) .no (.at (.var 6))) (.ix .ix (.var 3) (.op _ .mod (.op _ .add (.var 7) (.op _ .mul (CE.int 5) (.var 5))) (CE.int 26)))) (.slc (.var 4) (.at (.var 6)) .no))) (.cons (.ite (.cmp _ .in_ (.var 9) (.lst (.cons (CE.str "not") (.cons (CE.str "and") (.cons (CE.str "or") (.cons (CE.str "if") (.cons (CE.str "then") (.cons (CE.str "say") (.cons (CE.str "judge") .nil))))))))) (.cons (.set 9 (.op _ .add (.var 9) (CE.str "q"))) .nil) .nil) (.cons (.meth .append 8 (.cons (.var 9) .nil)) .nil)))
def fn_law_names1_b1 : CS := (.cons (.set 4 (.op _ .add (.var 4) (.ix .ix (.var 3) (.call "_law_pick" (.cons (.var 0) (.cons (.op _ .add (.op _ .add (.var 1) (.op _ .mul (CE.int 11) (.var 5))) (CE.int 1)) (.cons (CE.int 26) .nil))))))) .nil)
def fn_law_names1 : Fn where
  ps := ["_law_script", "_law_k", "_law_many"]
  N := ["_law_script", "_law_k", "_law_many", "_law_letters_here", "_law_word", "_law_j", "_law_at", "_law_first", "_law_names_here", "_law_name"]
  body := (.cons (.set 3 (CE.str "abcdefghijklmnopqrstuvwxyz")) (.cons (.set 4 (CE.str "")) (.cons (.for_ (.name 5) (.range1 (.call "_law_pick" (.cons (.var 0) (.cons (.var 1) (.cons (CE.int 5) .nil))))) fn_law_names1_b1) (.cons (.set 6 (.call "_law_pick" (.cons (.var 0) (.cons (.op _ .add (.var 1) (CE.int 2)) (.cons (.op _ .add (.blt .len (.cons (.var 4) .nil)) (CE.int 1)) .nil))))) (.cons (.set 7 (.call "_law_pick" (.cons (.var 0) (.cons (.op _ .add (.var 1) (CE.int 3)) (.cons (CE.int 26) .nil))))) (.cons (.set 8 (.lst .nil)) (.cons (.for_ (.name 5) (.range1 (.var 2)) fn_law_names1_b0) (.cons (.retv 8) .nil))))))))
def fn_law_saying2 : Fn where
  ps := ["_law_script", "_law_k", "_law_deep", "_law_names_here"]
  N := ["_law_script", "_law_k", "_law_deep", "_law_names_here", "_law_way", "_law_one", "_law_other"]
  body := (.cons (.set 4 (.call "_law_pick" (.cons (.var 0) (.cons (.var 1) (.cons (CE.int 8) .nil))))) (.cons (.ite (.bop (op := .Or) (.or (.cmp _ .eq (.var 2) (CE.int 0)) (.or1 (.cmp _ .eq (.var 4) (CE.int 0))))) (.cons (.ret (.tup (.cons (CE.str "letter") (.cons (.ix .ix (.var 3) (.call "_law_pick" (.cons (.var 0) (.cons (.op _ .add (.var 1) (CE.int 1)) (.cons (.blt .len (.cons (.var 3) .nil)) .nil))))) .nil)))) .nil) .nil) (.cons (.set 5 (.call "_law_saying" (.cons (.var 0) (.cons (.op _ .add (.op _ .mul (CE.int 3) (.var 1)) (CE.int 7)) (.cons (.op _ .sub (.var 2) (CE.int 1)) (.cons (.var 3) .nil)))))) (.cons (.ite (.cmp _ .lt (.var 4) (CE.int 3)) (.cons (.ret (.tup (.cons (CE.str "not") (.cons (.var 5) .nil)))) .nil) .nil) (.cons (.set 6 (.call "_law_saying" (.cons (.var 0) (.cons (.op _ .add (.op _ .mul (CE.int 3) (.var 1)) (CE.int 8)) (.cons (.op _ .sub (.var 2) (CE.int 1)) (.cons (.var 3) .nil)))))) (.cons (.ret (.tup (.cons (.ix .ix (.lst (.cons (CE.str "and") (.cons (CE.str "or") (.cons (CE.str "if") .nil)))) (.op _ .mod (.var 4) (CE.int 3))) (.cons (.var 5) (.cons (.var 6) .nil))))) .nil))))))
def fn_law_joined_b0 : CS := (.cons (.set 2 (.tup (.cons (.var 0) (.cons (.var 2) (.cons (.var 3) .nil))))) .nil)
def fn_law_joined : Fn where
  ps := ["_law_word", "_law_some"]
  N := ["_law_word", "_law_some", "_law_found", "_law_saying_here"]
  body := (.cons (.set 2 (.ix .ix (.var 1) (CE.int 0))) (.cons (.for_ (.name 3) (.seq (.slc (.var 1) (.at (CE.int 1)) .no)) fn_law_joined_b0) (.cons (.retv 2) .nil)))
def fn_law_turned : Fn where
  ps := ["_law_script", "_law_k", "_law_saying_here"]
  N := ["_law_script", "_law_k", "_law_saying_here"]
  body := (.cons (.ite (.cmp _ .eq (.call "_law_pick" (.cons (.var 0) (.cons (.var 1) (.cons (CE.int 4) .nil)))) (CE.int 0)) (.cons (.ret (.tup (.cons (CE.str "not") (.cons (.var 2) .nil)))) .nil) .nil) (.cons (.retv 2) .nil))
def fn_law_chain_e0 : CE := (.call "_law_turned" (.cons (.var 0) (.cons (.op _ .add (CE.int 90) (.var 7)) (.cons (.tup (.cons (CE.str "letter") (.cons (.ix .ix (.var 1) (.var 7)) .nil))) .nil))))
def fn_law_chain : Fn where
  ps := ["_law_script", "_law_names_here"]
  N := ["_law_script", "_law_names_here", "_law_many", "_law_some", "_law_total", "_law_sayings_here", "_law_at", "_law_j"]
  body := (.cons (.set 2 (.op _ .add (CE.int 2) (.call "_law_pick" (.cons (.var 0) (.cons (CE.int 4) (.cons (CE.int 4) .nil)))))) (.cons (.setLc 3 [("_law_j", 7)] (.name 7) (.range1 (.var 2)) .no fn_law_chain_e0) (.share 3 (.cons (.set 4 (.call "_law_turned" (.cons (.var 0) (.cons (CE.int 96) (.cons (.call "_law_joined" (.cons (.ix .ix (.lst (.cons (CE.str "and") (.cons (CE.str "or") .nil))) (.call "_law_pick" (.cons (.var 0) (.cons (CE.int 5) (.cons (CE.int 2) .nil))))) (.cons (.var 3) .nil))) .nil))))) (.cons (.set 5 (.op _ .add (.var 3) (.lst (.cons (.var 4) .nil)))) (.cons (.ite (.bop (op := .And) (.and (.cmp _ .lt (.var 2) (CE.int 5)) (.and1 (.cmp _ .eq (.call "_law_pick" (.cons (.var 0) (.cons (CE.int 6) (.cons (CE.int 2) .nil)))) (CE.int 0))))) (.cons (.set 5 (.op _ .add (.var 5) (.lst (.cons (.call "_law_saying" (.cons (.var 0) (.cons (CE.int 100) (.cons (CE.int 2) (.cons (.slc (.var 1) .no (.at (.var 2))) .nil))))) .nil)))) .nil) .nil) (.cons (.set 6 (.call "_law_pick" (.cons (.var 0) (.cons (CE.int 8) (.cons (.blt .len (.cons (.var 5) .nil)) .nil))))) (.cons (.ret (.blt .tuple (.cons (.op _ .add (.slc (.var 5) (.at (.var 6)) .no) (.slc (.var 5) .no (.at (.var 6)))) .nil))) .nil))))))))
def fn_law_sayings_e0 : CE := (.call "_law_saying" (.cons (.var 0) (.cons (.op _ .add (CE.int 200) (.op _ .mul (CE.int 41) (.var 3))) (.cons (.op _ .add (CE.int 1) (.call "_law_pick" (.cons (.var 0) (.cons (.op _ .add (CE.int 110) (.var 3)) (.cons (CE.int 3) .nil))))) (.cons (.var 1) .nil)))))
def fn_law_sayings : Fn where
  ps := ["_law_script"]
  N := ["_law_script", "_law_names_here", "_law_many", "_law_j"]
  body := (.cons (.ite (.cmp _ .eq (.call "_law_pick" (.cons (.var 0) (.cons (CE.int 9) (.cons (CE.int 2) .nil)))) (CE.int 0)) (.cons (.ret (.call "_law_chain" (.cons (.var 0) (.cons (.call "_law_names" (.cons (.var 0) (.cons (CE.int 10) (.cons (CE.int 5) .nil)))) .nil)))) .nil) .nil) (.cons (.set 1 (.call "_law_names" (.cons (.var 0) (.cons (CE.int 10) (.cons (.op _ .add (CE.int 1) (.call "_law_pick" (.cons (.var 0) (.cons (CE.int 7) (.cons (CE.int 5) .nil))))) .nil))))) (.cons (.set 2 (.op _ .add (CE.int 1) (.call "_law_pick" (.cons (.var 0) (.cons (CE.int 6) (.cons (CE.int 6) .nil)))))) (.share 1 (.cons (.ret (.blt .tuple (.cons (.lc [("_law_j", 3)] (.name 3) (.range1 (.var 2)) .no fn_law_sayings_e0) .nil))) .nil)))))
def fn_law_so3 : Fn where
  ps := ["_law_saying_here", "_law_held"]
  N := ["_law_saying_here", "_law_held", "_law_one", "_law_other"]
  body := (.cons (.ite (.cmp _ .eq (.ix .ix (.var 0) (CE.int 0)) (CE.str "letter")) (.cons (.ret (.cmp _ .in_ (.ix .ix (.var 0) (CE.int 1)) (.var 1))) .nil) .nil) (.cons (.ite (.cmp _ .eq (.ix .ix (.var 0) (CE.int 0)) (CE.str "not")) (.cons (.ret (.not (.call "_law_so" (.cons (.ix .ix (.var 0) (CE.int 1)) (.cons (.var 1) .nil))))) .nil) .nil) (.cons (.set 2 (.call "_law_so" (.cons (.ix .ix (.var 0) (CE.int 1)) (.cons (.var 1) .nil)))) (.cons (.set 3 (.call "_law_so" (.cons (.ix .ix (.var 0) (CE.int 2)) (.cons (.var 1) .nil)))) (.cons (.ite (.cmp _ .eq (.ix .ix (.var 0) (CE.int 0)) (CE.str "and")) (.cons (.ret (.bop (op := .And) (.and (.var 2) (.one .And (.var 3))))) .nil) .nil) (.cons (.ite (.cmp _ .eq (.ix .ix (.var 0) (CE.int 0)) (CE.str "or")) (.cons (.ret (.bop (op := .Or) (.or (.var 2) (.one .Or (.var 3))))) .nil) .nil) (.cons (.ret (.bop (op := .Or) (.or (.var 3) (.one .Or (.not (.var 2)))))) .nil)))))))
def fn_law_letters_b0 : CS := (.cons (.set 1 (.op _ .add (.var 1) (.call "_law_letters" (.cons (.var 2) .nil)))) .nil)
def fn_law_letters : Fn where
  ps := ["_law_saying_here"]
  N := ["_law_saying_here", "_law_found", "_law_part"]
  body := (.cons (.ite (.cmp _ .eq (.ix .ix (.var 0) (CE.int 0)) (CE.str "letter")) (.cons (.ret (.lst (.cons (.ix .ix (.var 0) (CE.int 1)) .nil))) .nil) .nil) (.cons (.set 1 (.lst .nil)) (.cons (.for_ (.name 2) (.seq (.slc (.var 0) (.at (CE.int 1)) .no)) fn_law_letters_b0) (.cons (.retv 1) .nil))))
def fn_law_rows_e0 : CE := (.call "_law_so" (.cons (.var 2) (.cons (.var 6) .nil)))
def fn_law_rows_e1 : CE := (.blt .tuple (.cons (.lc [("_law_saying_here", 2)] (.name 2) (.seq (.var 0)) .no fn_law_rows_e0) .nil))
def fn_law_rows_e2 : CE := (.op _ .add (.var 6) (.tup (.cons (.var 4) .nil)))
def fn_law_rows_b0 : CS := (.share 3 (.cons (.set 3 (.op _ .add (.var 3) (.lc [("_law_held", 6)] (.name 6) (.seq (.var 3)) .no fn_law_rows_e2))) .nil))
def fn_law_rows_b1 : CS := (.cons (.set 1 (.op _ .add (.var 1) (.call "_law_letters" (.cons (.var 2) .nil)))) .nil)
def fn_law_rows : Fn where
  ps := ["_law_sayings_here"]
  N := ["_law_sayings_here", "_law_names_here", "_law_saying_here", "_law_holds", "_law_name", "_law_rows_here", "_law_held"]
  body := (.cons (.set 1 (.lst .nil)) (.cons (.for_ (.name 2) (.seq (.var 0)) fn_law_rows_b1) (.share 1 (.cons (.set 1 (.sortedSet (.var 1))) (.cons (.set 3 (.lst (.cons (.tup .nil) .nil))) (.share 1 (.cons (.for_ (.name 4) (.seq (.var 1)) fn_law_rows_b0) (.share 3 (.cons (.setLc 5 [("_law_held", 6)] (.name 6) (.seq (.var 3)) .no fn_law_rows_e1) (.share 5 (.cons (.ret (.sortedSet (.var 5))) .nil)))))))))))
def fn_law_most_e0 : CE := (.var 3)
def fn_law_most_b0 : CS := (.cons (.meth .append 1 (.cons (.cmp _ .gt (.op _ .mul (CE.int 2) (.blt .len (.cons (.lc [("_law_judge", 3)] (.name 3) (.seq (.var 0)) (.one (.val (.ix .ix (.var 3) (.var 2)))) fn_law_most_e0) .nil))) (.blt .len (.cons (.var 0) .nil))) .nil)) .nil)
def fn_law_most : Fn where
  ps := ["_law_judges"]
  N := ["_law_judges", "_law_row", "_law_number", "_law_judge"]
  body := (.cons (.set 1 (.lst .nil)) (.cons (.for_ (.name 2) (.range1 (.blt .len (.cons (.ix .ix (.var 0) (CE.int 0)) .nil))) fn_law_most_b0) (.cons (.ret (.blt .tuple (.cons (.var 1) .nil))) .nil)))
def fn_law_split_three_b0 : CS := (.cons (.set 7 (.tup (.cons (.ix .ix (.var 3) (.var 4)) (.cons (.ix .ix (.var 3) (.var 5)) (.cons (.ix .ix (.var 3) (.var 6)) .nil))))) (.cons (.ite (.cmp _ .notin (.call "_law_most" (.cons (.var 7) .nil)) (.var 1)) (.cons (.retv 7) .nil) .nil) .nil))
def fn_law_split_three_b1 : CS := (.cons (.for_ (.name 6) (.range1 (.var 5)) fn_law_split_three_b0) .nil)
def fn_law_split_three_b2 : CS := (.cons (.for_ (.name 5) (.range1 (.var 4)) fn_law_split_three_b1) .nil)
def fn_law_split_three : Fn where
  ps := ["_law_script", "_law_rows_here"]
  N := ["_law_script", "_law_rows_here", "_law_at", "_law_near", "_law_i", "_law_j", "_law_k", "_law_three"]
  body := (.cons (.set 2 (.op _ .mod (.call "_law_cell" (.cons (.var 0) (.cons (CE.int 29) .nil))) (.blt .len (.cons (.var 1) .nil)))) (.cons (.set 3 (.slc (.op _ .add (.slc (.var 1) (.at (.var 2)) .no) (.slc (.var 1) .no (.at (.var 2)))) .no (.at (CE.int 12)))) (.cons (.for_ (.name 4) (.range1 (.blt .len (.cons (.var 3) .nil))) fn_law_split_three_b2) (.cons (.ret (.tup .nil)) .nil))))
def fn_law_odd_b0 : CS := (.cons (.meth .append 2 (.cons (.ix .ix (.var 1) (.op _ .mod (.call "_law_cell" (.cons (.var 0) (.cons (.op _ .add (CE.int 31) (.var 3)) .nil))) (.blt .len (.cons (.var 1) .nil)))) .nil)) .nil)
def fn_law_odd : Fn where
  ps := ["_law_script", "_law_rows_here"]
  N := ["_law_script", "_law_rows_here", "_law_judges", "_law_j"]
  body := (.cons (.set 2 (.lst .nil)) (.cons (.ite (.cmp _ .eq (.call "_law_pick" (.cons (.var 0) (.cons (CE.int 28) (.cons (CE.int 2) .nil)))) (CE.int 0)) (.cons (.set 2 (.blt .list (.cons (.op _ .rep (.call "_law_split_three" (.cons (.var 0) (.cons (.var 1) .nil))) (.ix .ix (.lst (.cons (CE.int 1) (.cons (CE.int 1) (.cons (CE.int 3) (.cons (CE.int 5) .nil))))) (.call "_law_pick" (.cons (.var 0) (.cons (CE.int 27) (.cons (CE.int 4) .nil)))))) .nil))) .nil) .nil) (.cons (.ite (.cmp _ .eq (.blt .len (.cons (.var 2) .nil)) (CE.int 0)) (.cons (.for_ (.name 3) (.range1 (.ix .ix (.lst (.cons (CE.int 1) (.cons (CE.int 3) (.cons (CE.int 3) (.cons (CE.int 5) (.cons (CE.int 7) (.cons (CE.int 9) (.cons (CE.int 3) (.cons (CE.int 21) .nil))))))))) (.call "_law_pick" (.cons (.var 0) (.cons (CE.int 30) (.cons (CE.int 8) .nil)))))) fn_law_odd_b0) .nil) .nil) (.cons (.ret (.blt .tuple (.cons (.var 2) .nil))) .nil))))
def fn_law_numbers_e0 : CE := (.var 2)
def fn_law_numbers : Fn where
  ps := ["_law_found", "_law_due"]
  N := ["_law_found", "_law_due", "_law_k"]
  body := (.cons (.ite (.bop (op := .Or) (.or (.not (.val (.isi (.var 0) "list" "list"))) (.or1 (.cmp _ .ne (.var 0) (.var 1))))) (.cons (.ret (CE.bl false)) .nil) .nil) (.cons (.ret (.cmp _ .eq (.blt .len (.cons (.lc [("_law_k", 2)] (.name 2) (.seq (.var 0)) (.one (.bop (op := .Or) (.or (.not (.val (.isi (.var 2) "int" "int"))) (.or1 (.val (.isi (.var 2) "bool" "bool")))))) fn_law_numbers_e0) .nil)) (CE.int 0))) .nil))
def fn_law7_e0 : CE := (.var 10)
def fn_law7_b0 : CS := (.cons (.setLc 7 [("_law_k", 10)] (.name 10) (.range1 (.blt .len (.cons (.var 2) .nil))) (.one (.cmp _ .eq (.ix .ix (.ix .ix (.var 2) (.var 10)) (.var 5)) (.var 6))) fn_law7_e0) (.cons (.set 8 (.call "who_say" (.cons (.var 2) (.cons (.var 5) (.cons (.var 6) .nil))))) (.cons (.ite (.not (.val (.callB "_law_numbers" (.cons (.var 8) (.cons (.var 7) .nil))))) (.cons (.ret (CE.bl false)) .nil) .nil) (.cons (.meth .append 8 (.cons (CE.int 0) .nil)) (.cons (.ite (.not (.val (.callB "_law_numbers" (.cons (.call "who_say" (.cons (.var 2) (.cons (.var 5) (.cons (.var 6) .nil)))) (.cons (.var 7) .nil))))) (.cons (.ret (CE.bl false)) .nil) .nil) .nil)))))
def fn_law7_b1 : CS := (.cons (.for_ (.name 6) (.seq (.lst (.cons (CE.bl true) (.cons (CE.bl false) .nil)))) fn_law7_b0) .nil)
def fn_law7_e1 : CE := (.var 9)
def fn_law7 : Fn where
  ps := ["_law_script"]
  N := ["_law_script", "_law_sayings_here", "_law_judges", "_law_due", "_law_found", "_law_number", "_law_truth", "_law_sayers", "_law_told", "_law_one", "_law_k"]
  body := (.cons (.set 1 (.call "_law_sayings" (.cons (.var 0) .nil))) (.cons (.set 2 (.call "_law_odd" (.cons (.var 0) (.cons (.call "_law_rows" (.cons (.var 1) .nil)) .nil)))) (.cons (.set 3 (.call "_law_most" (.cons (.var 2) .nil))) (.cons (.set 4 (.call "most" (.cons (.var 2) .nil))) (.cons (.ite (.bop (op := .Or) (.or (.not (.val (.isi (.var 4) "tuple" "tuple"))) (.or (.cmp _ .ne (.var 4) (.var 3)) (.or1 (.cmp _ .gt (.blt .len (.cons (.lc [("_law_one", 9)] (.name 9) (.seq (.var 4)) (.one (.not (.val (.isi (.var 9) "bool" "bool")))) fn_law7_e1) .nil)) (CE.int 0)))))) (.cons (.ret (CE.bl false)) .nil) .nil) (.cons (.for_ (.name 5) (.range1 (.blt .len (.cons (.var 1) .nil))) fn_law7_b1) (.cons (.ret (.cmp _ .eq (.call "most" (.cons (.var 2) .nil)) (.var 3))) .nil)))))))
end MJ

namespace MJ
open PySem PySem.Spec PyProof.Rows L2
def flS : Flat Str := ⟨.str, .str, fun z => PyData.strOk z = true, fun _ => rfl, fun a b => by simp only [PyData.eqv]; rw [Bool.eq_iff_iff]; simp, fun _ h => by simpa [PyData.canLay0] using h, fun _ => by simp [PyData.depth]⟩
def lets26 : Str := "abcdefghijklmnopqrstuvwxyz"
theorem lets26_low : isLow lets26 := by
  show ∀ c ∈ lets26.cps.toList, 97 ≤ c ∧ c ≤ 122
  decide +kernel
theorem lets26_at {i : Int} (h0 : 0 ≤ i) (h : i < 26) : ∃ c, ixD (.str lets26) (.int i) = .ok (.str ⟨#[c]⟩, .sh) ∧ 97 ≤ c ∧ c ≤ 122 := by
  have hl : lets26.cps.toList.length = 26 := by decide +kernel
  have hl2 : lets26.length = 26 := by decide +kernel
  obtain ⟨c, e, e2, hm⟩ := atI_of (xs := lets26.cps.toList) h0 (by rw [hl]; exact_mod_cast h)
  exact ⟨c, ixD_str (by rw [hl2, sizeLine_eq]; decide) e, lets26_low c hm⟩
def sevenW : List Str := ["not", "and", "or", "if", "then", "say", "judge"]
theorem seven_ok : ∀ z ∈ sevenW, PyData.strOk z = true := by decide +kernel
theorem seven_in {z : Str} (h : PyData.strOk z = true) : ∃ b, inD (.str z) (.lst [.str (Str.ofString "not"), .str (Str.ofString "and"), .str (Str.ofString "or"), .str (Str.ofString "if"), .str (Str.ofString "then"), .str (Str.ofString "say"), .str (Str.ofString "judge")]) = .ok b := ⟨_, flS.inL (L := sevenW) h seven_ok⟩
section
variable {T : Str → Option Fn} (ns : List Int)
theorem names1_ev (h : T "_law_cell" = some fn_law_cell) (g : T "_law_pick" = some fn_law_pick) (f : T "_law_names" = some fn_law_names1) (hl : ns.length ≤ 4000) (n : Nat) {k m : Int} (h0 : 0 ≤ k) (hk : k < 10000) (hm0 : 0 ≤ m) (hm : m ≤ 5) :
    ∃ nms : List Str, evFn T (n + 3) "_law_names" [sc ns, .int k, .int m] = .ok (.lst (nms.map .str), true) ∧ nms.length = m.toNat ∧ (∀ z ∈ nms, NameOk z) := by
  have P := fun {k m : Int} (h0 : 0 ≤ k) (h1 : k < 1000000) => pick_ev ns h g hl n (k := k) (m := m) h0 (bdk h0 h1)
  obtain ⟨r1, r10, r11, e1⟩ := P (k := k) (m := 5) h0 (by omega) (by decide)
  obtain ⟨r2, r20, r21, e2⟩ := P (k := k + 3) (m := 26) (by omega) (by omega) (by decide)
  rw [evFn_succ f rfl]
  obtain ⟨ρ, eρ, w, x, rfl, lw, hw⟩ := forFold_nx (step := forStep (CG.name 5) fn_law_names1_b1 (evFn T (n + 2)))
    (ds := rangeD 0 r1.toNat) (ρ := [.sh (sc ns), .sh (.int k), .sh (.int m), .sh (.str lets26), .sh (.str ""), .no, .no, .no, .no, .no])
    (fun i ρ => ∃ w x, ρ = [.sh (sc ns), .sh (.int k), .sh (.int m), .sh (.str lets26), .sh (.str w), x, .no, .no, .no, .no] ∧ isLow w ∧ w.length = i) ⟨"", .no, rfl, (by unfold isLow; decide +kernel), by decide +kernel⟩ (by
      rintro i d ρ hd ⟨w, x, rfl, lw, hw⟩
      obtain ⟨hi, rfl⟩ := rangeD_get hd
      obtain ⟨q, q0, q1, eq⟩ := P (k := k + 11 * (i : Int) + 1) (m := 26) (by omega) (by omega) (by decide)
      obtain ⟨c, ec, hc⟩ := lets26_at q0 q1
      have m1 : CMulW 11 (i : Int) := cmul_of (show bd 11 4 by decide) (bdk (a := 20) (by omega) (by omega))
      have el : w.length + (⟨#[c]⟩ : Str).length ≤ 1000000 := by show w.length + 1 ≤ _; omega
      refine nx_gen fun Q hQ => ?_
      have gq := hQ [.sh (sc ns), .sh (.int k), .sh (.int m), .sh (.str lets26), .sh (.str (w ++ ⟨#[c]⟩)), .sh (.int (i : Int)), .no, .no, .no, .no] ⟨w ++ ⟨#[c]⟩, _, rfl, low_app lw (low_one hc), by rw [len_app, hw]; rfl⟩
      clear hQ
      generalize lets26 = L26 at *
      simp [forStep, fn_law_names1_b1, m1, eq, ec, addD_str el, gq])
  rw [rangeD_len] at hw
  have hw4 : w.length ≤ 4 := by omega
  obtain ⟨r3, r30, r31, e3⟩ := P (k := k + 2) (m := (w.length : Int) + 1) (by omega) (by omega) (by omega)
  have rg := rg1_of hm0 (show m < 4611686018427387904 by omega)
  have rg0 := rg1_of r10 (show r1 < 4611686018427387904 by omega)
  obtain ⟨ρ2, e2ρ, nms, x5, x9, rfl, nl, nok⟩ := forFold_nx (step := forStep (CG.name 5) fn_law_names1_b0 (evFn T (n + 2)))
    (ds := rangeD 0 m.toNat) (ρ := [.sh (sc ns), .sh (.int k), .sh (.int m), .sh (.str lets26), .sh (.str w), x, .sh (.int r3), .sh (.int r2), .ow (.lst []), .no])
    (fun i ρ => ∃ (nms : List Str) (x5 x9 : Sl), ρ = [.sh (sc ns), .sh (.int k), .sh (.int m), .sh (.str lets26), .sh (.str w), x5, .sh (.int r3), .sh (.int r2), .ow (.lst (nms.map .str)), x9] ∧ nms.length = i ∧ ∀ z ∈ nms, NameOk z)
    ⟨[], _, _, rfl, rfl, fun z m => by cases m⟩ (by
      rintro i d ρ hd ⟨nms, x5, x9, rfl, nl, nok⟩
      obtain ⟨hi, rfl⟩ := rangeD_get hd
      have m5 : CMulW 5 (i : Int) := cmul_of (show bd 5 3 by decide) (bdk (a := 20) (by omega) (by omega))
      obtain ⟨c, ec, hc⟩ := lets26_at (i := (r2 + 5 * (i : Int)) % 26) (Int.emod_nonneg _ (by decide)) (Int.emod_lt_of_pos _ (by decide))
      have s1 := sliceD_str (a := w) none (some r3) (by omega)
      have s2 := sliceD_str (a := w) (some r3) none (by omega)
      have l1 : (cutS w none (some r3)).length = r3.toNat := by
        rw [len_cut, sIx_of r30, HT.sIx_none]; omega
      have l2 : (cutS w (some r3) none).length = w.length - r3.toNat := by
        rw [len_cut, sIx_of r30, HT.sIx_none]; omega
      have a1 := low_cut lw none (some r3)
      have a2 := low_cut lw (some r3) none
      generalize cutS w none (some r3) = u1 at *
      generalize cutS w (some r3) none = u2 at *
      have d1 : u1.length + (⟨#[c]⟩ : Str).length ≤ 1000000 := by show u1.length + 1 ≤ _; omega
      have lc : (u1 ++ ⟨#[c]⟩ : Str).length = r3.toNat + 1 := by rw [len_app, l1]; rfl
      have d2 : (u1 ++ ⟨#[c]⟩ : Str).length + u2.length ≤ 1000000 := by omega
      have ln : ((u1 ++ ⟨#[c]⟩ : Str) ++ u2).length = w.length + 1 := by rw [len_app, lc, l2]; omega
      have lwn : isLow ((u1 ++ ⟨#[c]⟩ : Str) ++ u2) := low_app (low_app a1 (low_one hc)) a2
      have ad1 := addD_str d1
      have ad2 := addD_str d2
      generalize ((u1 ++ ⟨#[c]⟩ : Str) ++ u2) = nm at *
      obtain ⟨b, eb⟩ := seven_in (low_ok lwn)
      have q1 : ("q" : Str).length = 1 := by decide +kernel
      have ad3 := addD_str (a := nm) (b := "q") (by rw [q1]; omega)
      have lt : nms.length < sizeLine := Nat.lt_of_lt_of_le (show _ < 1000000 by omega) (small_len (Nat.le_refl 1000000))
      have seven : 7 ≤ sizeLine := by decide
      refine nx_gen fun Q hQ => ?_
      cases b with
      | false =>
        have gq := hQ [.sh (sc ns), .sh (.int k), .sh (.int m), .sh (.str lets26), .sh (.str w), .sh (.int (i : Int)), .sh (.int r3), .sh (.int r2), .ow (.lst ((nms ++ [nm]).map .str)), .sh (.str nm)] ⟨nms ++ [nm], _, _, rfl, by simp [nl], fun z hz => by
          rcases List.mem_append.mp hz with hz | hz
          · exact nok z hz
          · simp only [List.mem_singleton] at hz; subst hz; exact ⟨lwn, by omega, by omega⟩⟩
        clear hQ
        simp only [List.map_append, List.map_cons, List.map_nil] at gq
        generalize lets26 = L26 at *
        simp [forStep, fn_law_names1_b0, s1, s2, m5, ec, ad1, ad2, seven, eb, MC.run_eq, lt, gq]
      | true =>
        have gq := hQ [.sh (sc ns), .sh (.int k), .sh (.int m), .sh (.str lets26), .sh (.str w), .sh (.int (i : Int)), .sh (.int r3), .sh (.int r2), .ow (.lst ((nms ++ [nm ++ "q"]).map .str)), .sh (.str (nm ++ "q"))] ⟨nms ++ [nm ++ "q"], _, _, rfl, by simp [nl], fun z hz => by
          rcases List.mem_append.mp hz with hz | hz
          · exact nok z hz
          · simp only [List.mem_singleton] at hz; subst hz; exact ⟨low_app lwn (by unfold isLow; decide +kernel), by rw [len_app, q1]; omega, by rw [len_app, q1]; omega⟩⟩
        clear hQ
        simp only [List.map_append, List.map_cons, List.map_nil] at gq
        generalize lets26 = L26 at *
        generalize hz : (nm ++ "q" : Str) = nq at *
        simp [forStep, fn_law_names1_b0, s1, s2, m5, ec, ad1, ad2, seven, eb, ad3, MC.run_eq, lt, gq])
  rw [rangeD_len] at nl
  refine ⟨nms, ?_, nl, nok⟩
  simp only [fn_law_names1, startSl]
  have lw' := lenD_str (a := w) (by omega)
  simp only [lets26] at eρ e2ρ
  simp [e1, rg0, eρ, lw', e3, e2, rg, e2ρ]
theorem saying2_ev (h : T "_law_cell" = some fn_law_cell) (g : T "_law_pick" = some fn_law_pick) (f : T "_law_saying" = some fn_law_saying2) (hl : ns.length ≤ 4000)
    {nms : List Str} (hn : nms ≠ []) (hn5 : nms.length ≤ 1000) : ∀ (r n : Nat) (k : Int), r ≤ 3 → 0 ≤ k → (k + 4) * 3 ^ r ≤ 400000 →
    ∃ s : Sy, evFn T (n + r + 3) "_law_saying" [sc ns, .int k, .int (r : Int), .lst (nms.map .str)] = .ok (enc s, false) ∧ s.pieces + 1 ≤ 2 ^ (r + 1) ∧ ∀ z ∈ s.lets, z ∈ nms := by
  intro r
  induction r with
  | zero =>
    intro n k hr hk0 hk
    have hk' : k + 4 ≤ 400000 := by simpa using hk
    have P := fun {k m : Int} (h0 : 0 ≤ k) (h1 : k < 1000000) => pick_ev ns h g hl n (k := k) (m := m) h0 (bdk h0 h1)
    have hl0 : 0 < nms.length := List.length_pos_iff.mpr hn
    have two : 2 ≤ sizeLine := by decide
    obtain ⟨w, w0, w1, ew⟩ := P (k := k) (m := 8) hk0 (by omega) (by decide)
    obtain ⟨q, q0, q1, eq⟩ := P (k := k + 1) (m := (nms.length : Int)) (by omega) (by omega) (by omega)
    obtain ⟨d, ed, _, hm⟩ := atI_of (xs := nms.map D.str) q0 (by simpa using q1)
    obtain ⟨z, hz, rfl⟩ := List.mem_map.mp hm
    refine ⟨.ltr z, ?_, by simp [Sy.pieces], by simpa [Sy.lets] using hz⟩
    rw [show n + 0 + 3 = (n + 2) + 1 by omega, evFn_succ f rfl]
    simp only [fn_law_saying2, startSl]
    have z0 : ((0 : Nat) : Int) = 0 := rfl
    rw [z0]
    simp [ew, eq, ixD_lst ed, two, enc, wLetter]
  | succ r ih =>
    intro n k hr hk0 hk
    have hp : (1 : Int) ≤ 3 ^ r := by
      have : 0 < 3 ^ r := Nat.pow_pos (by decide)
      have e : ((3 : Int) ^ r) = ((3 ^ r : Nat) : Int) := by simp
      rw [e]; omega
    have hk2 : (3 * k + 8 + 4) * 3 ^ r ≤ 400000 := by
      have e : (3 * k + 8 + 4) = (k + 4) * 3 := by omega
      rw [e, Int.mul_assoc, Int.mul_comm 3, ← Int.pow_succ]
      exact hk
    have hk1 : (3 * k + 7 + 4) * 3 ^ r ≤ 400000 := by
      have : (3 * k + 7 + 4) * 3 ^ r ≤ (3 * k + 8 + 4) * 3 ^ r := Int.mul_le_mul_of_nonneg_right (by omega) (by omega)
      omega
    have hk' : k + 4 ≤ 400000 := by
      have : (3 * k + 8 + 4) * 1 ≤ (3 * k + 8 + 4) * 3 ^ r := Int.mul_le_mul_of_nonneg_left hp (by omega)
      omega
    have P := fun {k m : Int} (h0 : 0 ≤ k) (h1 : k < 1000000) => pick_ev ns h g hl (n + r + 1) (k := k) (m := m) h0 (bdk h0 h1)
    have hl0 : 0 < nms.length := List.length_pos_iff.mpr hn
    have two : 2 ≤ sizeLine := by decide
    have three : 3 ≤ sizeLine := by decide
    obtain ⟨w, w0, w1, ew⟩ := P (k := k) (m := 8) hk0 (by omega) (by decide)
    have m3 : CMulW 3 k := cmul_of (show bd 3 2 by decide) (bdk (a := 20) hk0 (by omega))
    obtain ⟨s1, ea, h1, z1⟩ := ih n (3 * k + 7) (by omega) (by omega) hk1
    obtain ⟨s2, eb, h2, z2⟩ := ih n (3 * k + 8) (by omega) (by omega) hk2
    have c1 : ((r + 1 : Nat) : Int) - 1 = (r : Int) := by omega
    have c0 : ¬ ((r + 1 : Nat) : Int) = 0 := by omega
    have c0' : (((r + 1 : Nat) : Int) == 0) = false := by rw [beq_eq_false_iff_ne]; omega
    have pw : 2 ^ (r + 1 + 1) = 2 * 2 ^ (r + 1) := by rw [Nat.pow_succ]; omega
    have one : 2 ≤ 2 ^ (r + 1) := by
      have : 2 ^ 1 ≤ 2 ^ (r + 1) := Nat.pow_le_pow_right (by decide) (by omega)
      simpa using this
    rw [show n + (r + 1) + 3 = (n + r + 3) + 1 by omega, evFn_succ f rfl]
    simp only [fn_law_saying2, startSl]
    generalize ((r + 1 : Nat) : Int) = R at *
    by_cases cw : w = 0
    · subst cw
      obtain ⟨q, q0, q1, eq⟩ := P (k := k + 1) (m := (nms.length : Int)) (by omega) (by omega) (by omega)
      obtain ⟨d, ed, _, hm⟩ := atI_of (xs := nms.map D.str) q0 (by simpa using q1)
      obtain ⟨z, hz, rfl⟩ := List.mem_map.mp hm
      exact ⟨.ltr z, by simp [ew, c0, c0', eq, ixD_lst ed, two, enc, wLetter], by simp only [Sy.pieces]; omega, by simpa [Sy.lets] using hz⟩
    · have cw' : (w == 0) = false := by simpa using cw
      by_cases c3 : w < 3
      · exact ⟨.not s1, by simp [ew, c0, c0', cw, cw', m3, c1, ea, c3, two, enc, wNot], by simp only [Sy.pieces]; omega, z1⟩
      · obtain ⟨o3, ho⟩ := op3_at (o := w % 3) (Int.emod_nonneg _ (by decide)) (Int.emod_lt_of_pos _ (by decide))
        refine ⟨.bin o3 s1 s2, by simp [ew, c0, c0', cw, cw', m3, c1, ea, eb, c3, ho, three, enc], by simp only [Sy.pieces]; omega, fun z hz => ?_⟩
        rcases List.mem_append.mp hz with m | m
        · exact z1 z m
        · exact z2 z m
theorem turnedS_ev (h : T "_law_cell" = some fn_law_cell) (g : T "_law_pick" = some fn_law_pick) (f : T "_law_turned" = some fn_law_turned) (hl : ns.length ≤ 4000) (n : Nat) {k : Int} (h0 : 0 ≤ k) (h1 : k < 1000000) (s : Sy) :
    ∃ t : Sy, evFn T (n + 3) "_law_turned" [sc ns, .int k, enc s] = .ok (enc t, false) ∧ t.pieces ≤ s.pieces + 1 ∧ ∀ z ∈ t.lets, z ∈ s.lets := by
  obtain ⟨w, w0, w1, ew⟩ := pick_ev ns h g hl n (k := k) (m := 4) h0 (bdk h0 h1) (by decide)
  have two : 2 ≤ sizeLine := by decide
  rw [evFn_succ f rfl]
  simp only [fn_law_turned, startSl]
  by_cases c : w = 0
  · subst c
    exact ⟨.not s, by simp [ew, two, enc, wNot], by simp [Sy.pieces], fun z m => m⟩
  · have c' : (w == 0) = false := by simpa using c
    exact ⟨s, by simp [ew, c'], by omega, fun z m => m⟩
theorem joined_ev (f : T "_law_joined" = some fn_law_joined) (n : Nat) {ss : List Sy} (o : Op3) (h : 1 ≤ ss.length) {b : Nat} (hb : ∀ s ∈ ss, s.pieces ≤ b) {nms : List Str} (hz : ∀ s ∈ ss, ∀ z ∈ s.lets, z ∈ nms) :
    ∃ t : Sy, evFn T (n + 1) "_law_joined" [.str o.word, .lst (ss.map enc)] = .ok (enc t, false) ∧ t.pieces ≤ (b + 1) * ss.length ∧ ∀ z ∈ t.lets, z ∈ nms := by
  obtain ⟨s0, rest, rfl⟩ : ∃ s r, ss = s :: r := by
    cases ss with
    | nil => simp at h
    | cons s r => exact ⟨s, r, rfl⟩
  have three : 3 ≤ sizeLine := by decide
  have e0 : ixD (.lst ((s0 :: rest).map enc)) (.int 0) = .ok (enc s0, .sh) := ixD_lst_nat (i := 0) (by simp)
  have hc : sliceD (.lst ((s0 :: rest).map enc)) (some 1) none = .ok (.lst (rest.map enc), .fr) := by
    rw [sliceD_lst, cutD_from _ (by decide)]; simp
  rw [evFn_succ f rfl]
  simp only [fn_law_joined, startSl]
  obtain ⟨ρ, eρ, t, x, rfl, tp, tl⟩ := forFold_nx (step := forStep (CG.name 3) fn_law_joined_b0 (evFn T n)) (ds := rest.map enc) (ρ := [.sh (.str o.word), .sh (.lst ((s0 :: rest).map enc)), .sh (enc s0), .no])
    (fun i ρ => ∃ (t : Sy) (x : Sl), ρ = [.sh (.str o.word), .sh (.lst ((s0 :: rest).map enc)), .sh (enc t), x] ∧ t.pieces ≤ (b + 1) * (i + 1) ∧ ∀ z ∈ t.lets, z ∈ nms)
    ⟨s0, _, rfl, by have := hb s0 (by simp); omega, hz s0 (by simp)⟩ (by
      rintro i d ρ hd ⟨t, x, rfl, tp, tl⟩
      rw [List.getElem?_map, Option.map_eq_some_iff] at hd
      obtain ⟨s, hs, rfl⟩ := hd
      have hsm : s ∈ s0 :: rest := List.mem_cons_of_mem _ (List.mem_of_getElem? hs)
      have hp := hb s hsm
      refine nx_gen fun Q hQ => ?_
      have gq := hQ [.sh (.str o.word), .sh (.lst ((s0 :: rest).map enc)), .sh (enc (.bin o t s)), .sh (enc s)] ⟨.bin o t s, _, rfl, by
        simp only [Sy.pieces]
        rw [Nat.mul_add (b + 1) (i + 1) 1]
        omega, fun z hz' => by
        rcases List.mem_append.mp hz' with m | m
        · exact tl z m
        · exact hz s hsm z m⟩
      clear hQ
      simp only [enc] at gq
      generalize (s0 :: rest).map enc = all at *
      simp [forStep, fn_law_joined_b0, three, gq])
  rw [List.length_map] at tp
  refine ⟨t, ?_, by simpa using tp, tl⟩
  generalize (s0 :: rest).map enc = all at *
  simp [e0, hc, eρ]
end
end MJ

namespace MJ
open PySem PySem.Spec PyProof.Rows L2
section
variable {T : Str → Option Fn} (ns : List Int)
theorem chain_ev (h : T "_law_cell" = some fn_law_cell) (g : T "_law_pick" = some fn_law_pick) (sy : T "_law_saying" = some fn_law_saying2) (tu : T "_law_turned" = some fn_law_turned) (jo : T "_law_joined" = some fn_law_joined) (f : T "_law_chain" = some fn_law_chain)
    (hl : ns.length ≤ 4000) (n : Nat) {nms : List Str} (hn : nms.length = 5) (hok : ∀ z ∈ nms, NameOk z) : ∃ ss : List Sy, evFn T (n + 6) "_law_chain" [sc ns, .lst (nms.map .str)] = .ok (.tup (ss.map enc), false) ∧ Lst ss := by
  have P := fun {k m : Int} (h0 : 0 ≤ k) (h1 : k < 1000000) => pick_ev ns h g hl (n + 3) (k := k) (m := m) h0 (bdk h0 h1)
  have TU := fun {k : Int} (h0 : 0 ≤ k) (h1 : k < 1000000) (s : Sy) => turnedS_ev ns h g tu hl (n + 2) (k := k) h0 h1 s
  obtain ⟨r4, r40, r41, e4⟩ := P (k := 4) (m := 4) (by decide) (by decide) (by decide)
  obtain ⟨r5, r50, r51, e5⟩ := P (k := 5) (m := 2) (by decide) (by decide) (by decide)
  obtain ⟨r6, r60, r61, e6⟩ := P (k := 6) (m := 2) (by decide) (by decide) (by decide)
  have two : 2 ≤ sizeLine := by decide
  have one : 1 ≤ sizeLine := by decide
  -- some
  obtain ⟨ss, ess, sl, sr⟩ := lcFold_all (f := lcBody (CG.name 7) CIf.no fn_law_chain_e0 (evFn T (n + 5)) [.sh (sc ns), .sh (.lst (nms.map .str)), .sh (.int (2 + r4)), .no, .no, .no, .no, .no]) (g := enc) (R := fun _ s => s.pieces ≤ 2 ∧ ∀ z ∈ s.lets, z ∈ nms) (ds := rangeD 0 (2 + r4).toNat) fun d hd => by
    obtain ⟨i, hi⟩ := List.mem_iff_getElem?.mp hd
    obtain ⟨hlt, rfl⟩ := rangeD_get hi
    have il : i < nms.length := by omega
    obtain ⟨t, et, tp, tz⟩ := TU (k := 90 + (i : Int)) (by omega) (by omega) (.ltr nms[i])
    have ei : ixD (.lst (nms.map .str)) (.int (i : Int)) = .ok (.str nms[i], .sh) := ixD_lst_nat (by simp [List.getElem?_eq_getElem il])
    have et : evFn T (n + 5) "_law_turned" [sc ns, .int (90 + (i : Int)), .tup [.str "letter", .str nms[i]]] = .ok (enc t, false) := et
    refine ⟨t, ?_, by simpa [Sy.pieces] using tp, fun z m => by
      have := tz z m
      simp only [Sy.lets, List.mem_singleton] at this
      subst this
      exact List.getElem_mem il⟩
    generalize nms.map D.str = nd at *
    generalize nms[i] = zi at *
    simp [lcBody, fn_law_chain_e0, noEx, ei, two, et]
  rw [rangeD_len] at sl
  have sall : ∀ s ∈ ss, s.pieces ≤ 2 ∧ ∀ z ∈ s.lets, z ∈ nms := fun s m => by
    obtain ⟨i, hi⟩ := List.mem_iff_getElem?.mp m
    have hi2 : i < (rangeD 0 (2 + r4).toNat).length := by
      rw [rangeD_len, ← sl]
      exact (List.getElem?_eq_some_iff.mp hi).1
    exact sr i _ s (List.getElem?_eq_getElem hi2) hi
  -- the total
  obtain ⟨o, ho⟩ : ∃ o : Op3, ixD (.lst [.str (Str.ofString "and"), .str (Str.ofString "or")]) (.int r5) = .ok (.str o.word, .sh) := by
    have : r5 = 0 ∨ r5 = 1 := by omega
    rcases this with rfl | rfl
    · exact ⟨.and, rfl⟩
    · exact ⟨.or, rfl⟩
  obtain ⟨t0, et0, t0p, t0z⟩ := joined_ev jo (n + 4) o (ss := ss) (by omega) (b := 2) (fun s m => (sall s m).1) (fun s m => (sall s m).2)
  obtain ⟨t1, et1, t1p, t1z⟩ := TU (k := 96) (by decide) (by decide) t0
  have t1ok : t1.pieces ≤ 40 ∧ ∀ z ∈ t1.lets, z ∈ nms := ⟨by
    have : (2 + 1) * ss.length ≤ 3 * 5 := Nat.mul_le_mul_left 3 (by omega)
    omega, fun z m => t0z z (t1z z m)⟩
  have ad1 := addD_lst (as := ss.map enc) (bs := [enc t1]) (by simp; omega)
  -- perhaps one more
  obtain ⟨ss2, hss2, hs2l, hs2⟩ : ∃ ss2 : List Sy, ((2 + r4 < 5 ∧ r6 = 0) → ∃ t2 : Sy, evFn T (n + 5) "_law_saying" [sc ns, .int 100, .int 2, .lst ((nms.take (2 + r4).toNat).map .str)] = .ok (enc t2, false) ∧ ss2 = ss ++ [t1] ++ [t2]) ∧ (ss2 = ss ++ [t1] ∨ (2 + r4 < 5 ∧ r6 = 0)) ∧ 1 ≤ ss2.length ∧ ss2.length ≤ 6 ∧ ∀ s ∈ ss2, s.pieces ≤ 40 ∧ ∀ z ∈ s.lets, z ∈ nms := by
    have base : ∀ s ∈ ss ++ [t1], s.pieces ≤ 40 ∧ ∀ z ∈ s.lets, z ∈ nms := fun s m => by
      rcases List.mem_append.mp m with m | m
      · exact ⟨by have := (sall s m).1; omega, (sall s m).2⟩
      · simp only [List.mem_singleton] at m; subst m; exact t1ok
    by_cases c : 2 + r4 < 5 ∧ r6 = 0
    · obtain ⟨t2, et2, t2p, t2z⟩ := saying2_ev ns h g sy hl (nms := nms.take (2 + r4).toNat) (by
        intro z
        have := congrArg List.length z
        rw [List.length_take, hn] at this
        have t : min (2 + r4).toNat 5 = 0 := this
        omega) (by rw [List.length_take]; omega) 2 n 100 (by decide) (by decide) (by decide)
      refine ⟨ss ++ [t1] ++ [t2], fun _ => ⟨t2, et2, rfl⟩, .inr c, by simp, by simp; omega, fun s m => ?_⟩
      rcases List.mem_append.mp m with m | m
      · exact base s m
      · simp only [List.mem_singleton] at m
        subst m
        exact ⟨by have t2p : s.pieces + 1 ≤ 8 := t2p; omega, fun z m => List.mem_of_mem_take (t2z z m)⟩
    · exact ⟨ss ++ [t1], fun z => absurd z c, .inl rfl, by simp, by simp; omega, base⟩
  obtain ⟨hs2a, hs2b, hs2c⟩ := hs2
  obtain ⟨r8, r80, r81, e8⟩ := P (k := 8) (m := (ss2.length : Int)) (by decide) (by decide) (by omega)
  have cutt : cutD (nms.map D.str) none (some (2 + r4)) = (nms.take (2 + r4).toNat).map .str := by rw [cutD_to _ (by omega), List.map_take]
  have ad2 := fun t2 : Sy => addD_lst (as := (ss ++ [t1]).map enc) (bs := [enc t2]) (by simp; omega)
  have c1 : cutD (ss2.map enc) (some r8) none = (ss2.drop r8.toNat).map enc := by rw [cutD_from _ r80, List.map_drop]
  have c2 : cutD (ss2.map enc) none (some r8) = (ss2.take r8.toNat).map enc := by rw [cutD_to _ r80, List.map_take]
  have ad3 := addD_lst (as := (ss2.drop r8.toNat).map enc) (bs := (ss2.take r8.toNat).map enc) (by simp; omega)
  have fin : (ss2.drop r8.toNat).map enc ++ (ss2.take r8.toNat).map enc = (ss2.drop r8.toNat ++ ss2.take r8.toNat).map enc := by simp
  rw [fin] at ad3
  refine ⟨ss2.drop r8.toNat ++ ss2.take r8.toNat, ?_, .of (by simp; omega) (by simp; omega) (by omega) hok fun s m => ?_⟩
  rotate_left
  · rcases List.mem_append.mp m with m | m
    · exact hs2c s (List.mem_of_mem_drop m)
    · exact hs2c s (List.mem_of_mem_take m)
  have m1 : ss.map enc ++ [enc t1] = (ss ++ [t1]).map enc := by simp
  rw [m1] at ad1
  have m2 : ∀ t2 : Sy, (ss ++ [t1]).map enc ++ [enc t2] = (ss ++ [t1] ++ [t2]).map enc := fun t2 => by simp
  simp only [m2] at ad2
  have ssl := small_len (show ss.length ≤ 1000000 by omega)
  have rg := rg1_of (show 0 ≤ 2 + r4 by omega) (show 2 + r4 < 4611686018427387904 by omega)
  have ssl2 : (ss.map enc).length ≤ sizeLine := by simpa using ssl
  have sl2 : sliceD (.lst (nms.map D.str)) none (some (2 + r4)) = .ok (.lst ((nms.take (2 + r4).toNat).map .str), .fr) := by rw [sliceD_lst, cutt]
  have sd1 : sliceD (.lst (ss2.map enc)) (some r8) none = .ok (.lst ((ss2.drop r8.toNat).map enc), .fr) := by rw [sliceD_lst, c1]
  have sd2 : sliceD (.lst (ss2.map enc)) none (some r8) = .ok (.lst ((ss2.take r8.toNat).map enc), .fr) := by rw [sliceD_lst, c2]
  rw [evFn_succ f rfl]
  simp only [fn_law_chain, startSl]
  have et0 : evFn T (n + 5) "_law_joined" [.str o.word, .lst (ss.map enc)] = .ok (enc t0, false) := et0
  have e8 : evFn T (n + 5) "_law_pick" [sc ns, .int 8, .int ss2.length] = .ok (.int r8, false) := e8
  have ll2 : ((ss2.map enc).length : Int) = (ss2.length : Int) := by simp
  by_cases c : 2 + r4 < 5 ∧ r6 = 0
  · obtain ⟨t2, et2, rfl⟩ := hss2 c
    obtain ⟨ca, rfl⟩ := c
    have ad2 := ad2 t2
    clear m2 m1 fin hss2 hs2l
    generalize (ss ++ [t1] ++ [t2]).map enc = d2 at *
    generalize (ss ++ [t1]).map enc = d1 at *
    generalize ss.map enc = d0 at *
    generalize (((ss ++ [t1] ++ [t2]).drop r8.toNat).map enc) = dd at *
    generalize (((ss ++ [t1] ++ [t2]).take r8.toNat).map enc) = dt at *
    generalize ((ss ++ [t1] ++ [t2]).drop r8.toNat ++ (ss ++ [t1] ++ [t2]).take r8.toNat).map enc = df at *
    generalize ((ss ++ [t1] ++ [t2]).length : Int) = L2 at *
    generalize (nms.take (2 + r4).toNat).map D.str = nt at *
    generalize nms.map D.str = nd at *
    simp [e4, rg, lcRes_eq, wipeSl, ess, ssl2, shareSl, two, one, e5, ho, et0, et1, ad1, ca, e6, sl2, et2, ad2, ll2, e8, sd1, sd2, ad3]
  · have hs : ss2 = ss ++ [t1] := by
      rcases hs2l with e | e
      · exact e
      · exact absurd e c
    subst hs
    clear m2 m1 fin hss2 hs2l ad2
    generalize (ss ++ [t1]).map enc = d1 at *
    generalize ss.map enc = d0 at *
    generalize (((ss ++ [t1]).drop r8.toNat).map enc) = dd at *
    generalize (((ss ++ [t1]).take r8.toNat).map enc) = dt at *
    generalize ((ss ++ [t1]).drop r8.toNat ++ (ss ++ [t1]).take r8.toNat).map enc = df at *
    generalize ((ss ++ [t1]).length : Int) = L2 at *
    generalize nms.map D.str = nd at *
    by_cases ca : 2 + r4 < 5
    · have cb : ¬ r6 = 0 := fun z => c ⟨ca, z⟩
      have cb' : (r6 == 0) = false := by simpa using cb
      simp [e4, rg, lcRes_eq, wipeSl, ess, ssl2, shareSl, two, one, e5, ho, et0, et1, ad1, ca, e6, cb, cb', ll2, e8, sd1, sd2, ad3]
    · simp [e4, rg, lcRes_eq, wipeSl, ess, ssl2, shareSl, two, one, e5, ho, et0, et1, ad1, ca, ll2, e8, sd1, sd2, ad3]
theorem sayings_ev (h : T "_law_cell" = some fn_law_cell) (g : T "_law_pick" = some fn_law_pick) (nm : T "_law_names" = some fn_law_names1) (sy : T "_law_saying" = some fn_law_saying2) (tu : T "_law_turned" = some fn_law_turned) (jo : T "_law_joined" = some fn_law_joined) (ch : T "_law_chain" = some fn_law_chain) (f : T "_law_sayings" = some fn_law_sayings)
    (hl : ns.length ≤ 4000) (n : Nat) : ∃ ss : List Sy, evFn T (n + 7) "_law_sayings" [sc ns] = .ok (.tup (ss.map enc), false) ∧ Lst ss := by
  have P := fun {k m : Int} (h0 : 0 ≤ k) (h1 : k < 1000000) => pick_ev ns h g hl (n + 4) (k := k) (m := m) h0 (bdk h0 h1)
  obtain ⟨r9, r90, r91, e9⟩ := P (k := 9) (m := 2) (by decide) (by decide) (by decide)
  rw [evFn_succ f rfl]
  simp only [fn_law_sayings, startSl]
  by_cases c : r9 = 0
  · subst c
    obtain ⟨nms, en, nl, nok⟩ := names1_ev ns h g nm hl (n + 3) (k := 10) (m := 5) (by decide) (by decide) (by decide) (by decide)
    obtain ⟨ss, es, L⟩ := chain_ev ns h g sy tu jo ch hl n (nms := nms) (by simpa using nl) nok
    have en : evFn T (n + 6) "_law_names" [sc ns, .int 10, .int 5] = .ok (.lst (nms.map .str), true) := en
    exact ⟨ss, by simp [e9, en, es], L⟩
  · have c' : (r9 == 0) = false := by simpa using c
    obtain ⟨r7, r70, r71, e7⟩ := P (k := 7) (m := 5) (by decide) (by decide) (by decide)
    obtain ⟨r6, r60, r61, e6⟩ := P (k := 6) (m := 6) (by decide) (by decide) (by decide)
    obtain ⟨nms, en, nl, nok⟩ := names1_ev ns h g nm hl (n + 3) (k := 10) (m := 1 + r7) (by decide) (by decide) (by omega) (by omega)
    have hne : nms ≠ [] := by intro z; subst z; simp at nl; omega
    obtain ⟨ss, ess, sl, sr⟩ := lcFold_all (f := lcBody (CG.name 3) CIf.no fn_law_sayings_e0 (evFn T (n + 6)) [.sh (sc ns), .sh (.lst (nms.map .str)), .sh (.int (1 + r6)), .no]) (g := enc) (R := fun _ s => s.pieces ≤ 40 ∧ ∀ z ∈ s.lets, z ∈ nms) (ds := rangeD 0 (1 + r6).toNat) fun d hd => by
      obtain ⟨i, hi⟩ := List.mem_iff_getElem?.mp hd
      obtain ⟨hlt, rfl⟩ := rangeD_get hi
      obtain ⟨w, w0, w1, ew⟩ := P (k := 110 + (i : Int)) (m := 3) (by omega) (by omega) (by decide)
      have m41 : CMulW 41 (i : Int) := cmul_of (show bd 41 6 by decide) (bdk (a := 20) (by omega) (by omega))
      obtain ⟨r, hr, hr3⟩ : ∃ r : Nat, 1 + w = (r : Int) ∧ r ≤ 3 := ⟨(1 + w).toNat, by omega, by omega⟩
      have pw : (3 : Int) ^ r ≤ 27 := by
        have : 3 ^ r ≤ 3 ^ 3 := Nat.pow_le_pow_right (by decide) hr3
        have e : ((3 : Int) ^ r) = ((3 ^ r : Nat) : Int) := by simp
        rw [e]; omega
      have pw0 : (0 : Int) ≤ 3 ^ r := Int.pow_nonneg (by decide)
      have bound : (200 + 41 * (i : Int) + 4) * 3 ^ r ≤ 400000 := by
        have h1 : (200 + 41 * (i : Int) + 4) * 3 ^ r ≤ (200 + 41 * (i : Int) + 4) * 27 := Int.mul_le_mul_of_nonneg_left pw (by omega)
        omega
      obtain ⟨s, es, sp, sz⟩ := saying2_ev ns h g sy hl hne (by omega) r (n + 3 - r) (200 + 41 * (i : Int)) hr3 (by omega) bound
      rw [show n + 3 - r + r + 3 = n + 6 by omega, ← hr] at es
      have p16 : 2 ^ (r + 1) ≤ 2 ^ 4 := Nat.pow_le_pow_right (by decide) (by omega)
      refine ⟨s, ?_, by omega, sz⟩
      generalize nms.map D.str = nd at *
      simp [lcBody, fn_law_sayings_e0, noEx, m41, ew, es]
    rw [rangeD_len] at sl
    have sall : ∀ s ∈ ss, s.pieces ≤ 40 ∧ ∀ z ∈ s.lets, z ∈ nms := fun s m => by
      obtain ⟨i, hi⟩ := List.mem_iff_getElem?.mp m
      have hi2 : i < (rangeD 0 (1 + r6).toNat).length := by
        rw [rangeD_len, ← sl]
        exact (List.getElem?_eq_some_iff.mp hi).1
      exact sr i _ s (List.getElem?_eq_getElem hi2) hi
    refine ⟨ss, ?_, .of (by omega) (by omega) (by omega) nok sall⟩
    have rg := rg1_of (show 0 ≤ 1 + r6 by omega) (show 1 + r6 < 4611686018427387904 by omega)
    have ssl := small_len (show ss.length ≤ 1000000 by omega)
    have en : evFn T (n + 6) "_law_names" [sc ns, .int 10, .int (1 + r7)] = .ok (.lst (nms.map .str), true) := en
    have ssl2 : (ss.map enc).length ≤ sizeLine := by simpa using ssl
    generalize ss.map enc = sd at *
    generalize nms.map D.str = nd at *
    simp [e9, c', e7, en, e6, shareSl, rg, lcRes_eq, wipeSl, ess, ssl2]
end
end MJ

namespace MJ
open PySem PySem.Spec PyProof.Rows L2
theorem so_congr {h1 h2 : List Str} : ∀ {s : Sy}, (∀ z ∈ s.lets, (z ∈ h1 ↔ z ∈ h2)) → s.so h1 = s.so h2
  | .ltr z, h => by
    show decide (z ∈ h1) = decide (z ∈ h2)
    exact decide_eq_decide.mpr (h z (by simp [Sy.lets]))
  | .not s, h => by simp only [Sy.so, so_congr (s := s) h]
  | .bin o a b, h => by
    have ha := so_congr (s := a) fun z m => h z (List.mem_append_left _ m)
    have hb := so_congr (s := b) fun z m => h z (List.mem_append_right _ m)
    cases o <;> simp only [Sy.so, ha, hb]
theorem row_congr {ss : List Sy} {h1 h2 : List Str} (h : ∀ z ∈ namesL ss, (z ∈ h1 ↔ z ∈ h2)) : rowF ss h1 = rowF ss h2 :=
  List.map_congr_left fun s hs => so_congr fun z m => h z (Lst.inn hs z m)
/-- all ways to hold some names, as the law makes them -/
def holdsF : List Str → List (List Str) → List (List Str)
  | [], hs => hs
  | z :: zs, hs => holdsF zs (hs ++ hs.map fun h => h ++ [z])
theorem holds_len : ∀ (zs : List Str) (hs : List (List Str)), (holdsF zs hs).length = 2 ^ zs.length * hs.length
  | [], hs => by simp [holdsF]
  | z :: zs, hs => by
    rw [holdsF, holds_len zs]
    simp only [List.length_append, List.length_map, List.length_cons, Nat.pow_succ]
    rw [← Nat.two_mul, ← Nat.mul_assoc]
theorem holds_snoc : ∀ (zs : List Str) (z : Str) (hs : List (List Str)), holdsF (zs ++ [z]) hs = holdsF zs hs ++ (holdsF zs hs).map fun h => h ++ [z]
  | [], z, hs => rfl
  | y :: zs, z, hs => by
    show holdsF (zs ++ [z]) _ = _
    rw [holds_snoc zs z]
    rfl
theorem holds_sub : ∀ (zs : List Str) (hs : List (List Str)) (h : List Str), h ∈ holdsF zs hs → ∃ h0 ∈ hs, ∀ z ∈ h, z ∈ h0 ∨ z ∈ zs
  | [], hs, h, m => ⟨h, m, fun z mz => .inl mz⟩
  | y :: zs, hs, h, m => by
    obtain ⟨h0, m0, hz⟩ := holds_sub zs _ h m
    rcases List.mem_append.mp m0 with m1 | m1
    · exact ⟨h0, m1, fun z mz => (hz z mz).imp id (List.mem_cons_of_mem _)⟩
    · obtain ⟨h1, m2, rfl⟩ := List.mem_map.mp m1
      refine ⟨h1, m2, fun z mz => ?_⟩
      rcases hz z mz with a | a
      · rcases List.mem_append.mp a with a | a
        · exact .inl a
        · simp only [List.mem_singleton] at a; subst a; exact .inr (by simp)
      · exact .inr (List.mem_cons_of_mem _ a)
theorem holds_any (p : Str → Bool) : ∀ (zs : List Str) (hs : List (List Str)) (h0 : List Str), h0 ∈ hs → h0 ++ zs.filter p ∈ holdsF zs hs
  | [], hs, h0, m => by simpa [holdsF] using m
  | y :: zs, hs, h0, m => by
    show h0 ++ (y :: zs).filter p ∈ holdsF zs (hs ++ hs.map fun h => h ++ [y])
    cases hp : p y with
    | false =>
      rw [List.filter_cons_of_neg (by simp [hp])]
      exact holds_any p zs _ h0 (List.mem_append_left _ m)
    | true =>
      rw [List.filter_cons_of_pos hp]
      have := holds_any p zs (hs ++ hs.map fun h => h ++ [y]) (h0 ++ [y]) (List.mem_append_right _ (List.mem_map.mpr ⟨h0, m, rfl⟩))
      simpa using this
/-- the law's own rows are the fit rows -/
theorem rows_fit {ss : List Sy} : sortU ordR.toOrd ((holdsF (namesL ss) [[]]).map (rowF ss)) = fitR ss := by
  unfold fitR
  refine sortU_same ordR fun r => ?_
  rw [List.mem_map, List.mem_map]
  have nd := namesS_nd (letsL ss)
  have nd : (namesL ss).Nodup := nd
  constructor
  · rintro ⟨h, hm, rfl⟩
    refine ⟨bitsN (namesL ss).length fun j => decide ((namesL ss).getD j default ∈ h), List.mem_range.mpr (bitsN_lt _ _), row_congr fun z hz => ?_⟩
    obtain ⟨j, hj, hjl⟩ := idxS_some hz
    rw [heldF_bit _ nd hj, bitsN_bit]
    have e : (namesL ss).getD j default = z := by
      have := (idxS_at hj).1
      simp [List.getD_eq_getElem?_getD, this]
    simp only [e, hjl, decide_true, Bool.true_and, decide_eq_true_eq]
  · rintro ⟨k, _, rfl⟩
    refine ⟨(namesL ss).filter fun z => decide (z ∈ heldF (k : Int) (namesL ss)), ?_, row_congr fun z hz => ?_⟩
    · have := holds_any (fun z => decide (z ∈ heldF (k : Int) (namesL ss))) (namesL ss) [[]] [] (by simp)
      simpa using this
    · rw [List.mem_filter]
      simp [hz]
/-- what most of the judges say -/
def mostF (w : Nat) (js : List (List Bool)) : List Bool := (List.range w).map fun i => decide (js.length < 2 * yesN js i)
def whoF (js : List (List Bool)) (i : Nat) (t : Bool) : List Nat := (List.range js.length).filter fun k => (js.getD k []).getD i false == t
section
variable {T : Str → Option Fn} (ns : List Int)
theorem law_so3_ev (f : T "_law_so" = some fn_law_so3) {hd : List Str} (hh : ∀ z ∈ hd, PyData.strOk z = true) : ∀ (s : Sy) (n : Nat), (∀ z ∈ s.lets, PyData.strOk z = true) → evFn T (n + s.depth) "_law_so" [enc s, .tup (hd.map .str)] = .ok (.bl (s.so hd), false)
  | .ltr z, n, hz => by
    have z1 : ixD (enc (.ltr z)) (.int 1) = .ok (.str z, .sh) := ixD_tup rfl
    rw [show n + (Sy.ltr z).depth = n + 1 from rfl, evFn_succ f rfl]
    simp only [fn_law_so3, startSl]
    have i := in_strs (hz z (by simp [Sy.lets])) hh
    generalize hd.map D.str = hdd at *
    simp [enc_ix0, word_letter, Sy.isL, z1, i, Sy.so]
  | .not s, n, hz => by
    have ih := law_so3_ev f hh s n hz
    have z1 : ixD (enc (.not s)) (.int 1) = .ok (enc s, .sh) := ixD_tup rfl
    rw [show n + (Sy.not s).depth = n + s.depth + 1 from rfl, evFn_succ f rfl]
    simp only [fn_law_so3, startSl]
    generalize hd.map D.str = hdd at *
    simp [enc_ix0, word_letter, Sy.isL, Sy.word, wNot, z1, ih, Sy.so]
  | .bin o a b, n, hz => by
    have ia := law_so3_ev f hh a (n + (max a.depth b.depth - a.depth)) fun z m => hz z (List.mem_append_left _ m)
    have ib := law_so3_ev f hh b (n + (max a.depth b.depth - b.depth)) fun z m => hz z (List.mem_append_right _ m)
    rw [show n + (max a.depth b.depth - a.depth) + a.depth = n + max a.depth b.depth by omega] at ia
    rw [show n + (max a.depth b.depth - b.depth) + b.depth = n + max a.depth b.depth by omega] at ib
    rw [show n + (Sy.bin o a b).depth = n + max a.depth b.depth + 1 from rfl, evFn_succ f rfl]
    simp only [fn_law_so3, startSl]
    have z0 : ∀ w, ixD (.tup [.str w, enc a, enc b]) (.int 0) = .ok (.str w, .sh) := fun w => ixD_tup rfl
    have z1 : ∀ w, ixD (.tup [.str w, enc a, enc b]) (.int 1) = .ok (enc a, .sh) := fun w => ixD_tup rfl
    have z2 : ∀ w, ixD (.tup [.str w, enc a, enc b]) (.int 2) = .ok (enc b, .sh) := fun w => ixD_tup rfl
    generalize evFn T (n + max a.depth b.depth) = E at *
    have hso : ∀ o, (Sy.bin o a b).so hd = match o with | .and => a.so hd && b.so hd | .or => a.so hd || b.so hd | .if => !a.so hd || b.so hd := fun o => by cases o <;> rfl
    rw [hso]
    clear hso
    generalize a.so hd = x at *
    generalize b.so hd = y at *
    generalize hd.map D.str = hdd at *
    cases o with
    | and =>
      simp only [enc, Op3.word, wAnd]
      cases x <;> cases y <;> simp [z0, z1, z2, ia, ib]
    | or =>
      simp only [enc, Op3.word, wOr]
      cases x <;> cases y <;> simp [z0, z1, z2, ia, ib]
    | «if» =>
      simp only [enc, Op3.word, wIf]
      cases x <;> cases y <;> simp [z0, z1, z2, ia, ib]
theorem law_letters_ev (f : T "_law_letters" = some fn_law_letters) : ∀ (n : Nat) (s : Sy), s.depth ≤ n → s.pieces ≤ 10000 → evFn T n "_law_letters" [enc s] = .ok (.lst (s.lets.map .str), true)
  | 0, s, h, _ => by cases s <;> simp [Sy.depth] at h
  | n + 1, s, h, hp => by
    rw [evFn_succ f rfl]
    simp only [fn_law_letters, startSl]
    have one : 1 ≤ sizeLine := by decide
    cases hs : s.isL with
    | true =>
      cases s with
      | ltr z =>
        have z1 : ixD (enc (.ltr z)) (.int 1) = .ok (.str z, .sh) := ixD_tup rfl
        simp [enc_ix0, word_letter, Sy.isL, z1, one, Sy.lets]
      | _ => cases hs
    | false =>
      have hkp : ∀ k ∈ s.kids, k.pieces ≤ 10000 := fun k hk => Nat.le_trans (kids_le hk) hp
      have ih : ∀ k ∈ s.kids, evFn T n "_law_letters" [enc k] = .ok (.lst (k.lets.map .str), true) := fun k hk => law_letters_ev f n k (by have := kids_depth hk; omega) (hkp k hk)
      obtain ⟨ρ, eρ, x, rfl⟩ := forFold_nx (step := forStep (CG.name 2) fn_law_letters_b0 (evFn T n)) (ds := s.kids.map enc) (ρ := [.sh (enc s), .ow (.lst []), .no])
        (fun i ρ => ∃ x, ρ = [.sh (enc s), .ow (.lst ((((s.kids.take i).map Sy.lets).flatten).map .str)), x]) ⟨.no, rfl⟩ (by
          rintro i d ρ hd ⟨x, rfl⟩
          rw [List.getElem?_map, Option.map_eq_some_iff] at hd
          obtain ⟨k, hk, rfl⟩ := hd
          have hkm := List.mem_of_getElem? hk
          have hl := flat_le Sy.lets s.kids (i + 1)
          rw [← kids_lets hs] at hl
          have h1 := lets_le s
          rw [flat_take hk, List.length_append] at hl
          have ad := addD_lst (as := (((s.kids.take i).map Sy.lets).flatten).map .str) (bs := k.lets.map .str) (by simp only [List.length_map]; omega)
          rw [flat_take hk, List.map_append]
          have ih := ih k hkm
          generalize ((s.kids.take i).map Sy.lets).flatten.map D.str = us at ad
          simp [forStep, fn_law_letters_b0, ih, ad])
      rw [List.length_map, List.take_length, ← kids_lets hs] at eρ
      simp [enc_ix0, word_letter, hs, enc_kids hs, one, eρ]
def heldD (h : List Str) : D := .tup (h.map .str)
theorem rows_ev (le : T "_law_letters" = some fn_law_letters) (so : T "_law_so" = some fn_law_so3) (f : T "_law_rows" = some fn_law_rows) (n : Nat) {ss : List Sy} (L : Lst ss) : evFn T (n + 41) "_law_rows" [.tup (ss.map enc)] = .ok (.lst ((fitR ss).map rowD), true) := by
  have two5 := L.two5
  have n5 := L.nm
  have s6 := L.le
  have lt := L.lets_len
  have one : 1 ≤ sizeLine := by decide
  rw [evFn_succ f rfl]
  simp only [fn_law_rows, startSl]
  obtain ⟨ρ, eρ, x, rfl⟩ := forFold_nx (step := forStep (CG.name 2) fn_law_rows_b1 (evFn T (n + 40))) (ds := ss.map enc) (ρ := [.sh (.tup (ss.map enc)), .ow (.lst []), .no, .no, .no, .no, .no])
    (fun i ρ => ∃ x, ρ = [.sh (.tup (ss.map enc)), .ow (.lst ((((ss.take i).map Sy.lets).flatten).map .str)), x, .no, .no, .no, .no]) ⟨.no, rfl⟩ (by
      rintro i d' ρ hd' ⟨x, rfl⟩
      rw [List.getElem?_map, Option.map_eq_some_iff] at hd'
      obtain ⟨k, hk, rfl⟩ := hd'
      have hkm := List.mem_of_getElem? hk
      have hl := flat_le Sy.lets ss (i + 1)
      rw [flat_take hk, List.length_append] at hl
      have lt : (ss.map Sy.lets).flatten.length ≤ 240 := lt
      have ad := addD_lst (as := (((ss.take i).map Sy.lets).flatten).map .str) (bs := k.lets.map .str) (by simp only [List.length_map]; omega)
      have wi := law_letters_ev le (n + 40) k (by have := L.dp hkm; omega) (by have := L.pc k hkm; omega)
      rw [flat_take hk, List.map_append]
      generalize ((ss.take i).map Sy.lets).flatten.map D.str = us at ad
      simp [forStep, fn_law_rows_b1, wi, ad])
  rw [List.length_map, List.take_length] at eρ
  have ss' := sset_strs (show (letsL ss).length < 4000 by omega)
  have e1 : namesS (letsL ss) = namesL ss := rfl
  rw [e1] at ss'
  have e2 : (ss.map Sy.lets).flatten = letsL ss := rfl
  rw [e2] at eρ
  -- the ways to hold
  have hz : ∀ h ∈ holdsF (namesL ss) [[]], ∀ z ∈ h, PyData.strOk z = true := fun h hm z mz => by
    obtain ⟨h0, m0, hs⟩ := holds_sub _ _ h hm
    simp only [List.mem_singleton] at m0
    subst m0
    rcases hs z mz with a | a
    · cases a
    · exact L.nok z a
  have hl := holds_len (namesL ss) [[]]
  have rf := rows_fit (ss := ss)
  generalize hnm : namesL ss = nms at *
  have hlt : ∀ i, i ≤ nms.length → (holdsF (nms.take i) [[]]).length ≤ 32 := fun i hi => by
    rw [holds_len, List.length_take, Nat.min_eq_left hi]
    have : 2 ^ i ≤ 2 ^ 5 := Nat.pow_le_pow_right (by decide) (by omega)
    simpa using this
  have hdl : ∀ i, i ≤ nms.length → ∀ h ∈ holdsF (nms.take i) [[]], h.length ≤ i := by
    intro i
    induction i with
    | zero => intro _ h m; simp [holdsF] at m; subst m; simp
    | succ i ih =>
      intro hi h m
      have hi' : i < nms.length := by omega
      have tk : nms.take (i + 1) = nms.take i ++ [nms[i]] := by rw [List.take_succ, List.getElem?_eq_getElem hi']; rfl
      rw [tk, holds_snoc] at m
      rcases List.mem_append.mp m with m | m
      · have := ih (by omega) h m; omega
      · obtain ⟨h1, m1, rfl⟩ := List.mem_map.mp m
        have := ih (by omega) h1 m1
        simp; omega
  obtain ⟨ρ2, e2ρ, q3, x4, rfl, hq3⟩ := forFold_nx (step := forStep (CG.name 4) fn_law_rows_b0 (evFn T (n + 40))) (ds := nms.map .str) (ρ := [.sh (.tup (ss.map enc)), .sh (.lst (nms.map .str)), x, .ow (.lst ((holdsF (nms.take 0) [[]]).map heldD)), .no, .no, .no])
    (fun i ρ => ∃ q3 x4, ρ = [.sh (.tup (ss.map enc)), .sh (.lst (nms.map .str)), x, q3, x4, .no, .no] ∧ (q3 = .ow (.lst ((holdsF (nms.take i) [[]]).map heldD)) ∨ q3 = .sh (.lst ((holdsF (nms.take i) [[]]).map heldD)))) ⟨_, _, rfl, .inl rfl⟩ (by
      rintro i d ρ hd ⟨q3, x4, rfl, hq3⟩
      rw [List.getElem?_map, Option.map_eq_some_iff] at hd
      obtain ⟨z, hzi, rfl⟩ := hd
      have hi := (List.getElem?_eq_some_iff.mp hzi).1
      have tk : nms.take (i + 1) = nms.take i ++ [z] := by rw [List.take_succ, hzi]; rfl
      rw [tk, holds_snoc]
      have hl1 := hlt i (by omega)
      have hd1 := hdl i (by omega)
      generalize holdsF (nms.take i) [[]] = hs at *
      have body := lcFold_map (f := lcBody (CG.name 6) CIf.no fn_law_rows_e2 (evFn T (n + 40)) [.sh (.tup (ss.map enc)), .sh (.lst (nms.map .str)), x, .sh (.lst (hs.map heldD)), .sh (.str z), .no, .no]) heldD (fun h => heldD (h ++ [z])) (as := hs) fun h hm => by
        have ad := addD_tup (as := h.map .str) (bs := [.str z]) (by have := hd1 h hm; simp; omega)
        have er : heldD (h ++ [z]) = .tup (h.map .str ++ [.str z]) := by simp [heldD]
        rw [er]
        generalize nms.map D.str = nd at *
        generalize hs.map heldD = hd at *
        unfold heldD
        generalize h.map D.str = hh at *
        simp [lcBody, fn_law_rows_e2, noEx, ad, one]
      have em : hs.map (fun h => heldD (h ++ [z])) = (hs.map fun h => h ++ [z]).map heldD := by rw [List.map_map]; rfl
      rw [em] at body
      have ad := addD_lst (as := hs.map heldD) (bs := (hs.map fun h => h ++ [z]).map heldD) (by simp; omega)
      rw [← List.map_append] at ad
      have sz : ((hs.map fun h => h ++ [z]).map heldD).length ≤ sizeLine := by simpa using small_len (show hs.length ≤ 1000000 by omega)
      refine nx_gen fun Q hQ => ?_
      have gq := hQ [.sh (.tup (ss.map enc)), .sh (.lst (nms.map .str)), x, .ow (.lst ((hs ++ hs.map fun h => h ++ [z]).map heldD)), .sh (.str z), .no, .no] ⟨_, _, rfl, .inl rfl⟩
      clear hQ
      generalize (hs ++ hs.map fun h => h ++ [z]).map heldD = h2 at *
      generalize (hs.map fun h => h ++ [z]).map heldD = h1 at *
      generalize hs.map heldD = h0 at *
      generalize nms.map D.str = nd at *
      generalize evFn T (n + 40) = E at *
      rcases hq3 with rfl | rfl <;> simp [forStep, fn_law_rows_b0, shareSl, lcRes_eq, wipeSl, body, sz, ad, gq])
  rw [List.length_map, List.take_length] at hq3
  have hl32 : (holdsF nms [[]]).length ≤ 32 := by rw [hl]; simp; omega
  have hl1 : 1 ≤ (holdsF nms [[]]).length := by rw [hl]; simp; exact Nat.pow_pos (by decide)
  -- the rows
  have body := lcFold_map (f := lcBody (CG.name 6) CIf.no fn_law_rows_e1 (evFn T (n + 40)) [.sh (.tup (ss.map enc)), .sh (.lst (nms.map .str)), x, .sh (.lst ((holdsF nms [[]]).map heldD)), x4, .no, .no]) heldD (fun h => rowD (rowF ss h)) (as := holdsF nms [[]]) fun h hm => by
    have b2 := lcFold_map (f := lcBody (CG.name 2) CIf.no fn_law_rows_e0 (evFn T (n + 40)) [.sh (.tup (ss.map enc)), .sh (.lst (nms.map .str)), .no, .sh (.lst ((holdsF nms [[]]).map heldD)), x4, .no, .sh (heldD h)]) enc (fun s => .bl (s.so h)) (as := ss) fun s hs => by
      have e := law_so3_ev (T := T) so (hz h hm) s (n + 40 - s.depth) (L.sok hs)
      rw [Nat.sub_add_cancel (by have := L.dp hs; omega)] at e
      have e : evFn T (n + 40) "_law_so" [enc s, heldD h] = .ok (.bl (s.so h), false) := e
      generalize nms.map D.str = nd at *
      generalize (holdsF nms [[]]).map heldD = hd at *
      generalize heldD h = hh at *
      simp [lcBody, fn_law_rows_e0, noEx, e]
    have er : rowD (rowF ss h) = .tup (ss.map fun s => D.bl (s.so h)) := by unfold rowD rowF; rw [List.map_map]; rfl
    rw [er]
    have sz : (ss.map fun s => D.bl (s.so h)).length ≤ sizeLine := by simpa using small_len (show ss.length ≤ 1000000 by omega)
    generalize (ss.map fun s => D.bl (s.so h)) = out at *
    generalize nms.map D.str = nd at *
    generalize (holdsF nms [[]]).map heldD = hd at *
    generalize heldD h = hh at *
    simp [lcBody, fn_law_rows_e1, noEx, lcRes_eq, wipeSl, b2, sz]
  have em : (holdsF nms [[]]).map (fun h => rowD (rowF ss h)) = ((holdsF nms [[]]).map (rowF ss)).map rowD := by rw [List.map_map]; rfl
  rw [em] at body
  have sr := sset_rows (rs := (holdsF nms [[]]).map (rowF ss)) (by simp; omega) (fun r m => by
    obtain ⟨h, _, rfl⟩ := List.mem_map.mp m
    intro z
    have := congrArg List.length z
    have := L.ne
    simp [rowF] at *
    simp_all) (by
      intro z
      have : ((holdsF nms [[]]).map (rowF ss)).length = 0 := by rw [z]; rfl
      rw [List.length_map] at this
      omega)
  rw [rf] at sr
  have sz2 : (((holdsF nms [[]]).map (rowF ss)).map rowD).length ≤ sizeLine := by simpa using small_len (show (holdsF nms [[]]).length ≤ 1000000 by omega)
  have h00 : (holdsF (nms.take 0) [[]]).map heldD = [.tup []] := by simp [holdsF, heldD]
  rw [h00] at e2ρ
  have zero : 0 ≤ sizeLine := Nat.zero_le _
  generalize ((holdsF nms [[]]).map (rowF ss)).map rowD = rr at *
  generalize (holdsF nms [[]]).map heldD = hd at *
  generalize nms.map D.str = nd at *
  generalize (letsL ss).map D.str = ld at *
  generalize (fitR ss).map rowD = fr at *
  generalize evFn T (n + 40) = E at *
  rcases hq3 with rfl | rfl <;> simp [eρ, shareSl, ss', one, e2ρ, lcRes_eq, wipeSl, body, sz2, sr]
end
end MJ

namespace MJ
open PySem PySem.Spec PyProof.Rows L2
/-- a loop that may return, what it returns unlike from turn to turn -/
theorem forFold_or {step : D → List Sl → Option Fl} {ds : List D} {ρ : List Sl} (P : Nat → List Sl → Prop) (R : D → Prop) (fb : Bool) (h0 : P 0 ρ)
    (hs : ∀ i d ρ, ds[i]? = some d → P i ρ → Nx (step d ρ) (P (i + 1)) ∨ ∃ r, R r ∧ step d ρ = some (.rt r fb)) :
    (∃ ρ', forFold step ds ρ = some (.nx ρ') ∧ P ds.length ρ') ∨ ∃ r, R r ∧ forFold step ds ρ = some (.rt r fb) := by
  induction ds generalizing P ρ with
  | nil => exact .inl ⟨ρ, rfl, h0⟩
  | cons d ds ih =>
    rcases hs 0 d ρ rfl h0 with nx | ⟨r, hr, e⟩
    · unfold Nx at nx
      split at nx
      · rename_i ρ1 e1
        rcases ih (fun i => P (i + 1)) nx (fun i d ρ h p => hs (i + 1) d ρ (by simpa using h) p) with ⟨ρ2, h2, h3⟩ | ⟨r, hr, e⟩
        · exact .inl ⟨ρ2, by simp [forFold, e1, h2], h3⟩
        · exact .inr ⟨r, hr, by simp [forFold, e1, e]⟩
      · exact nx.elim
    · exact .inr ⟨r, hr, by simp [forFold, e]⟩
theorem enum_rows : ∀ (js : List (List Bool)) (i : Nat), enumD i (js.map rowD) = (List.range js.length).map fun k => .tup [.int ((i + k : Nat) : Int), rowD (js.getD k [])]
  | [], i => rfl
  | r :: js, i => by
    rw [List.map_cons, enumD, enum_rows js (i + 1), List.length_cons, List.range_succ_eq_map, List.map_cons, List.map_map]
    congr 1
    refine List.map_congr_left fun k _ => ?_
    simp only [Function.comp]
    have e1 : i + 1 + k = i + (k + 1) := by omega
    rw [e1]
    rfl
theorem list_range {α : Type} (js : List α) (d : α) : js = (List.range js.length).map fun k => js.getD k d := by
  refine List.ext_getElem (by simp) fun i h1 h2 => ?_
  simp [List.getD_eq_getElem?_getD, List.getElem?_eq_getElem h1]
theorem who_len (js : List (List Bool)) (i : Nat) : (whoF js i true).length = yesN js i := by
  unfold whoF yesN
  conv => rhs; rw [list_range js []]
  rw [List.filter_map, List.length_map]
  congr 1
  refine List.filter_congr fun k _ => ?_
  simp only [Function.comp]
  cases (js.getD k []).getD i false <;> rfl
theorem who_le (js : List (List Bool)) (i : Nat) (t : Bool) : (whoF js i t).length ≤ js.length := Nat.le_trans (List.length_filter_le _ _) (by simp)
def intsD (ks : List Nat) : D := .lst (ks.map fun k : Nat => .int k)
section
variable {T : Str → Option Fn} (ns : List Int)
theorem js_at {js : List (List Bool)} {w : Nat} (hw : ∀ r ∈ js, r.length = w) {k : Nat} (h : k < js.length) : (js.getD k []).length = w ∧ ixD (judD js) (.int k) = .ok (rowD (js.getD k []), .sh) := by
  have e : js.getD k [] = js[k] := by simp [List.getD_eq_getElem?_getD, List.getElem?_eq_getElem h]
  rw [e]
  exact ⟨hw _ (List.getElem_mem h), ixD_tup_nat (by simp [List.getElem?_eq_getElem h])⟩
theorem who_say_ev (f : T "who_say" = some fn_who_say) (n : Nat) {js : List (List Bool)} {w : Nat} (hw : ∀ r ∈ js, r.length = w) (hj : js.length ≤ 1000) {i : Nat} (hi : i < w) (t : Bool) : evFn T (n + 1) "who_say" [judD js, .int i, .bl t] = .ok (intsD (whoF js i t), true) := by
  rw [evFn_succ f rfl]
  simp only [fn_who_say, startSl]
  have body := lcFold_filter (f := lcBody (CG.tup (.cons 3 (.cons 4 .nil))) (CIf.one (.cmp _ .eq (.ix .ix (.var 4) (.var 1)) (.var 2))) fn_who_say_e0 (evFn T n) [.sh (judD js), .sh (.int i), .sh (.bl t), .no, .no]) (fun k => D.tup [.int ((0 + k : Nat) : Int), rowD (js.getD k [])]) (fun k => (js.getD k []).getD i false == t) (fun k : Nat => D.int k) (as := List.range js.length) fun k hk => by
    have hk := List.mem_range.mp hk
    have e := ixD_row (show i < (js.getD k []).length by rw [(js_at hw hk).1]; exact hi)
    rw [Nat.zero_add]
    generalize (js.getD k []).getD i false = b at *
    generalize rowD (js.getD k []) = rd at *
    generalize judD js = jd at *
    cases b <;> cases t <;> simp [lcBody, fn_who_say_e0, noEx, e]
  have en := enum_rows js 0
  rw [← en] at body
  have sq : seqD (judD js) = .ok (js.map rowD) := rfl
  have ol : ((whoF js i t).map fun k : Nat => D.int k).length ≤ sizeLine := by
    rw [List.length_map]; exact Nat.le_trans (who_le js i t) (small_len (by omega))
  have ew : (List.range js.length).filter (fun k => (js.getD k []).getD i false == t) = whoF js i t := rfl
  rw [ew] at body
  unfold intsD
  generalize ((whoF js i t).map fun k : Nat => D.int k) = out at *
  generalize js.map rowD = jr at *
  generalize judD js = jd at *
  simp [sq, lcRes_eq, wipeSl, body, ol]
theorem most_ev (wh : T "who_say" = some fn_who_say) (f : T "most" = some fn_most) (n : Nat) {js : List (List Bool)} {w : Nat} (hw : ∀ r ∈ js, r.length = w) (h0 : js ≠ []) (hj : js.length ≤ 1000) (h6 : w ≤ 1000) : evFn T (n + 2) "most" [judD js] = .ok (rowD (mostF w js), false) := by
  rw [evFn_succ f rfl]
  simp only [fn_most, startSl]
  obtain ⟨r0, rw0, e0⟩ := jud0 hw h0
  have rg := rg1_of (show (0 : Int) ≤ (w : Int) by omega) (show (w : Int) < 4611686018427387904 by omega)
  rw [Int.toNat_natCast] at rg
  obtain ⟨ρ, eρ, x, rfl⟩ := forFold_nx (step := forStep (CG.name 2) fn_most_b0 (evFn T (n + 1))) (ds := rangeD 0 w) (ρ := [.sh (judD js), .ow (.lst []), .no])
    (fun i ρ => ∃ x, ρ = [.sh (judD js), .ow (.lst (((List.range i).map fun i => decide (js.length < 2 * yesN js i)).map .bl)), x]) ⟨_, rfl⟩ (by
      rintro i d ρ hd ⟨x, rfl⟩
      obtain ⟨hi, rfl⟩ := rangeD_get hd
      have ew := who_say_ev wh n hw hj hi true
      have wl := who_len js i
      have wl2 : lenD [intsD (whoF js i true)] = .ok (.int (yesN js i : Nat), .sh) := by rw [← wl]; simp [intsD]
      have lj := lenD_jud js
      have yl := yesN_le js i
      have m2 : CMulW 2 ((yesN js i : Nat) : Int) := cmul_of (show bd 2 2 by decide) (bdk (a := 20) (by omega) (by omega))
      have hs : ((List.range (i + 1)).map fun i => decide (js.length < 2 * yesN js i)).map D.bl = ((List.range i).map fun i => decide (js.length < 2 * yesN js i)).map .bl ++ [.bl (decide (js.length < 2 * yesN js i))] := by simp [List.range_succ]
      rw [hs]
      have lt : (((List.range i).map fun i => decide (js.length < 2 * yesN js i)).map D.bl).length < sizeLine := Nat.lt_of_lt_of_le (by simp; omega) (small_len (Nat.le_refl 1000000))
      have dc : decide (js.length < 2 * yesN js i) = decide ((js.length : Int) < 2 * ((yesN js i : Nat) : Int)) := decide_eq_decide.mpr (by omega)
      rw [dc]
      generalize ((List.range i).map fun i => decide (js.length < 2 * yesN js i)).map D.bl = fd at *
      generalize intsD (whoF js i true) = wd at *
      generalize judD js = jd at *
      generalize (js.length : Int) = J at *
      generalize ((yesN js i : Nat) : Int) = Y at *
      generalize evFn T (n + 1) = E at *
      simp [forStep, fn_most_b0, ew, wl2, m2, lj, MC.run_eq, lt])
  rw [rangeD_len] at eρ
  have em : rowD (mostF w js) = .tup (((List.range w).map fun i => decide (js.length < 2 * yesN js i)).map .bl) := rfl
  rw [em]
  have lr : lenD [rowD r0] = .ok (.int w, .sh) := by rw [lenD_row, rw0]
  generalize ((List.range w).map fun i => decide (js.length < 2 * yesN js i)).map D.bl = fd at *
  generalize rowD r0 = rd at *
  generalize judD js = jd at *
  simp [e0, lr, rg, eρ]
theorem law_most_ev (f : T "_law_most" = some fn_law_most) (n : Nat) {js : List (List Bool)} {w : Nat} (hw : ∀ r ∈ js, r.length = w) (h0 : js ≠ []) (hj : js.length ≤ 1000) (h6 : w ≤ 1000) : evFn T (n + 1) "_law_most" [judD js] = .ok (rowD (mostF w js), false) := by
  rw [evFn_succ f rfl]
  simp only [fn_law_most, startSl]
  obtain ⟨r0, rw0, e0⟩ := jud0 hw h0
  have rg := rg1_of (show (0 : Int) ≤ (w : Int) by omega) (show (w : Int) < 4611686018427387904 by omega)
  rw [Int.toNat_natCast] at rg
  obtain ⟨ρ, eρ, x, rfl⟩ := forFold_nx (step := forStep (CG.name 2) fn_law_most_b0 (evFn T n)) (ds := rangeD 0 w) (ρ := [.sh (judD js), .ow (.lst []), .no, .no])
    (fun i ρ => ∃ x, ρ = [.sh (judD js), .ow (.lst (((List.range i).map fun i => decide (js.length < 2 * yesN js i)).map .bl)), x, .no]) ⟨_, rfl⟩ (by
      rintro i d ρ hd ⟨x, rfl⟩
      obtain ⟨hi, rfl⟩ := rangeD_get hd
      have lj := lenD_jud js
      have yl := yesN_le js i
      have m2 : CMulW 2 ((yesN js i : Nat) : Int) := cmul_of (show bd 2 2 by decide) (bdk (a := 20) (by omega) (by omega))
      have hs : ((List.range (i + 1)).map fun i => decide (js.length < 2 * yesN js i)).map D.bl = ((List.range i).map fun i => decide (js.length < 2 * yesN js i)).map .bl ++ [.bl (decide (js.length < 2 * yesN js i))] := by simp [List.range_succ]
      rw [hs]
      have lt : (((List.range i).map fun i => decide (js.length < 2 * yesN js i)).map D.bl).length < sizeLine := Nat.lt_of_lt_of_le (by simp; omega) (small_len (Nat.le_refl 1000000))
      have dc : decide (js.length < 2 * yesN js i) = decide ((js.length : Int) < 2 * ((yesN js i : Nat) : Int)) := decide_eq_decide.mpr (by omega)
      rw [dc]
      generalize ((List.range i).map fun i => decide (js.length < 2 * yesN js i)).map D.bl = fd at *
      have body := lcFold_filter (f := lcBody (CG.name 3) (CIf.one (.val (.ix .ix (.var 3) (.var 2)))) fn_law_most_e0 (evFn T n) [.sh (judD js), .ow (.lst fd), .sh (.int (i : Int)), .no]) rowD (fun r => r.getD i false) rowD (as := js) fun r hr => by
        have e := ixD_row (show i < r.length by rw [hw r hr]; exact hi)
        generalize r.getD i false = b at *
        generalize rowD r = rd at *
        generalize judD js = jd at *
        cases b <;> simp [lcBody, fn_law_most_e0, noEx, e]
      have ij : items (judD js) = .ok (js.map rowD) := rfl
      have ol : ((js.filter fun r => r.getD i false).map rowD).length = yesN js i := by simp [yesN]
      generalize ((js.filter fun r => r.getD i false).map rowD) = out at *
      have ol2 : yesN js i ≤ sizeLine := Nat.le_trans yl (small_len (by omega))
      generalize js.map rowD = jr at *
      generalize judD js = jd at *
      generalize (js.length : Int) = J at *
      have oli : ((out.length : Nat) : Int) = ((yesN js i : Nat) : Int) := by rw [ol]
      have ol3 : out.length ≤ sizeLine := by rw [ol]; exact ol2
      clear ol ol2 yl
      generalize ((yesN js i : Nat) : Int) = Y at *
      simp [forStep, fn_law_most_b0, ij, lcRes_eq, wipeSl, body, ol3, oli, m2, lj, MC.run_eq, lt])
  rw [rangeD_len] at eρ
  have em : rowD (mostF w js) = .tup (((List.range w).map fun i => decide (js.length < 2 * yesN js i)).map .bl) := rfl
  rw [em]
  have lr : lenD [rowD r0] = .ok (.int w, .sh) := by rw [lenD_row, rw0]
  generalize ((List.range w).map fun i => decide (js.length < 2 * yesN js i)).map D.bl = fd at *
  generalize rowD r0 = rd at *
  generalize judD js = jd at *
  simp [e0, lr, rg, eρ]
theorem split_three_ev (h : T "_law_cell" = some fn_law_cell) (mo : T "_law_most" = some fn_law_most) (f : T "_law_split_three" = some fn_law_split_three) (hl : ns.length ≤ 4000) (n : Nat) {rs : List (List Bool)} {w : Nat} (hw : ∀ r ∈ rs, r.length = w) (h0 : rs ≠ []) (hr : rs.length ≤ 100) (h6 : w ≤ 1000) :
    evFn T (n + 2) "_law_split_three" [sc ns, .lst (rs.map rowD)] = .ok (.tup [], false) ∨ ∃ a b c, a ∈ rs ∧ b ∈ rs ∧ c ∈ rs ∧ evFn T (n + 2) "_law_split_three" [sc ns, .lst (rs.map rowD)] = .ok (judD [a, b, c], false) := by
  obtain ⟨v, ev⟩ := cell_ev ns h hl n (k := 29) (by decide) (by decide)
  have rp : 0 < rs.length := List.length_pos_iff.mpr h0
  have three : 3 ≤ sizeLine := by decide
  rw [evFn_succ f rfl]
  simp only [fn_law_split_three, startSl]
  obtain ⟨at_, hat, at0, at1⟩ : ∃ q : Int, v % (rs.length : Int) = q ∧ 0 ≤ q ∧ q < rs.length := ⟨_, rfl, Int.emod_nonneg _ (by omega), Int.emod_lt_of_pos _ (by omega)⟩
  have s1 : sliceD (.lst (rs.map rowD)) (some at_) none = .ok (.lst ((rs.drop at_.toNat).map rowD), .fr) := by rw [sliceD_lst, cutD_from _ at0, List.map_drop]
  have s2 : sliceD (.lst (rs.map rowD)) none (some at_) = .ok (.lst ((rs.take at_.toNat).map rowD), .fr) := by rw [sliceD_lst, cutD_to _ at0, List.map_take]
  have ad := addD_lst (as := (rs.drop at_.toNat).map rowD) (bs := (rs.take at_.toNat).map rowD) (by simp; omega)
  rw [← List.map_append] at ad
  have hmem : ∀ r ∈ (rs.drop at_.toNat ++ rs.take at_.toNat).take 12, r ∈ rs := fun r m => by
    rcases List.mem_append.mp (List.mem_of_mem_take m) with m | m
    · exact List.mem_of_mem_drop m
    · exact List.mem_of_mem_take m
  have s3 : sliceD (.lst ((rs.drop at_.toNat ++ rs.take at_.toNat).map rowD)) none (some 12) = .ok (.lst (((rs.drop at_.toNat ++ rs.take at_.toNat).take 12).map rowD), .fr) := by rw [sliceD_lst, cutD_to _ (by decide), List.map_take]; rfl
  have nl : ((rs.drop at_.toNat ++ rs.take at_.toNat).take 12).length ≤ 12 := by rw [List.length_take]; omega
  generalize (rs.drop at_.toNat ++ rs.take at_.toNat).map rowD = apd at *
  generalize (rs.drop at_.toNat ++ rs.take at_.toNat).take 12 = near at *
  have rgn : ∀ k : Nat, k ≤ 1000 → rg1 (.int (k : Int)) = .ok (rangeD 0 k) := fun k h => by
    have := rg1_of (show (0 : Int) ≤ (k : Int) by omega) (show (k : Int) < 4611686018427387904 by omega)
    rwa [Int.toNat_natCast] at this
  have nat_ : ∀ i, i < near.length → ixD (.lst (near.map rowD)) (.int (i : Int)) = .ok (rowD (near.getD i []), .sh) ∧ near.getD i [] ∈ rs := fun i hi => by
    have e : near.getD i [] = near[i] := by simp [List.getD_eq_getElem?_getD, List.getElem?_eq_getElem hi]
    rw [e]
    exact ⟨ixD_lst_nat (by simp [List.getElem?_eq_getElem hi]), hmem _ (List.getElem_mem hi)⟩
  -- the three loops
  have loop := forFold_or (step := forStep (CG.name 4) fn_law_split_three_b2 (evFn T (n + 1))) (ds := rangeD 0 near.length) (ρ := [.sh (sc ns), .sh (.lst (rs.map rowD)), .sh (.int at_), .ow (.lst (near.map rowD)), .no, .no, .no, .no])
    (fun i ρ => ∃ x4 x5 x6 x7, ρ = [.sh (sc ns), .sh (.lst (rs.map rowD)), .sh (.int at_), .ow (.lst (near.map rowD)), x4, x5, x6, x7]) (fun d => ∃ a b c, a ∈ rs ∧ b ∈ rs ∧ c ∈ rs ∧ d = judD [a, b, c]) false ⟨_, _, _, _, rfl⟩ (by
      rintro i d ρ hd ⟨x4, x5, x6, x7, rfl⟩
      obtain ⟨hi, rfl⟩ := rangeD_get hd
      have rg := rgn i (by omega)
      have mid := forFold_or (step := forStep (CG.name 5) fn_law_split_three_b1 (evFn T (n + 1))) (ds := rangeD 0 i) (ρ := [.sh (sc ns), .sh (.lst (rs.map rowD)), .sh (.int at_), .ow (.lst (near.map rowD)), .sh (.int i), x5, x6, x7])
        (fun j ρ => ∃ x5 x6 x7, ρ = [.sh (sc ns), .sh (.lst (rs.map rowD)), .sh (.int at_), .ow (.lst (near.map rowD)), .sh (.int i), x5, x6, x7]) (fun d => ∃ a b c, a ∈ rs ∧ b ∈ rs ∧ c ∈ rs ∧ d = judD [a, b, c]) false ⟨_, _, _, rfl⟩ (by
          rintro j d ρ hd ⟨x5, x6, x7, rfl⟩
          obtain ⟨hj, rfl⟩ := rangeD_get hd
          have rg := rgn j (by omega)
          have inner := forFold_or (step := forStep (CG.name 6) fn_law_split_three_b0 (evFn T (n + 1))) (ds := rangeD 0 j) (ρ := [.sh (sc ns), .sh (.lst (rs.map rowD)), .sh (.int at_), .ow (.lst (near.map rowD)), .sh (.int i), .sh (.int j), x6, x7])
            (fun k ρ => ∃ x6 x7, ρ = [.sh (sc ns), .sh (.lst (rs.map rowD)), .sh (.int at_), .ow (.lst (near.map rowD)), .sh (.int i), .sh (.int j), x6, x7]) (fun d => ∃ a b c, a ∈ rs ∧ b ∈ rs ∧ c ∈ rs ∧ d = judD [a, b, c]) false ⟨_, _, rfl⟩ (by
              rintro k d ρ hd ⟨x6, x7, rfl⟩
              obtain ⟨hk, rfl⟩ := rangeD_get hd
              have a1 := nat_ i hi
              have a2 := nat_ j (by omega)
              have a3 := nat_ k (by omega)
              generalize near.getD i [] = a at *
              generalize near.getD j [] = b at *
              generalize near.getD k [] = c at *
              have em := law_most_ev (T := T) mo n (js := [a, b, c]) (w := w) (fun r m => by
                simp only [List.mem_cons, List.not_mem_nil, or_false] at m
                rcases m with rfl | rfl | rfl
                · exact hw _ a1.2
                · exact hw _ a2.2
                · exact hw _ a3.2) (by simp) (by simp) h6
              have inn := in_rows (mostF w [a, b, c]) rs
              have ej : judD [a, b, c] = .tup [rowD a, rowD b, rowD c] := rfl
              have wit : ∃ a' b' c', a' ∈ rs ∧ b' ∈ rs ∧ c' ∈ rs ∧ judD [a, b, c] = judD [a', b', c'] := ⟨a, b, c, a1.2, a2.2, a3.2, rfl⟩
              rw [ej] at em wit
              have e1 := a1.1
              have e2 := a2.1
              have e3 := a3.1
              generalize decide (mostF w [a, b, c] ∈ rs) = dc at *
              generalize rowD (mostF w [a, b, c]) = md at *
              generalize rowD a = ra at *
              generalize rowD b = rb at *
              generalize rowD c = rc at *
              generalize rs.map rowD = rsd at *
              generalize near.map rowD = nd at *
              generalize evFn T (n + 1) = E at *
              cases dc with
              | true => exact .inl (by simp [forStep, fn_law_split_three_b0, e1, e2, e3, three, em, inn])
              | false => exact .inr ⟨_, wit, by simp [forStep, fn_law_split_three_b0, e1, e2, e3, three, em, inn]⟩)
          generalize rangeD 0 j = rd at *
          generalize rs.map rowD = rsd at *
          generalize near.map rowD = nd at *
          rcases inner with ⟨ρ', e, x6, x7, rfl⟩ | ⟨r, hr, e⟩
          · exact .inl (by simp [forStep, fn_law_split_three_b1, rg, e])
          · exact .inr ⟨r, hr, by simp [forStep, fn_law_split_three_b1, rg, e]⟩)
      generalize rangeD 0 i = rd at *
      generalize rs.map rowD = rsd at *
      generalize near.map rowD = nd at *
      rcases mid with ⟨ρ', e, x5, x6, x7, rfl⟩ | ⟨r, hr, e⟩
      · exact .inl (by simp [forStep, fn_law_split_three_b2, rg, e])
      · exact .inr ⟨r, hr, by simp [forStep, fn_law_split_three_b2, rg, e]⟩)
  have rg := rgn near.length (by omega)
  have ll : ((near.map rowD).length : Int) = (near.length : Int) := by simp
  have lrs : lenD [.lst (rs.map rowD)] = .ok (.int rs.length, .sh) := by simp
  have rpi : (0 : Int) < (rs.length : Int) := by omega
  generalize rangeD 0 near.length = rd at *
  generalize (rs.drop at_.toNat).map rowD = d1 at *
  generalize (rs.take at_.toNat).map rowD = d2 at *
  generalize rs.map rowD = rsd at *
  generalize near.map rowD = nd at *
  generalize (rs.length : Int) = RL at *
  have ev : evFn T (n + 1) "_law_cell" [sc ns, .int 29] = .ok (.int v, false) := ev
  generalize evFn T (n + 1) = E at *
  rcases loop with ⟨ρ', e, x4, x5, x6, x7, rfl⟩ | ⟨r, ⟨a, b, c, ha, hb, hc, rfl⟩, e⟩
  · exact .inl (by simp [ev, lrs, rpi, hat, s1, s2, ad, s3, ll, rg, e])
  · exact .inr ⟨a, b, c, ha, hb, hc, by simp [ev, lrs, rpi, hat, s1, s2, ad, s3, ll, rg, e]⟩
end
end MJ

namespace MJ
open PySem PySem.Spec PyProof.Rows L2
section
variable {T : Str → Option Fn} (ns : List Int)
theorem odd_ev (h : T "_law_cell" = some fn_law_cell) (g : T "_law_pick" = some fn_law_pick) (mo : T "_law_most" = some fn_law_most) (sp : T "_law_split_three" = some fn_law_split_three) (f : T "_law_odd" = some fn_law_odd) (hl : ns.length ≤ 4000) (n : Nat)
    {rs : List (List Bool)} {w : Nat} (hw : ∀ r ∈ rs, r.length = w) (h0 : rs ≠ []) (hr : rs.length ≤ 100) (h6 : w ≤ 1000) :
    ∃ js : List (List Bool), evFn T (n + 3) "_law_odd" [sc ns, .lst (rs.map rowD)] = .ok (judD js, false) ∧ js.length % 2 = 1 ∧ js.length ≤ 21 ∧ ∀ r ∈ js, r ∈ rs := by
  have P := fun {k m : Int} (h0 : 0 ≤ k) (h1 : k < 1000000) => pick_ev ns h g hl n (k := k) (m := m) h0 (bdk h0 h1)
  have rp : 0 < rs.length := List.length_pos_iff.mpr h0
  obtain ⟨r28, a0, a1, e28⟩ := P (k := 28) (m := 2) (by decide) (by decide) (by decide)
  obtain ⟨r27, b0, b1, e27⟩ := P (k := 27) (m := 4) (by decide) (by decide) (by decide)
  obtain ⟨r30, c0, c1, e30⟩ := P (k := 30) (m := 8) (by decide) (by decide) (by decide)
  have four : 4 ≤ sizeLine := by decide
  have eight : 8 ≤ sizeLine := by decide
  obtain ⟨k4, ek4, k40⟩ : ∃ k : Nat, ixD (.lst [.int 1, .int 1, .int 3, .int 5]) (.int r27) = .ok (.int k, .sh) ∧ (k = 1 ∨ k = 3 ∨ k = 5) := by
    have : r27 = 0 ∨ r27 = 1 ∨ r27 = 2 ∨ r27 = 3 := by omega
    rcases this with rfl | rfl | rfl | rfl
    · exact ⟨1, rfl, .inl rfl⟩
    · exact ⟨1, rfl, .inl rfl⟩
    · exact ⟨3, rfl, .inr (.inl rfl)⟩
    · exact ⟨5, rfl, .inr (.inr rfl)⟩
  obtain ⟨k8, ek8, k80⟩ : ∃ k : Nat, ixD (.lst [.int 1, .int 3, .int 3, .int 5, .int 7, .int 9, .int 3, .int 21]) (.int r30) = .ok (.int k, .sh) ∧ k % 2 = 1 ∧ k ≤ 21 := by
    have : r30 = 0 ∨ r30 = 1 ∨ r30 = 2 ∨ r30 = 3 ∨ r30 = 4 ∨ r30 = 5 ∨ r30 = 6 ∨ r30 = 7 := by omega
    rcases this with rfl | rfl | rfl | rfl | rfl | rfl | rfl | rfl
    · exact ⟨1, rfl, by decide⟩
    · exact ⟨3, rfl, by decide⟩
    · exact ⟨3, rfl, by decide⟩
    · exact ⟨5, rfl, by decide⟩
    · exact ⟨7, rfl, by decide⟩
    · exact ⟨9, rfl, by decide⟩
    · exact ⟨3, rfl, by decide⟩
    · exact ⟨21, rfl, by decide⟩
  have rg := rg1_of (show (0 : Int) ≤ (k8 : Int) by omega) (show (k8 : Int) < 4611686018427387904 by omega)
  rw [Int.toNat_natCast] at rg
  -- drawn ones
  obtain ⟨ρ, eρ, js, x3, rfl, jl, jr⟩ := forFold_nx (step := forStep (CG.name 3) fn_law_odd_b0 (evFn T (n + 2))) (ds := rangeD 0 k8) (ρ := [.sh (sc ns), .sh (.lst (rs.map rowD)), .ow (.lst []), .no])
    (fun i ρ => ∃ (js : List (List Bool)) (x3 : Sl), ρ = [.sh (sc ns), .sh (.lst (rs.map rowD)), .ow (.lst (js.map rowD)), x3] ∧ js.length = i ∧ ∀ r ∈ js, r ∈ rs)
    ⟨[], _, rfl, rfl, fun _ m => by cases m⟩ (by
      rintro i d ρ hd ⟨js, x3, rfl, jl, jr⟩
      obtain ⟨hi, rfl⟩ := rangeD_get hd
      obtain ⟨v, ev⟩ := cell_ev ns h hl (n + 1) (k := 31 + (i : Int)) (by omega) (bdk (by omega) (by omega))
      obtain ⟨d, ed, _, hm⟩ := atI_of (xs := rs.map rowD) (i := v % (rs.length : Int)) (Int.emod_nonneg _ (by omega)) (by simpa using Int.emod_lt_of_pos v (show (0 : Int) < (rs.length : Int) by omega))
      obtain ⟨row, hrow, rfl⟩ := List.mem_map.mp hm
      have ei := ixD_lst ed
      have lt : js.length < sizeLine := Nat.lt_of_lt_of_le (show _ < 1000000 by omega) (small_len (Nat.le_refl 1000000))
      have lt2 : (js.map rowD).length < sizeLine := by rw [List.length_map]; exact lt
      have lrs : lenD [.lst (rs.map rowD)] = .ok (.int rs.length, .sh) := by simp
      have rpi : (0 : Int) < (rs.length : Int) := by omega
      refine nx_gen fun Q hQ => ?_
      have gq := hQ [.sh (sc ns), .sh (.lst (rs.map rowD)), .ow (.lst ((js ++ [row]).map rowD)), .sh (.int (i : Int))] ⟨js ++ [row], _, rfl, by simp [jl], fun r m => by
        rcases List.mem_append.mp m with m | m
        · exact jr r m
        · simp only [List.mem_singleton] at m; subst m; exact hrow⟩
      clear hQ
      simp only [List.map_append, List.map_cons, List.map_nil] at gq
      generalize js.map rowD = jd at *
      generalize rs.map rowD = rsd at *
      generalize rowD row = rd at *
      generalize (rs.length : Int) = RL at *
      have ev : evFn T (n + 2) "_law_cell" [sc ns, .int (31 + (i : Int))] = .ok (.int v, false) := ev
      generalize evFn T (n + 2) = E at *
      simp [forStep, fn_law_odd_b0, ev, lrs, rpi, ei, MC.run_eq, lt2, gq])
  rw [rangeD_len] at jl
  have drawn : ∀ q2 : D, q2 = .lst [] → True := fun _ _ => trivial
  have ej : judD js = .tup (js.map rowD) := rfl
  have st := split_three_ev ns h mo sp hl n hw h0 hr h6
  by_cases c : r28 = 0
  · subst c
    rcases st with e | ⟨a, b, c, ha, hb, hc, e⟩
    · refine ⟨js, ?_, by omega, by omega, jr⟩
      rw [evFn_succ f rfl]
      simp only [fn_law_odd, startSl]
      have rp1 : repD (.tup []) (.int k4) = .ok (.tup [], .sh) := by
        have : (List.replicate (Int.toNat (k4 : Int)) ([] : List D)).flatten = [] := by simp
        simp only [repD, this]
        rw [if_pos ⟨by omega, by omega, by simp⟩]
      rw [ej]
      generalize js.map rowD = jd at *
      generalize rs.map rowD = rsd at *
      generalize rangeD 0 k8 = rd at *
      generalize (k4 : Int) = K4 at *
      generalize (k8 : Int) = K8 at *
      generalize evFn T (n + 2) = E at *
      simp [e28, e, four, e27, ek4, rp1, eight, e30, ek8, rg, eρ]
    · refine ⟨(List.replicate k4 [a, b, c]).flatten, ?_, ?_, ?_, fun r m => ?_⟩
      · rw [evFn_succ f rfl]
        simp only [fn_law_odd, startSl]
        have e1 : judD [a, b, c] = .tup [rowD a, rowD b, rowD c] := rfl
        have e2 : judD (List.replicate k4 [a, b, c]).flatten = .tup (List.replicate k4 [rowD a, rowD b, rowD c]).flatten := by
          unfold judD
          rw [List.map_flatten, List.map_replicate]; rfl
        rw [e1] at e
        rw [e2]
        have rp1 : repD (.tup [rowD a, rowD b, rowD c]) (.int k4) = .ok (.tup (List.replicate k4 [rowD a, rowD b, rowD c]).flatten, .sh) := by
          simp only [repD, Int.toNat_natCast]
          rw [if_pos ⟨by omega, by omega, by simp⟩]
        have ln : (List.replicate k4 [rowD a, rowD b, rowD c]).flatten.length = k4 * 3 := by simp
        have lne : ((((List.replicate k4 [rowD a, rowD b, rowD c]).flatten.length : Nat) : Int) == 0) = false := by
          rw [beq_eq_false_iff_ne, ln]; omega
        generalize (List.replicate k4 [rowD a, rowD b, rowD c]).flatten = fl at *
        generalize rowD a = ra at *
        generalize rowD b = rb at *
        generalize rowD c = rc at *
        generalize rs.map rowD = rsd at *
        generalize (k4 : Int) = K4 at *
        have lne' : ¬ fl = [] := fun z => by subst z; simp at lne
        generalize evFn T (n + 2) = E at *
        simp [e28, e, four, e27, ek4, rp1, lne', lne]
      · simp; omega
      · simp; omega
      · obtain ⟨l, hl', m⟩ := List.mem_flatten.mp m
        have := List.eq_of_mem_replicate hl'
        subst this
        simp only [List.mem_cons, List.not_mem_nil, or_false] at m
        rcases m with rfl | rfl | rfl
        · exact ha
        · exact hb
        · exact hc
  · have c' : (r28 == 0) = false := by simpa using c
    refine ⟨js, ?_, by omega, by omega, jr⟩
    rw [evFn_succ f rfl]
    simp only [fn_law_odd, startSl]
    rw [ej]
    generalize js.map rowD = jd at *
    generalize rs.map rowD = rsd at *
    generalize rangeD 0 k8 = rd at *
    generalize (k8 : Int) = K8 at *
    generalize evFn T (n + 2) = E at *
    simp [e28, c', eight, e30, ek8, rg, eρ]
theorem numbers_ev (f : T "_law_numbers" = some fn_law_numbers) (n : Nat) {ks : List Nat} (hk : ks.length ≤ 1000) : evFn T (n + 1) "_law_numbers" [intsD ks, intsD ks] = .ok (.bl true, false) := by
  rw [evFn_succ f rfl]
  simp only [fn_law_numbers, startSl]
  have e0 : intsD ks = .lst ((ks.map fun k : Nat => (k : Int)).map D.int) := by unfold intsD; rw [List.map_map]; rfl
  have eq : eqD (intsD ks) (intsD ks) = .ok true := by
    rw [e0]
    have := flI.eqL (a := ks.map fun k : Nat => (k : Int)) (b := ks.map fun k : Nat => (k : Int)) (fun _ _ => trivial) (fun _ _ => trivial)
    exact this.trans (congrArg Res.ok (decide_eq_true rfl))
  have it : isiD "list" (intsD ks) = .ok (.bl true, .sh) := isi_list_lst _
  have ii : items (intsD ks) = .ok (ks.map fun k : Nat => .int k) := rfl
  have body := lcFold_filter (f := lcBody (CG.name 2) (CIf.one (.bop (op := .Or) (.or (.not (.val (.isi (.var 2) "int" "int"))) (.or1 (.val (.isi (.var 2) "bool" "bool")))))) fn_law_numbers_e0 (evFn T n) [.sh (intsD ks), .sh (intsD ks), .no]) (fun k : Nat => D.int k) (fun _ => false) (fun k : Nat => D.int k) (as := ks) fun k _ => by
    generalize intsD ks = kd
    simp [lcBody, fn_law_numbers_e0, noEx]
  have ef : (ks.filter fun _ => false).map (fun k : Nat => D.int k) = [] := by
    have : ks.filter (fun _ => false) = [] := List.filter_eq_nil_iff.mpr fun _ _ => by decide
    rw [this]; rfl
  rw [ef] at body
  generalize (ks.map fun k : Nat => D.int k) = kl at *
  generalize intsD ks = kd at *
  simp [it, eq, ii, lcRes_eq, wipeSl, body]
end
end MJ

namespace MJ
open PySem PySem.Spec PyProof.Rows L2 PpSet
open PySem.W (EachIs dataLe dataLt AllAlike Sortable alike alikeAll)
/-! ### a dict whose keys are rows: found = {}; for x in ..: found[row] = True; return sorted(found) -/
def entT (L : List (List Bool × Addr)) : List (List Bool × Addr × Value) := L.map fun p => (p.1, p.2, Value.bool true)
def RawB (P : Program) (w : World) (a : Addr) (L : List (List Bool × Addr)) (h : Heap) : Prop :=
  (a == sysModules) = false ∧ ∃ o es ep, h.get? a = some o ∧ o.ExactDict ∧ o.data = .dict es ep ∧ es.toList = (entT L).map (entryOfKey (tupleKind (boolK P w))) ∧ (L.map (·.1)).Nodup
theorem RawB.keep {P : Program} {w : World} {a : Addr} {L : List (List Bool × Addr)} {h h' : Heap} (x : RawB P w a L h) (k : ∀ o, h.get? a = some o → h'.get? a = some o) : RawB P w a L h' := by
  obtain ⟨lo, o, es, ep, ho, r⟩ := x
  exact ⟨lo, o, es, ep, k o ho, r⟩
def rawO (X : Cx) (a : Addr) (L : List (List Bool × Addr)) : HO := .ext (RawB X.prog X.w a L)
def KeysB (X : Cx) (H : Hp) (L : List (List Bool × Addr)) : Prop := ∀ p ∈ L, p.1 ≠ [] ∧ SqT X.K H p.2 (p.1.map V.bl)
def DicB (X : Cx) (H : Hp) (a : Addr) (L : List (List Bool × Addr)) : Prop := (L = [] ∧ H a = some (.dK [])) ∨ H a = some (rawO X a L)
def addB (L : List (List Bool × Addr)) (r : List Bool) (b : Addr) : List (List Bool × Addr) := if r ∈ L.map (·.1) then L else L ++ [(r, b)]
theorem entT_at (L : List (List Bool × Addr)) (r : List Bool) : (atKey (entT L) r).isSome = decide (r ∈ L.map (·.1)) := by
  unfold atKey
  rw [Option.isSome_map]
  induction L with
  | nil => rfl
  | cons p L ih =>
    simp only [entT, List.map_cons, List.find?_cons] at ih ⊢
    by_cases c : p.1 = r
    · simp [c]
    · simp only [c, decide_false]
      rw [ih]
      simp [Ne.symm c]
theorem entT_put (L : List (List Bool × Addr)) (r : List Bool) : (entT L).map (putAt r (.bool true)) = entT L := by
  simp only [entT, List.map_map]
  refine List.map_congr_left fun p _ => ?_
  simp [putAt, Function.comp]
theorem entT_store (L : List (List Bool × Addr)) (r : List Bool) (b : Addr) : storedH (entT L) r b (.bool true) = entT (addB L r b) := by
  unfold storedH addB
  rw [entT_at]
  by_cases c : r ∈ L.map (·.1)
  · rw [if_pos (by simpa using c), if_pos c, entT_put]
  · rw [if_neg (by simpa using c), if_neg c]
    simp [entT]
theorem isB_at {X : Cx} {pins : List (Addr × Obj)} {σ : L2.St} {H : Hp} {s : Shared} (I : Inv X pins σ H s) {r : List Bool} {b : Addr} (q : SqT X.K H b (r.map V.bl)) : (tupleKind (boolK X.prog X.w)).is s.heap r b := by
  obtain ⟨its, rv, ⟨o, ho, hc, n, hd⟩, _⟩ := I.tuple q
  exact ⟨o, its.toArray, n, ho, hc, hd, by simpa using items_of_bls rv⟩
theorem set_rawB {X : Cx} (hu : X.A.units + 1 < cLine) : PSet X (fun o k v H Q => ∃ (a b : Addr) (L : List (List Bool × Addr)) (r : List Bool), o = .ref a ∧ k = .ref b ∧ v = .bl true ∧ DicB X H a L ∧ KeysB X H L ∧ SqT X.K H b (r.map V.bl) ∧ L.length < 1000 ∧
    Q (upd H a (rawO X a (addB L r b)))) := by
  intro pins s σ H o i v ov iv u Q I ro ri rv h
  obtain ⟨a, b, L, r, rfl, rfl, rfl, hd, hL, hb, hl, q⟩ := h
  cases (show ov = Value.ref a from ro)
  cases (show iv = Value.ref b from ri)
  cases (show u = Value.bool true from rv)
  have lo : (a == sysModules) = false := by
    rcases hd with ⟨_, e⟩ | e
    · exact (dk_of I.hok e).2.1
    · obtain ⟨x, _⟩ : ObjOk X.prog X.w H s.heap a (rawO X a L) := I.hok a _ e
      exact x.1
  have mu : Mut (H a) := by
    rcases hd with ⟨_, e⟩ | e
    · rw [e]; exact True.intro
    · rw [e]; exact True.intro
  have dd : s.heap.DictOfH (tupleKind (boolK X.prog X.w)) a (entT L) := by
    rcases hd with ⟨rfl, e⟩ | e
    · obtain ⟨z, _, vs, rel, dd⟩ := dk_of I.hok e
      cases rel
      obtain ⟨o, es, ep, ho, hc, hd, _, hp, _⟩ := dd
      refine ⟨o, es, ep, ho, hc, hd, ?_, fun x hx => by simp [entT] at hx, by simp [entT]⟩
      have := hp.length
      simp at this
      simp [entT, this]
    · obtain ⟨⟨_, o, es, ep, ho, hc, hd, he, hn⟩, _⟩ : ObjOk X.prog X.w H s.heap a (rawO X a L) := I.hok a _ e
      refine ⟨o, es, ep, ho, hc, hd, he, fun x hx => ?_, by simpa [entT, Function.comp_def] using hn⟩
      obtain ⟨p, hp, rfl⟩ := List.mem_map.mp hx
      exact isB_at I (hL p hp).2
  have hz : (entT L).length ≤ sizeLine := by rw [entT, List.length_map, sizeLine_eq]; omega
  refine wpAny_setItem_heap (hsz := hz) (tupleKind_room_in1 hu) (isB_at I hb) dd fun h' dd' hs => ?_
  rw [entT_store] at dd'
  obtain ⟨ob, es, ep, hq, h2, h3, h4, _, h5⟩ := dd'
  refine ⟨_, d_write I mu hs ⟨ob, hq⟩ ?_, q⟩
  exact ⟨⟨lo, ob, es, ep, hq, h2, h3, h4, by simpa [entT, Function.comp_def] using h5⟩, ⟨ob, hq⟩, fun h1 h2 x k => x.keep k⟩
section
variable {P : Program} {w : World} {A : Around} {E : Value → Shared → Prop} {s : Shared}
/-- sorted(v), by what collecting v gives -/
theorem call_sorted_by2 {v : Value} {β : Type} {enc : β → PyData} {R : Value → β → Prop} {Pm : List β → Prop} {Q : Value → Shared → Prop}
    (hcol : ∀ {C : List Value → Shared → Prop} {E' : Value → Shared → Prop}, (∀ (s1 : Shared) (vs : List Value) (bs : List β), (∀ b o, s.heap.get? b = some o → s1.heap.get? b = some o) → s1.gens = s.gens → s1.os = s.os → EachIs R vs bs →
      EachIs (fun v b => ∃ as, Reads s1.heap v (enc b) as) vs bs → Pm bs → C vs s1) → wpAny (model P w) A.in1 (collect v) C E' s)
    (hal : ∀ bs, Pm bs → AllAlike (bs.map enc)) (hk : ∀ bs, Pm bs → Sortable (bs.map enc)) (hL : ∀ bs, Pm bs → bs.length ≤ sizeLine) (hu : ∀ bs, Pm bs → ∀ b ∈ bs, A.units + 3 + (enc b).depth < cLine)
    (h : ∀ (s0 s1 : Shared) (p : Addr) (out : List Value) (c : Nat) (bs : List β), (∀ b o, s.heap.get? b = some o → s0.heap.get? b = some o) → s0.gens = s.gens → s0.os = s.os → (∀ b o, s0.heap.get? b = some o → s1.heap.get? b = some o) → s1.gens = s.gens → s1.os = s.os → s0.heap.objs.size ≤ p → s1.heap.get? p = some (seqObj "list" out.toArray c) → Pm bs →
      EachIs R out (bs.mergeSort (dataLe false enc)) → Q (.ref p) s1) :
    wpAny (model P w) A (call (.builtin "sorted") [v]) Q E s := by
  refine Calls.call_function_entry kind_sorted plain_sorted entry_sorted (args_sorted1 _) ?_
  unfold Builtin.«sorted»
  refine wpAny_bind (m := checkCount "sorted" 1 1 _) (wpAny_pure ?_)
  refine wpAny_bind (hcol fun s1 vs bs k1 g1 o1 e er pm => ?_)
  have hl : vs.length ≤ sizeLine := by rw [e.length]; exact hL bs pm
  refine wpAny_bind (wpAny_newList ?_ hl)
  have at1 : (s1.heap.push (seqObj "list" vs.toArray 0)).get? s1.heap.objs.size = some (seqObj "list" vs.toArray 0) := Heap.get?_push_size _ rfl
  have up : ∀ b o, s1.heap.get? b = some o → (s1.heap.push (seqObj "list" vs.toArray 0)).get? b = some o := fun b o q => Heap.get?_push_of_some _ q
  have er2 : EachIs (fun v b => ∃ as, Reads (s1.heap.push (seqObj "list" vs.toArray 0)) v (enc b) as ∧ s1.heap.objs.size ∉ as) vs bs := er.mono fun v b ⟨as, r⟩ => ⟨as, PyProof.Rows.Reads.keeps up r, fun z => Nat.lt_irrefl _ (reads_lt _ _ _ r _ z)⟩
  refine wpAny_bind (wpAny_holding (PySem.W.list_sort_data (s := { s1 with heap := s1.heap.push (seqObj "list" vs.toArray 0) }) at1 e er2 (hal bs pm) (hk bs pm) (hL bs pm) (fun b hb => ?_) fun out ho eo => ?_))
  · have := hu bs pm b hb
    simp only [Around.in1_units]
    omega
  · obtain ⟨c, hc⟩ := sortedHeap_at (vs := vs) (out := out.toArray) at1
    refine wpAny_pure ⟨_, rfl, h s1 { s1 with heap := sortedHeap (s1.heap.push (seqObj "list" vs.toArray 0)) s1.heap.objs.size vs out.toArray } s1.heap.objs.size out c bs k1 g1 o1 (fun b o q => ?_) g1 o1 (Nat.le_refl _) hc pm eo⟩
    have lt := Heap.lt_size q
    show (sortedHeap (s1.heap.push (seqObj "list" vs.toArray 0)) s1.heap.objs.size vs out.toArray).get? b = some o
    rw [sortedHeap_old (Nat.ne_of_lt lt) (by rw [size_push']; exact Nat.lt_succ_of_lt lt)]
    exact up b o q
end
theorem each_of_get {α β : Type} {R : α → β → Prop} : ∀ {as : List α} {bs : List β}, as.length = bs.length → (∀ (j : Nat) (a : α) (b : β), as[j]? = some a → bs[j]? = some b → R a b) → EachIs R as bs
  | [], [], _, _ => .nil
  | a :: as, b :: bs, h, g => .cons (g 0 a b rfl rfl) (each_of_get (by simpa using h) fun j x y e f => g (j + 1) x y (by simpa using e) (by simpa using f))
  | [], _ :: _, h, _ => by simp at h
  | _ :: _, [], h, _ => by simp at h
theorem call_sortedRaw {X : Cx} (hc : X.calm = true) (hu : X.A.units + 100 < cLine) : CallR X (.builtin "sorted") (fun xs H Q => ∃ (a : Addr) (L : List (List Bool × Addr)), xs = [V.ref a] ∧ H a = some (rawO X a L) ∧ KeysB X H L ∧ L.length < 64 ∧
    ∀ (p : Addr) (zs : List (List Bool × V)), H p = none → (∀ z ∈ zs, ∃ b, (z.1, b) ∈ L ∧ z.2 = .ref b) → zs.map (·.1) = sortU ordR.toOrd (L.map (·.1)) → Q (.ref p) (upd H p (.lst (zs.map (·.2))))) := by
  intro pins s σ H xs us Q I r h
  obtain ⟨a, L, rfl, ha, hL, hl, post⟩ := h
  rw [Vals.ref1 r]
  obtain ⟨⟨lo, o, es, ep, ho, hcl, hd, he, hn⟩, _⟩ : ObjOk X.prog X.w H s.heap a (rawO X a L) := I.hok a _ ha
  have hraw : s.heap.DictRaw a es ep := ⟨o, ho, hcl, hd⟩
  have hes : es.size = L.length := by
    have := congrArg List.length he
    simpa [entT] using this
  let M0 : List (List Bool × Value) := L.map fun p => (p.1, Value.ref p.2)
  refine call_sorted_by2 (β := List Bool × Value) (enc := fun q => encR q.1) (R := fun u q => u = q.2) (Pm := fun M => M = M0) (fun {C E'} k => ?_) (fun M pm => ?_) (fun M pm => ?_) (fun M pm => ?_) (fun M pm b hb => ?_) fun s0 s2 p2 out c M k0 g0 o0 k2 g2 o2 hp at2 pm eo => ?_
  · refine PySem.W.kdu_collect (PySem.KdlSrc.rawDict (es := es) (ep := ep) lo) (I.ok.hd hc) hraw (by rw [hes, sizeLine_eq]; omega) fun h' tk acc hk hacc => ?_
    have I1 : Inv X pins σ H { s with heap := h', toks := tk } := I.kept hk
    have al : acc.toList.length = M0.length := by
      show acc.toList.length = (L.map _).length
      rw [Array.length_toList, hacc.1, hes, List.length_map]
    have hat : ∀ j v q, acc.toList[j]? = some v → M0[j]? = some q → v = q.2 ∧ ∃ p ∈ L, q = (p.1, Value.ref p.2) := fun j v q e1 e2 => by
      obtain ⟨hi, ev⟩ := hacc.2 j v (by rw [← Array.getElem?_toList]; exact e1)
      have hj : j < L.length := by rw [← hes]; exact hi
      have e3 : es.toList[j]? = some es[j] := by simp [hi]
      rw [he, entT, List.map_map, List.getElem?_map, List.getElem?_eq_getElem hj, Option.map_some] at e3
      rw [show M0 = L.map fun p => (p.1, Value.ref p.2) from rfl, List.getElem?_map, List.getElem?_eq_getElem hj, Option.map_some] at e2
      cases e2
      refine ⟨?_, L[j], List.getElem_mem hj, rfl⟩
      rw [ev, ← Option.some.inj e3]
      rfl
    refine k { s with heap := h', toks := tk } acc.toList M0 hk rfl rfl (each_of_get al fun j v q e1 e2 => (hat j v q e1 e2).1) (each_of_get al fun j v q e1 e2 => ?_) rfl
    obtain ⟨ev, p, hpL, eq⟩ := hat j v q e1 e2
    subst eq
    obtain ⟨o, its, n, ho, hc, hd, hi⟩ := isB_at I1 (hL p hpL).2
    obtain ⟨as, r⟩ := reads_bls (h := h') hi
    exact ⟨as, by rw [ev]; exact .tuple ho hc hd r⟩
  · have := (keyedR X).al (M.map (·.1))
    rwa [List.map_map] at this
  · subst pm
    have := (keyedR X).so (M0.map (·.1)) fun k hk => by
      obtain ⟨q, hq, rfl⟩ := List.mem_map.mp hk
      obtain ⟨p, hp, rfl⟩ := List.mem_map.mp hq
      exact (hL p hp).1
    rwa [List.map_map] at this
  · subst pm
    show (L.map _).length ≤ _
    rw [List.length_map, sizeLine_eq]; omega
  · have := (keyedR X).dp b.1
    show _ + 3 + ((keyedR X).enc b.1).depth < cLine
    omega
  · subst pm
    have I2 : Inv X pins σ H s0 := Inv.call' (ch := []) I o0 (Un.kept k0) (I.hok.kept k0) (by rw [g0]; exact I.bare) (fun _ z => nomatch z)
    have eo' := self_each eo
    have kmap : (M0.mergeSort (dataLe false fun q : List Bool × Value => encR q.1)).map (·.1) = (M0.map (·.1)).mergeSort (dataLe false encR) := PySem.W.sort_maps (fun q : List Bool × Value => q.1) fun a _ b _ => rfl
    have pm2 := List.mergeSort_perm M0 (dataLe false fun q : List Bool × Value => encR q.1)
    let bs : List (List Bool × V) := L.map fun p => (p.1, V.ref p.2)
    obtain ⟨zs, z1, z2, z3⟩ := zip_vals (bs := bs) (M := M0.mergeSort (dataLe false fun q : List Bool × Value => encR q.1)) fun q hq => by
      obtain ⟨p, hp, rfl⟩ := List.mem_map.mp (pm2.mem_iff.mp hq)
      exact ⟨V.ref p.2, List.mem_map.mpr ⟨p, hp, rfl⟩, rfl⟩
    rw [← eo'] at z3
    have m1 : M0.map (·.1) = L.map (·.1) := by
      show (L.map _).map _ = _
      rw [List.map_map]; rfl
    have hs : zs.map (·.1) = sortU ordR.toOrd (L.map (·.1)) := by
      refine rising_eq ordR ?_ (sortU_pw ordR _) fun z => ?_
      · rw [z1, kmap, m1]
        exact keyed_sorted (keyedR X) hn
      · rw [z1, (pm2.map (·.1)).mem_iff, m1]
        exact (sortU_mem ordR.toOrd).symm
    have hn2 : H p2 = none := I2.hok.fresh hp
    have zl : (zs.map (·.2)).length ≤ sizeLine := by
      have q1 : zs.length = (M0.mergeSort (dataLe false fun q : List Bool × Value => encR q.1)).length := by
        have := congrArg List.length z1
        simpa using this
      rw [List.length_map, q1, List.length_mergeSort]
      show (L.map _).length ≤ _
      rw [List.length_map, sizeLine_eq]; omega
    have J : Inv X pins σ (upd H p2 (.lst (zs.map (·.2)))) s2 :=
      Inv.call' (ch := []) I2 (o2.trans o0.symm) (Un.laid k2 hp hn2) (I2.hok.laid k2 hp ⟨zl, out, c, z3, at2⟩) (by rw [g2, ← g0]; exact I2.bare) (fun _ z => nomatch z)
    exact ⟨.ref p2, _, J, rfl, post p2 zs hn2 (fun z hz => by
      obtain ⟨p, hp, e⟩ := List.mem_map.mp (z2 z hz)
      exact ⟨p.2, by rw [← e]; exact hp, by rw [← e]⟩) hs⟩
end MJ

namespace MJ
open PySem PySem.Spec PyProof.Rows L2 PpSet
def rowB : D → Option (List Bool)
  | .tup bs => match boolsOf bs with
    | some (b :: r) => some (b :: r)
    | _ => none
  | _ => none
theorem rowB_rowD {r : List Bool} (h : r ≠ []) : rowB (rowD r) = some r := by
  have : ∀ r : List Bool, boolsOf (r.map D.bl) = some r := fun r => by
    induction r with
    | nil => rfl
    | cons b r ih => simp [boolsOf, ih]
  cases r with
  | nil => exact absurd rfl h
  | cons b r => simp only [rowB, rowD, this]
def rowsFold (t : Nat) (k : CE) (call : Calls) : List D → List Sl → Option (List (List Bool))
  | [], _ => some []
  | d :: ds, ρ => match k.arg false call (ρ.set t (.sh d)) with
    | .ok e => match rowB e, rowsFold t k call ds (ρ.set t (.sh d)) with
      | some r, some rs => some (r :: rs)
      | _, _ => none
    | _ => none
theorem rowsFold_len {t : Nat} {k : CE} {call : Calls} : ∀ {ds : List D} {ρ : List Sl} {rs : List (List Bool)}, rowsFold t k call ds ρ = some rs → rs.length = ds.length
  | [], ρ, rs, h => by simp only [rowsFold, Option.some.injEq] at h; subst h; rfl
  | d :: ds, ρ, rs, h => by
    simp only [rowsFold] at h
    split at h
    · split at h
      · rename_i e1 e2
        cases h
        simp [rowsFold_len e2]
      · cases h
    · cases h
/-- the rows that a function of what is walked gives -/
theorem rowsFold_map {t : Nat} {k : CE} {call : Calls} (f : D → List Bool) : ∀ {ds : List D} {ρ : List Sl}, (∀ d ∈ ds, k.arg false call (ρ.set t (.sh d)) = .ok (rowD (f d))) → (∀ d ∈ ds, f d ≠ []) → rowsFold t k call ds ρ = some (ds.map f)
  | [], ρ, _, _ => rfl
  | d :: ds, ρ, h, n => by
    have ih := rowsFold_map (t := t) (k := k) (call := call) f (ds := ds) (ρ := ρ.set t (.sh d)) (fun e he => by rw [List.set_set]; exact h e (List.mem_cons_of_mem _ he)) fun e he => n e (List.mem_cons_of_mem _ he)
    simp only [rowsFold, ih, List.map_cons]
    rw [h d List.mem_cons_self]
    simp only [rowB_rowD (n d List.mem_cons_self)]
theorem Ok.wr {K : PySem.W.Frag} {mg : Str → Option Value} {Hs0 H0 Hs H : Hp} {ρ : List Sl} {σ : L2.St} (h : Ok K mg Hs0 H0 Hs H ρ σ) {a : Addr} {o : HO} (n0 : H0 a = none) (n1 : Hs a = none) (nw : ∀ sl ∈ ρ, isOw sl = false) : Ok K mg Hs0 H0 Hs (upd H a o) ρ σ :=
  ⟨h.ext.write n0 n1, h.len, fun j sl x h1 h2 => by
    have q := h.at_ j sl x h1 h2
    cases sl with
    | no => trivial
    | sh d => exact q
    | ow d => (have z := nw _ (List.mem_of_getElem? h1); exact absurd z (by simp [isOw])), h.apart⟩
def distinctEv (i t : Nat) (it : CI) (k : CE) (call : Calls) (ρ : List Sl) : Option Fl :=
  if (ρ.all fun sl => !isOw sl) = true ∧ i < ρ.length then
    match it.ev call (ρ.set i .no) with
    | .ok ds => match rowsFold t k call ds (ρ.set i .no) with
      | some rs => if rs ≠ [] ∧ rs.length < 64 then some (.rt (.lst ((sortU ordR.toOrd rs).map rowD)) true) else none
      | none => none
    | _ => none
  else none
def CS.distinct (i t : Nat) (it : CI) (k : CE) : CS where
  ev := fun call ρ => distinctEv i t it k call ρ
  chk := fun cf x => match x with
    | [.Assign [.Name y yp] (.Dict [] [] dp) _, .For (.Name z zp) iter [.Assign [.Subscript (.Name y2 _) kk _] vv _] [] _, .Return (some (.Call (.Name f _) [.Name y3 _] [] _)) _] =>
      chkLoc cf i y && chkLoc cf t z && decide (i ≠ t) && it.chk cf (.Name z zp) iter && chkVar cf i y2 && k.chk cf kk && noSlice kk && chkC (.bool true) vv && decide (f = ("sorted" : Str)) && glob cf ("sorted" : Str) && chkVar cf i y3
    | _ => false
  ok := fun {X W cf call} g hp x h => by
    split at h
    · simp only [Bool.and_eq_true, decide_eq_true_eq] at h
      obtain ⟨⟨⟨⟨⟨⟨⟨⟨⟨⟨hy, hz⟩, hit⟩, h1⟩, h2⟩, h3⟩, h4⟩, h5⟩, rfl⟩, h6⟩, h7⟩ := h
      rename_i y yp dp p1 z zp iter y2 p2 kk p3 vv p4 p5 p6 y3 p7 p8 p9
      obtain ⟨l1, l2, l3⟩ := g.loc hy
      obtain ⟨m1, m2, m3⟩ := g.loc hz
      obtain ⟨ns, wi, pi, qi⟩ := it.ok g _ _ h1
      obtain ⟨tk, pk, qk⟩ := (k.ok g _ h3).arg false
      simp only [chkVar, Bool.and_eq_true, decide_eq_true_eq, Bool.not_eq_true'] at h2 h7
      obtain ⟨⟨⟨v1, v2⟩, v3⟩, v4⟩ := h2
      obtain ⟨⟨⟨w1, w2⟩, w3⟩, w4⟩ := h7
      have pv2 := pe_var (X := X) (i := i) (x := y2) (pos := p2) (by rw [g.hN]; exact v1) (by rw [g.sc]; exact Vis_of v2) v3 v4
      have pv3 := pe_var (X := X) (i := i) (x := y3) (pos := p7) (by rw [g.hN]; exact w1) (by rw [g.sc]; exact Vis_of w2) w3 w4
      cases vv with
      | Constant c j pc =>
        simp only [chkC, decide_eq_true_eq] at h5
        subst h5
        have pbody := ps_asg (X := X) (pos := p4) (pe_bl (X := X) (b := true) (j := j) (pos := pc)) (pg_sub (pos := p3) pv2 pk (set_rawB (by have := g.units; omega)) (by intro v; cases kk <;> first | rfl | (simp [noSlice] at h4))) rfl rfl rfl
        refine ⟨_, pss_cons (ps_set g.nodup l1 l2 (pe_dnewK (pos := dp)) (noComp_sw rfl _ _ _) l3) (pss_cons (ps_for hp g.calm pi (pg_name g.nodup m1 m2 m3) (pss_cons pbody pss_nil) (noSet_folded ns X.env))
          (pss_cons (ps_ret (pe_callB (call_sortedRaw g.calm g.units) (g.gl h6) (g.blt _ (by decide +kernel)) PyProof.Rows.boot_sorted (pa_cons pv3 pa_nil (starEach_cons rfl)) (by decide +kernel) (by decide +kernel) (starEach_cons rfl) (no_star rfl))) pss_nil)), fun Hs0 H0 Hs H ρ σ D ok h => ?_⟩
        replace h : PostS X W Hs0 H0 D (distinctEv i t it k call ρ) := h
        unfold distinctEv at h
        by_cases hc : (ρ.all fun sl => !isOw sl) = true ∧ i < ρ.length
        case neg => rw [if_neg hc] at h; exact h.elim
        rw [if_pos hc] at h
        obtain ⟨hall, hil⟩ := hc
        have nw : ∀ sl ∈ ρ, isOw sl = false := fun sl hs => by simpa using List.all_eq_true.mp hall sl hs
        intro a ha
        have ok1 : OK X Hs0 H0 Hs (upd H a (.dK [])) (ρ.set i .no) (σ.set i (some (V.ref a))) := (ok.grow ((Ext.rfl ok.same).own ha _)).set i trivial (fun z => by cases z)
        have n0 : H0 a = none := ok.ext.h.free ha
        have n1 : Hs a = none := ok.same.free ha
        have nw1 : ∀ sl ∈ ρ.set i Sl.no, isOw sl = false := fun sl hs => by
          rcases List.mem_or_eq_of_mem_set hs with hs | rfl
          · exact nw sl hs
          · rfl
        have es1 : (σ.set i (some (V.ref a)))[i]? = some (some (V.ref a)) := List.getElem?_set_self (by rw [← ok.len]; exact hil)
        refine qi Hs0 H0 Hs (upd H a (.dK [])) (ρ.set i .no) (σ.set i (some (V.ref a))) _ ok1 ?_
        cases eit : it.ev call (ρ.set i .no) with
        | bad => rw [eit] at h; exact h.elim
        | ex c es => rw [eit] at h; exact h.elim
        | ok ds =>
          rw [eit] at h
          dsimp only at h
          cases er : rowsFold t k call ds (ρ.set i .no) with
          | none => rw [er] at h; exact h.elim
          | some full =>
            rw [er] at h
            dsimp only at h
            by_cases hf : full ≠ [] ∧ full.length < 64
            case neg => rw [if_neg hf] at h; exact h.elim
            rw [if_pos hf] at h
            obtain ⟨hne, hlt⟩ := hf
            have hfl := rowsFold_len er
            intro J Hs1 H1 e1 Y
            refine ⟨fun j m σ' H' => m = ds.length - j ∧ j ≤ ds.length ∧ ∃ (Hs' : Hp) (ρ' : List Sl) (L : List (List Bool × Addr)) (acc rs : List (List Bool)), OK X Hs0 H0 Hs' H' ρ' σ' ∧ Same Hs1 Hs' ∧ (∀ sl ∈ ρ', isOw sl = false) ∧ σ'[i]? = some (some (V.ref a)) ∧ Hs' a = none ∧ DicB X H' a L ∧ KeysB X Hs' L ∧ L.length ≤ j ∧
              (∀ r : List Bool, r ∈ L.map (fun p : List Bool × Addr => p.1) ↔ r ∈ acc) ∧ rowsFold t k call (ds.drop j) ρ' = some rs ∧ full = acc ++ rs, ⟨ds.length, by simp, Nat.zero_le _, Hs1, ρ.set i .no, [], [], full, ok1.grow e1, .refl _, nw1, es1, e1.o a n1 (by rw [upd_same]; simp), .inl ⟨rfl, e1.h _ _ upd_same⟩, (fun p hp => by cases hp), Nat.le_refl _, (fun r => by simp), (by simpa using er), rfl⟩, ?_⟩
            rintro j m σ2 H2 ⟨rfl, hj, Hs2, ρ2, L, acc, rs, ok2, s2, nw2, es2, na2, d2, k2, ll, mem, er2, ef⟩
            obtain ⟨ystop, ygo⟩ := Y Hs2 H2 s2 ok2.same
            by_cases hlt2 : j < ds.length
            · obtain ⟨go, yl⟩ := ygo j ds[j] (List.getElem?_eq_getElem hlt2)
              refine .inr ⟨go, fun σ' H' => ∃ (Hs' : Hp) (ρ' : List Sl) (L : List (List Bool × Addr)) (acc rs : List (List Bool)), OK X Hs0 H0 Hs' H' ρ' σ' ∧ Same Hs1 Hs' ∧ (∀ sl ∈ ρ', isOw sl = false) ∧ σ'[i]? = some (some (V.ref a)) ∧ Hs' a = none ∧ DicB X H' a L ∧ KeysB X Hs' L ∧ L.length ≤ j + 1 ∧
                (∀ r : List Bool, r ∈ L.map (fun p : List Bool × Addr => p.1) ↔ r ∈ acc) ∧ rowsFold t k call (ds.drop (j + 1)) ρ' = some rs ∧ full = acc ++ rs, fun σ' H' q => ⟨ds.length - (j + 1), by omega, rfl, hlt2, q⟩, fun x H3 y => ?_⟩
              obtain ⟨Hs3, e3, r3⟩ := yl x H3 y
              rw [List.drop_eq_getElem_cons hlt2] at er2
              unfold rowsFold at er2
              have ok3 := (ok2.grow e3).setSh t r3
              have aH2 : H2 a ≠ none := by rcases d2 with ⟨_, q⟩ | q <;> rw [q] <;> simp
              have na3 : Hs3 a = none := e3.o a na2 aH2
              have es3 : (σ2.set t (some x))[i]? = some (some (V.ref a)) := by rw [List.getElem?_set_ne (Ne.symm hit)]; exact es2
              have nw3 : ∀ sl ∈ ρ2.set t (Sl.sh ds[j]), isOw sl = false := fun sl hs => by
                rcases List.mem_or_eq_of_mem_set hs with hs | rfl
                · exact nw2 sl hs
                · rfl
              refine ⟨V.ref a, es3, ?_⟩
              refine qk Hs0 H0 Hs3 H3 _ _ _ ok3 ?_
              change PostD X W false Hs3 H3 _ _ (k.arg false call (ρ2.set t (Sl.sh ds[j])))
              cases ek : k.arg false call (ρ2.set t (Sl.sh ds[j])) with
              | bad => rw [ek] at er2; cases er2
              | ex c es => rw [ek] at er2; cases er2
              | ok e =>
                rw [ek] at er2
                dsimp only at er2
                split at er2
                · rename_i r rs' eb er3
                  cases er2
                  intro v Hs5 H5 e5 pv
                  have pv2 := pv.sh
                  unfold rowB at eb
                  split at eb
                  · rename_i bs
                    split at eb
                    · rename_i b0 r0 ebs
                      cases eb
                      simp only [Rp] at pv2
                      obtain ⟨b, xs, rfl, q, rx⟩ := pv2
                      rw [Rps.bools ebs rx] at q
                      have d5 : DicB X H5 a L := d2.imp (fun z => ⟨z.1, e5.h _ _ (e3.h _ _ z.2)⟩) fun z => e5.h _ _ (e3.h _ _ z)
                      have k5 : KeysB X Hs5 L := fun p hp => ⟨(k2 p hp).1, e5.s.seqT (e3.s.seqT (k2 p hp).2)⟩
                      have aH3 : H3 a ≠ none := by rcases d2 with ⟨_, q⟩ | q <;> rw [e3.h _ _ q] <;> simp
                      have na5 : Hs5 a = none := e5.o a na3 aH3
                      refine ⟨a, b, L, b0 :: r0, rfl, rfl, rfl, d5, fun p hp => ⟨(k5 p hp).1, e5.i.seqT (k5 p hp).2⟩, e5.i.seqT q, by omega, ?_⟩
                      refine ⟨Hs5, _, addB L (b0 :: r0) b, acc ++ [b0 :: r0], rs', (ok3.grow e5).wr n0 na5 nw3, s2.trans (e3.s.trans e5.s), nw3, es3, na5, .inr upd_same, ?_, ?_, ?_, er3, by rw [ef]; simp⟩
                      · intro p hp
                        unfold addB at hp
                        split at hp
                        · exact k5 p hp
                        · rcases List.mem_append.mp hp with hp | hp
                          · exact k5 p hp
                          · rw [List.mem_singleton.mp hp]
                            exact ⟨by simp, q⟩
                      · unfold addB
                        split
                        · omega
                        · simp; omega
                      · intro r
                        unfold addB
                        split
                        · rename_i hin
                          rw [mem r, List.mem_append, List.mem_singleton]
                          constructor
                          · exact .inl
                          · rintro (z | rfl)
                            · exact z
                            · exact (mem _).mp hin
                        · rw [List.map_append, List.mem_append, mem r, List.mem_append]
                          simp
                    · cases eb
                  · cases eb
                · cases er2
            · refine .inl ⟨ystop j (by omega), ?_⟩
              rw [List.drop_eq_nil_of_le (by omega)] at er2
              simp only [rowsFold, Option.some.injEq] at er2
              subst er2
              rw [List.append_nil] at ef
              subst ef
              have hLne : L ≠ [] := fun z => by
                subst z
                cases hfull : full with
                | nil => exact hne hfull
                | cons r rs => exact absurd ((mem r).mpr (by rw [hfull]; exact List.mem_cons_self)) (by simp)
              have hraw : H2 a = some (rawO X a L) := d2.resolve_left fun z => hLne z.1
              refine ⟨V.ref a, es2, a, L, rfl, hraw, fun p hp => ⟨(k2 p hp).1, ok2.same.seqT (k2 p hp).2⟩, by omega, fun p zs hp hzs hs => ?_⟩
              have hs2 : zs.map (·.1) = sortU ordR.toOrd full := hs.trans (rising_eq ordR (sortU_pw ordR _) (sortU_pw ordR _) fun z => by rw [sortU_mem, sortU_mem]; exact mem z)
              refine h (.ref p) Hs2 _ (ok2.ext.own hp _) ⟨p, _, rfl, ok2.ext.h.free hp, ok2.same.free hp, upd_same, _, rfl, ?_⟩
              rw [← hs2]
              exact rps_rows fun z hz => by
                obtain ⟨b, hb, eb⟩ := hzs z hz
                exact ⟨b, eb, (k2 _ hb).2⟩
      | _ => simp [chkC] at h5
    · cases h
end MJ

namespace MJ
open PySem PySem.Spec PyProof.Rows L2
/-! ### min of a list of ints -/
def leastI : List Int → Int
  | [] => 0
  | [x] => x
  | x :: y :: l => if x ≤ leastI (y :: l) then x else leastI (y :: l)
theorem leastI_mem : ∀ {l : List Int}, l ≠ [] → leastI l ∈ l
  | [], h => absurd rfl h
  | [x], _ => List.mem_singleton.mpr rfl
  | x :: y :: l, _ => by
    unfold leastI
    split
    · exact List.mem_cons_self
    · exact List.mem_cons_of_mem _ (leastI_mem (by simp))
theorem leastI_le : ∀ {l : List Int} {z : Int}, z ∈ l → leastI l ≤ z
  | [], _, h => by cases h
  | [x], z, h => by rw [List.mem_singleton.mp h]; exact Int.le_refl _
  | x :: y :: l, z, h => by
    have ih := fun {z : Int} (h : z ∈ y :: l) => leastI_le h
    unfold leastI
    rcases List.mem_cons.mp h with rfl | h
    · split <;> omega
    · have := ih h
      split <;> omega
theorem int_items : ∀ {ns : List Int} {its : List Value}, Vals (ns.map V.int) its → ∃ xs : List (Int × Tok), its = xs.map (fun p => Value.int p.1 p.2) ∧ xs.map (·.1) = ns
  | [], its, h => by cases h; exact ⟨[], rfl, rfl⟩
  | n :: ns, its, h => by
    rw [List.map_cons] at h
    cases h with
    | cons r t =>
      obtain ⟨xs, e1, e2⟩ := int_items t
      obtain ⟨tk, rfl⟩ := r
      exact ⟨(n, tk) :: xs, by rw [e1]; rfl, by rw [List.map_cons, e2]⟩
theorem cr_minI {X : Cx} (hc : X.calm = true) : CallR X (.builtin "min") (fun vs H Q => ∃ (a : Addr) (ns : List Int), vs = [V.ref a] ∧ SqL X.K H a (ns.map V.int) ∧ ns ≠ [] ∧ Q (.int (leastI ns)) H) := by
  intro pins s σ H vs us Q I r h
  obtain ⟨a, ns, rfl, hs, hne, q⟩ := h
  obtain ⟨its, rv, hl, _⟩ := I.list hs
  rw [Vals.ref1 r]
  obtain ⟨xs, rfl, rfl⟩ := int_items rv
  have hpos : 0 < xs.toArray.size := by
    cases xs with
    | nil => exact absurd rfl hne
    | cons => simp
  have hl' : s.heap.IsList a (intItems xs.toArray) := by
    have e : intItems xs.toArray = (xs.map fun p => Value.int p.1 p.2).toArray := by simp [intItems]
    rw [e]; exact hl.isList
  refine min_intList (I.ok.hd hc) hl' hpos fun v h' tk hv hk => ?_
  obtain ⟨t, rfl⟩ := intItems_at hv
  obtain ⟨h1, h2⟩ := argBest_lt (numAt xs.toArray) (xs.toArray.size - 1)
  refine ⟨.int (leastI (xs.map (·.1))), H, I.kept hk, ⟨t, ?_⟩, q⟩
  congr 1
  have sz : xs.toArray.size = (xs.map (·.1)).length := by simp
  apply Int.le_antisymm
  · obtain ⟨j, hj, e⟩ := mem_getD (leastI_mem hne)
    rw [← e]
    have := h2 j (by omega)
    rwa [numAt_eq xs.toArray j] at this
  · refine leastI_le ?_
    rw [numAt_eq]
    exact getD_mem (by rw [← sz]; omega)
def minID : List D → Res (D × Fr)
  | [.lst ds] => match intsOf ds with
    | some ns => if ns ≠ [] then .ok (.int (leastI ns), .sh) else .bad
    | none => .bad
  | _ => .bad
theorem intsOf_map : ∀ ns : List Int, intsOf (ns.map .int) = some ns
  | [] => rfl
  | n :: ns => by simp [intsOf, intsOf_map ns]
theorem minID_ints {ns : List Int} (h : ns ≠ []) : minID [.lst (ns.map .int)] = .ok (.int (leastI ns), .sh) := by
  simp only [minID, intsOf_map, if_pos h]
def BC.minI : BC where
  name := "min"
  f := .builtin "min"
  g := minID
  boot := PyProof.Rows.boot_min
  kind := .inl ⟨_, rfl⟩
  ok := fun X hc hu => ⟨_, cr_minI hc, fun W Hs H σ ds vs Q i ps h => by
    unfold minID at h
    split at h
    · split at h
      · rename_i ns en
        split at h
        · rename_i hne
          obtain ⟨v, rfl, p⟩ := ps.one
          obtain ⟨a, xs, rfl, q, r⟩ := p.lst i
          have e := Rps.ints en r
          subst e
          exact ⟨a, ns, rfl, q, hne, post_int i h⟩
        · exact h.elim
      · exact h.elim
    · exact h.elim⟩
@[simp] theorem BC.minI_g : BC.minI.g = minID := rfl
end MJ

namespace MJ
open PySem PySem.Spec PyProof.Rows L2
def fn_fit_rows_e0 : CE := (.call "row_of" (.cons (.var 0) (.cons (.call "held_by" (.cons (.var 3) (.cons (.var 1) .nil))) .nil)))
def fn_fit_rows : Fn where
  ps := ["sayings"]
  N := ["sayings", "names", "found", "number"]
  body := (.cons (.set 1 (.call "names_of" (.cons (.var 0) .nil))) (.distinct 2 3 (.range1 (.op _ .shl (CE.int 1) (.blt .len (.cons (.var 1) .nil)))) fn_fit_rows_e0))
def fn_distance_b0 : CS := (.cons (.ite (.cmp _ .ne (.var 6) (.var 7)) (.cons (.augI 4 (.var 8)) .nil) .nil) .nil)
def fn_distance_b1 : CS := (.cons (.for_ (.tup (.cons 6 (.cons 7 (.cons 8 .nil)))) (.zip3 (.var 0) (.var 5) (.var 3)) fn_distance_b0) .nil)
def fn_distance : Fn where
  ps := ["row", "judges", "weights"]
  N := ["row", "judges", "weights", "known", "total", "judge", "answer", "other", "weight"]
  body := (.cons (.set 3 (.var 2)) (.cons (.ite (.cmp _ .isN (.var 3) .non) (.cons (.set 3 (.op _ .rep (.tup (.cons (CE.int 1) .nil)) (.blt .len (.cons (.var 0) .nil)))) .nil) .nil) (.cons (.set 4 (CE.int 0)) (.cons (.for_ (.name 5) (.seq (.var 1)) fn_distance_b1) (.cons (.retv 4) .nil)))))
def fn_nearest_e0 : CE := (.var 6)
def fn_nearest_e1 : CE := (.call "distance" (.cons (.var 6) (.cons (.var 1) (.cons (.var 2) .nil))))
def fn_nearest : Fn where
  ps := ["sayings", "judges", "weights"]
  N := ["sayings", "judges", "weights", "rows", "far", "least", "row", "number"]
  body := (.cons (.set 3 (.call "fit_rows" (.cons (.var 0) .nil))) (.share 3 (.cons (.setLc 4 [("row", 6)] (.name 6) (.seq (.var 3)) .no fn_nearest_e1) (.cons (.set 5 (.blt .minI (.cons (.var 4) .nil))) (.share 4 (.share 3 (.cons (.ret (.lc [("row", 6), ("number", 7)] (.tup (.cons 6 (.cons 7 .nil))) (.zip2 (.var 3) (.var 4)) (.one (.cmp _ .eq (.var 7) (.var 5))) fn_nearest_e0)) .nil)))))))
def fn_law_judges1_e0 : CE := (.ix .ix (.var 2) (.op _ .mod (.call "_law_cell" (.cons (.var 0) (.cons (.op _ .add (.var 1) (.var 3)) .nil))) (.blt .len (.cons (.var 2) .nil))))
def fn_law_judges1 : Fn where
  ps := ["_law_script", "_law_k", "_law_rows_here"]
  N := ["_law_script", "_law_k", "_law_rows_here", "_law_j"]
  body := (.cons (.ret (.blt .tuple (.cons (.lc [("_law_j", 3)] (.name 3) (.range1 (.op _ .add (CE.int 1) (.call "_law_pick" (.cons (.var 0) (.cons (.var 1) (.cons (CE.int 10) .nil)))))) .no fn_law_judges1_e0) .nil))) .nil)
def fn_law12_b0 : CS := (.cons (.ite (.cmp _ .notin (.var 11) (.var 2)) (.cons (.ret (CE.bl false)) .nil) .nil) .nil)
def fn_law12_e0 : CE := (.var 11)
def fn_law12_e1 : CE := (.op _ .add (CE.int 1) (.op _ .mod (.call "_law_cell" (.cons (.var 0) (.cons (.op _ .add (CE.int 52) (.var 13)) .nil))) (.var 6)))
def fn_law12 : Fn where
  ps := ["_law_script"]
  N := ["_law_script", "_law_sayings_here", "_law_rows_here", "_law_one", "_law_other", "_law_way", "_law_wide", "_law_weights", "_law_ones", "_law_others", "_law_both", "_law_row", "_law_far", "_law_j"]
  body := (.cons (.set 1 (.call "_law_sayings" (.cons (.var 0) .nil))) (.cons (.set 2 (.call "_law_rows" (.cons (.var 1) .nil))) (.share 2 (.cons (.set 3 (.call "_law_judges" (.cons (.var 0) (.cons (CE.int 31) (.cons (.var 2) .nil))))) (.share 2 (.cons (.set 4 (.call "_law_judges" (.cons (.var 0) (.cons (CE.int 44) (.cons (.var 2) .nil))))) (.cons (.set 5 (.call "_law_pick" (.cons (.var 0) (.cons (CE.int 60) (.cons (CE.int 6) .nil))))) (.cons (.ite (.bop (op := .And) (.and (.cmp _ .eq (.var 5) (CE.int 0)) (.and1 (.cmp _ .gt (.blt .len (.cons (.var 3) .nil)) (CE.int 1))))) (.cons (.set 4 (.slc (.var 3) (.at (CE.int 1)) .no)) .nil) .nil) (.cons (.ite (.cmp _ .eq (.var 5) (CE.int 1)) (.cons (.set 4 (.op _ .add (.slc (.var 3) .no (.at (CE.int 9))) (.slc (.var 4) .no (.at (CE.int 1))))) .nil) .nil) (.cons (.set 6 (.ix .ix (.lst (.cons (CE.int 1) (.cons (CE.int 4) (.cons (.op _ .sub (.op _ .pow (CE.int 10) (CE.int 20)) (CE.int 1)) .nil)))) (.call "_law_pick" (.cons (.var 0) (.cons (CE.int 51) (.cons (CE.int 3) .nil)))))) (.cons (.set 7 (.blt .tuple (.cons (.lc [("_law_j", 13)] (.name 13) (.range1 (.blt .len (.cons (.var 1) .nil))) .no fn_law12_e1) .nil))) (.cons (.set 8 (.call "nearest" (.cons (.var 1) (.cons (.var 3) (.cons (.var 7) .nil))))) (.cons (.set 9 (.call "nearest" (.cons (.var 1) (.cons (.var 4) (.cons (.var 7) .nil))))) (.share 8 (.cons (.setLc 10 [("_law_row", 11)] (.name 11) (.seq (.var 8)) (.one (.cmp _ .in_ (.var 11) (.var 9))) fn_law12_e0) (.cons (.ite (.cmp _ .gt (.blt .len (.cons (.var 10) .nil)) (CE.int 0)) (.cons (.ite (.bop (op := .Or) (.or (.cmp _ .ne (.call "nearest" (.cons (.var 1) (.cons (.op _ .add (.var 3) (.var 4)) (.cons (.var 7) .nil)))) (.var 10)) (.or1 (.cmp _ .ne (.call "nearest" (.cons (.var 1) (.cons (.op _ .add (.var 4) (.var 3)) (.cons (.var 7) .nil)))) (.var 10))))) (.cons (.ret (CE.bl false)) .nil) .nil) .nil) .nil) (.cons (.for_ (.name 11) (.seq (.op _ .add (.var 8) (.var 9))) fn_law12_b0) (.cons (.set 11 (.ix .ix (.var 2) (.call "_law_pick" (.cons (.var 0) (.cons (CE.int 61) (.cons (.blt .len (.cons (.var 2) .nil)) .nil)))))) (.cons (.set 12 (.op _ .add (.call "distance" (.cons (.var 11) (.cons (.var 3) (.cons (.var 7) .nil)))) (.call "distance" (.cons (.var 11) (.cons (.var 4) (.cons (.var 7) .nil)))))) (.cons (.ret (.bop (op := .And) (.and (.cmp _ .eq (.call "distance" (.cons (.var 11) (.cons (.op _ .add (.var 3) (.var 4)) (.cons (.var 7) .nil)))) (.var 12)) (.one .And (.cmp _ .eq (.call "nearest" (.cons (.var 1) (.cons (.op _ .add (.var 3) (.var 3)) (.cons (.var 7) .nil)))) (.var 8)))))) .nil))))))))))))))))))))
end MJ

namespace MJ
open PySem PySem.Spec PyProof.Rows L2
/-! ### distances -/
def sumTo (f : Nat → Int) : Nat → Int
  | 0 => 0
  | n + 1 => sumTo f n + f n
theorem sumTo_congr {f g : Nat → Int} : ∀ n, (∀ k, k < n → f k = g k) → sumTo f n = sumTo g n
  | 0, _ => rfl
  | n + 1, h => by rw [sumTo, sumTo, sumTo_congr n fun k hk => h k (by omega), h n (by omega)]
theorem sumTo_zero {f : Nat → Int} : ∀ n, (∀ k, k < n → f k = 0) → sumTo f n = 0
  | 0, _ => rfl
  | n + 1, h => by rw [sumTo, sumTo_zero n fun k hk => h k (by omega), h n (by omega)]; rfl
def oneT (r j : List Bool) (w : List Int) (k : Nat) : Int := if r.getD k false = j.getD k false then 0 else w.getD k 0
def oneD (r j : List Bool) (w : List Int) : Int := sumTo (oneT r j w) r.length
def farD (r : List Bool) (js : List (List Bool)) (w : List Int) : Int := (js.map fun j => oneD r j w).sum
theorem farD_take {r : List Bool} {js : List (List Bool)} {w : List Int} {i : Nat} {j : List Bool} (h : js[i]? = some j) : farD r (js.take (i + 1)) w = farD r (js.take i) w + oneD r j w := by
  have hi : i < js.length := (List.getElem?_eq_some_iff.mp h).1
  have e : js[i] = j := by rw [List.getElem?_eq_getElem hi] at h; exact Option.some.inj h
  unfold farD
  rw [← List.take_append_getElem hi, e]
  simp
theorem farD_rev (r : List Bool) (js : List (List Bool)) (w : List Int) : farD r js.reverse w = farD r js w := by
  unfold farD
  rw [List.map_reverse, List.sum_reverse]
theorem farD_app (r : List Bool) (js ks : List (List Bool)) (w : List Int) : farD r (js ++ ks) w = farD r js w + farD r ks w := by
  unfold farD
  rw [List.map_append, List.sum_append]
theorem oneD_self (r : List Bool) (w : List Int) : oneD r r w = 0 := sumTo_zero _ fun k _ => by simp [oneT]
theorem int_map {r : List Int} {w : Nat} (h : r.length = w) : r.map D.int = (List.range w).map fun i => .int (r.getD i 0) := by
  refine List.ext_getElem (by simp [h]) fun i h1 h2 => ?_
  have h3 : i < r.length := by simpa using h1
  simp [List.getD_eq_getElem?_getD, List.getElem?_eq_getElem h3]
def wsD : Option (List Int) → D
  | none => .non
  | some ws => .tup (ws.map .int)
def wsL (n : Nat) : Option (List Int) → List Int
  | none => List.replicate n 1
  | some ws => ws
section
variable {T : Str → Option Fn}
theorem distance_ev (f : T "distance" = some fn_distance) (n : Nat) {r : List Bool} {js : List (List Bool)} {wo : Option (List Int)} (hj : ∀ j ∈ js, j.length = r.length) (hw : ∀ ws, wo = some ws → ws.length = r.length) (hr : r.length ≤ 1000) (h1 : 1 ≤ r.length) :
    evFn T (n + 1) "distance" [rowD r, .tup (js.map rowD), wsD wo] = .ok (.int (farD r js (wsL r.length wo)), false) := by
  have hwl : (wsL r.length wo).length = r.length := by
    cases wo with
    | none => simp [wsL]
    | some ws => exact hw ws rfl
  rw [evFn_succ f rfl]
  simp only [fn_distance, startSl]
  have main : ∀ W : D, ∃ ρ', forFold (forStep (CG.name 5) fn_distance_b1 (evFn T n)) (js.map rowD) [.sh (rowD r), .sh (.tup (js.map rowD)), .sh W, .sh (.tup ((wsL r.length wo).map .int)), .sh (.int 0), .no, .no, .no, .no] = some (.nx ρ') ∧
      ∃ x5 x6 x7 x8, ρ' = [.sh (rowD r), .sh (.tup (js.map rowD)), .sh W, .sh (.tup ((wsL r.length wo).map .int)), .sh (.int (farD r js (wsL r.length wo))), x5, x6, x7, x8] := by
    intro W
    generalize wsL r.length wo = ws at *
    obtain ⟨ρ', e, x5, x6, x7, x8, rfl⟩ := forFold_nx (step := forStep (CG.name 5) fn_distance_b1 (evFn T n)) (ds := js.map rowD) (ρ := [.sh (rowD r), .sh (.tup (js.map rowD)), .sh W, .sh (.tup (ws.map .int)), .sh (.int 0), .no, .no, .no, .no])
      (fun i ρ => ∃ x5 x6 x7 x8, ρ = [.sh (rowD r), .sh (.tup (js.map rowD)), .sh W, .sh (.tup (ws.map .int)), .sh (.int (farD r (js.take i) ws)), x5, x6, x7, x8]) ⟨_, _, _, _, rfl⟩ (by
        rintro i d ρ hd ⟨x5, x6, x7, x8, rfl⟩
        rw [List.getElem?_map, Option.map_eq_some_iff] at hd
        obtain ⟨j, hji, rfl⟩ := hd
        have jl := hj j (List.mem_of_getElem? hji)
        have zz : zip3G [rowD r, rowD j, .tup (ws.map .int)] = .ok ((List.range r.length).map fun t => .tup [.bl (r.getD t false), .bl (j.getD t false), .int (ws.getD t 0)]) := by
          simp only [zip3G, rowD, seqD_tup, Res.bind_ok]
          rw [row_map (rfl : r.length = r.length), row_map jl, int_map hwl, zip3_maps]
        have ft := farD_take (r := r) (w := ws) hji
        generalize farD r (js.take i) ws = base at *
        obtain ⟨ρ2, e2, y6, y7, y8, rfl⟩ := forFold_nx (step := forStep (CG.tup (.cons 6 (.cons 7 (.cons 8 .nil)))) fn_distance_b0 (evFn T n)) (ds := (List.range r.length).map fun t => D.tup [.bl (r.getD t false), .bl (j.getD t false), .int (ws.getD t 0)]) (ρ := [.sh (rowD r), .sh (.tup (js.map rowD)), .sh W, .sh (.tup (ws.map .int)), .sh (.int base), .sh (rowD j), x6, x7, x8])
          (fun t ρ => ∃ x6 x7 x8, ρ = [.sh (rowD r), .sh (.tup (js.map rowD)), .sh W, .sh (.tup (ws.map .int)), .sh (.int (base + sumTo (oneT r j ws) t)), .sh (rowD j), x6, x7, x8]) ⟨x6, x7, x8, by simp [sumTo]⟩ (by
            rintro t d ρ hd ⟨x6, x7, x8, rfl⟩
            rw [List.getElem?_map, Option.map_eq_some_iff] at hd
            obtain ⟨t', ht, rfl⟩ := hd
            have : t' = t := by
              rw [List.getElem?_eq_some_iff] at ht
              obtain ⟨h1, h2⟩ := ht
              rw [← h2]; simp
            subst this
            rw [sumTo]
            unfold oneT
            generalize sumTo _ t' = st
            generalize r.getD t' false = a
            generalize j.getD t' false = b
            generalize ws.getD t' 0 = c
            refine nx_gen fun Q hQ => ?_
            have q1 := hQ [.sh (rowD r), .sh (.tup (js.map rowD)), .sh W, .sh (.tup (ws.map .int)), .sh (.int (base + (st + if a = b then 0 else c))), .sh (rowD j), .sh (.bl a), .sh (.bl b), .sh (.int c)] ⟨_, _, _, rfl⟩
            clear hQ
            generalize js.map rowD = jsd at *
            generalize ws.map D.int = wsd at *
            generalize rowD r = rd at *
            generalize rowD j = jd at *
            cases a <;> cases b <;> simp [forStep, fn_distance_b0] at q1 ⊢ <;> first | exact q1 | (rw [Int.add_assoc]; exact q1))
        rw [List.length_map, List.length_range, show base + sumTo (oneT r j ws) r.length = base + oneD r j ws from rfl, ← ft] at e2
        refine nx_gen fun Q hQ => ?_
        have q1 := hQ [.sh (rowD r), .sh (.tup (js.map rowD)), .sh W, .sh (.tup (ws.map .int)), .sh (.int (farD r (js.take (i + 1)) ws)), .sh (rowD j), y6, y7, y8] ⟨_, _, _, _, rfl⟩
        clear hQ
        generalize farD r (js.take (i + 1)) ws = tot at *
        generalize ((List.range r.length).map fun t => D.tup [.bl (r.getD t false), .bl (j.getD t false), .int (ws.getD t 0)]) = zs at *
        generalize js.map rowD = jsd at *
        generalize ws.map D.int = wsd at *
        generalize rowD r = rd at *
        generalize rowD j = jd at *
        simp [forStep, fn_distance_b1, zz, e2, q1])
    rw [List.length_map, List.take_length] at e
    exact ⟨_, e, _, _, _, _, rfl⟩
  obtain ⟨ρ', e, x5, x6, x7, x8, rfl⟩ := main (wsD wo)
  generalize farD r js (wsL r.length wo) = tot at *
  cases wo with
  | some ws =>
    simp only [wsD, wsL] at e ⊢
    generalize js.map rowD = jsd at *
    generalize ws.map D.int = wsd at *
    generalize rowD r = rd at *
    simp [e]
  | none =>
    simp only [wsD, wsL] at e ⊢
    have er : repD (.tup [.int 1]) (.int (r.length : Int)) = .ok (.tup ((List.replicate r.length (1 : Int)).map .int), .sh) := by
      simp only [repD]
      rw [if_pos ⟨by omega, by omega, by simp⟩, Int.toNat_natCast, List.flatten_replicate_singleton, List.map_replicate]
    have lr : lenD [rowD r] = .ok (.int r.length, .sh) := by simp [rowD]
    generalize js.map rowD = jsd at *
    generalize (List.replicate r.length (1 : Int)).map D.int = wsd at *
    generalize rowD r = rd at *
    have one : 1 ≤ sizeLine := by decide
    simp [e, er, lr, one]
end
end MJ

namespace MJ
open PySem PySem.Spec PyProof.Rows L2
/-! ### fit_rows, nearest -/
theorem CS.distinct_ev {call : Calls} {ρ : List Sl} (i t : Nat) (it : CI) (k : CE) : (CS.distinct i t it k).ev call ρ = distinctEv i t it k call ρ := rfl
section
variable {T : Str → Option Fn}
theorem fit_rows_evP (li : T "letters_in" = some fn_letters_in) (ni : T "names_in" = some fn_names_in) (no : T "names_of" = some fn_names_of) (so : T "is_so" = some fn_is_so) (ro : T "row_of" = some fn_row_of) (hb : T "held_by" = some fn_held_by)
    (f : T "fit_rows" = some fn_fit_rows) (n : Nat) {ss : List Sy} (L : Lst ss) : evFn T (n + 43) "fit_rows" [.tup (ss.map enc)] = .ok (.lst ((fitR ss).map rowD), true) := by
  have en := names_of_ev li ni no n L
  have er := fun {hd : List Str} (hh : ∀ z ∈ hd, PyData.strOk z = true) => row_of_ev so ro (n + 1) L hh
  have n5 := L.nm
  have nok := L.nok
  have ef : fitR ss = sortU ordR.toOrd ((List.range (2 ^ (namesL ss).length)).map fun k : Nat => rowF ss (heldF (k : Int) (namesL ss))) := rfl
  generalize namesL ss = nms at *
  rw [evFn_succ f rfl]
  simp only [fn_fit_rows, startSl]
  have M32 : 2 ^ nms.length ≤ 2 ^ 5 := Nat.pow_le_pow_right (by decide) n5
  have M1 : 1 ≤ 2 ^ nms.length := Nat.pow_pos (by decide)
  have e1 : (1 : Int) * 2 ^ ((nms.length : Int)).toNat = ((2 ^ nms.length : Nat) : Int) := by simp
  have hp : CPow 1 (nms.length : Int) := by
    have : nms.length = 0 ∨ nms.length = 1 ∨ nms.length = 2 ∨ nms.length = 3 ∨ nms.length = 4 ∨ nms.length = 5 := by omega
    rcases this with h | h | h | h | h | h <;> rw [h] <;> decide
  have body : rowsFold 3 fn_fit_rows_e0 (evFn T (n + 42)) ((List.range (2 ^ nms.length)).map fun k : Nat => D.int (0 + (k : Int))) [.sh (.tup (ss.map enc)), .sh (.nms nms), .no, .no] = some ((List.range (2 ^ nms.length)).map fun k : Nat => rowF ss (heldF (k : Int) nms)) := by
    have q := rowsFold_map (t := 3) (k := fn_fit_rows_e0) (call := evFn T (n + 42)) (ρ := [.sh (.tup (ss.map enc)), .sh (.nms nms), .no, .no]) (fun d => match d with
      | .int k => rowF ss (heldF k nms)
      | _ => []) (ds := (List.range (2 ^ nms.length)).map fun k : Nat => D.int (0 + (k : Int))) (fun d hd => by
        obtain ⟨k, hk, rfl⟩ := List.mem_map.mp hd
        have eh := held_by_ev (T := T) hb (n + 41) k (nms := nms) (by omega)
        have e2 := er (hd := heldF (k : Int) nms) (heldF_lets nok)
        rw [Int.zero_add]
        show fn_fit_rows_e0.arg false _ _ = .ok (rowD (rowF ss (heldF (k : Int) nms)))
        generalize rowD (rowF ss (heldF (k : Int) nms)) = rd at *
        generalize (heldF (k : Int) nms).map D.str = hd at *
        simp [fn_fit_rows_e0, eh, e2]) (fun d hd => by
        obtain ⟨k, hk, rfl⟩ := List.mem_map.mp hd
        have := L.ne
        intro z
        have := congrArg List.length z
        simp [rowF] at this
        subst this
        simp at *)
    rw [q, List.map_map]
    congr 1
    refine List.map_congr_left fun k _ => ?_
    simp only [Function.comp, Int.zero_add]
  have lens : ((List.range (2 ^ nms.length)).map fun k : Nat => rowF ss (heldF (k : Int) nms)).length = 2 ^ nms.length := by simp
  have rne : ((List.range (2 ^ nms.length)).map fun k : Nat => rowF ss (heldF (k : Int) nms)) ≠ [] := fun z => by
    rw [z] at lens; simp at lens; omega
  rw [← ef.symm] at *
  have rd : rangeD 0 (2 ^ nms.length) = (List.range (2 ^ nms.length)).map fun k : Nat => D.int (0 + (k : Int)) := rfl
  rw [← rd] at body
  generalize ((List.range (2 ^ nms.length)).map fun k : Nat => rowF ss (heldF (k : Int) nms)) = rs at *
  generalize 2 ^ nms.length = M at *
  have rg := rg1_of (show (0 : Int) ≤ (M : Int) by omega) (show (M : Int) < 4611686018427387904 by omega)
  rw [Int.toNat_natCast] at rg
  have ran : (CI.range1 (.op _ .shl (CE.int 1) (.blt .len (.cons (.var 1) .nil)))).ev (evFn T (n + 42)) [.sh (.tup (ss.map enc)), .sh (.nms nms), .no, .no] = .ok (rangeD 0 M) := by
    rw [CI.range1_ev, CE.op_ev, B2.shl_1, B2.shl_2, CE.int_ev]
    simp only [CE.blt_ev, CEs.cons_ev, CEs.nil_ev, CE.var_ev, BC.len_g, argR_sh, Res.bind_ok, List.getD_cons_succ, List.getD_cons_zero, slD_sh, lenD_nms, B2.shl_g, if_pos hp, e1, rg]
  have dist : distinctEv 2 3 (.range1 (.op _ .shl (CE.int 1) (.blt .len (.cons (.var 1) .nil)))) fn_fit_rows_e0 (evFn T (n + 42)) [.sh (.tup (ss.map enc)), .sh (.nms nms), .no, .no] = some (.rt (.lst ((sortU ordR.toOrd rs).map rowD)) true) := by
    unfold distinctEv
    rw [if_pos ⟨by simp [isOw], by simp⟩]
    simp only [List.set_cons_succ, List.set_cons_zero, ran, body]
    rw [if_pos ⟨rne, by omega⟩]
  generalize ss.map enc = sd at *
  generalize (sortU ordR.toOrd rs).map rowD = out at *
  simp [en, CS.distinct_ev, dist]
def nearF (ss : List Sy) (js : List (List Bool)) (w : List Int) : List (List Bool) := (fitR ss).filter fun r => decide (farD r js w = leastI ((fitR ss).map fun r => farD r js w))
theorem zip2_maps {α : Type} (a b : α → D) : ∀ l : List α, List.zipWith (fun x y : D => D.tup [x, y]) (l.map a) (l.map b) = l.map fun i => D.tup [a i, b i]
  | [] => rfl
  | x :: l => by simp [zip2_maps a b l]
theorem nearest_ev {lev : Nat} {ss : List Sy} (L : Lst ss) (fr : evFn T (lev + 1) "fit_rows" [.tup (ss.map enc)] = .ok (.lst ((fitR ss).map rowD), true)) (di : T "distance" = some fn_distance) (f : T "nearest" = some fn_nearest) {js : List (List Bool)} (hj : ∀ j ∈ js, j.length = ss.length) {wo : Option (List Int)} (hw : ∀ ws, wo = some ws → ws.length = ss.length) :
    evFn T (lev + 2) "nearest" [.tup (ss.map enc), .tup (js.map rowD), wsD wo] = .ok (.lst ((nearF ss js (wsL ss.length wo)).map rowD), true) := by
  rw [evFn_succ f rfl]
  simp only [fn_nearest, startSl]
  have s6 := L.le
  have s1 := L.ne
  have d := fun {r : List Bool} (hr : r ∈ fitR ss) => distance_ev (T := T) di lev (r := r) (js := js) (wo := wo) (fun j m => by rw [hj j m, fitR_len hr]) (fun ws e => by rw [hw ws e, fitR_len hr]) (by rw [fitR_len hr]; omega) (by rw [fitR_len hr]; omega)
  have d : ∀ r ∈ fitR ss, evFn T (lev + 1) "distance" [rowD r, .tup (js.map rowD), wsD wo] = .ok (.int (farD r js (wsL ss.length wo)), false) := fun r hr => by rw [d hr, fitR_len hr]
  have ml := L.fit_le
  have ne := fitR_ne ss
  unfold nearF
  generalize wsL ss.length wo = ws at *
  generalize fitR ss = rows at *
  generalize js.map rowD = jsd at *
  generalize wsD wo = wd at *
  generalize ss.map enc = sd at *
  have b1 := lcFold_map (f := lcBody (CG.name 6) CIf.no fn_nearest_e1 (evFn T (lev + 1)) [.sh (.tup sd), .sh (.tup jsd), .sh wd, .sh (.lst (rows.map rowD)), .no, .no, .no, .no]) rowD (fun r => .int (farD r js ws)) (as := rows) fun r hr => by
    have e := d r hr
    generalize rowD r = rd at *
    generalize rows.map rowD = rws at *
    simp [lcBody, fn_nearest_e1, noEx, e]
  have mi := minID_ints (ns := rows.map fun r => farD r js ws) (by simpa using ne)
  rw [List.map_map] at mi
  have mi : minID [.lst (rows.map fun r => D.int (farD r js ws))] = .ok (.int (leastI (rows.map fun r => farD r js ws)), .sh) := mi
  generalize leastI (rows.map fun r => farD r js ws) = least at *
  have b2 := lcFold_filter (f := lcBody (CG.tup (.cons 6 (.cons 7 .nil))) (CIf.one (.cmp _ .eq (.var 7) (.var 5))) fn_nearest_e0 (evFn T (lev + 1)) [.sh (.tup sd), .sh (.tup jsd), .sh wd, .sh (.lst (rows.map rowD)), .sh (.lst (rows.map fun r => D.int (farD r js ws))), .sh (.int least), .no, .no])
    (fun r => D.tup [rowD r, .int (farD r js ws)]) (fun r => decide (farD r js ws = least)) rowD (as := rows) fun r hr => by
    generalize rowD r = rd at *
    generalize rows.map rowD = rws at *
    generalize farD r js ws = fr at *
    generalize (rows.map fun r => D.int (farD r js ws)) = fd at *
    by_cases c : fr = least <;> simp [lcBody, fn_nearest_e0, noEx, c]
  have zz : zip2G [.lst (rows.map rowD), .lst (rows.map fun r => D.int (farD r js ws))] = .ok (rows.map fun r => D.tup [rowD r, .int (farD r js ws)]) := by
    simp only [zip2G, seqD_lst, Res.bind_ok]
    rw [zip2_maps]
  have l1 : (rows.map rowD).length ≤ sizeLine := by rw [List.length_map]; exact small_len (by omega)
  have l2 : (rows.map fun r => D.int (farD r js ws)).length ≤ sizeLine := by rw [List.length_map]; exact small_len (by omega)
  have l3 : ((rows.filter fun r => decide (farD r js ws = least)).map rowD).length ≤ sizeLine := by
    rw [List.length_map]; exact Nat.le_trans (List.length_filter_le _ _) (small_len (by omega))
  generalize (rows.filter fun r => decide (farD r js ws = least)).map rowD = out at *
  generalize (rows.map fun r => D.tup [rowD r, .int (farD r js ws)]) = zs at *
  generalize rows.map rowD = rws at *
  generalize (rows.map fun r => D.int (farD r js ws)) = fd at *
  simp [fr, lcRes_eq, wipeSl, shareSl, b1, b2, mi, zz, l1, l2, l3]
end
end MJ

namespace MJ
open PySem PySem.Spec PyProof.Rows L2
/-! ### the nearest rows, put together -/
theorem near_mem {ss : List Sy} {a : List (List Bool)} {w : List Int} {r : List Bool} : r ∈ nearF ss a w ↔ r ∈ fitR ss ∧ ∀ q ∈ fitR ss, farD r a w ≤ farD q a w := by
  unfold nearF
  rw [List.mem_filter, decide_eq_true_eq]
  constructor
  · rintro ⟨h1, h2⟩
    refine ⟨h1, fun q hq => ?_⟩
    rw [h2]
    exact leastI_le (List.mem_map.mpr ⟨q, hq, rfl⟩)
  · rintro ⟨h1, h2⟩
    refine ⟨h1, Int.le_antisymm ?_ (leastI_le (List.mem_map.mpr ⟨r, h1, rfl⟩))⟩
    obtain ⟨q, hq, e⟩ := List.mem_map.mp (leastI_mem (l := (fitR ss).map fun r => farD r a w) (by simpa using fitR_ne ss))
    rw [← e]
    exact h2 q hq
theorem near_ne (ss : List Sy) (a : List (List Bool)) (w : List Int) : ∃ r, r ∈ nearF ss a w := by
  obtain ⟨q, hq, e⟩ := List.mem_map.mp (leastI_mem (l := (fitR ss).map fun r => farD r a w) (by simpa using fitR_ne ss))
  refine ⟨q, List.mem_filter.mpr ⟨hq, by rw [decide_eq_true_eq]; exact e⟩⟩
theorem near_fit {ss : List Sy} {a : List (List Bool)} {w : List Int} {r : List Bool} (h : r ∈ nearF ss a w) : r ∈ fitR ss := (List.mem_filter.mp h).1
theorem near_app {ss : List Sy} {a b : List (List Bool)} {w : List Int} {r0 : List Bool} (h1 : r0 ∈ nearF ss a w) (h2 : r0 ∈ nearF ss b w) :
    nearF ss (a ++ b) w = (nearF ss a w).filter fun r => decide (r ∈ nearF ss b w) := by
  have key : ∀ r ∈ fitR ss, decide (farD r (a ++ b) w = leastI ((fitR ss).map fun r => farD r (a ++ b) w)) = (decide (farD r a w = leastI ((fitR ss).map fun r => farD r a w)) && decide (r ∈ nearF ss b w)) := by
    intro r hr
    have m1 : decide (farD r a w = leastI ((fitR ss).map fun r => farD r a w)) = decide (r ∈ nearF ss a w) := by
      unfold nearF
      rw [decide_eq_decide, List.mem_filter, decide_eq_true_eq]
      exact ⟨fun h => ⟨hr, h⟩, fun h => h.2⟩
    have m2 : decide (farD r (a ++ b) w = leastI ((fitR ss).map fun r => farD r (a ++ b) w)) = decide (r ∈ nearF ss (a ++ b) w) := by
      unfold nearF
      rw [decide_eq_decide, List.mem_filter, decide_eq_true_eq]
      exact ⟨fun h => ⟨hr, h⟩, fun h => h.2⟩
    rw [m1, m2, ← Bool.decide_and, decide_eq_decide, near_mem, near_mem, near_mem]
    rw [near_mem] at h1 h2
    simp only [farD_app]
    constructor
    · rintro ⟨_, h⟩
      have g := h r0 h1.1
      have g1 := h1.2 r hr
      have g2 := h2.2 r hr
      refine ⟨⟨hr, fun q hq => ?_⟩, hr, fun q hq => ?_⟩
      · have := h1.2 q hq; omega
      · have := h2.2 q hq; omega
    · rintro ⟨⟨_, ha⟩, _, hb⟩
      exact ⟨hr, fun q hq => by have := ha q hq; have := hb q hq; omega⟩
  show (fitR ss).filter _ = ((fitR ss).filter _).filter _
  rw [List.filter_filter]
  refine List.filter_congr fun r hr => ?_
  rw [key r hr, Bool.and_comm]
theorem near_comm (ss : List Sy) (a b : List (List Bool)) (w : List Int) : nearF ss (a ++ b) w = nearF ss (b ++ a) w := by
  have : ∀ r, farD r (a ++ b) w = farD r (b ++ a) w := fun r => by rw [farD_app, farD_app, Int.add_comm]
  unfold nearF
  simp only [this]
theorem near_twice (ss : List Sy) (a : List (List Bool)) (w : List Int) : nearF ss (a ++ a) w = nearF ss a w := by
  obtain ⟨r, hr⟩ := near_ne ss a w
  rw [near_app hr hr, List.filter_eq_self]
  intro q hq
  rw [decide_eq_true_eq]; exact hq
section
variable {T : Str → Option Fn} (ns : List Int)
theorem judges1_ev (h : T "_law_cell" = some fn_law_cell) (g : T "_law_pick" = some fn_law_pick) (f : T "_law_judges" = some fn_law_judges1) (hl : ns.length ≤ 4000) (n : Nat) {k : Int} (h0 : 0 ≤ k) (hk : k < 10000) {rs : List (List Bool)} (rne : rs ≠ []) :
    ∃ js : List (List Bool), evFn T (n + 3) "_law_judges" [sc ns, .int k, .lst (rs.map rowD)] = .ok (judD js, false) ∧ 1 ≤ js.length ∧ js.length ≤ 10 ∧ ∀ r ∈ js, r ∈ rs := by
  obtain ⟨q, q0, q1, eq⟩ := pick_ev ns h g hl n (k := k) (m := 10) h0 (bdk h0 (by omega)) (by decide)
  rw [evFn_succ f rfl]
  simp only [fn_law_judges1, startSl]
  obtain ⟨m, hm⟩ : ∃ m : Nat, (m : Int) = 1 + q := ⟨(1 + q).toNat, by omega⟩
  have rp' : 0 < rs.length := List.length_pos_iff.mpr rne
  have rp : 0 < (rs.length : Int) := by omega
  obtain ⟨js, ejs, jl, jr⟩ := lcFold_all (f := lcBody (CG.name 3) CIf.no fn_law_judges1_e0 (evFn T (n + 2)) [.sh (sc ns), .sh (.int k), .sh (.lst (rs.map rowD)), .no]) (g := rowD) (R := fun _ j => j ∈ rs) (ds := rangeD 0 m) fun d hd => by
    obtain ⟨i, hi⟩ := List.mem_iff_getElem?.mp hd
    obtain ⟨hi, rfl⟩ := rangeD_get hi
    obtain ⟨v, ev⟩ := cell_ev ns h hl (n + 1) (k := k + (0 + (i : Int))) (by omega) (bd_le (bdk (by omega) (by omega) : bd _ 20) (by decide))
    have v0 : 0 ≤ v % (rs.length : Int) := Int.emod_nonneg _ (by omega)
    have v1 : v % (rs.length : Int) < rs.length := Int.emod_lt_of_pos _ rp
    obtain ⟨u, hu⟩ : ∃ u : Nat, (u : Int) = v % (rs.length : Int) := ⟨(v % (rs.length : Int)).toNat, by omega⟩
    have ul : u < rs.length := by omega
    have ix : ixD (.lst (rs.map rowD)) (.int (v % (rs.length : Int))) = .ok (rowD rs[u], .sh) := by
      rw [← hu]; exact ixD_lst_nat (by simp [List.getElem?_eq_getElem ul])
    refine ⟨rs[u], ?_, List.getElem_mem ul⟩
    rw [Int.zero_add] at ev
    have ll : lenD [.lst (rs.map rowD)] = .ok (.int rs.length, .sh) := by simp
    generalize rowD rs[u] = rd at *
    generalize rs.map rowD = rsd at *
    simp [lcBody, fn_law_judges1_e0, noEx, ev, ll, rp, rp', ix]
  rw [rangeD_len] at jl
  have rg := rg1_of (show (0 : Int) ≤ (m : Int) by omega) (show (m : Int) < 4611686018427387904 by omega)
  rw [Int.toNat_natCast] at rg
  have sl : (js.map rowD).length ≤ sizeLine := by rw [List.length_map]; exact small_len (by omega)
  refine ⟨js, ?_, by omega, by omega, fun r hr => ?_⟩
  · unfold judD
    generalize js.map rowD = jsd at *
    generalize rs.map rowD = rsd at *
    simp [eq, ← hm, rg, lcRes_eq, wipeSl, ejs, sl]
  · obtain ⟨i, hi⟩ := List.mem_iff_getElem?.mp hr
    have hi2 : i < js.length := (List.getElem?_eq_some_iff.mp hi).1
    exact jr i (.int (0 + (i : Nat))) r (by rw [rangeD, List.getElem?_map, List.getElem?_range (by omega)]; rfl) hi
end
end MJ

namespace MJ
open PySem PySem.Spec PyProof.Rows L2
def fn_unlike_e0 : CE := (.var 2)
def fn_unlike : Fn where
  ps := ["one", "other"]
  N := ["one", "other", "number"]
  body := (.cons (.ret (.blt .len (.cons (.lc [("number", 2)] (.name 2) (.range1 (.blt .len (.cons (.var 0) .nil))) (.one (.cmp _ .ne (.ix .ix (.var 0) (.var 2)) (.ix .ix (.var 1) (.var 2)))) fn_unlike_e0) .nil))) .nil)
def fn_gains_b0 : CS := (.cons (.set 7 (.mcall (.var 0) "row" [("Most", "Most.row")] (.cons (.var 1) (.cons (.op _ .add (.op _ .add (.slc (.var 2) .no (.at (.var 3))) (.tup (.cons (.var 6) .nil))) (.slc (.var 2) (.at (.op _ .add (.var 3) (CE.int 1))) .no)) .nil)))) (.cons (.ite (.cmp _ .lt (.call "unlike" (.cons (.var 7) (.cons (.var 4) .nil))) (.var 5)) (.cons (.ret (.tup (.cons (.var 6) (.cons (.var 7) .nil)))) .nil) .nil) .nil))
def fn_gains : Fn where
  ps := ["way", "sayings", "judges", "number"]
  N := ["way", "sayings", "judges", "number", "own", "now", "row", "found"]
  body := (.cons (.set 4 (.ix .ix (.var 2) (.var 3))) (.cons (.set 5 (.call "unlike" (.cons (.mcall (.var 0) "row" [("Most", "Most.row")] (.cons (.var 1) (.cons (.var 2) .nil))) (.cons (.var 4) .nil)))) (.cons (.for_ (.name 6) (.seq (.call "fit_rows" (.cons (.var 1) .nil))) fn_gains_b0) (.cons (.ret CE.non) .nil))))
def fn_law_unlike_e0 : CE := (.var 2)
def fn_law_unlike : Fn where
  ps := ["_law_one", "_law_other"]
  N := ["_law_one", "_law_other", "_law_k"]
  body := (.cons (.ret (.blt .len (.cons (.lc [("_law_k", 2)] (.name 2) (.range1 (.blt .len (.cons (.var 0) .nil))) (.one (.cmp _ .ne (.ix .ix (.var 0) (.var 2)) (.ix .ix (.var 1) (.var 2)))) fn_law_unlike_e0) .nil))) .nil)
def fn_law_holds_for7_b0 : CS := (.cons (.set 9 (.op _ .add (.op _ .add (.slc (.var 4) .no (.at (.var 6))) (.tup (.cons (.var 8) .nil))) (.slc (.var 4) (.at (.op _ .add (.var 6) (CE.int 1))) .no))) (.cons (.ite (.cmp _ .lt (.call "_law_unlike" (.cons (.mcall (.var 5) "row" [("Most", "Most.row")] (.cons (.var 1) (.cons (.var 9) .nil))) (.cons (.ix .ix (.var 4) (.var 6)) .nil))) (.var 7)) (.cons (.ret (CE.bl false)) .nil) .nil) .nil))
def fn_law_holds_for7_b1 : CS := (.cons (.ite (.cmp _ .notN (.call "gains" (.cons (.var 5) (.cons (.var 1) (.cons (.var 4) (.cons (.var 6) .nil))))) .non) (.cons (.ret (CE.bl false)) .nil) .nil) (.cons (.set 7 (.call "_law_unlike" (.cons (.mcall (.var 5) "row" [("Most", "Most.row")] (.cons (.var 1) (.cons (.var 4) .nil))) (.cons (.ix .ix (.var 4) (.var 6)) .nil)))) (.share 2 (.cons (.for_ (.name 8) (.seq (.var 2)) fn_law_holds_for7_b0) .nil))))
def fn_law_holds_for7_e0 : CE := (.ix .ix (.var 2) (.op _ .mod (.call "_law_cell" (.cons (.var 0) (.cons (.op _ .add (CE.int 31) (.var 10)) .nil))) (.blt .len (.cons (.var 2) .nil))))
def fn_law_holds_for7 : Fn where
  ps := ["_law_script"]
  N := ["_law_script", "_law_sayings", "_law_fit", "_law_many", "_law_judges", "_law_way", "_law_number", "_law_now", "_law_row_here", "_law_others", "_law_j"]
  body := (.cons (.set 1 (.call "_law_list" (.cons (.var 0) (.cons (CE.int 0) .nil)))) (.cons (.set 2 (.call "_law_fit_rows" (.cons (.var 1) .nil))) (.cons (.set 3 (.op _ .add (CE.int 1) (.op _ .mul (CE.int 2) (.call "_law_pick" (.cons (.var 0) (.cons (CE.int 30) (.cons (CE.int 5) .nil))))))) (.cons (.set 4 (.blt .tuple (.cons (.lc [("_law_j", 10)] (.name 10) (.range1 (.var 3)) .no fn_law_holds_for7_e0) .nil))) (.cons (.set 5 (.newO "Most")) (.cons (.for_ (.name 6) (.range1 (.var 3)) fn_law_holds_for7_b1) (.cons (.ret (CE.bl true)) .nil)))))))
def fn_Most_row : Fn where
  ps := ["self", "sayings", "judges"]
  N := ["self", "sayings", "judges"]
  body := (.cons (.ret (.call "most" (.cons (.var 2) .nil))) .nil)
end MJ

set_option maxHeartbeats 8000000
namespace MJ
open PySem PySem.Spec PyProof.Rows L2
/-! ### most is not gained -/
def unN (a b : List Bool) : Nat := ((List.range a.length).filter fun k => !decide (a.getD k false = b.getD k false)).length
def repl (js : List (List Bool)) (i : Nat) (r : List Bool) : List (List Bool) := js.take i ++ [r] ++ js.drop (i + 1)
theorem repl_len {js : List (List Bool)} {i : Nat} (h : i < js.length) (r : List Bool) : (repl js i r).length = js.length := by
  simp [repl]; omega
theorem repl_mem {js : List (List Bool)} {i : Nat} {r x : List Bool} (h : x ∈ repl js i r) : x ∈ js ∨ x = r := by
  simp only [repl, List.mem_append, List.mem_singleton] at h
  rcases h with (h | h) | h
  · exact .inl (List.mem_of_mem_take h)
  · exact .inr h
  · exact .inl (List.mem_of_mem_drop h)
theorem yes_split {js : List (List Bool)} {i : Nat} (h : i < js.length) (k : Nat) : yesN js k = yesN (js.take i) k + (if (js.getD i []).getD k false = true then 1 else 0) + yesN (js.drop (i + 1)) k := by
  have e : js = js.take i ++ [js.getD i []] ++ js.drop (i + 1) := by
    have e1 : js.getD i [] = js[i] := by simp [List.getD_eq_getElem?_getD, List.getElem?_eq_getElem h]
    rw [e1, List.take_append_getElem h, List.take_append_drop]
  unfold yesN
  conv => lhs; rw [e]
  rw [List.filter_append, List.filter_append, List.length_append, List.length_append]
  congr 1
  congr 1
  by_cases c : (js.getD i []).getD k false = true
  · rw [if_pos c]; simp only [List.filter_cons, c, if_true, List.filter_nil, List.length_singleton]
  · rw [if_neg c]
    have c' : (js.getD i []).getD k false = false := by simpa using c
    simp only [List.filter_cons, c', List.filter_nil]
    rfl
theorem yes_repl (js : List (List Bool)) (i : Nat) (r : List Bool) (k : Nat) : yesN (repl js i r) k = yesN (js.take i) k + (if r.getD k false = true then 1 else 0) + yesN (js.drop (i + 1)) k := by
  unfold yesN repl
  rw [List.filter_append, List.filter_append, List.length_append, List.length_append]
  congr 1
  congr 1
  by_cases c : r.getD k false = true
  · rw [if_pos c]; simp only [List.filter_cons, c, if_true, List.filter_nil, List.length_singleton]
  · rw [if_neg c]
    have c' : r.getD k false = false := by simpa using c
    simp only [List.filter_cons, c', List.filter_nil]
    rfl
theorem most_get {w : Nat} {js : List (List Bool)} {k : Nat} (h : k < w) : (mostF w js).getD k false = decide (js.length < 2 * yesN js k) := by
  simp [mostF, List.getD_eq_getElem?_getD, List.getElem?_map, List.getElem?_range h]
/-- no judge brings most nearer to the judge's own row -/
theorem not_gained {w : Nat} {js : List (List Bool)} {i : Nat} (h : i < js.length) (r : List Bool) : unN (mostF w js) (js.getD i []) ≤ unN (mostF w (repl js i r)) (js.getD i []) := by
  unfold unN
  have l1 : (mostF w js).length = w := by simp [mostF]
  have l2 : (mostF w (repl js i r)).length = w := by simp [mostF]
  rw [l1, l2, ← List.countP_eq_length_filter, ← List.countP_eq_length_filter]
  refine List.countP_mono_left fun k hk hd => ?_
  have hk := List.mem_range.mp hk
  rw [most_get hk] at hd ⊢
  rw [repl_len h]
  have y1 := yes_split h k
  have y2 := yes_repl js i r k
  have hd : ¬ decide (js.length < 2 * yesN js k) = (js.getD i []).getD k false := by simpa using hd
  have goal : ¬ decide (js.length < 2 * yesN (repl js i r) k) = (js.getD i []).getD k false := by
    cases c : (js.getD i []).getD k false with
    | true =>
      rw [c] at hd y1
      have hd : ¬ js.length < 2 * yesN js k := by simpa using hd
      simp only [if_true] at y1
      have : yesN (repl js i r) k ≤ yesN js k := by
        rw [y1, y2]
        split <;> omega
      intro z
      have z := of_decide_eq_true z
      omega
    | false =>
      rw [c] at hd y1
      have hd : js.length < 2 * yesN js k := by simpa using hd
      have : yesN js k ≤ yesN (repl js i r) k := by
        rw [y1, y2]
        simp
      intro z
      have z := of_decide_eq_false z
      omega
  simpa using goal
theorem mcall_most (as : List D) (call : Calls) : mcallEv (Str.ofString "row") [(Str.ofString "Most", Str.ofString "Most.row")] (.ok (.obj (Str.ofString "Most") [] [])) (.ok as) call = toE (call (Str.ofString "Most.row") (.obj (Str.ofString "Most") [] [] :: as)) := by
  simp [mcallEv, List.lookup]
section
variable {T : Str → Option Fn}
theorem unlike_ev (f : T "unlike" = some fn_unlike) (n : Nat) {a b : List Bool} (h : a.length = b.length) (hl : a.length ≤ 1000) : evFn T (n + 1) "unlike" [rowD a, rowD b] = .ok (.int (unN a b), false) := by
  rw [evFn_succ f rfl]
  simp only [fn_unlike, startSl]
  have body := lcFold_filter (f := lcBody (CG.name 2) (CIf.one (.cmp _ .ne (.ix .ix (.var 0) (.var 2)) (.ix .ix (.var 1) (.var 2)))) fn_unlike_e0 (evFn T n) [.sh (rowD a), .sh (rowD b), .no]) (fun k : Nat => D.int (0 + (k : Int))) (fun k => !decide (a.getD k false = b.getD k false)) (fun k : Nat => D.int k) (as := List.range a.length) fun k hk => by
    have hk := List.mem_range.mp hk
    have e1 := ixD_row (r := a) hk
    have e2 := ixD_row (r := b) (by rw [← h]; exact hk)
    rw [Int.zero_add]
    generalize a.getD k false = x at *
    generalize b.getD k false = y at *
    generalize rowD a = ad at *
    generalize rowD b = bd at *
    generalize (k : Int) = ki at *
    cases x <;> cases y <;> simp [lcBody, fn_unlike_e0, noEx, e1, e2]
  have rd : rangeD 0 a.length = (List.range a.length).map fun k : Nat => D.int (0 + (k : Int)) := rfl
  rw [← rd] at body
  have rg := rg1_of (show (0 : Int) ≤ (a.length : Int) by omega) (show (a.length : Int) < 4611686018427387904 by omega)
  rw [Int.toNat_natCast] at rg
  have ll : lenD [rowD a] = .ok (.int a.length, .sh) := by simp [rowD]
  have l2 : lenD [.lst (((List.range a.length).filter fun k => !decide (a.getD k false = b.getD k false)).map fun k : Nat => D.int k)] = .ok (.int (unN a b), .sh) := by simp [unN]
  have sl : (((List.range a.length).filter fun k => !decide (a.getD k false = b.getD k false)).map fun k : Nat => D.int k).length ≤ sizeLine := by
    rw [List.length_map]; exact Nat.le_trans (List.length_filter_le _ _) (by simp; exact small_len (by omega))
  generalize ((List.range a.length).filter fun k => !decide (a.getD k false = b.getD k false)).map (fun k : Nat => D.int k) = fd at *
  generalize rowD a = ad at *
  generalize rowD b = bd at *
  generalize rangeD 0 a.length = rr at *
  generalize (a.length : Int) = al at *
  generalize unN a b = u at *
  simp [ll, rg, lcRes_eq, wipeSl, body, l2, sl]
theorem law_unlike_ev (f : T "_law_unlike" = some fn_law_unlike) (n : Nat) {a b : List Bool} (h : a.length = b.length) (hl : a.length ≤ 1000) : evFn T (n + 1) "_law_unlike" [rowD a, rowD b] = .ok (.int (unN a b), false) := by
  rw [evFn_succ f rfl]
  simp only [fn_law_unlike, startSl]
  have body := lcFold_filter (f := lcBody (CG.name 2) (CIf.one (.cmp _ .ne (.ix .ix (.var 0) (.var 2)) (.ix .ix (.var 1) (.var 2)))) fn_law_unlike_e0 (evFn T n) [.sh (rowD a), .sh (rowD b), .no]) (fun k : Nat => D.int (0 + (k : Int))) (fun k => !decide (a.getD k false = b.getD k false)) (fun k : Nat => D.int k) (as := List.range a.length) fun k hk => by
    have hk := List.mem_range.mp hk
    have e1 := ixD_row (r := a) hk
    have e2 := ixD_row (r := b) (by rw [← h]; exact hk)
    rw [Int.zero_add]
    generalize a.getD k false = x at *
    generalize b.getD k false = y at *
    generalize rowD a = ad at *
    generalize rowD b = bd at *
    generalize (k : Int) = ki at *
    cases x <;> cases y <;> simp [lcBody, fn_law_unlike_e0, noEx, e1, e2]
  have rd : rangeD 0 a.length = (List.range a.length).map fun k : Nat => D.int (0 + (k : Int)) := rfl
  rw [← rd] at body
  have rg := rg1_of (show (0 : Int) ≤ (a.length : Int) by omega) (show (a.length : Int) < 4611686018427387904 by omega)
  rw [Int.toNat_natCast] at rg
  have ll : lenD [rowD a] = .ok (.int a.length, .sh) := by simp [rowD]
  have l2 : lenD [.lst (((List.range a.length).filter fun k => !decide (a.getD k false = b.getD k false)).map fun k : Nat => D.int k)] = .ok (.int (unN a b), .sh) := by simp [unN]
  have sl : (((List.range a.length).filter fun k => !decide (a.getD k false = b.getD k false)).map fun k : Nat => D.int k).length ≤ sizeLine := by
    rw [List.length_map]; exact Nat.le_trans (List.length_filter_le _ _) (by simp; exact small_len (by omega))
  generalize ((List.range a.length).filter fun k => !decide (a.getD k false = b.getD k false)).map (fun k : Nat => D.int k) = fd at *
  generalize rowD a = ad at *
  generalize rowD b = bd at *
  generalize rangeD 0 a.length = rr at *
  generalize (a.length : Int) = al at *
  generalize unN a b = u at *
  simp [ll, rg, lcRes_eq, wipeSl, body, l2, sl]
theorem most_row_ev (wh : T "who_say" = some fn_who_say) (mo : T "most" = some fn_most) (f : T "Most.row" = some fn_Most_row) (n : Nat) (o s : D) {js : List (List Bool)} {w : Nat} (hw : ∀ r ∈ js, r.length = w) (h0 : js ≠ []) (hj : js.length ≤ 1000) (h6 : w ≤ 1000) :
    evFn T (n + 3) "Most.row" [o, s, judD js] = .ok (rowD (mostF w js), false) := by
  have e := most_ev (T := T) wh mo n hw h0 hj h6
  rw [evFn_succ f rfl]
  simp only [fn_Most_row, startSl]
  generalize judD js = jd at *
  generalize rowD (mostF w js) = rd at *
  generalize evFn T (n + 2) = E at *
  simp [e]
theorem splice {js : List (List Bool)} {i : Nat} (h : i < js.length) (hl : js.length ≤ 1000) (r : List Bool) : ∃ p1 p2 p3 : List D, sliceD (judD js) none (some (i : Int)) = .ok (.tup p1, .sh) ∧ addD (.tup p1) (.tup [rowD r]) = .ok (.tup p2, .sh) ∧ sliceD (judD js) (some ((i : Int) + 1)) none = .ok (.tup p3, .sh) ∧
    addD (.tup p2) (.tup p3) = .ok (judD (repl js i r), .sh) := by
  have c1 : cutD (js.map rowD) none (some (i : Int)) = (js.take i).map rowD := by rw [cutD_to _ (by omega), List.map_take]; rfl
  have c2 : cutD (js.map rowD) (some ((i : Int) + 1)) none = (js.drop (i + 1)).map rowD := by
    rw [cutD_from _ (by omega), List.map_drop]
    have : ((i : Int) + 1).toNat = i + 1 := by omega
    rw [this]
  refine ⟨(js.take i).map rowD, (js.take i ++ [r]).map rowD, (js.drop (i + 1)).map rowD, ?_, ?_, ?_, ?_⟩
  · show Res.ok (D.tup (cutD (js.map rowD) none (some (i : Int))), Fr.sh) = _
    rw [c1]
  · rw [addD_tup (by simp; omega), List.map_append]; rfl
  · show Res.ok (D.tup (cutD (js.map rowD) (some ((i : Int) + 1)) none), Fr.sh) = _
    rw [c2]
  · rw [addD_tup (by simp; omega), ← List.map_append]; rfl
def mostO : D := .obj (Str.ofString "Most") [] []
theorem gains_ev (wh : T "who_say" = some fn_who_say) (mo : T "most" = some fn_most) (mr : T "Most.row" = some fn_Most_row) (un : T "unlike" = some fn_unlike) (li : T "letters_in" = some fn_letters_in) (ni : T "names_in" = some fn_names_in) (no : T "names_of" = some fn_names_of) (so : T "is_so" = some fn_is_so) (ro : T "row_of" = some fn_row_of) (hb : T "held_by" = some fn_held_by)
    (fr : T "fit_rows" = some fn_fit_rows) (f : T "gains" = some fn_gains) (n : Nat) {ss : List Sy} (L : Lst ss) {js : List (List Bool)} (hw : ∀ r ∈ js, r.length = ss.length) (hj : js.length ≤ 1000) {i : Nat} (hi : i < js.length) :
    evFn T (n + 44) "gains" [mostO, .tup (ss.map enc), judD js, .int (i : Nat)] = .ok (.non, false) := by
  have s6 := L.le
  have h0 : js ≠ [] := fun z => by subst z; simp at hi
  have ja := js_at hw hi
  have ml : (mostF ss.length js).length = ss.length := by simp [mostF]
  have er := most_row_ev (T := T) wh mo mr (n + 40) mostO (.tup (ss.map enc)) hw h0 hj (by omega)
  have eu := unlike_ev (T := T) un (n + 42) (a := mostF ss.length js) (b := js.getD i []) (by rw [ml, ja.1]) (by omega)
  have ef := fit_rows_evP (T := T) li ni no so ro hb fr n L
  have e2 := ja.2
  rw [evFn_succ f rfl]
  simp only [fn_gains, startSl]
  change evFn T (n + 43) _ _ = _ at er
  change evFn T (n + 43) _ _ = _ at eu
  change evFn T (n + 43) _ _ = _ at ef
  obtain ⟨ρ, eρ, x6, x7, rfl⟩ := forFold_nx (step := forStep (CG.name 6) fn_gains_b0 (evFn T (n + 43))) (ds := (fitR ss).map rowD) (ρ := [.sh mostO, .sh (.tup (ss.map enc)), .sh (judD js), .sh (.int (i : Nat)), .sh (rowD (js.getD i [])), .sh (.int (unN (mostF ss.length js) (js.getD i []))), .no, .no])
    (fun _ ρ => ∃ x6 x7, ρ = [.sh mostO, .sh (.tup (ss.map enc)), .sh (judD js), .sh (.int (i : Nat)), .sh (rowD (js.getD i [])), .sh (.int (unN (mostF ss.length js) (js.getD i []))), x6, x7]) ⟨_, _, rfl⟩ (by
      rintro k d ρ hd ⟨x6, x7, rfl⟩
      rw [List.getElem?_map, Option.map_eq_some_iff] at hd
      obtain ⟨r, hr, rfl⟩ := hd
      have rl : r.length = ss.length := fitR_len (List.mem_of_getElem? hr)
      obtain ⟨p1, p2, p3, q1, q2, q3, q4⟩ := splice hi hj r
      have hw' : ∀ x ∈ repl js i r, x.length = ss.length := fun x hx => by
        rcases repl_mem hx with h | h
        · exact hw x h
        · rw [h]; exact rl
      have rlen := repl_len hi r
      have h0' : repl js i r ≠ [] := fun z => by rw [z] at rlen; simp at rlen; omega
      have er' := most_row_ev (T := T) wh mo mr (n + 40) mostO (.tup (ss.map enc)) hw' h0' (by omega) (by omega)
      have ml' : (mostF ss.length (repl js i r)).length = ss.length := by simp [mostF]
      have eu' := unlike_ev (T := T) un (n + 42) (a := mostF ss.length (repl js i r)) (b := js.getD i []) (by rw [ml', ja.1]) (by omega)
      have ng := not_gained (w := ss.length) hi r
      have ngI : ¬ ((unN (mostF ss.length (repl js i r)) (js.getD i []) : Nat) : Int) < ((unN (mostF ss.length js) (js.getD i []) : Nat) : Int) := by omega
      have one : 1 ≤ sizeLine := by decide
      change evFn T (n + 43) _ _ = _ at er'
      change evFn T (n + 43) _ _ = _ at eu'
      clear er eu ef ng
      unfold mostO at *
      generalize ((unN (mostF ss.length (repl js i r)) (js.getD i []) : Nat) : Int) = u2 at *
      generalize ((unN (mostF ss.length js) (js.getD i []) : Nat) : Int) = u1 at *
      generalize rowD (mostF ss.length (repl js i r)) = m2 at *
      generalize judD (repl js i r) = jd2 at *
      generalize rowD (js.getD i []) = own at *
      generalize rowD r = rd at *
      generalize judD js = jd at *
      generalize ss.map enc = sse at *
      generalize evFn T (n + 43) = E at *
      generalize (i : Int) = ii at *
      simp [forStep, fn_gains_b0, q1, q2, q3, q4, one, mcall_most, er', eu', ngI])
  unfold mostO at *
  generalize ((unN (mostF ss.length js) (js.getD i []) : Nat) : Int) = u1 at *
  generalize (fitR ss).map rowD = frd at *
  generalize rowD (mostF ss.length js) = m1 at *
  generalize rowD (js.getD i []) = own at *
  generalize judD js = jd at *
  generalize ss.map enc = sse at *
  generalize evFn T (n + 43) = E at *
  generalize (i : Int) = ii at *
  simp [e2, mcall_most, er, eu, ef, eρ]
end
end MJ

namespace MJ.k52
open PySem PySem.Spec PyProof.Rows L2
def tbl : List (Str × Fn) := [(("letters_in" : Str), fn_letters_in), (("names_in" : Str), fn_names_in), (("is_so" : Str), fn_is_so), (("held_by" : Str), fn_held_by), (("names_of" : Str), fn_names_of), (("row_of" : Str), fn_row_of), (("fit_rows" : Str), fn_fit_rows), (("unlike" : Str), fn_unlike), (("gains" : Str), fn_gains), (("who_say" : Str), fn_who_say), (("most" : Str), fn_most), (("_law_cell" : Str), fn_law_cell), (("_law_pick" : Str), fn_law_pick), (("_law_names" : Str), fn_law_names), (("_law_saying" : Str), fn_law_saying1), (("_law_so" : Str), fn_law_so), (("_law_held" : Str), fn_law_held), (("_law_within" : Str), fn_law_within), (("_law_all_names" : Str), fn_law_all_names), (("_law_knit" : Str), fn_law_knit2), (("_law_linked" : Str), fn_law_linked1), (("_law_list" : Str), fn_law_list), (("_law_row" : Str), fn_law_row), (("_law_fit_rows" : Str), fn_law_fit_rows), (("_law_unlike" : Str), fn_law_unlike), (("_law_holds_for" : Str), fn_law_holds_for7), (("_law_free" : Str), fn_law_free), (("law" : Str), fn_law3), (("Most.row" : Str), fn_Most_row)]
def T (x : Str) : Option Fn := tbl.lookup x
theorem T_letters_in : T "letters_in" = some fn_letters_in := by kernel_rfl
theorem T_names_in : T "names_in" = some fn_names_in := by kernel_rfl
theorem T_is_so : T "is_so" = some fn_is_so := by kernel_rfl
theorem T_held_by : T "held_by" = some fn_held_by := by kernel_rfl
theorem T_names_of : T "names_of" = some fn_names_of := by kernel_rfl
theorem T_row_of : T "row_of" = some fn_row_of := by kernel_rfl
theorem T_fit_rows : T "fit_rows" = some fn_fit_rows := by kernel_rfl
theorem T_unlike : T "unlike" = some fn_unlike := by kernel_rfl
theorem T_gains : T "gains" = some fn_gains := by kernel_rfl
theorem T_who_say : T "who_say" = some fn_who_say := by kernel_rfl
theorem T_most : T "most" = some fn_most := by kernel_rfl
theorem T_law_cell : T "_law_cell" = some fn_law_cell := by kernel_rfl
theorem T_law_pick : T "_law_pick" = some fn_law_pick := by kernel_rfl
theorem T_law_names : T "_law_names" = some fn_law_names := by kernel_rfl
theorem T_law_saying : T "_law_saying" = some fn_law_saying1 := by kernel_rfl
theorem T_law_so : T "_law_so" = some fn_law_so := by kernel_rfl
theorem T_law_held : T "_law_held" = some fn_law_held := by kernel_rfl
theorem T_law_within : T "_law_within" = some fn_law_within := by kernel_rfl
theorem T_law_all_names : T "_law_all_names" = some fn_law_all_names := by kernel_rfl
theorem T_law_knit : T "_law_knit" = some fn_law_knit2 := by kernel_rfl
theorem T_law_linked : T "_law_linked" = some fn_law_linked1 := by kernel_rfl
theorem T_law_list : T "_law_list" = some fn_law_list := by kernel_rfl
theorem T_law_row : T "_law_row" = some fn_law_row := by kernel_rfl
theorem T_law_fit_rows : T "_law_fit_rows" = some fn_law_fit_rows := by kernel_rfl
theorem T_law_unlike : T "_law_unlike" = some fn_law_unlike := by kernel_rfl
theorem T_law_holds_for : T "_law_holds_for" = some fn_law_holds_for7 := by kernel_rfl
theorem T_law_free : T "_law_free" = some fn_law_free := by kernel_rfl
theorem T_law : T "law" = some fn_law3 := by kernel_rfl
theorem T_Most_row : T "Most.row" = some fn_Most_row := by kernel_rfl
theorem holds_ev (ns : List Int) (hl' : ns.length ≤ 4000) : evFn T 139 "_law_holds_for" [sc ns] = .ok (.bl true, false) := by
  obtain ⟨ss, el, L⟩ := list0_ev ns T_law_cell T_law_pick T_law_names T_law_knit T_law_linked T_law_list hl' 77 (SayOk.plain ns T_law_cell T_law_pick T_law_saying hl' 95) (k := 0) (by decide) (by decide)
  have ef := fit_rows_ev (T := T) T_law_within T_law_all_names T_law_held T_law_so T_law_row T_law_fit_rows 96 L
  have s6 := L.le
  have f32 := L.fit_le
  have fne := fitR_ne ss
  obtain ⟨r, r0, r1, e1⟩ := pick_ev ns T_law_cell T_law_pick hl' 136 (k := 30) (m := 5) (by decide) (bdk (by decide) (by decide)) (by decide)
  have m2 : CMulW 2 r := cmul_of (show bd 2 2 by decide) (bdk (a := 20) r0 (by omega))
  obtain ⟨m, hm⟩ : ∃ m : Nat, (m : Int) = 1 + 2 * r := ⟨(1 + 2 * r).toNat, Int.toNat_of_nonneg (by omega)⟩
  have hr0 : 0 < (fitR ss).length := List.length_pos_iff.mpr fne
  rw [evFn_succ T_law_holds_for rfl]
  simp only [fn_law_holds_for7, startSl]
  have rg := rg1_of (show (0 : Int) ≤ (m : Int) by omega) (show (m : Int) < 4611686018427387904 by omega)
  rw [Int.toNat_natCast] at rg
  obtain ⟨js, ejs, jl, jr⟩ := lcFold_all (f := lcBody (CG.name 10) CIf.no fn_law_holds_for7_e0 (evFn T 138) [.sh (sc ns), .sh (.tup (ss.map enc)), .ow (.lst ((fitR ss).map rowD)), .sh (.int (m : Nat)), .no, .no, .no, .no, .no, .no, .no]) (g := rowD) (R := fun _ r => r ∈ fitR ss) (ds := rangeD 0 m) fun d hd => by
    obtain ⟨i, hi⟩ := List.mem_iff_getElem?.mp hd
    obtain ⟨hi, rfl⟩ := rangeD_get hi
    obtain ⟨v, er⟩ := cell_ev ns T_law_cell hl' 137 (k := 31 + (i : Int)) (by omega) (bdk (by omega) (by omega) (by decide))
    have q0 : 0 ≤ v % ((fitR ss).length : Int) := Int.emod_nonneg _ (by omega)
    have q1 : v % ((fitR ss).length : Int) < (fitR ss).length := Int.emod_lt_of_pos _ (by omega)
    obtain ⟨d, ed, _, hmm⟩ := atI_of (xs := (fitR ss).map rowD) q0 (by simpa using q1)
    obtain ⟨row, hrow, rfl⟩ := List.mem_map.mp hmm
    refine ⟨row, ?_, hrow⟩
    have nz : ((fitR ss).length : Int) ≠ 0 := by omega
    have ix := ixD_lst ed
    have rl : ((fitR ss).map rowD).length = (fitR ss).length := by simp
    generalize (fitR ss).map rowD = rd at *
    rw [← rl] at nz ix
    have nz' : rd ≠ [] := fun z => by subst z; simp at nz
    have nz2 : 0 < rd.length := List.length_pos_iff.mpr nz'
    generalize ss.map enc = sse at *
    simp [lcBody, fn_law_holds_for7_e0, noEx, er, nz, nz2, ix]
  rw [rangeD_len] at jl
  have hw : ∀ r ∈ js, r.length = ss.length := fun r hx => by
    obtain ⟨i, hi⟩ := List.mem_iff_getElem?.mp hx
    have hi2 : i < (rangeD 0 m).length := by rw [rangeD_len, ← jl]; exact (List.getElem?_eq_some_iff.mp hi).1
    exact fitR_len (jr i _ r (List.getElem?_eq_getElem hi2) hi)
  have j0 : js ≠ [] := fun z => by subst z; simp at jl; omega
  have jsz : (js.map rowD).length ≤ sizeLine := by rw [List.length_map]; exact small_len (by omega)
  have jD : D.tup (js.map rowD) = judD js := rfl
  have mlen : (mostF ss.length js).length = ss.length := by simp [mostF]
  have er := most_row_ev (T := T) T_who_say T_most T_Most_row 135 mostO (.tup (ss.map enc)) hw j0 (by omega) (by omega)
  change evFn T 138 _ _ = _ at er
  change evFn T 138 _ _ = _ at el
  change evFn T 138 _ _ = _ at ef
  change evFn T 138 _ _ = _ at e1
  obtain ⟨ρ, eρ, q2, x6, x7, x8, x9, rfl, _⟩ := forFold_nx (step := forStep (CG.name 6) fn_law_holds_for7_b1 (evFn T 138)) (ds := rangeD 0 m) (ρ := [.sh (sc ns), .sh (.tup (ss.map enc)), .ow (.lst ((fitR ss).map rowD)), .sh (.int (m : Nat)), .sh (judD js), .sh mostO, .no, .no, .no, .no, .no])
    (fun _ ρ => ∃ q2 x6 x7 x8 x9, ρ = [.sh (sc ns), .sh (.tup (ss.map enc)), q2, .sh (.int (m : Nat)), .sh (judD js), .sh mostO, x6, x7, x8, x9, .no] ∧ (q2 = .ow (.lst ((fitR ss).map rowD)) ∨ q2 = .sh (.lst ((fitR ss).map rowD)))) ⟨_, _, _, _, _, rfl, .inl rfl⟩ (by
      rintro i d ρ hd ⟨q2, x6, x7, x8, x9, rfl, hq2⟩
      obtain ⟨hi, rfl⟩ := rangeD_get hd
      have hi : i < js.length := by rw [jl]; exact hi
      have ja := js_at hw hi
      have eg := gains_ev (T := T) T_who_say T_most T_Most_row T_unlike T_letters_in T_names_in T_names_of T_is_so T_row_of T_held_by T_fit_rows T_gains 94 L hw (by omega) hi
      change evFn T 138 _ _ = _ at eg
      have eu := law_unlike_ev (T := T) T_law_unlike 137 (a := mostF ss.length js) (b := js.getD i []) (by rw [mlen, ja.1]) (by omega)
      change evFn T 138 _ _ = _ at eu
      have e2 := ja.2
      obtain ⟨ρ2, e2ρ, y8, y9, rfl⟩ := forFold_nx (step := forStep (CG.name 8) fn_law_holds_for7_b0 (evFn T 138)) (ds := (fitR ss).map rowD) (ρ := [.sh (sc ns), .sh (.tup (ss.map enc)), .sh (.lst ((fitR ss).map rowD)), .sh (.int (m : Nat)), .sh (judD js), .sh mostO, .sh (.int (i : Nat)), .sh (.int (unN (mostF ss.length js) (js.getD i []))), x8, x9, .no])
        (fun _ ρ => ∃ y8 y9, ρ = [.sh (sc ns), .sh (.tup (ss.map enc)), .sh (.lst ((fitR ss).map rowD)), .sh (.int (m : Nat)), .sh (judD js), .sh mostO, .sh (.int (i : Nat)), .sh (.int (unN (mostF ss.length js) (js.getD i []))), y8, y9, .no]) ⟨_, _, rfl⟩ (by
          rintro k d ρ hd ⟨y8, y9, rfl⟩
          rw [List.getElem?_map, Option.map_eq_some_iff] at hd
          obtain ⟨r, hr, rfl⟩ := hd
          have rl : r.length = ss.length := fitR_len (List.mem_of_getElem? hr)
          obtain ⟨p1, p2, p3, q1, q2, q3, q4⟩ := splice hi (by omega) r
          have hw' : ∀ x ∈ repl js i r, x.length = ss.length := fun x hx => by
            rcases repl_mem hx with h | h
            · exact hw x h
            · rw [h]; exact rl
          have rlen := repl_len hi r
          have h0' : repl js i r ≠ [] := fun z => by rw [z] at rlen; simp at rlen; omega
          have er' := most_row_ev (T := T) T_who_say T_most T_Most_row 135 mostO (.tup (ss.map enc)) hw' h0' (by omega) (by omega)
          have ml' : (mostF ss.length (repl js i r)).length = ss.length := by simp [mostF]
          have eu' := law_unlike_ev (T := T) T_law_unlike 137 (a := mostF ss.length (repl js i r)) (b := js.getD i []) (by rw [ml', ja.1]) (by omega)
          have ng := not_gained (w := ss.length) hi r
          have ngI : ¬ ((unN (mostF ss.length (repl js i r)) (js.getD i []) : Nat) : Int) < ((unN (mostF ss.length js) (js.getD i []) : Nat) : Int) := by omega
          have one : 1 ≤ sizeLine := by decide
          change evFn T 138 _ _ = _ at er'
          change evFn T 138 _ _ = _ at eu'
          clear er eu ef eg el e1 ejs ng
          unfold mostO at *
          generalize ((unN (mostF ss.length (repl js i r)) (js.getD i []) : Nat) : Int) = u2 at *
          generalize ((unN (mostF ss.length js) (js.getD i []) : Nat) : Int) = u1 at *
          generalize rowD (mostF ss.length (repl js i r)) = m2 at *
          generalize judD (repl js i r) = jd2 at *
          generalize rowD (js.getD i []) = own at *
          generalize rowD r = rd at *
          generalize judD js = jd at *
          generalize (fitR ss).map rowD = frd at *
          generalize ss.map enc = sse at *
          generalize evFn T 138 = E at *
          generalize (i : Int) = ii at *
          generalize (m : Int) = mi at *
          simp [forStep, fn_law_holds_for7_b0, q1, q2, q3, q4, one, mcall_most, er', e2, eu', ngI])
      refine nx_gen fun Q hQ => ?_
      have gq := hQ [.sh (sc ns), .sh (.tup (ss.map enc)), .sh (.lst ((fitR ss).map rowD)), .sh (.int (m : Nat)), .sh (judD js), .sh mostO, .sh (.int (i : Nat)), .sh (.int (unN (mostF ss.length js) (js.getD i []))), y8, y9, .no] ⟨_, _, _, _, _, rfl, .inr rfl⟩
      clear hQ ef el e1 ejs
      unfold mostO at *
      generalize ((unN (mostF ss.length js) (js.getD i []) : Nat) : Int) = u1 at *
      generalize rowD (mostF ss.length js) = m1 at *
      generalize rowD (js.getD i []) = own at *
      generalize judD js = jd at *
      generalize (fitR ss).map rowD = frd at *
      generalize ss.map enc = sse at *
      generalize evFn T 138 = E at *
      generalize (i : Int) = ii at *
      generalize (m : Int) = mi at *
      rcases hq2 with rfl | rfl <;> simp [forStep, fn_law_holds_for7_b1, eg, mcall_most, er, e2, eu, shareSl, e2ρ, gq])
  clear er
  unfold mostO at *
  rw [← jD] at eρ
  generalize js.map rowD = jm at *
  generalize (fitR ss).map rowD = frd at *
  generalize ss.map enc = sse at *
  generalize rangeD 0 m = rr at *
  generalize evFn T 138 = E at *
  have hm' := hm.symm
  simp [el, ef, e1, m2, hm', rg, lcRes_eq, wipeSl, ejs, jsz, eρ]
theorem law_ev (ns : List Int) (hl : ns.length ≤ 63) : ∃ b, evFn T 140 "law" [sc ns] = .ok (.bl true, b) := by
  obtain ⟨ms, b, ef, hm⟩ := free_ev ns T_law_free 138 hl
  have eh := holds_ev ms hm
  change evFn T 139 _ _ = _ at ef
  rw [evFn_succ T_law rfl]
  simp only [fn_law3, startSl]
  generalize evFn T 139 = E at *
  exact ⟨false, by cases b <;> simp [ef, eh]⟩
def topS (i : Nat) : Stmt := PySem.Challenge.pw_manyjudges_k52_whole_most_not_gained.main.body.getD i (.Pass ⟨0, 0, 0, 0⟩)
def names : List Str := [("letters_in" : Str), ("names_in" : Str), ("is_so" : Str), ("held_by" : Str), ("names_of" : Str), ("row_of" : Str), ("fit_rows" : Str), ("unlike" : Str), ("gains" : Str), ("who_say" : Str), ("most" : Str), ("_law_cell" : Str), ("_law_pick" : Str), ("_law_names" : Str), ("_law_saying" : Str), ("_law_so" : Str), ("_law_held" : Str), ("_law_within" : Str), ("_law_all_names" : Str), ("_law_knit" : Str), ("_law_linked" : Str), ("_law_list" : Str), ("_law_row" : Str), ("_law_fit_rows" : Str), ("_law_unlike" : Str), ("_law_holds_for" : Str), ("_law_free" : Str), ("law" : Str)]
def dnames : List Str := []
def facts : List Fact := [.cls "Most"]
def meths : List (Str × Str × Str) := [("Most", "row", "Most.row")]
def clsBody : Stmt → List Stmt
  | .ClassDef (body := b) .. => b
  | _ => []
def topM (k j : Nat) : Stmt := (clsBody (topS k)).getD j (.Pass ⟨0, 0, 0, 0⟩)
theorem scM_18_0 : FnScope fn_Most_row.N fn_Most_row.ps (defScope (topM 18 0)) := ⟨rfl, rfl, rfl, by decide +kernel, rfl, by decide +kernel, by decide +kernel⟩
theorem chM_18_0 : fn_Most_row.body.chk { N := fn_Most_row.N, sc := defScope (topM 18 0), fs := names, cells := fn_Most_row.N, d1 := dnames, fx := facts, top := true, ms := meths } (defBody (topM 18 0)) = true := by decide +kernel
theorem sc_1 : FnScope fn_letters_in.N fn_letters_in.ps (defScope (topS 1)) := ⟨rfl, rfl, rfl, by decide +kernel, rfl, by decide +kernel, by decide +kernel⟩
theorem ch_1 : fn_letters_in.body.chk { N := fn_letters_in.N, sc := defScope (topS 1), fs := names, cells := fn_letters_in.N, d1 := dnames, fx := facts, top := true, ms := meths } (defBody (topS 1)) = true := by decide +kernel
theorem sc_2 : FnScope fn_names_in.N fn_names_in.ps (defScope (topS 2)) := ⟨rfl, rfl, rfl, by decide +kernel, rfl, by decide +kernel, by decide +kernel⟩
theorem ch_2 : fn_names_in.body.chk { N := fn_names_in.N, sc := defScope (topS 2), fs := names, cells := fn_names_in.N, d1 := dnames, fx := facts, top := true, ms := meths } (defBody (topS 2)) = true := by decide +kernel
theorem sc_3 : FnScope fn_is_so.N fn_is_so.ps (defScope (topS 3)) := ⟨rfl, rfl, rfl, by decide +kernel, rfl, by decide +kernel, by decide +kernel⟩
theorem ch_3 : fn_is_so.body.chk { N := fn_is_so.N, sc := defScope (topS 3), fs := names, cells := fn_is_so.N, d1 := dnames, fx := facts, top := true, ms := meths } (defBody (topS 3)) = true := by decide +kernel
theorem sc_5 : FnScope fn_held_by.N fn_held_by.ps (defScope (topS 5)) := ⟨rfl, rfl, rfl, by decide +kernel, rfl, by decide +kernel, by decide +kernel⟩
theorem ch_5 : fn_held_by.body.chk { N := fn_held_by.N, sc := defScope (topS 5), fs := names, cells := fn_held_by.N, d1 := dnames, fx := facts, top := true, ms := meths } (defBody (topS 5)) = true := by decide +kernel
theorem sc_7 : FnScope fn_names_of.N fn_names_of.ps (defScope (topS 7)) := ⟨rfl, rfl, rfl, by decide +kernel, rfl, by decide +kernel, by decide +kernel⟩
theorem ch_7 : fn_names_of.body.chk { N := fn_names_of.N, sc := defScope (topS 7), fs := names, cells := fn_names_of.N, d1 := dnames, fx := facts, top := true, ms := meths } (defBody (topS 7)) = true := by decide +kernel
theorem sc_8 : FnScope fn_row_of.N fn_row_of.ps (defScope (topS 8)) := ⟨rfl, rfl, rfl, by decide +kernel, rfl, by decide +kernel, by decide +kernel⟩
theorem ch_8 : fn_row_of.body.chk { N := fn_row_of.N, sc := defScope (topS 8), fs := names, cells := fn_row_of.N, d1 := dnames, fx := facts, top := true, ms := meths } (defBody (topS 8)) = true := by decide +kernel
theorem sc_9 : FnScope fn_fit_rows.N fn_fit_rows.ps (defScope (topS 9)) := ⟨rfl, rfl, rfl, by decide +kernel, rfl, by decide +kernel, by decide +kernel⟩
theorem ch_9 : fn_fit_rows.body.chk { N := fn_fit_rows.N, sc := defScope (topS 9), fs := names, cells := fn_fit_rows.N, d1 := dnames, fx := facts, top := true, ms := meths } (defBody (topS 9)) = true := by decide +kernel
theorem sc_11 : FnScope fn_unlike.N fn_unlike.ps (defScope (topS 11)) := ⟨rfl, rfl, rfl, by decide +kernel, rfl, by decide +kernel, by decide +kernel⟩
theorem ch_11 : fn_unlike.body.chk { N := fn_unlike.N, sc := defScope (topS 11), fs := names, cells := fn_unlike.N, d1 := dnames, fx := facts, top := true, ms := meths } (defBody (topS 11)) = true := by decide +kernel
theorem sc_12 : FnScope fn_gains.N fn_gains.ps (defScope (topS 12)) := ⟨rfl, rfl, rfl, by decide +kernel, rfl, by decide +kernel, by decide +kernel⟩
theorem ch_12 : fn_gains.body.chk { N := fn_gains.N, sc := defScope (topS 12), fs := names, cells := fn_gains.N, d1 := dnames, fx := facts, top := true, ms := meths } (defBody (topS 12)) = true := by decide +kernel
theorem sc_14 : FnScope fn_who_say.N fn_who_say.ps (defScope (topS 14)) := ⟨rfl, rfl, rfl, by decide +kernel, rfl, by decide +kernel, by decide +kernel⟩
theorem ch_14 : fn_who_say.body.chk { N := fn_who_say.N, sc := defScope (topS 14), fs := names, cells := fn_who_say.N, d1 := dnames, fx := facts, top := true, ms := meths } (defBody (topS 14)) = true := by decide +kernel
theorem sc_15 : FnScope fn_most.N fn_most.ps (defScope (topS 15)) := ⟨rfl, rfl, rfl, by decide +kernel, rfl, by decide +kernel, by decide +kernel⟩
theorem ch_15 : fn_most.body.chk { N := fn_most.N, sc := defScope (topS 15), fs := names, cells := fn_most.N, d1 := dnames, fx := facts, top := true, ms := meths } (defBody (topS 15)) = true := by decide +kernel
theorem sc_20 : FnScope fn_law_cell.N fn_law_cell.ps (defScope (topS 20)) := ⟨rfl, rfl, rfl, by decide +kernel, rfl, by decide +kernel, by decide +kernel⟩
theorem ch_20 : fn_law_cell.body.chk { N := fn_law_cell.N, sc := defScope (topS 20), fs := names, cells := fn_law_cell.N, d1 := dnames, fx := facts, top := true, ms := meths } (defBody (topS 20)) = true := by decide +kernel
theorem sc_21 : FnScope fn_law_pick.N fn_law_pick.ps (defScope (topS 21)) := ⟨rfl, rfl, rfl, by decide +kernel, rfl, by decide +kernel, by decide +kernel⟩
theorem ch_21 : fn_law_pick.body.chk { N := fn_law_pick.N, sc := defScope (topS 21), fs := names, cells := fn_law_pick.N, d1 := dnames, fx := facts, top := true, ms := meths } (defBody (topS 21)) = true := by decide +kernel
theorem sc_22 : FnScope fn_law_names.N fn_law_names.ps (defScope (topS 22)) := ⟨rfl, rfl, rfl, by decide +kernel, rfl, by decide +kernel, by decide +kernel⟩
theorem ch_22 : fn_law_names.body.chk { N := fn_law_names.N, sc := defScope (topS 22), fs := names, cells := fn_law_names.N, d1 := dnames, fx := facts, top := true, ms := meths } (defBody (topS 22)) = true := by decide +kernel
theorem sc_23 : FnScope fn_law_saying1.N fn_law_saying1.ps (defScope (topS 23)) := ⟨rfl, rfl, rfl, by decide +kernel, rfl, by decide +kernel, by decide +kernel⟩
theorem ch_23 : fn_law_saying1.body.chk { N := fn_law_saying1.N, sc := defScope (topS 23), fs := names, cells := fn_law_saying1.N, d1 := dnames, fx := facts, top := true, ms := meths } (defBody (topS 23)) = true := by decide +kernel
theorem sc_24 : FnScope fn_law_so.N fn_law_so.ps (defScope (topS 24)) := ⟨rfl, rfl, rfl, by decide +kernel, rfl, by decide +kernel, by decide +kernel⟩
theorem ch_24 : fn_law_so.body.chk { N := fn_law_so.N, sc := defScope (topS 24), fs := names, cells := fn_law_so.N, d1 := dnames, fx := facts, top := true, ms := meths } (defBody (topS 24)) = true := by decide +kernel
theorem sc_25 : FnScope fn_law_held.N fn_law_held.ps (defScope (topS 25)) := ⟨rfl, rfl, rfl, by decide +kernel, rfl, by decide +kernel, by decide +kernel⟩
theorem ch_25 : fn_law_held.body.chk { N := fn_law_held.N, sc := defScope (topS 25), fs := names, cells := fn_law_held.N, d1 := dnames, fx := facts, top := true, ms := meths } (defBody (topS 25)) = true := by decide +kernel
theorem sc_26 : FnScope fn_law_within.N fn_law_within.ps (defScope (topS 26)) := ⟨rfl, rfl, rfl, by decide +kernel, rfl, by decide +kernel, by decide +kernel⟩
theorem ch_26 : fn_law_within.body.chk { N := fn_law_within.N, sc := defScope (topS 26), fs := names, cells := fn_law_within.N, d1 := dnames, fx := facts, top := true, ms := meths } (defBody (topS 26)) = true := by decide +kernel
theorem sc_27 : FnScope fn_law_all_names.N fn_law_all_names.ps (defScope (topS 27)) := ⟨rfl, rfl, rfl, by decide +kernel, rfl, by decide +kernel, by decide +kernel⟩
theorem ch_27 : fn_law_all_names.body.chk { N := fn_law_all_names.N, sc := defScope (topS 27), fs := names, cells := fn_law_all_names.N, d1 := dnames, fx := facts, top := true, ms := meths } (defBody (topS 27)) = true := by decide +kernel
theorem sc_28 : FnScope fn_law_knit2.N fn_law_knit2.ps (defScope (topS 28)) := ⟨rfl, rfl, rfl, by decide +kernel, rfl, by decide +kernel, by decide +kernel⟩
theorem ch_28 : fn_law_knit2.body.chk { N := fn_law_knit2.N, sc := defScope (topS 28), fs := names, cells := fn_law_knit2.N, d1 := dnames, fx := facts, top := true, ms := meths } (defBody (topS 28)) = true := by decide +kernel
theorem sc_29 : FnScope fn_law_linked1.N fn_law_linked1.ps (defScope (topS 29)) := ⟨rfl, rfl, rfl, by decide +kernel, rfl, by decide +kernel, by decide +kernel⟩
theorem ch_29 : fn_law_linked1.body.chk { N := fn_law_linked1.N, sc := defScope (topS 29), fs := names, cells := fn_law_linked1.N, d1 := dnames, fx := facts, top := true, ms := meths } (defBody (topS 29)) = true := by decide +kernel
theorem sc_30 : FnScope fn_law_list.N fn_law_list.ps (defScope (topS 30)) := ⟨rfl, rfl, rfl, by decide +kernel, rfl, by decide +kernel, by decide +kernel⟩
theorem ch_30 : fn_law_list.body.chk { N := fn_law_list.N, sc := defScope (topS 30), fs := names, cells := fn_law_list.N, d1 := dnames, fx := facts, top := true, ms := meths } (defBody (topS 30)) = true := by decide +kernel
theorem sc_31 : FnScope fn_law_row.N fn_law_row.ps (defScope (topS 31)) := ⟨rfl, rfl, rfl, by decide +kernel, rfl, by decide +kernel, by decide +kernel⟩
theorem ch_31 : fn_law_row.body.chk { N := fn_law_row.N, sc := defScope (topS 31), fs := names, cells := fn_law_row.N, d1 := dnames, fx := facts, top := true, ms := meths } (defBody (topS 31)) = true := by decide +kernel
theorem sc_32 : FnScope fn_law_fit_rows.N fn_law_fit_rows.ps (defScope (topS 32)) := ⟨rfl, rfl, rfl, by decide +kernel, rfl, by decide +kernel, by decide +kernel⟩
theorem ch_32 : fn_law_fit_rows.body.chk { N := fn_law_fit_rows.N, sc := defScope (topS 32), fs := names, cells := fn_law_fit_rows.N, d1 := dnames, fx := facts, top := true, ms := meths } (defBody (topS 32)) = true := by decide +kernel
theorem sc_33 : FnScope fn_law_unlike.N fn_law_unlike.ps (defScope (topS 33)) := ⟨rfl, rfl, rfl, by decide +kernel, rfl, by decide +kernel, by decide +kernel⟩
theorem ch_33 : fn_law_unlike.body.chk { N := fn_law_unlike.N, sc := defScope (topS 33), fs := names, cells := fn_law_unlike.N, d1 := dnames, fx := facts, top := true, ms := meths } (defBody (topS 33)) = true := by decide +kernel
theorem sc_34 : FnScope fn_law_holds_for7.N fn_law_holds_for7.ps (defScope (topS 34)) := ⟨rfl, rfl, rfl, by decide +kernel, rfl, by decide +kernel, by decide +kernel⟩
theorem ch_34 : fn_law_holds_for7.body.chk { N := fn_law_holds_for7.N, sc := defScope (topS 34), fs := names, cells := fn_law_holds_for7.N, d1 := dnames, fx := facts, top := true, ms := meths } (defBody (topS 34)) = true := by decide +kernel
theorem sc_35 : FnScope fn_law_free.N fn_law_free.ps (defScope (topS 35)) := ⟨rfl, rfl, rfl, by decide +kernel, rfl, by decide +kernel, by decide +kernel⟩
theorem ch_35 : fn_law_free.body.chk { N := fn_law_free.N, sc := defScope (topS 35), fs := names, cells := fn_law_free.N, d1 := dnames, fx := facts, top := true, ms := meths } (defBody (topS 35)) = true := by decide +kernel
theorem sc_36 : FnScope fn_law3.N fn_law3.ps (defScope (topS 36)) := ⟨rfl, rfl, rfl, by decide +kernel, rfl, by decide +kernel, by decide +kernel⟩
theorem ch_36 : fn_law3.body.chk { N := fn_law3.N, sc := defScope (topS 36), fs := names, cells := fn_law3.N, d1 := dnames, fx := facts, top := true, ms := meths } (defBody (topS 36)) = true := by decide +kernel
def spLaw (K : PySem.W.Frag) : Sp := fun vs H Q _ => ∃ (a : Addr) (ns : List Int), vs = [.ref a] ∧ SqL K H a (ns.map V.int) ∧ ns.length ≤ 63 ∧ ∀ H', Q (.bl true) H'
theorem all_mk {l : PySem.W.OpenLaw} {w : World} {K : PySem.W.Frag} {h : Heap} {mg : Str → Option Value} {fa : Addr} (X : K.In h) (G : h.Ns mainGlobals mg) (hfa : mg "law" = some (.ref fa))
    {f1 : Addr} {od1 an1 : Option Addr} {sl1 : Array (Option Value)} {oc1 kV1 dc1 pm1 cd1 ct1 : Value}
    {f2 : Addr} {od2 an2 : Option Addr} {sl2 : Array (Option Value)} {oc2 kV2 dc2 pm2 cd2 ct2 : Value}
    {f3 : Addr} {od3 an3 : Option Addr} {sl3 : Array (Option Value)} {oc3 kV3 dc3 pm3 cd3 ct3 : Value}
    {f5 : Addr} {od5 an5 : Option Addr} {sl5 : Array (Option Value)} {oc5 kV5 dc5 pm5 cd5 ct5 : Value}
    {f7 : Addr} {od7 an7 : Option Addr} {sl7 : Array (Option Value)} {oc7 kV7 dc7 pm7 cd7 ct7 : Value}
    {f8 : Addr} {od8 an8 : Option Addr} {sl8 : Array (Option Value)} {oc8 kV8 dc8 pm8 cd8 ct8 : Value}
    {f9 : Addr} {od9 an9 : Option Addr} {sl9 : Array (Option Value)} {oc9 kV9 dc9 pm9 cd9 ct9 : Value}
    {f11 : Addr} {od11 an11 : Option Addr} {sl11 : Array (Option Value)} {oc11 kV11 dc11 pm11 cd11 ct11 : Value}
    {f12 : Addr} {od12 an12 : Option Addr} {sl12 : Array (Option Value)} {oc12 kV12 dc12 pm12 cd12 ct12 : Value}
    {f14 : Addr} {od14 an14 : Option Addr} {sl14 : Array (Option Value)} {oc14 kV14 dc14 pm14 cd14 ct14 : Value}
    {f15 : Addr} {od15 an15 : Option Addr} {sl15 : Array (Option Value)} {oc15 kV15 dc15 pm15 cd15 ct15 : Value}
    {f20 : Addr} {od20 an20 : Option Addr} {sl20 : Array (Option Value)} {oc20 kV20 dc20 pm20 cd20 ct20 : Value}
    {f21 : Addr} {od21 an21 : Option Addr} {sl21 : Array (Option Value)} {oc21 kV21 dc21 pm21 cd21 ct21 : Value}
    {f22 : Addr} {od22 an22 : Option Addr} {sl22 : Array (Option Value)} {oc22 kV22 dc22 pm22 cd22 ct22 : Value}
    {f23 : Addr} {od23 an23 : Option Addr} {sl23 : Array (Option Value)} {oc23 kV23 dc23 pm23 cd23 ct23 : Value}
    {f24 : Addr} {od24 an24 : Option Addr} {sl24 : Array (Option Value)} {oc24 kV24 dc24 pm24 cd24 ct24 : Value}
    {f25 : Addr} {od25 an25 : Option Addr} {sl25 : Array (Option Value)} {oc25 kV25 dc25 pm25 cd25 ct25 : Value}
    {f26 : Addr} {od26 an26 : Option Addr} {sl26 : Array (Option Value)} {oc26 kV26 dc26 pm26 cd26 ct26 : Value}
    {f27 : Addr} {od27 an27 : Option Addr} {sl27 : Array (Option Value)} {oc27 kV27 dc27 pm27 cd27 ct27 : Value}
    {f28 : Addr} {od28 an28 : Option Addr} {sl28 : Array (Option Value)} {oc28 kV28 dc28 pm28 cd28 ct28 : Value}
    {f29 : Addr} {od29 an29 : Option Addr} {sl29 : Array (Option Value)} {oc29 kV29 dc29 pm29 cd29 ct29 : Value}
    {f30 : Addr} {od30 an30 : Option Addr} {sl30 : Array (Option Value)} {oc30 kV30 dc30 pm30 cd30 ct30 : Value}
    {f31 : Addr} {od31 an31 : Option Addr} {sl31 : Array (Option Value)} {oc31 kV31 dc31 pm31 cd31 ct31 : Value}
    {f32 : Addr} {od32 an32 : Option Addr} {sl32 : Array (Option Value)} {oc32 kV32 dc32 pm32 cd32 ct32 : Value}
    {f33 : Addr} {od33 an33 : Option Addr} {sl33 : Array (Option Value)} {oc33 kV33 dc33 pm33 cd33 ct33 : Value}
    {f34 : Addr} {od34 an34 : Option Addr} {sl34 : Array (Option Value)} {oc34 kV34 dc34 pm34 cd34 ct34 : Value}
    {f35 : Addr} {od35 an35 : Option Addr} {sl35 : Array (Option Value)} {oc35 kV35 dc35 pm35 cd35 ct35 : Value}
    {f36 : Addr} {od36 an36 : Option Addr} {sl36 : Array (Option Value)} {oc36 kV36 dc36 pm36 cd36 ct36 : Value}
    (a1 : PySem.W.nsIn K mainGlobals "letters_in" = some (some (.ref f1))) (l1 : K.lookup f1 = some ⟨oc1, od1, .func (PySem.W.fnOf "letters_in" "letters_in" (defArgs (topS 1)) (defBody (topS 1)) (defScope (topS 1)) .none kV1 dc1 pm1 an1 cd1 ct1), sl1⟩) (c1 : PySem.W.codeIn K cd1 "letters_in" = true) (k1 : PySem.W.keepIn K (.ref f1) = true)
    (a2 : PySem.W.nsIn K mainGlobals "names_in" = some (some (.ref f2))) (l2 : K.lookup f2 = some ⟨oc2, od2, .func (PySem.W.fnOf "names_in" "names_in" (defArgs (topS 2)) (defBody (topS 2)) (defScope (topS 2)) .none kV2 dc2 pm2 an2 cd2 ct2), sl2⟩) (c2 : PySem.W.codeIn K cd2 "names_in" = true) (k2 : PySem.W.keepIn K (.ref f2) = true)
    (a3 : PySem.W.nsIn K mainGlobals "is_so" = some (some (.ref f3))) (l3 : K.lookup f3 = some ⟨oc3, od3, .func (PySem.W.fnOf "is_so" "is_so" (defArgs (topS 3)) (defBody (topS 3)) (defScope (topS 3)) .none kV3 dc3 pm3 an3 cd3 ct3), sl3⟩) (c3 : PySem.W.codeIn K cd3 "is_so" = true) (k3 : PySem.W.keepIn K (.ref f3) = true)
    (a5 : PySem.W.nsIn K mainGlobals "held_by" = some (some (.ref f5))) (l5 : K.lookup f5 = some ⟨oc5, od5, .func (PySem.W.fnOf "held_by" "held_by" (defArgs (topS 5)) (defBody (topS 5)) (defScope (topS 5)) .none kV5 dc5 pm5 an5 cd5 ct5), sl5⟩) (c5 : PySem.W.codeIn K cd5 "held_by" = true) (k5 : PySem.W.keepIn K (.ref f5) = true)
    (a7 : PySem.W.nsIn K mainGlobals "names_of" = some (some (.ref f7))) (l7 : K.lookup f7 = some ⟨oc7, od7, .func (PySem.W.fnOf "names_of" "names_of" (defArgs (topS 7)) (defBody (topS 7)) (defScope (topS 7)) .none kV7 dc7 pm7 an7 cd7 ct7), sl7⟩) (c7 : PySem.W.codeIn K cd7 "names_of" = true) (k7 : PySem.W.keepIn K (.ref f7) = true)
    (a8 : PySem.W.nsIn K mainGlobals "row_of" = some (some (.ref f8))) (l8 : K.lookup f8 = some ⟨oc8, od8, .func (PySem.W.fnOf "row_of" "row_of" (defArgs (topS 8)) (defBody (topS 8)) (defScope (topS 8)) .none kV8 dc8 pm8 an8 cd8 ct8), sl8⟩) (c8 : PySem.W.codeIn K cd8 "row_of" = true) (k8 : PySem.W.keepIn K (.ref f8) = true)
    (a9 : PySem.W.nsIn K mainGlobals "fit_rows" = some (some (.ref f9))) (l9 : K.lookup f9 = some ⟨oc9, od9, .func (PySem.W.fnOf "fit_rows" "fit_rows" (defArgs (topS 9)) (defBody (topS 9)) (defScope (topS 9)) .none kV9 dc9 pm9 an9 cd9 ct9), sl9⟩) (c9 : PySem.W.codeIn K cd9 "fit_rows" = true) (k9 : PySem.W.keepIn K (.ref f9) = true)
    (a11 : PySem.W.nsIn K mainGlobals "unlike" = some (some (.ref f11))) (l11 : K.lookup f11 = some ⟨oc11, od11, .func (PySem.W.fnOf "unlike" "unlike" (defArgs (topS 11)) (defBody (topS 11)) (defScope (topS 11)) .none kV11 dc11 pm11 an11 cd11 ct11), sl11⟩) (c11 : PySem.W.codeIn K cd11 "unlike" = true) (k11 : PySem.W.keepIn K (.ref f11) = true)
    (a12 : PySem.W.nsIn K mainGlobals "gains" = some (some (.ref f12))) (l12 : K.lookup f12 = some ⟨oc12, od12, .func (PySem.W.fnOf "gains" "gains" (defArgs (topS 12)) (defBody (topS 12)) (defScope (topS 12)) .none kV12 dc12 pm12 an12 cd12 ct12), sl12⟩) (c12 : PySem.W.codeIn K cd12 "gains" = true) (k12 : PySem.W.keepIn K (.ref f12) = true)
    (a14 : PySem.W.nsIn K mainGlobals "who_say" = some (some (.ref f14))) (l14 : K.lookup f14 = some ⟨oc14, od14, .func (PySem.W.fnOf "who_say" "who_say" (defArgs (topS 14)) (defBody (topS 14)) (defScope (topS 14)) .none kV14 dc14 pm14 an14 cd14 ct14), sl14⟩) (c14 : PySem.W.codeIn K cd14 "who_say" = true) (k14 : PySem.W.keepIn K (.ref f14) = true)
    (a15 : PySem.W.nsIn K mainGlobals "most" = some (some (.ref f15))) (l15 : K.lookup f15 = some ⟨oc15, od15, .func (PySem.W.fnOf "most" "most" (defArgs (topS 15)) (defBody (topS 15)) (defScope (topS 15)) .none kV15 dc15 pm15 an15 cd15 ct15), sl15⟩) (c15 : PySem.W.codeIn K cd15 "most" = true) (k15 : PySem.W.keepIn K (.ref f15) = true)
    (a20 : PySem.W.nsIn K mainGlobals "_law_cell" = some (some (.ref f20))) (l20 : K.lookup f20 = some ⟨oc20, od20, .func (PySem.W.fnOf "_law_cell" "_law_cell" (defArgs (topS 20)) (defBody (topS 20)) (defScope (topS 20)) .none kV20 dc20 pm20 an20 cd20 ct20), sl20⟩) (c20 : PySem.W.codeIn K cd20 "_law_cell" = true) (k20 : PySem.W.keepIn K (.ref f20) = true)
    (a21 : PySem.W.nsIn K mainGlobals "_law_pick" = some (some (.ref f21))) (l21 : K.lookup f21 = some ⟨oc21, od21, .func (PySem.W.fnOf "_law_pick" "_law_pick" (defArgs (topS 21)) (defBody (topS 21)) (defScope (topS 21)) .none kV21 dc21 pm21 an21 cd21 ct21), sl21⟩) (c21 : PySem.W.codeIn K cd21 "_law_pick" = true) (k21 : PySem.W.keepIn K (.ref f21) = true)
    (a22 : PySem.W.nsIn K mainGlobals "_law_names" = some (some (.ref f22))) (l22 : K.lookup f22 = some ⟨oc22, od22, .func (PySem.W.fnOf "_law_names" "_law_names" (defArgs (topS 22)) (defBody (topS 22)) (defScope (topS 22)) .none kV22 dc22 pm22 an22 cd22 ct22), sl22⟩) (c22 : PySem.W.codeIn K cd22 "_law_names" = true) (k22 : PySem.W.keepIn K (.ref f22) = true)
    (a23 : PySem.W.nsIn K mainGlobals "_law_saying" = some (some (.ref f23))) (l23 : K.lookup f23 = some ⟨oc23, od23, .func (PySem.W.fnOf "_law_saying" "_law_saying" (defArgs (topS 23)) (defBody (topS 23)) (defScope (topS 23)) .none kV23 dc23 pm23 an23 cd23 ct23), sl23⟩) (c23 : PySem.W.codeIn K cd23 "_law_saying" = true) (k23 : PySem.W.keepIn K (.ref f23) = true)
    (a24 : PySem.W.nsIn K mainGlobals "_law_so" = some (some (.ref f24))) (l24 : K.lookup f24 = some ⟨oc24, od24, .func (PySem.W.fnOf "_law_so" "_law_so" (defArgs (topS 24)) (defBody (topS 24)) (defScope (topS 24)) .none kV24 dc24 pm24 an24 cd24 ct24), sl24⟩) (c24 : PySem.W.codeIn K cd24 "_law_so" = true) (k24 : PySem.W.keepIn K (.ref f24) = true)
    (a25 : PySem.W.nsIn K mainGlobals "_law_held" = some (some (.ref f25))) (l25 : K.lookup f25 = some ⟨oc25, od25, .func (PySem.W.fnOf "_law_held" "_law_held" (defArgs (topS 25)) (defBody (topS 25)) (defScope (topS 25)) .none kV25 dc25 pm25 an25 cd25 ct25), sl25⟩) (c25 : PySem.W.codeIn K cd25 "_law_held" = true) (k25 : PySem.W.keepIn K (.ref f25) = true)
    (a26 : PySem.W.nsIn K mainGlobals "_law_within" = some (some (.ref f26))) (l26 : K.lookup f26 = some ⟨oc26, od26, .func (PySem.W.fnOf "_law_within" "_law_within" (defArgs (topS 26)) (defBody (topS 26)) (defScope (topS 26)) .none kV26 dc26 pm26 an26 cd26 ct26), sl26⟩) (c26 : PySem.W.codeIn K cd26 "_law_within" = true) (k26 : PySem.W.keepIn K (.ref f26) = true)
    (a27 : PySem.W.nsIn K mainGlobals "_law_all_names" = some (some (.ref f27))) (l27 : K.lookup f27 = some ⟨oc27, od27, .func (PySem.W.fnOf "_law_all_names" "_law_all_names" (defArgs (topS 27)) (defBody (topS 27)) (defScope (topS 27)) .none kV27 dc27 pm27 an27 cd27 ct27), sl27⟩) (c27 : PySem.W.codeIn K cd27 "_law_all_names" = true) (k27 : PySem.W.keepIn K (.ref f27) = true)
    (a28 : PySem.W.nsIn K mainGlobals "_law_knit" = some (some (.ref f28))) (l28 : K.lookup f28 = some ⟨oc28, od28, .func (PySem.W.fnOf "_law_knit" "_law_knit" (defArgs (topS 28)) (defBody (topS 28)) (defScope (topS 28)) .none kV28 dc28 pm28 an28 cd28 ct28), sl28⟩) (c28 : PySem.W.codeIn K cd28 "_law_knit" = true) (k28 : PySem.W.keepIn K (.ref f28) = true)
    (a29 : PySem.W.nsIn K mainGlobals "_law_linked" = some (some (.ref f29))) (l29 : K.lookup f29 = some ⟨oc29, od29, .func (PySem.W.fnOf "_law_linked" "_law_linked" (defArgs (topS 29)) (defBody (topS 29)) (defScope (topS 29)) .none kV29 dc29 pm29 an29 cd29 ct29), sl29⟩) (c29 : PySem.W.codeIn K cd29 "_law_linked" = true) (k29 : PySem.W.keepIn K (.ref f29) = true)
    (a30 : PySem.W.nsIn K mainGlobals "_law_list" = some (some (.ref f30))) (l30 : K.lookup f30 = some ⟨oc30, od30, .func (PySem.W.fnOf "_law_list" "_law_list" (defArgs (topS 30)) (defBody (topS 30)) (defScope (topS 30)) .none kV30 dc30 pm30 an30 cd30 ct30), sl30⟩) (c30 : PySem.W.codeIn K cd30 "_law_list" = true) (k30 : PySem.W.keepIn K (.ref f30) = true)
    (a31 : PySem.W.nsIn K mainGlobals "_law_row" = some (some (.ref f31))) (l31 : K.lookup f31 = some ⟨oc31, od31, .func (PySem.W.fnOf "_law_row" "_law_row" (defArgs (topS 31)) (defBody (topS 31)) (defScope (topS 31)) .none kV31 dc31 pm31 an31 cd31 ct31), sl31⟩) (c31 : PySem.W.codeIn K cd31 "_law_row" = true) (k31 : PySem.W.keepIn K (.ref f31) = true)
    (a32 : PySem.W.nsIn K mainGlobals "_law_fit_rows" = some (some (.ref f32))) (l32 : K.lookup f32 = some ⟨oc32, od32, .func (PySem.W.fnOf "_law_fit_rows" "_law_fit_rows" (defArgs (topS 32)) (defBody (topS 32)) (defScope (topS 32)) .none kV32 dc32 pm32 an32 cd32 ct32), sl32⟩) (c32 : PySem.W.codeIn K cd32 "_law_fit_rows" = true) (k32 : PySem.W.keepIn K (.ref f32) = true)
    (a33 : PySem.W.nsIn K mainGlobals "_law_unlike" = some (some (.ref f33))) (l33 : K.lookup f33 = some ⟨oc33, od33, .func (PySem.W.fnOf "_law_unlike" "_law_unlike" (defArgs (topS 33)) (defBody (topS 33)) (defScope (topS 33)) .none kV33 dc33 pm33 an33 cd33 ct33), sl33⟩) (c33 : PySem.W.codeIn K cd33 "_law_unlike" = true) (k33 : PySem.W.keepIn K (.ref f33) = true)
    (a34 : PySem.W.nsIn K mainGlobals "_law_holds_for" = some (some (.ref f34))) (l34 : K.lookup f34 = some ⟨oc34, od34, .func (PySem.W.fnOf "_law_holds_for" "_law_holds_for" (defArgs (topS 34)) (defBody (topS 34)) (defScope (topS 34)) .none kV34 dc34 pm34 an34 cd34 ct34), sl34⟩) (c34 : PySem.W.codeIn K cd34 "_law_holds_for" = true) (k34 : PySem.W.keepIn K (.ref f34) = true)
    (a35 : PySem.W.nsIn K mainGlobals "_law_free" = some (some (.ref f35))) (l35 : K.lookup f35 = some ⟨oc35, od35, .func (PySem.W.fnOf "_law_free" "_law_free" (defArgs (topS 35)) (defBody (topS 35)) (defScope (topS 35)) .none kV35 dc35 pm35 an35 cd35 ct35), sl35⟩) (c35 : PySem.W.codeIn K cd35 "_law_free" = true) (k35 : PySem.W.keepIn K (.ref f35) = true)
    (a36 : PySem.W.nsIn K mainGlobals "law" = some (some (.ref f36))) (l36 : K.lookup f36 = some ⟨oc36, od36, .func (PySem.W.fnOf "law" "law" (defArgs (topS 36)) (defBody (topS 36)) (defScope (topS 36)) .none kV36 dc36 pm36 an36 cd36 ct36), sl36⟩) (c36 : PySem.W.codeIn K cd36 "law" = true) (k36 : PySem.W.keepIn K (.ref f36) = true)
    {cMost : Addr} (nMost : PySem.W.nsIn K mainGlobals "Most" = some (some (.ref cMost)))
    (opgMost : PySem.W.plainGet K cMost Str.empty = true) (ohdMost : PySem.W.hasDictIn K cMost = true) (opoMost : PySem.W.plainOver K cMost = true) (osaMost : PySem.W.findIn K (.ref cMost) "__setattr__" = some (some (.builtin "object.__setattr__")))
    (omkMost : PySem.W.makesIn K cMost = true) (okpMost : PySem.W.keepIn K (.ref cMost) = true) (oinMost : PySem.W.findIn K (.ref cMost) "__init__" = some (some (.builtin "object.__init__")))
    {mf18_0 : Addr} {mod18_0 man18_0 : Option Addr} {msl18_0 : Array (Option Value)} {moc18_0 mkV18_0 mdc18_0 mpm18_0 mcd18_0 mct18_0 : Value}
    (ml18_0 : K.lookup mf18_0 = some ⟨moc18_0, mod18_0, .func (PySem.W.fnOf "row" "Most.row" (defArgs (topM 18 0)) (defBody (topM 18 0)) (defScope (topM 18 0)) .none mkV18_0 mdc18_0 mpm18_0 man18_0 mcd18_0 mct18_0), msl18_0⟩) (mc18_0 : PySem.W.codeIn K mcd18_0 "Most.row" = true) (mk18_0 : PySem.W.keepIn K (.ref mf18_0) = true) (mi18_0 : PySem.W.isFn K (.ref mf18_0) = true)
    (ma0 : PySem.W.findIn K (.ref cMost) "row" = some (some (.ref mf18_0)))
    (z0 : PySem.W.nsIn K mainGlobals "len" = some none)
    (z1 : PySem.W.nsIn K mainGlobals "range" = some none)
    (z2 : PySem.W.nsIn K mainGlobals "tuple" = some none)
    (z3 : PySem.W.nsIn K mainGlobals "list" = some none)
    (z4 : PySem.W.nsIn K mainGlobals "sorted" = some none)
    (z5 : PySem.W.nsIn K mainGlobals "set" = some none)
    (z6 : PySem.W.nsIn K mainGlobals "min" = some none)
    (z7 : PySem.W.nsIn K mainGlobals "max" = some none)
    (z8 : PySem.W.nsIn K mainGlobals "sum" = some none)
    (z9 : PySem.W.nsIn K mainGlobals "abs" = some none)
    (z10 : PySem.W.nsIn K mainGlobals "int" = some none)
    (z11 : PySem.W.nsIn K mainGlobals "str" = some none)
    (z12 : PySem.W.nsIn K mainGlobals "bool" = some none)
    (z13 : PySem.W.nsIn K mainGlobals "isinstance" = some none)
    (z14 : PySem.W.nsIn K mainGlobals "enumerate" = some none)
    (z15 : PySem.W.nsIn K mainGlobals "zip" = some none)
    (z16 : PySem.W.nsIn K mainGlobals "reversed" = some none)
    (z17 : PySem.W.nsIn K mainGlobals "dict" = some none)
    : ∃ fd : FuncData, (∀ (s : Shared) (v : Value), BindsTo s fd ⟨[v], []⟩ [("_law_script", v)]) ∧ ∀ base : Heap, K.In base → base.Ns mainGlobals mg → FnOk l.prog w K mg base (L2.CX l.prog w) 140 fa fd ["_law_script"] (spLaw K) := by
  have e := hfa.symm.trans (PySem.W.mg_of X G a36)
  cases e
  have F1 := fun_mk (st := topS 1) l1 c1 k1
  have D1 : DefOk K mg names dnames facts meths "letters_in" fn_letters_in (topS 1) _ _ := ⟨.of F1, PySem.W.mg_of X G a1, sc_1, F1.binds fun _ _ _ _ _ _ us hl => (match us, hl with | [_], _ => rfl), ch_1⟩
  have F2 := fun_mk (st := topS 2) l2 c2 k2
  have D2 : DefOk K mg names dnames facts meths "names_in" fn_names_in (topS 2) _ _ := ⟨.of F2, PySem.W.mg_of X G a2, sc_2, F2.binds fun _ _ _ _ _ _ us hl => (match us, hl with | [_], _ => rfl), ch_2⟩
  have F3 := fun_mk (st := topS 3) l3 c3 k3
  have D3 : DefOk K mg names dnames facts meths "is_so" fn_is_so (topS 3) _ _ := ⟨.of F3, PySem.W.mg_of X G a3, sc_3, F3.binds fun _ _ _ _ _ _ us hl => (match us, hl with | [_, _], _ => rfl), ch_3⟩
  have F5 := fun_mk (st := topS 5) l5 c5 k5
  have D5 : DefOk K mg names dnames facts meths "held_by" fn_held_by (topS 5) _ _ := ⟨.of F5, PySem.W.mg_of X G a5, sc_5, F5.binds fun _ _ _ _ _ _ us hl => (match us, hl with | [_, _], _ => rfl), ch_5⟩
  have F7 := fun_mk (st := topS 7) l7 c7 k7
  have D7 : DefOk K mg names dnames facts meths "names_of" fn_names_of (topS 7) _ _ := ⟨.of F7, PySem.W.mg_of X G a7, sc_7, F7.binds fun _ _ _ _ _ _ us hl => (match us, hl with | [_], _ => rfl), ch_7⟩
  have F8 := fun_mk (st := topS 8) l8 c8 k8
  have D8 : DefOk K mg names dnames facts meths "row_of" fn_row_of (topS 8) _ _ := ⟨.of F8, PySem.W.mg_of X G a8, sc_8, F8.binds fun _ _ _ _ _ _ us hl => (match us, hl with | [_, _], _ => rfl), ch_8⟩
  have F9 := fun_mk (st := topS 9) l9 c9 k9
  have D9 : DefOk K mg names dnames facts meths "fit_rows" fn_fit_rows (topS 9) _ _ := ⟨.of F9, PySem.W.mg_of X G a9, sc_9, F9.binds fun _ _ _ _ _ _ us hl => (match us, hl with | [_], _ => rfl), ch_9⟩
  have F11 := fun_mk (st := topS 11) l11 c11 k11
  have D11 : DefOk K mg names dnames facts meths "unlike" fn_unlike (topS 11) _ _ := ⟨.of F11, PySem.W.mg_of X G a11, sc_11, F11.binds fun _ _ _ _ _ _ us hl => (match us, hl with | [_, _], _ => rfl), ch_11⟩
  have F12 := fun_mk (st := topS 12) l12 c12 k12
  have D12 : DefOk K mg names dnames facts meths "gains" fn_gains (topS 12) _ _ := ⟨.of F12, PySem.W.mg_of X G a12, sc_12, F12.binds fun _ _ _ _ _ _ us hl => (match us, hl with | [_, _, _, _], _ => rfl), ch_12⟩
  have F14 := fun_mk (st := topS 14) l14 c14 k14
  have D14 : DefOk K mg names dnames facts meths "who_say" fn_who_say (topS 14) _ _ := ⟨.of F14, PySem.W.mg_of X G a14, sc_14, F14.binds fun _ _ _ _ _ _ us hl => (match us, hl with | [_, _, _], _ => rfl), ch_14⟩
  have F15 := fun_mk (st := topS 15) l15 c15 k15
  have D15 : DefOk K mg names dnames facts meths "most" fn_most (topS 15) _ _ := ⟨.of F15, PySem.W.mg_of X G a15, sc_15, F15.binds fun _ _ _ _ _ _ us hl => (match us, hl with | [_], _ => rfl), ch_15⟩
  have F20 := fun_mk (st := topS 20) l20 c20 k20
  have D20 : DefOk K mg names dnames facts meths "_law_cell" fn_law_cell (topS 20) _ _ := ⟨.of F20, PySem.W.mg_of X G a20, sc_20, F20.binds fun _ _ _ _ _ _ us hl => (match us, hl with | [_, _], _ => rfl), ch_20⟩
  have F21 := fun_mk (st := topS 21) l21 c21 k21
  have D21 : DefOk K mg names dnames facts meths "_law_pick" fn_law_pick (topS 21) _ _ := ⟨.of F21, PySem.W.mg_of X G a21, sc_21, F21.binds fun _ _ _ _ _ _ us hl => (match us, hl with | [_, _, _], _ => rfl), ch_21⟩
  have F22 := fun_mk (st := topS 22) l22 c22 k22
  have D22 : DefOk K mg names dnames facts meths "_law_names" fn_law_names (topS 22) _ _ := ⟨.of F22, PySem.W.mg_of X G a22, sc_22, F22.binds fun _ _ _ _ _ _ us hl => (match us, hl with | [_, _, _], _ => rfl), ch_22⟩
  have F23 := fun_mk (st := topS 23) l23 c23 k23
  have D23 : DefOk K mg names dnames facts meths "_law_saying" fn_law_saying1 (topS 23) _ _ := ⟨.of F23, PySem.W.mg_of X G a23, sc_23, F23.binds fun _ _ _ _ _ _ us hl => (match us, hl with | [_, _, _, _], _ => rfl), ch_23⟩
  have F24 := fun_mk (st := topS 24) l24 c24 k24
  have D24 : DefOk K mg names dnames facts meths "_law_so" fn_law_so (topS 24) _ _ := ⟨.of F24, PySem.W.mg_of X G a24, sc_24, F24.binds fun _ _ _ _ _ _ us hl => (match us, hl with | [_, _], _ => rfl), ch_24⟩
  have F25 := fun_mk (st := topS 25) l25 c25 k25
  have D25 : DefOk K mg names dnames facts meths "_law_held" fn_law_held (topS 25) _ _ := ⟨.of F25, PySem.W.mg_of X G a25, sc_25, F25.binds fun _ _ _ _ _ _ us hl => (match us, hl with | [_, _], _ => rfl), ch_25⟩
  have F26 := fun_mk (st := topS 26) l26 c26 k26
  have D26 : DefOk K mg names dnames facts meths "_law_within" fn_law_within (topS 26) _ _ := ⟨.of F26, PySem.W.mg_of X G a26, sc_26, F26.binds fun _ _ _ _ _ _ us hl => (match us, hl with | [_], _ => rfl), ch_26⟩
  have F27 := fun_mk (st := topS 27) l27 c27 k27
  have D27 : DefOk K mg names dnames facts meths "_law_all_names" fn_law_all_names (topS 27) _ _ := ⟨.of F27, PySem.W.mg_of X G a27, sc_27, F27.binds fun _ _ _ _ _ _ us hl => (match us, hl with | [_], _ => rfl), ch_27⟩
  have F28 := fun_mk (st := topS 28) l28 c28 k28
  have D28 : DefOk K mg names dnames facts meths "_law_knit" fn_law_knit2 (topS 28) _ _ := ⟨.of F28, PySem.W.mg_of X G a28, sc_28, F28.binds fun _ _ _ _ _ _ us hl => (match us, hl with | [_, _, _], _ => rfl), ch_28⟩
  have F29 := fun_mk (st := topS 29) l29 c29 k29
  have D29 : DefOk K mg names dnames facts meths "_law_linked" fn_law_linked1 (topS 29) _ _ := ⟨.of F29, PySem.W.mg_of X G a29, sc_29, F29.binds fun _ _ _ _ _ _ us hl => (match us, hl with | [_, _, _], _ => rfl), ch_29⟩
  have F30 := fun_mk (st := topS 30) l30 c30 k30
  have D30 : DefOk K mg names dnames facts meths "_law_list" fn_law_list (topS 30) _ _ := ⟨.of F30, PySem.W.mg_of X G a30, sc_30, F30.binds fun _ _ _ _ _ _ us hl => (match us, hl with | [_, _], _ => rfl), ch_30⟩
  have F31 := fun_mk (st := topS 31) l31 c31 k31
  have D31 : DefOk K mg names dnames facts meths "_law_row" fn_law_row (topS 31) _ _ := ⟨.of F31, PySem.W.mg_of X G a31, sc_31, F31.binds fun _ _ _ _ _ _ us hl => (match us, hl with | [_, _], _ => rfl), ch_31⟩
  have F32 := fun_mk (st := topS 32) l32 c32 k32
  have D32 : DefOk K mg names dnames facts meths "_law_fit_rows" fn_law_fit_rows (topS 32) _ _ := ⟨.of F32, PySem.W.mg_of X G a32, sc_32, F32.binds fun _ _ _ _ _ _ us hl => (match us, hl with | [_], _ => rfl), ch_32⟩
  have F33 := fun_mk (st := topS 33) l33 c33 k33
  have D33 : DefOk K mg names dnames facts meths "_law_unlike" fn_law_unlike (topS 33) _ _ := ⟨.of F33, PySem.W.mg_of X G a33, sc_33, F33.binds fun _ _ _ _ _ _ us hl => (match us, hl with | [_, _], _ => rfl), ch_33⟩
  have F34 := fun_mk (st := topS 34) l34 c34 k34
  have D34 : DefOk K mg names dnames facts meths "_law_holds_for" fn_law_holds_for7 (topS 34) _ _ := ⟨.of F34, PySem.W.mg_of X G a34, sc_34, F34.binds fun _ _ _ _ _ _ us hl => (match us, hl with | [_], _ => rfl), ch_34⟩
  have F35 := fun_mk (st := topS 35) l35 c35 k35
  have D35 : DefOk K mg names dnames facts meths "_law_free" fn_law_free (topS 35) _ _ := ⟨.of F35, PySem.W.mg_of X G a35, sc_35, F35.binds fun _ _ _ _ _ _ us hl => (match us, hl with | [_], _ => rfl), ch_35⟩
  have F36 := fun_mk (st := topS 36) l36 c36 k36
  have D36 : DefOk K mg names dnames facts meths "law" fn_law3 (topS 36) _ _ := ⟨.of F36, PySem.W.mg_of X G a36, sc_36, F36.binds fun _ _ _ _ _ _ us hl => (match us, hl with | [_], _ => rfl), ch_36⟩
  have TX : Text K mg T names dnames facts meths := by
    refine ⟨fun φ hφ => ?_, by decide +kernel, fun p hp => ?_, fun x hx => ?_, fun f hf => ?_, by decide +kernel⟩
    · simp only [facts, List.mem_cons, List.not_mem_nil, or_false] at hφ
      subst hφ
      · exact ⟨_, PySem.W.mg_of X G nMost, omkMost, okpMost, oinMost⟩
    · simp only [meths, List.mem_cons, List.not_mem_nil, or_false] at hp
      subst hp
      · exact ⟨_, _, topM 18 0, _, _, _, T_Most_row, PySem.W.mg_of X G nMost, ⟨opgMost, ohdMost, opoMost, osaMost⟩, ⟨ma0, mi18_0, mk18_0⟩, ⟨.of (fun_mk (st := topM 18 0) ml18_0 mc18_0 mk18_0), scM_18_0, (fun_mk (st := topM 18 0) ml18_0 mc18_0 mk18_0).binds fun _ _ _ _ _ _ us hl => (match us, hl with | [_, _, _], _ => rfl), chM_18_0⟩⟩
    · simp only [bnames, List.mem_cons, List.not_mem_nil, or_false] at hx
      rcases hx with rfl | rfl | rfl | rfl | rfl | rfl | rfl | rfl | rfl | rfl | rfl | rfl | rfl | rfl | rfl | rfl | rfl | rfl
      · exact PySem.W.mg_none_of X G z0
      · exact PySem.W.mg_none_of X G z1
      · exact PySem.W.mg_none_of X G z2
      · exact PySem.W.mg_none_of X G z3
      · exact PySem.W.mg_none_of X G z4
      · exact PySem.W.mg_none_of X G z5
      · exact PySem.W.mg_none_of X G z6
      · exact PySem.W.mg_none_of X G z7
      · exact PySem.W.mg_none_of X G z8
      · exact PySem.W.mg_none_of X G z9
      · exact PySem.W.mg_none_of X G z10
      · exact PySem.W.mg_none_of X G z11
      · exact PySem.W.mg_none_of X G z12
      · exact PySem.W.mg_none_of X G z13
      · exact PySem.W.mg_none_of X G z14
      · exact PySem.W.mg_none_of X G z15
      · exact PySem.W.mg_none_of X G z16
      · exact PySem.W.mg_none_of X G z17
    · simp only [names, List.mem_cons, List.not_mem_nil, or_false] at hf
      rcases hf with rfl | rfl | rfl | rfl | rfl | rfl | rfl | rfl | rfl | rfl | rfl | rfl | rfl | rfl | rfl | rfl | rfl | rfl | rfl | rfl | rfl | rfl | rfl | rfl | rfl | rfl | rfl | rfl
      · exact ⟨_, _, _, _, T_letters_in, D1, fun hm => absurd hm (by decide +kernel)⟩
      · exact ⟨_, _, _, _, T_names_in, D2, fun hm => absurd hm (by decide +kernel)⟩
      · exact ⟨_, _, _, _, T_is_so, D3, fun hm => absurd hm (by decide +kernel)⟩
      · exact ⟨_, _, _, _, T_held_by, D5, fun hm => absurd hm (by decide +kernel)⟩
      · exact ⟨_, _, _, _, T_names_of, D7, fun hm => absurd hm (by decide +kernel)⟩
      · exact ⟨_, _, _, _, T_row_of, D8, fun hm => absurd hm (by decide +kernel)⟩
      · exact ⟨_, _, _, _, T_fit_rows, D9, fun hm => absurd hm (by decide +kernel)⟩
      · exact ⟨_, _, _, _, T_unlike, D11, fun hm => absurd hm (by decide +kernel)⟩
      · exact ⟨_, _, _, _, T_gains, D12, fun hm => absurd hm (by decide +kernel)⟩
      · exact ⟨_, _, _, _, T_who_say, D14, fun hm => absurd hm (by decide +kernel)⟩
      · exact ⟨_, _, _, _, T_most, D15, fun hm => absurd hm (by decide +kernel)⟩
      · exact ⟨_, _, _, _, T_law_cell, D20, fun hm => absurd hm (by decide +kernel)⟩
      · exact ⟨_, _, _, _, T_law_pick, D21, fun hm => absurd hm (by decide +kernel)⟩
      · exact ⟨_, _, _, _, T_law_names, D22, fun hm => absurd hm (by decide +kernel)⟩
      · exact ⟨_, _, _, _, T_law_saying, D23, fun hm => absurd hm (by decide +kernel)⟩
      · exact ⟨_, _, _, _, T_law_so, D24, fun hm => absurd hm (by decide +kernel)⟩
      · exact ⟨_, _, _, _, T_law_held, D25, fun hm => absurd hm (by decide +kernel)⟩
      · exact ⟨_, _, _, _, T_law_within, D26, fun hm => absurd hm (by decide +kernel)⟩
      · exact ⟨_, _, _, _, T_law_all_names, D27, fun hm => absurd hm (by decide +kernel)⟩
      · exact ⟨_, _, _, _, T_law_knit, D28, fun hm => absurd hm (by decide +kernel)⟩
      · exact ⟨_, _, _, _, T_law_linked, D29, fun hm => absurd hm (by decide +kernel)⟩
      · exact ⟨_, _, _, _, T_law_list, D30, fun hm => absurd hm (by decide +kernel)⟩
      · exact ⟨_, _, _, _, T_law_row, D31, fun hm => absurd hm (by decide +kernel)⟩
      · exact ⟨_, _, _, _, T_law_fit_rows, D32, fun hm => absurd hm (by decide +kernel)⟩
      · exact ⟨_, _, _, _, T_law_unlike, D33, fun hm => absurd hm (by decide +kernel)⟩
      · exact ⟨_, _, _, _, T_law_holds_for, D34, fun hm => absurd hm (by decide +kernel)⟩
      · exact ⟨_, _, _, _, T_law_free, D35, fun hm => absurd hm (by decide +kernel)⟩
      · exact ⟨_, _, _, _, T_law, D36, fun hm => absurd hm (by decide +kernel)⟩
  refine ⟨PySem.W.fnOf "law" "law" (defArgs (topS 36)) (defBody (topS 36)) (defScope (topS 36)) .none kV36 dc36 pm36 an36 cd36 ct36, fun s v => .of_eq rfl, fun base _ _ => ?_⟩
  refine (all_ok TX 140 "law" (by decide +kernel) _ _ _ _ T_law D36).imp fun vs H Q E hv => ?_
  obtain ⟨a, ns, rfl, hS, hl, q⟩ := hv
  obtain ⟨b, hb⟩ := law_ev ns hl
  exact law_spec hS hb q
theorem walk {l : PySem.W.OpenLaw} {q : Program} {loose : List Str} {XP : (Str → Option Value) → Heap → Prop} {YP : World → Heap → Prop} {d : DefRec} {K : Params → PySem.W.Frag} (hn : l.most = some 63) (hdf : d.params.defaults = [])
    (hY : ∀ (w : World) (h : Heap), YP w h → (K w.params).In h)
    (F : ∀ (w : World) (mg : Str → Option Value) (fa : Addr) (h : Heap), (K w.params).In h → h.Ns mainGlobals mg → mg d.name = some (.ref fa) →
      ∃ fd : FuncData, (∀ (s : Shared) (u : Value), BindsTo s fd ⟨[u], []⟩ [("_law_script", u)]) ∧ ∀ base : Heap, (K w.params).In base → base.Ns mainGlobals mg → FnOk l.prog w (K w.params) mg base (L2.CX l.prog w) 140 fa fd ["_law_script"] (spLaw (K w.params))) :
    PySem.W.WalkO q loose XP YP l.row.toRowW d [] (fun f vs => PySem.call f vs) :=
  L2.walk_of (n := 63) (k := 140) (x := "_law_script") (CX := fun w => L2.CX l.prog w) (sp := fun w => spLaw (K w.params)) hn (by decide) hdf ⟨rfl, by decide, by decide⟩ hY F (fun _ _ a ns hl _ hS => ⟨a, ns, rfl, hS, hl, fun _ => rfl⟩) fun _ _ _ _ _ z => no_cx z
end MJ.k52
open PySem PySem.W PyProof.Rows
set_option maxRecDepth 100000 in
set_option maxHeartbeats 0 in
theorem PySem.Challenge.cw_manyjudges_k52_whole_most_not_gained_holds : PySem.Challenge.rw_manyjudges_k52_whole_most_not_gained.Holds := by
  w_on; o_law; k_head; (case hw => w_witness2)
  k_fill
  refine MJ.k52.walk (l := PySem.Challenge.rw_manyjudges_k52_whole_most_not_gained) rfl rfl (fun w h Y => PySem.W.kIn_of Y) ?F
  case F =>
    intro w mg fa h KX G hmg
    refine' MJ.k52.all_mk KX G hmg ?a1 ?l1 ?c1 ?k1 ?a2 ?l2 ?c2 ?k2 ?a3 ?l3 ?c3 ?k3 ?a5 ?l5 ?c5 ?k5 ?a7 ?l7 ?c7 ?k7 ?a8 ?l8 ?c8 ?k8 ?a9 ?l9 ?c9 ?k9 ?a11 ?l11 ?c11 ?k11 ?a12 ?l12 ?c12 ?k12 ?a14 ?l14 ?c14 ?k14 ?a15 ?l15 ?c15 ?k15 ?a20 ?l20 ?c20 ?k20 ?a21 ?l21 ?c21 ?k21 ?a22 ?l22 ?c22 ?k22 ?a23 ?l23 ?c23 ?k23 ?a24 ?l24 ?c24 ?k24 ?a25 ?l25 ?c25 ?k25 ?a26 ?l26 ?c26 ?k26 ?a27 ?l27 ?c27 ?k27 ?a28 ?l28 ?c28 ?k28 ?a29 ?l29 ?c29 ?k29 ?a30 ?l30 ?c30 ?k30 ?a31 ?l31 ?c31 ?k31 ?a32 ?l32 ?c32 ?k32 ?a33 ?l33 ?c33 ?k33 ?a34 ?l34 ?c34 ?k34 ?a35 ?l35 ?c35 ?k35 ?a36 ?l36 ?c36 ?k36 ?nMost ?opgMost ?ohdMost ?opoMost ?osaMost ?omkMost ?okpMost ?oinMost ?ml18_0 ?mc18_0 ?mk18_0 ?mi18_0 ?ma0 ?z0 ?z1 ?z2 ?z3 ?z4 ?z5 ?z6 ?z7 ?z8 ?z9 ?z10 ?z11 ?z12 ?z13 ?z14 ?z15 ?z16 ?z17
    (case a1 => k_is); (case l1 => k_is); (case c1 => k_is); (case k1 => k_is)
    (case a2 => k_is); (case l2 => k_is); (case c2 => k_is); (case k2 => k_is)
    (case a3 => k_is); (case l3 => k_is); (case c3 => k_is); (case k3 => k_is)
    (case a5 => k_is); (case l5 => k_is); (case c5 => k_is); (case k5 => k_is)
    (case a7 => k_is); (case l7 => k_is); (case c7 => k_is); (case k7 => k_is)
    (case a8 => k_is); (case l8 => k_is); (case c8 => k_is); (case k8 => k_is)
    (case a9 => k_is); (case l9 => k_is); (case c9 => k_is); (case k9 => k_is)
    (case a11 => k_is); (case l11 => k_is); (case c11 => k_is); (case k11 => k_is)
    (case a12 => k_is); (case l12 => k_is); (case c12 => k_is); (case k12 => k_is)
    (case a14 => k_is); (case l14 => k_is); (case c14 => k_is); (case k14 => k_is)
    (case a15 => k_is); (case l15 => k_is); (case c15 => k_is); (case k15 => k_is)
    (case a20 => k_is); (case l20 => k_is); (case c20 => k_is); (case k20 => k_is)
    (case a21 => k_is); (case l21 => k_is); (case c21 => k_is); (case k21 => k_is)
    (case a22 => k_is); (case l22 => k_is); (case c22 => k_is); (case k22 => k_is)
    (case a23 => k_is); (case l23 => k_is); (case c23 => k_is); (case k23 => k_is)
    (case a24 => k_is); (case l24 => k_is); (case c24 => k_is); (case k24 => k_is)
    (case a25 => k_is); (case l25 => k_is); (case c25 => k_is); (case k25 => k_is)
    (case a26 => k_is); (case l26 => k_is); (case c26 => k_is); (case k26 => k_is)
    (case a27 => k_is); (case l27 => k_is); (case c27 => k_is); (case k27 => k_is)
    (case a28 => k_is); (case l28 => k_is); (case c28 => k_is); (case k28 => k_is)
    (case a29 => k_is); (case l29 => k_is); (case c29 => k_is); (case k29 => k_is)
    (case a30 => k_is); (case l30 => k_is); (case c30 => k_is); (case k30 => k_is)
    (case a31 => k_is); (case l31 => k_is); (case c31 => k_is); (case k31 => k_is)
    (case a32 => k_is); (case l32 => k_is); (case c32 => k_is); (case k32 => k_is)
    (case a33 => k_is); (case l33 => k_is); (case c33 => k_is); (case k33 => k_is)
    (case a34 => k_is); (case l34 => k_is); (case c34 => k_is); (case k34 => k_is)
    (case a35 => k_is); (case l35 => k_is); (case c35 => k_is); (case k35 => k_is)
    (case a36 => k_is); (case l36 => k_is); (case c36 => k_is); (case k36 => k_is)
    (case nMost => k_is)
    (case opgMost => k_is); (case ohdMost => k_is); (case opoMost => k_is); (case osaMost => k_is)
    (case omkMost => k_is); (case okpMost => k_is); (case oinMost => k_is)
    (case ma0 => k_is)
    (case ml18_0 => k_is); (case mc18_0 => k_is); (case mk18_0 => k_is); (case mi18_0 => k_is)
    (case z0 => k_is)
    (case z1 => k_is)
    (case z2 => k_is)
    (case z3 => k_is)
    (case z4 => k_is)
    (case z5 => k_is)
    (case z6 => k_is)
    (case z7 => k_is)
    (case z8 => k_is)
    (case z9 => k_is)
    (case z10 => k_is)
    (case z11 => k_is)
    (case z12 => k_is)
    (case z13 => k_is)
    (case z14 => k_is)
    (case z15 => k_is)
    (case z16 => k_is)
    (case z17 => k_is)
