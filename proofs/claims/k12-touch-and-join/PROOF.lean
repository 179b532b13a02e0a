import PyProof.Rows.All
import Wide.All
import OpenK.AllK
import Wide.FinOn
import HandS.ForMost
import HandS.ForExc
import HandS.Codes
import HandS.IsInst
import HandS.Walk
import HandS.Evl
import HandS.Wide
import HandS.Conv
import HandS.Flow
import HandS.Style
import HandS.SortInts
import KE.GoesMore
import HandS.Star
import HandS.FStr
import HandS.ExcInit
import KE.SortData
import HandS.Deep
import HandS.SetFor
import HandS.Strs
import HandS.RevTup
import KE.KRevSl
import PySem.Challenge.RW_villagelines_k12_touch_and_join
set_option Elab.async false
set_option linter.all false
set_option maxRecDepth 100000
set_option maxHeartbeats 4000000
/-! VL: data, what stands for them in the abstract heap, what an expression evaluates to. -/
namespace VL
open PySem PySem.Spec PyProof.Rows L2
open Evl (Ex)

abbrev Fr := PySem.W.Frag

/-- data without a heap -/
inductive D where
  | non | bl (b : Bool) | int (i : Int) | str (s : Str) | lst (ds : List D) | tup (ds : List D) | ins (C : Addr) (ns : List Str) (ds : List D) | pool | ty (n : String)

/-- the pool of draws at p: kept by what is true of its object, so that a draw changes nothing that is told -/
def PoolO (p c : Addr) (n : Nat) : Heap → Prop := fun h => ∃ (i1 i2 i3 i4 : Int) (t1 t2 t3 t4 : Tok) (m : Nat), 0 ≤ i1 ∧ 0 ≤ i2 ∧ 0 ≤ i3 ∧ 0 ≤ i4 ∧
  h.get? p = some { cls := .type "list", data := .seq #[.ref c, .int i1 t1, .int i2 t2, .int i3 t3, .int i4 t4] m }
structure PoolAt (H : Hp) (p : Addr) : Prop where
  ex : ∃ (c : Addr) (ns : List Int), H p = some (.ext (PoolO p c ns.length)) ∧ H c = some (.lst (ns.map V.int)) ∧ ∀ n ∈ ns, 0 ≤ n

/-- a list of data is fresh: it is new since H0 -/
def frOk : Option Hp → Addr → Prop
  | none, _ => True
  | some H0, a => H0 a = none

mutual
inductive Rep (K : Fr) (fr : Option Hp) (H : Hp) : D → V → Prop
  | non : Rep K fr H .non .non
  | bl (b : Bool) : Rep K fr H (.bl b) (.bl b)
  | int (i : Int) : Rep K fr H (.int i) (.int i)
  | str (s : Str) : Rep K fr H (.str s) (.str s)
  | lst {a : Addr} {vs : List V} {ds : List D} : frOk fr a → H a = some (.lst vs) → RepA K fr H ds vs → Rep K fr H (.lst ds) (.ref a)
  | tup {a : Addr} {vs : List V} {ds : List D} : SqT K H a vs → RepA K fr H ds vs → Rep K fr H (.tup ds) (.ref a)
  | ins {a C dx : Addr} {fs : List (Str × V)} {ns : List Str} {ds : List D} : H a = some (.ins C dx fs) → fs.map (·.1) = ns → RepA K fr H ds (fs.map (·.2)) → Rep K fr H (.ins C ns ds) (.ref a)
  | pool {p : Addr} : PoolAt H p → Rep K fr H .pool (.ref p)
  | ty (n : String) : Rep K fr H (.ty n) (.ty n)
inductive RepA (K : Fr) (fr : Option Hp) (H : Hp) : List D → List V → Prop
  | nil : RepA K fr H [] []
  | cons {d : D} {v : V} {ds : List D} {vs : List V} : Rep K fr H d v → RepA K fr H ds vs → RepA K fr H (d :: ds) (v :: vs)
end

section
variable {K : Fr} {fr : Option Hp} {H H' G G' : Hp}
theorem PoolAt.mono {p : Addr} (e : Ex H H') (h : PoolAt H p) : PoolAt H' p := by
  obtain ⟨c, ns, h1, h2, h3⟩ := h.ex
  exact ⟨c, ns, e _ _ h1, e _ _ h2, h3⟩
mutual
theorem Rep.mono (e : Ex H H') : ∀ {d : D} {v : V}, Rep K fr H d v → Rep K fr H' d v
  | _, _, .non => .non
  | _, _, .bl b => .bl b
  | _, _, .int i => .int i
  | _, _, .str s => .str s
  | _, _, .lst f h t => .lst f (e _ _ h) (RepA.mono e t)
  | _, _, .tup h t => .tup (Evl.ex_t e h) (RepA.mono e t)
  | _, _, .ins h q t => .ins (e _ _ h) q (RepA.mono e t)
  | _, _, .ty n => .ty n
  | _, _, .pool h => .pool (h.mono e)
theorem RepA.mono (e : Ex H H') : ∀ {ds : List D} {vs : List V}, RepA K fr H ds vs → RepA K fr H' ds vs
  | _, _, .nil => .nil
  | _, _, .cons h t => .cons (Rep.mono e h) (RepA.mono e t)
end
mutual
theorem Rep.old : ∀ {d : D} {v : V}, Rep K fr H d v → Rep K none H d v
  | _, _, .non => .non
  | _, _, .bl b => .bl b
  | _, _, .int i => .int i
  | _, _, .str s => .str s
  | _, _, .lst f h t => .lst trivial h (RepA.old t)
  | _, _, .tup h t => .tup h (RepA.old t)
  | _, _, .ins h q t => .ins h q (RepA.old t)
  | _, _, .ty n => .ty n
  | _, _, .pool h => .pool h
theorem RepA.old : ∀ {ds : List D} {vs : List V}, RepA K fr H ds vs → RepA K none H ds vs
  | _, _, .nil => .nil
  | _, _, .cons h t => .cons (Rep.old h) (RepA.old t)
end
/-- fresh since later is fresh since earlier -/
theorem frOk.back {a : Addr} (e : Ex G G') (h : frOk (some G') a) : frOk (some G) a := Evl.fresh_back e h
mutual
theorem Rep.back (e : Ex G G') : ∀ {d : D} {v : V}, Rep K (some G') H d v → Rep K (some G) H d v
  | _, _, .non => .non
  | _, _, .bl b => .bl b
  | _, _, .int i => .int i
  | _, _, .str s => .str s
  | _, _, .lst f h t => .lst (frOk.back e f) h (RepA.back e t)
  | _, _, .tup h t => .tup h (RepA.back e t)
  | _, _, .ins h q t => .ins h q (RepA.back e t)
  | _, _, .ty n => .ty n
  | _, _, .pool h => .pool h
theorem RepA.back (e : Ex G G') : ∀ {ds : List D} {vs : List V}, RepA K (some G') H ds vs → RepA K (some G) H ds vs
  | _, _, .nil => .nil
  | _, _, .cons h t => .cons (Rep.back e h) (RepA.back e t)
end
theorem RepA.length {ds : List D} {vs : List V} (h : RepA K fr H ds vs) : ds.length = vs.length := by
  induction ds generalizing vs with
  | nil => cases h; rfl
  | cons d ds ih => cases h with | cons h t => rw [List.length_cons, List.length_cons, ih t]
theorem RepA.get {ds : List D} {vs : List V} (h : RepA K fr H ds vs) : ∀ {i : Nat} {d : D}, ds[i]? = some d → ∃ v, vs[i]? = some v ∧ Rep K fr H d v := by
  induction ds generalizing vs with
  | nil => intro i d e; simp at e
  | cons d0 ds ih =>
    cases h with
    | cons h t =>
      intro i d e
      cases i with
      | zero => simp at e; subst e; exact ⟨_, rfl, h⟩
      | succ i => simpa using ih t (by simpa using e)
theorem RepA.getV {ds : List D} {vs : List V} (h : RepA K fr H ds vs) : ∀ {i : Nat} {v : V}, vs[i]? = some v → ∃ d, ds[i]? = some d ∧ Rep K fr H d v := by
  intro i v e
  have hi : i < vs.length := (List.getElem?_eq_some_iff.mp e).1
  have hd : i < ds.length := by rw [h.length]; exact hi
  obtain ⟨v', e', r⟩ := h.get (List.getElem?_eq_getElem hd)
  rw [e] at e'; cases e'
  exact ⟨_, List.getElem?_eq_getElem hd, r⟩
theorem RepA.append {ds es : List D} {vs us : List V} (h : RepA K fr H ds vs) (k : RepA K fr H es us) : RepA K fr H (ds ++ es) (vs ++ us) := by
  induction ds generalizing vs with
  | nil => cases h; exact k
  | cons d0 ds ih => cases h with | cons h t => exact .cons h (ih t)
theorem RepA.take {ds : List D} {vs : List V} (n : Nat) (h : RepA K fr H ds vs) : RepA K fr H (ds.take n) (vs.take n) := by
  induction ds generalizing vs n with
  | nil => cases h; simpa using RepA.nil
  | cons d0 ds ih => cases h with | cons h t => cases n with | zero => exact .nil | succ n => exact .cons h (ih n t)
theorem RepA.drop {ds : List D} {vs : List V} (n : Nat) (h : RepA K fr H ds vs) : RepA K fr H (ds.drop n) (vs.drop n) := by
  induction ds generalizing vs n with
  | nil => cases h; simpa using RepA.nil
  | cons d0 ds ih => cases h with | cons h t => cases n with | zero => exact .cons h t | succ n => exact ih n t
theorem RepA.set {ds : List D} {vs : List V} {d : D} {v : V} (n : Nat) (h : RepA K fr H ds vs) (k : Rep K fr H d v) : RepA K fr H (ds.set n d) (vs.set n v) := by
  induction ds generalizing vs n with
  | nil => cases h; exact .nil
  | cons d0 ds ih => cases h with | cons h t => cases n with | zero => exact .cons k t | succ n => exact .cons h (ih n t)
theorem RepA.ints {ns : List Int} {vs : List V} (h : RepA K fr H (ns.map D.int) vs) : vs = ns.map V.int := by
  induction ns generalizing vs with
  | nil => cases h; rfl
  | cons n ns ih => cases h with | cons h t => cases h; rw [ih t]; rfl
theorem RepA.ofInts : ∀ (ns : List Int), RepA K fr H (ns.map D.int) (ns.map V.int)
  | [] => .nil
  | n :: ns => .cons (.int n) (RepA.ofInts ns)
theorem RepA.bools {ns : List Bool} {vs : List V} (h : RepA K fr H (ns.map D.bl) vs) : vs = ns.map V.bl := by
  induction ns generalizing vs with
  | nil => cases h; rfl
  | cons n ns ih => cases h with | cons h t => cases h; rw [ih t]; rfl
theorem Rep.int_inv {i : Int} {v : V} (h : Rep K fr H (.int i) v) : v = .int i := by cases h; rfl
theorem Rep.bl_inv {i : Bool} {v : V} (h : Rep K fr H (.bl i) v) : v = .bl i := by cases h; rfl
theorem Rep.str_inv {i : Str} {v : V} (h : Rep K fr H (.str i) v) : v = .str i := by cases h; rfl
theorem Rep.non_inv {v : V} (h : Rep K fr H .non v) : v = .non := by cases h; rfl
theorem Rep.lst_inv {ds : List D} {v : V} (h : Rep K fr H (.lst ds) v) : ∃ a vs, v = .ref a ∧ frOk fr a ∧ H a = some (.lst vs) ∧ RepA K fr H ds vs := by cases h with | lst f h t => exact ⟨_, _, rfl, f, h, t⟩
theorem Rep.tup_inv {ds : List D} {v : V} (h : Rep K fr H (.tup ds) v) : ∃ a vs, v = .ref a ∧ SqT K H a vs ∧ RepA K fr H ds vs := by cases h with | tup h t => exact ⟨_, _, rfl, h, t⟩
end

/-- knowledge G of the heap H has grown to G' of H'; what is new in it was not in H -/
structure Grow (G H G' H' : Hp) : Prop where
  e : Ex G G'
  sub : Ex G' H'
  ext : Ex H H'
  new : ∀ a, G a = none → G' a ≠ none → H a = none
section
variable {G H G1 H1 G2 H2 G' H' : Hp} {p : Addr} {o : HO}
theorem Grow.refl (e : Ex G H) : Grow G H G H := ⟨Ex.refl _, e, Ex.refl _, fun a h h' => absurd h h'⟩
theorem Grow.trans (a : Grow G H G1 H1) (b : Grow G1 H1 G2 H2) : Grow G H G2 H2 := ⟨a.e.trans b.e, b.sub, a.ext.trans b.ext, fun x h1 h2 => by
  by_cases h : G1 x = none
  · exact Evl.fresh_back a.ext (b.new x h h2)
  · exact a.new x h1 h⟩
/-- a new object, known -/
theorem Grow.laid (e : Ex G H) (n : H p = none) : Grow G H (upd G p o) (upd H p o) := ⟨Ex.new (Evl.fresh_back e n), fun a u h => by
  by_cases ha : a = p
  · subst ha; rw [upd_same] at h ⊢; exact h
  · rw [upd_ne ha] at h ⊢; exact e a u h, Ex.new n, fun a h1 h2 => by
  by_cases ha : a = p
  · subst ha; exact n
  · rw [upd_ne ha] at h2; exact absurd h1 h2⟩
/-- a new object, not known (it will be written) -/
theorem Grow.hid (e : Ex G H) (n : H p = none) : Grow G H G (upd H p o) := ⟨Ex.refl _, e.mut (Evl.fresh_back e n), Ex.new n, fun a h1 h2 => absurd h1 h2⟩
/-- an object that is new since H0 and not known is written -/
theorem Grow.put (a : Grow G H G' H') (n : H p = none) (h : G' p = none) : Grow G H G' (upd H' p o) := ⟨a.e, a.sub.mut h, a.ext.mut n, a.new⟩
theorem Grow.mut (e : Ex G H) (h : G p = none) : Ex G (upd H p o) := e.mut h
/-- what stands in H and is not known stays so -/
theorem Grow.keep (a : Grow G H G' H') (h : H p = some o) (n : G p = none) : H' p = some o ∧ G' p = none := ⟨a.ext _ _ h, by
  cases q : G' p with
  | none => rfl
  | some u => rw [a.new p n (by rw [q]; simp)] at h; cases h⟩
theorem Grow.free (a : Grow G H G' H') (h : H' p = none) : H p = none := Evl.fresh_back a.ext h

/-- two pieces of knowledge of one heap -/
def un (G1 G2 : Hp) : Hp := fun a => match G1 a with | some o => some o | none => G2 a
theorem un_l : Ex G1 (un G1 G2) := fun a o h => by unfold un; rw [h]
theorem un_r (e1 : Ex G1 H) (e2 : Ex G2 H) : Ex G2 (un G1 G2) := fun a o h => by
  unfold un
  cases q : G1 a with
  | none => exact h
  | some u =>
    have h1 := e1 a u q
    rw [e2 a o h] at h1
    cases h1
    rfl
theorem un_sub (e1 : Ex G1 H) (e2 : Ex G2 H) : Ex (un G1 G2) H := fun a o h => by
  unfold un at h
  cases q : G1 a with
  | none => rw [q] at h; exact e2 a o h
  | some u => rw [q] at h; cases h; exact e1 a _ q
/-- growth of a part is growth of the whole -/
theorem Grow.on (e0 : Ex G G1) (e1 : Ex G1 H) (a : Grow G H G' H') : Grow G1 H (un G1 G') H' ∧ Ex G' (un G1 G') :=
  ⟨⟨un_l, un_sub (e1.trans a.ext) a.sub, a.ext, fun x h1 h2 => a.new x (Evl.fresh_back e0 h1) (by unfold un at h2; rw [h1] at h2; exact h2)⟩, un_r (e1.trans a.ext) a.sub⟩
end

def frh (f : Bool) (H : Hp) : Option Hp := if f then some H else none
section
variable {K : Fr} {f : Bool} {H H' G : Hp} {d : D} {v : V} {ds : List D} {vs : List V}
theorem Rep.h2 (e : Ex H H') (h : Rep K (frh f H') G d v) : Rep K (frh f H) G d v := by
  cases f with
  | true => exact Rep.back e h
  | false => exact h
theorem RepA.h2 (e : Ex H H') (h : RepA K (frh f H') G ds vs) : RepA K (frh f H) G ds vs := by
  cases f with
  | true => exact RepA.back e h
  | false => exact h
end

/-! ### the judgements -/
/-- te evaluates to some data of P, f: all its lists new -/
def EvS (K : Fr) (f : Bool) (te : TE) (σ : L2.St) (G : Hp) (P : D → Prop) : Prop := ∀ H, Ex G H → ∀ Q : VK, (∀ d v G' H', P d → Grow G H G' H' → Rep K (frh f H) G' d v → Q v H') → te σ H Q
def Ev (K : Fr) (f : Bool) (te : TE) (σ : L2.St) (G : Hp) (d : D) : Prop := ∀ H, Ex G H → ∀ Q : VK, (∀ v G' H', Grow G H G' H' → Rep K (frh f H) G' d v → Q v H') → te σ H Q
def EvT (_ : Fr) (tt : TT) (σ : L2.St) (G : Hp) (b : Bool) : Prop := ∀ H, Ex G H → ∀ Q : Bool → Hp → Prop, (∀ G' H', Grow G H G' H' → Q b H') → tt σ H Q
def EvA (K : Fr) (f : Bool) (ta : TA) (σ : L2.St) (G : Hp) (ds : List D) : Prop := ∀ H, Ex G H → ∀ Q : List V → Hp → Prop, (∀ vs G' H', Grow G H G' H' → RepA K (frh f H) G' ds vs → Q vs H') → ta σ H Q
def EvAS (K : Fr) (f : Bool) (ta : TA) (σ : L2.St) (G : Hp) (P : List D → Prop) : Prop := ∀ H, Ex G H → ∀ Q : List V → Hp → Prop, (∀ ds vs G' H', P ds → Grow G H G' H' → RepA K (frh f H) G' ds vs → Q vs H') → ta σ H Q
/-- a new list, still to be written: it is not known -/
def EvL (K : Fr) (f : Bool) (te : TE) (σ : L2.St) (G : Hp) (ds : List D) : Prop := ∀ H, Ex G H → ∀ Q : VK, (∀ p vs G' H', Grow G H G' H' → H p = none → G' p = none → H' p = some (.lst vs) → RepA K (frh f H) G' ds vs → Q (.ref p) H') → te σ H Q
def EvO (_ : Fr) (to : TO) (σ : L2.St) (G : Hp) (o : Option Int) : Prop := ∀ H, Ex G H → ∀ Q : Option Int → Hp → Prop, (∀ G' H', Grow G H G' H' → Q o H') → to σ H Q
/-- operations by values -/
def Rv (K : Fr) (f f1 : Bool) (r : R2) (a b c : D) : Prop := ∀ G x y H0, Rep K (frh f1 H0) G a x → Rep K (frh f1 H0) G b y → ∀ H, Ex G H → Ex H0 H → ∀ Q : VK, (∀ v G' H', Grow G H G' H' → Rep K (frh f H0) G' c v → Q v H') → r x y H Q
def Ru (K : Fr) (f : Bool) (r : V → Hp → VK → Prop) (a c : D) : Prop := ∀ G x, Rep K none G a x → ∀ H, Ex G H → ∀ Q : VK, (∀ v G' H', Grow G H G' H' → Rep K (frh f H) G' c v → Q v H') → r x H Q
/-- calls by values -/
def Rc (K : Fr) (f : Bool) (r : List V → Hp → VK → Prop) (ds : List D) (c : D) : Prop := ∀ G vs, RepA K none G ds vs → ∀ H, Ex G H → ∀ Q : VK, (∀ v G' H', Grow G H G' H' → Rep K (frh f H) G' c v → Q v H') → r vs H Q
def RcS (K : Fr) (f : Bool) (r : List V → Hp → VK → Prop) (ds : List D) (P : D → Prop) : Prop := ∀ G vs, RepA K none G ds vs → ∀ H, Ex G H → ∀ Q : VK, (∀ d v G' H', P d → Grow G H G' H' → Rep K (frh f H) G' d v → Q v H') → r vs H Q
/-- a def's promise, by data -/
def SpD (K : Fr) (f : Bool) (sp : Sp) (ds : List D) (c : D) : Prop := ∀ (E : XK), Rc K f (fun vs H Q => sp vs H Q E) ds c
def SpDS (K : Fr) (f : Bool) (sp : Sp) (ds : List D) (P : D → Prop) : Prop := ∀ (E : XK), RcS K f (fun vs H Q => sp vs H Q E) ds P

section
variable {K : Fr} {f : Bool} {σ : L2.St} {G G1 G2 H H' : Hp} {te ta tb tc : TE} {t u : TT} {d a b c : D} {v : V} {r : R2} {P P1 P2 P3 : D → Prop} {ds es : List D}
theorem Ev.mono (e : Ex G G1) (h : Ev K f te σ G d) : Ev K f te σ G1 d := fun H eH Q q => h H (e.trans eH) Q fun v G' H' g r =>
  let ⟨g1, e1⟩ := g.on e eH
  q v _ H' g1 (r.mono e1)
theorem EvS.mono (e : Ex G G1) (h : EvS K f te σ G P) : EvS K f te σ G1 P := fun H eH Q q => h H (e.trans eH) Q fun d v G' H' hp g r =>
  let ⟨g1, e1⟩ := g.on e eH
  q d v _ H' hp g1 (r.mono e1)
theorem EvT.mono {b : Bool} (e : Ex G G1) (h : EvT K t σ G b) : EvT K t σ G1 b := fun H eH Q q => h H (e.trans eH) Q fun G' H' g =>
  let ⟨g1, e1⟩ := g.on e eH
  q _ H' g1
theorem EvA.mono {ta : TA} (e : Ex G G1) (h : EvA K f ta σ G ds) : EvA K f ta σ G1 ds := fun H eH Q q => h H (e.trans eH) Q fun v G' H' g r =>
  let ⟨g1, e1⟩ := g.on e eH
  q v _ H' g1 (r.mono e1)
theorem EvO.mono {to : TO} {o : Option Int} (e : Ex G G1) (h : EvO K to σ G o) : EvO K to σ G1 o := fun H eH Q q => h H (e.trans eH) Q fun G' H' g =>
  let ⟨g1, e1⟩ := g.on e eH
  q _ H' g1
theorem Ev.toS (h : Ev K f te σ G d) : EvS K f te σ G (fun z => z = d) := fun H e Q q => h H e Q fun v G' H' g r => q d v G' H' rfl g r
theorem EvS.to1 (h : EvS K f te σ G (fun z => z = d)) : Ev K f te σ G d := fun H e Q q => h H e Q fun z v G' H' hz g r => q v G' H' g (hz ▸ r)
theorem EvS.imp (h : EvS K f te σ G P) (hp : ∀ d, P d → P1 d) : EvS K f te σ G P1 := fun H e Q q => h H e Q fun d v G' H' k g r => q d v G' H' (hp d k) g r
theorem Ev.old (h : Ev K f te σ G d) : Ev K false te σ G d := fun H e Q q => h H e Q fun v G' H' g r => q v G' H' g r.old
theorem EvS.old (h : EvS K f te σ G P) : EvS K false te σ G P := fun H e Q q => h H e Q fun d v G' H' k g r => q d v G' H' k g r.old
theorem EvA.old {ta : TA} (h : EvA K f ta σ G ds) : EvA K false ta σ G ds := fun H e Q q => h H e Q fun v G' H' g r => q v G' H' g r.old
theorem Ev.is (h : Ev K f te σ G d) (e : d = c) : Ev K f te σ G c := e ▸ h
theorem EvT.is {x y : Bool} (h : EvT K t σ G x) (e : x = y) : EvT K t σ G y := e ▸ h
theorem EvL.is (h : EvL K f te σ G ds) (e : ds = es) : EvL K f te σ G es := e ▸ h

/-- a scalar bears no list: old is new -/
def scalarD : D → Bool
  | .non => true | .bl _ => true | .int _ => true | .str _ => true | _ => false
theorem Rep.scalar {fr fr' : Option Hp} {H H' : Hp} (hs : scalarD d = true) (h : Rep K fr H d v) : Rep K fr' H' d v := by
  cases h with
  | non => exact .non
  | bl b => exact .bl b
  | int i => exact .int i
  | str i => exact .str i
  | lst _ _ _ => cases hs
  | tup _ _ => cases hs
  | ins _ _ _ => cases hs
  | pool _ => cases hs
  | ty _ => cases hs

theorem ev_var {i : Nat} (h : σ[i]? = some (some v)) (r : Rep K none G d v) : Ev K false (tVar i) σ G d := fun H e Q q => ⟨v, h, q v G H (Grow.refl e) r⟩
theorem ev_varS {i : Nat} (h : σ[i]? = some (some v)) (r : Rep K none G d v) (hs : scalarD d = true) : Ev K f (tVar i) σ G d := fun H e Q q => ⟨v, h, q v G H (Grow.refl e) (r.scalar hs)⟩
theorem ev_vi {i : Nat} {n : Int} (h : σ[i]? = some (some (.int n))) : Ev K f (tVar i) σ G (.int n) := fun H e Q q => ⟨_, h, q _ G H (Grow.refl e) (.int n)⟩
theorem ev_vb {i : Nat} {n : Bool} (h : σ[i]? = some (some (.bl n))) : Ev K f (tVar i) σ G (.bl n) := fun H e Q q => ⟨_, h, q _ G H (Grow.refl e) (.bl n)⟩
theorem ev_vn {i : Nat} (h : σ[i]? = some (some .non)) : Ev K f (tVar i) σ G .non := fun H e Q q => ⟨_, h, q _ G H (Grow.refl e) .non⟩
theorem ev_vs {i : Nat} {n : Str} (h : σ[i]? = some (some (.str n))) : Ev K f (tVar i) σ G (.str n) := fun H e Q q => ⟨_, h, q _ G H (Grow.refl e) (.str n)⟩
theorem ev_int {n : Int} : Ev K f (tC (.int n)) σ G (.int n) := fun H e Q q => q _ G H (Grow.refl e) (.int n)
theorem ev_bl {n : Bool} : Ev K f (tC (.bl n)) σ G (.bl n) := fun H e Q q => q _ G H (Grow.refl e) (.bl n)
theorem ev_non : Ev K f (tC .non) σ G .non := fun H e Q q => q _ G H (Grow.refl e) .non
theorem ev_str {n : Str} : Ev K f (tC (.str n)) σ G (.str n) := fun H e Q q => q _ G H (Grow.refl e) (.str n)

theorem ev_op {f1 : Bool} (ha : Ev K f1 ta σ G a) (hb : Ev K f1 tb σ G b) (hr : Rv K f f1 r a b c) : Ev K f (tOp r ta tb) σ G c := fun H e Q q =>
  ha H e _ fun x G1 H1 g1 rx => (hb.mono g1.e) H1 g1.sub _ fun y G2 H2 g2 ry => hr G2 x y H (rx.mono g2.e) (ry.h2 g1.ext) H2 g2.sub (g1.ext.trans g2.ext) Q fun v G3 H3 g3 rv => q v G3 H3 ((g1.trans g2).trans g3) rv
theorem evS_op {f1 : Bool} (ha : EvS K f1 ta σ G P1) (hb : EvS K f1 tb σ G P2) (hr : ∀ a b, P1 a → P2 b → ∃ c, P3 c ∧ Rv K f f1 r a b c) : EvS K f (tOp r ta tb) σ G P3 := fun H e Q q =>
  ha H e _ fun a x G1 H1 pa g1 rx => (hb.mono g1.e) H1 g1.sub _ fun b y G2 H2 pb g2 ry =>
    let ⟨c, pc, hr⟩ := hr a b pa pb
    hr G2 x y H (rx.mono g2.e) (ry.h2 g1.ext) H2 g2.sub (g1.ext.trans g2.ext) Q fun v G3 H3 g3 rv => q c v G3 H3 pc ((g1.trans g2).trans g3) rv
theorem ev_un {r : V → Hp → VK → Prop} (ha : Ev K false ta σ G a) (hr : Ru K f r a c) : Ev K f (tUn r ta) σ G c := fun H e Q q =>
  ha H e _ fun x G1 H1 g1 rx => hr G1 x rx H1 g1.sub Q fun v G2 H2 g2 rv => q v G2 H2 (g1.trans g2) (rv.h2 g1.ext)
theorem ea_nil : EvA K f tNil σ G [] := fun H e Q q => q [] G H (Grow.refl e) .nil
theorem ea_cons {tr : TA} (h : Ev K f te σ G d) (hr : EvA K f tr σ G ds) : EvA K f (tCons te tr) σ G (d :: ds) := fun H e Q q =>
  h H e _ fun x G1 H1 g1 rx => (hr.mono g1.e) H1 g1.sub _ fun vs G2 H2 g2 rs => q _ G2 H2 (g1.trans g2) (.cons (rx.mono g2.e) (rs.h2 g1.ext))
theorem EvAS.mono {ta : TA} {PA : List D → Prop} (e : Ex G G1) (h : EvAS K f ta σ G PA) : EvAS K f ta σ G1 PA := fun H eH Q q => h H (e.trans eH) Q fun ds v G' H' k g r =>
  let ⟨g1, e1⟩ := g.on e eH
  q ds v _ H' k g1 (r.mono e1)
theorem eaS_nil : EvAS K f tNil σ G (fun ds => ds = []) := fun H e Q q => q [] [] G H rfl (Grow.refl e) .nil
theorem eaS_cons {tr : TA} {PA : List D → Prop} (h : EvS K f te σ G P) (hr : EvAS K f tr σ G PA) : EvAS K f (tCons te tr) σ G (fun l => ∃ d ds, l = d :: ds ∧ P d ∧ PA ds) := fun H e Q q =>
  h H e _ fun d x G1 H1 pd g1 rx => (hr.mono g1.e) H1 g1.sub _ fun ds vs G2 H2 pds g2 rs => q (d :: ds) _ G2 H2 ⟨d, ds, rfl, pd, pds⟩ (g1.trans g2) (.cons (rx.mono g2.e) (rs.h2 g1.ext))
theorem ev_cb {r : List V → Hp → VK → Prop} {ta : TA} (h : EvA K false ta σ G ds) (hr : Rc K f r ds c) : Ev K f (tCB r ta) σ G c := fun H e Q q =>
  h H e _ fun vs G1 H1 g1 rs => hr G1 vs rs H1 g1.sub Q fun v G2 H2 g2 rv => q v G2 H2 (g1.trans g2) (rv.h2 g1.ext)
theorem evS_cb {r : List V → Hp → VK → Prop} {ta : TA} {PA : List D → Prop} (h : EvAS K false ta σ G PA) (hr : ∀ ds, PA ds → RcS K f r ds P) : EvS K f (tCB r ta) σ G P := fun H e Q q =>
  h H e _ fun ds vs G1 H1 pds g1 rs => hr ds pds G1 vs rs H1 g1.sub Q fun d v G2 H2 pd g2 rv => q d v G2 H2 pd (g1.trans g2) (rv.h2 g1.ext)
theorem ev_call {sp : Sp} {E : XK} {ta : TA} (h : EvA K false ta σ G ds) (hs : SpD K f sp ds c) : Ev K f (tCall sp [] E ta) σ G c := fun H e Q q =>
  h H e _ fun vs G1 H1 g1 rs => by
    rw [List.append_nil]
    exact hs E G1 vs rs H1 g1.sub Q fun v G2 H2 g2 rv => q v G2 H2 (g1.trans g2) (rv.h2 g1.ext)
theorem evS_call {sp : Sp} {E : XK} {ta : TA} {PA : List D → Prop} (h : EvAS K false ta σ G PA) (hs : ∀ ds, PA ds → SpDS K f sp ds P) : EvS K f (tCall sp [] E ta) σ G P := fun H e Q q =>
  h H e _ fun ds vs G1 H1 pds g1 rs => by
    rw [List.append_nil]
    exact hs ds pds E G1 vs rs H1 g1.sub Q fun d v G2 H2 pd g2 rv => q d v G2 H2 pd (g1.trans g2) (rv.h2 g1.ext)
theorem EvA.toS {ta : TA} (h : EvA K f ta σ G ds) : EvAS K f ta σ G (fun l => l = ds) := fun H e Q q => h H e Q fun vs G' H' g r => q ds vs G' H' rfl g r
theorem evS_call1 {sp : Sp} {E : XK} {ta : TA} (h : EvA K false ta σ G ds) (hs : SpDS K f sp ds P) : EvS K f (tCall sp [] E ta) σ G P := evS_call h.toS fun _ e => e ▸ hs

/-! ### tests -/
theorem et_test {x : Bool} (h : Ev K f te σ G (.bl x)) : EvT K (tTest te) σ G x := fun H e Q q => h H e _ fun v G1 H1 g1 rv => ⟨x, rv.bl_inv, q G1 H1 g1⟩
theorem et_B {x : Bool} (h : Ev K f te σ G (.bl x)) : EvT K (tB te) σ G x := fun H e Q q => h H e _ fun v G1 H1 g1 rv => ⟨x, rv.bl_inv, q G1 H1 g1⟩
theorem et_yes : EvT K tYes σ G true := fun H e Q q => q G H (Grow.refl e)
theorem et_and {x y : Bool} (h1 : EvT K t σ G x) (h2 : x = true → EvT K u σ G y) : EvT K (tAnd t u) σ G (x && y) := fun H e Q q => h1 H e _ fun G1 H1 g1 => by
  cases x with
  | true => exact ((h2 rfl).mono g1.e) H1 g1.sub Q fun G2 H2 g2 => q G2 H2 (g1.trans g2)
  | false => exact q G1 H1 g1
theorem et_or {x y : Bool} (h1 : EvT K t σ G x) (h2 : x = false → EvT K u σ G y) : EvT K (tOr t u) σ G (x || y) := fun H e Q q => h1 H e _ fun G1 H1 g1 => by
  cases x with
  | true => exact q G1 H1 g1
  | false => exact ((h2 rfl).mono g1.e) H1 g1.sub Q fun G2 H2 g2 => q G2 H2 (g1.trans g2)
theorem et_not {x : Bool} (h1 : EvT K t σ G x) : EvT K (tNot t) σ G (!x) := fun H e Q q => h1 H e _ fun G1 H1 g1 => q G1 H1 g1
theorem ev_andV {x y : Bool} (h1 : Ev K f ta σ G (.bl x)) (h2 : x = true → Ev K f tb σ G (.bl y)) : Ev K f (tAndV ta tb) σ G (.bl (x && y)) := fun H e Q q => h1 H e _ fun v G1 H1 g1 rv => ⟨x, rv.bl_inv, by
  cases x with
  | true => exact ((h2 rfl).mono g1.e) H1 g1.sub Q fun v G2 H2 g2 r2 => q v G2 H2 (g1.trans g2) (r2.h2 g1.ext)
  | false => exact q _ G1 H1 g1 (.bl false)⟩
theorem ev_orV {x y : Bool} (h1 : Ev K f ta σ G (.bl x)) (h2 : x = false → Ev K f tb σ G (.bl y)) : Ev K f (tOrV ta tb) σ G (.bl (x || y)) := fun H e Q q => h1 H e _ fun v G1 H1 g1 rv => ⟨x, rv.bl_inv, by
  cases x with
  | true => exact q _ G1 H1 g1 (.bl true)
  | false => exact ((h2 rfl).mono g1.e) H1 g1.sub Q fun v G2 H2 g2 r2 => q v G2 H2 (g1.trans g2) (r2.h2 g1.ext)⟩
theorem ev_notV {x : Bool} (h1 : Ev K f ta σ G (.bl x)) : Ev K f (tNotV ta) σ G (.bl (!x)) := fun H e Q q => h1 H e _ fun v G1 H1 g1 rv => ⟨x, rv.bl_inv, q _ G1 H1 g1 (.bl _)⟩
theorem ev_if {x : Bool} (h : EvT K t σ G x) (h1 : x = true → Ev K f ta σ G d) (h2 : x = false → Ev K f tb σ G d) : Ev K f (tIf t ta tb) σ G d := fun H e Q q => h H e _ fun G1 H1 g1 => by
  cases x with
  | true => exact ((h1 rfl).mono g1.e) H1 g1.sub Q fun v G2 H2 g2 r2 => q v G2 H2 (g1.trans g2) (r2.h2 g1.ext)
  | false => exact ((h2 rfl).mono g1.e) H1 g1.sub Q fun v G2 H2 g2 r2 => q v G2 H2 (g1.trans g2) (r2.h2 g1.ext)
theorem ev_chain {r1 r2 : R2} {x y : Bool} (ha : Ev K false ta σ G a) (hb : Ev K false tb σ G b) (h1 : Rv K false false r1 a b (.bl x)) (hc : x = true → Ev K false tc σ G c) (h2 : x = true → Rv K false false r2 b c (.bl y)) : Ev K f (tChain r1 r2 ta tb tc) σ G (.bl (x && y)) := fun H e Q q => by
  refine ha H e _ fun xv G1 H1 g1 rx => (hb.mono g1.e) H1 g1.sub _ fun yv G2 H2 g2 ry => h1 G2 xv yv H (rx.mono g2.e) ry H2 g2.sub (g1.ext.trans g2.ext) _ fun zv G3 H3 g3 rz => ⟨x, rz.bl_inv, ?_⟩
  cases x with
  | true =>
    refine ((hc rfl).mono ((g1.e.trans g2.e).trans g3.e)) H3 g3.sub _ fun wv G4 H4 g4 rw => (h2 rfl) G4 yv wv H (ry.mono (g3.e.trans g4.e)) rw H4 g4.sub (((g1.ext.trans g2.ext).trans g3.ext).trans g4.ext) Q fun v G5 H5 g5 rv => ?_
    have e5 := rv.bl_inv
    subst e5
    exact q _ G5 H5 ((((g1.trans g2).trans g3).trans g4).trans g5) (.bl _)
  | false => exact q _ G3 H3 ((g1.trans g2).trans g3) (.bl _)
end
end VL

/-! VL2: operations, built-in calls, displays, items, slices by data. -/
namespace VL
open PySem PySem.Spec PyProof.Rows L2
open Evl (Ex)

section
variable {K : Fr} {f f1 : Bool} {σ : L2.St} {G G1 G2 H H' : Hp} {te ta tb tc : TE} {t u : TT} {d a b c : D} {v : V} {r0 r1 r2 : R2} {P P1 P2 P3 : D → Prop} {ds es : List D}

theorem Rv.left (h : Rv K f f1 r1 a b c) : Rv K f f1 (fun x y H Q => r1 x y H Q ∨ r2 x y H Q) a b c := fun G x y H0 ra rb H e e0 Q q => Or.inl (h G x y H0 ra rb H e e0 Q q)
theorem Rv.right (h : Rv K f f1 r2 a b c) : Rv K f f1 (fun x y H Q => r1 x y H Q ∨ r2 x y H Q) a b c := fun G x y H0 ra rb H e e0 Q q => Or.inr (h G x y H0 ra rb H e e0 Q q)
theorem Rc.left {r1 r2 : List V → Hp → VK → Prop} (h : Rc K f r1 ds c) : Rc K f (fun xs H Q => r1 xs H Q ∨ r2 xs H Q) ds c := fun G x ra H e Q q => Or.inl (h G x ra H e Q q)
theorem Rc.right {r1 r2 : List V → Hp → VK → Prop} (h : Rc K f r2 ds c) : Rc K f (fun xs H Q => r1 xs H Q ∨ r2 xs H Q) ds c := fun G x ra H e Q q => Or.inr (h G x ra H e Q q)
theorem Rc.toS {r : List V → Hp → VK → Prop} (h : Rc K f r ds c) : RcS K f r ds (fun d => d = c) := fun G x ra H e Q q => h G x ra H e Q fun v G' H' g r => q c v G' H' rfl g r

/-! ints -/
theorem rv_I0 {g : Int → Int → V} {g' : D} {i j : Int} (hg : ∀ {fr : Option Hp} {H : Hp}, Rep K fr H g' (g i j)) : Rv K f f1 (rI0 g) (.int i) (.int j) g' := fun G x y H0 ra rb H e _ Q q =>
  ⟨i, j, ra.int_inv, rb.int_inv, q _ G H (Grow.refl e) hg⟩
theorem rv_I {C : Int → Int → Prop} {g : Int → Int → V} {g' : D} {i j : Int} (hc : C i j) (hg : ∀ {fr : Option Hp} {H : Hp}, Rep K fr H g' (g i j)) : Rv K f f1 (rI C g) (.int i) (.int j) g' := fun G x y H0 ra rb H e _ Q q =>
  ⟨i, j, ra.int_inv, rb.int_inv, hc, q _ G H (Grow.refl e) hg⟩
theorem rv_ii {g : Int → Int → Int} {i j : Int} : Rv K f f1 (rI0 fun i j => .int (g i j)) (.int i) (.int j) (.int (g i j)) := rv_I0 (.int _)
theorem rv_ib {g : Int → Int → Bool} {i j : Int} : Rv K f f1 (rI0 fun i j => .bl (g i j)) (.int i) (.int j) (.bl (g i j)) := rv_I0 (.bl _)
theorem rv_iiC {C : Int → Int → Prop} {g : Int → Int → Int} {i j : Int} (hc : C i j) : Rv K f f1 (rI C fun i j => .int (g i j)) (.int i) (.int j) (.int (g i j)) := rv_I hc (.int _)
theorem ru_neg {i : Int} : Ru K f (rU fun i => .int (-i)) (.int i) (.int (-i)) := fun G x ra H e Q q => ⟨i, ra.int_inv, q _ G H (Grow.refl e) (.int _)⟩

/-! equality of scalars -/
/-- what == says of two scalars of comparable kinds -/
def eqD : D → D → Option Bool
  | .int i, .int j => some (decide (i = j))
  | .bl i, .bl j => some (decide (i = j))
  | .str i, .str j => some (decide (i = j))
  | _, _ => none
theorem rv_eqI {i j : Int} : Rv K f f1 rEq (.int i) (.int j) (.bl (decide (i = j))) := fun G x y H0 ra rb H e _ Q q => by
  cases ra; cases rb
  refine ⟨rfl, ?_⟩
  have h : decide (V.int i = V.int j) = decide (i = j) := by by_cases h : i = j <;> simp [h]
  rw [h]; exact q _ G H (Grow.refl e) (.bl _)
theorem rv_neI {i j : Int} : Rv K f f1 rNe (.int i) (.int j) (.bl (!decide (i = j))) := fun G x y H0 ra rb H e _ Q q => by
  cases ra; cases rb
  refine ⟨rfl, ?_⟩
  have h : decide (V.int i = V.int j) = decide (i = j) := by by_cases h : i = j <;> simp [h]
  rw [h]; exact q _ G H (Grow.refl e) (.bl _)
theorem rv_eqS {i j : Str} : Rv K f f1 rEq (.str i) (.str j) (.bl (decide (i = j))) := fun G x y H0 ra rb H e _ Q q => by
  cases ra; cases rb
  refine ⟨rfl, ?_⟩
  have h : decide (V.str i = V.str j) = decide (i = j) := by by_cases h : i = j <;> simp [h]
  rw [h]; exact q _ G H (Grow.refl e) (.bl _)
theorem rv_neS {i j : Str} : Rv K f f1 rNe (.str i) (.str j) (.bl (!decide (i = j))) := fun G x y H0 ra rb H e _ Q q => by
  cases ra; cases rb
  refine ⟨rfl, ?_⟩
  have h : decide (V.str i = V.str j) = decide (i = j) := by by_cases h : i = j <;> simp [h]
  rw [h]; exact q _ G H (Grow.refl e) (.bl _)
def isNon : D → Bool
  | .non => true
  | _ => false
theorem Rep.isNon_eq {fr : Option Hp} (h : Rep K fr H d v) : decide (v = .non) = isNon d := by
  cases h <;> simp [isNon]
/-- is None, is not None -/
theorem rv_isN : Rv K f f1 (fun x y H Q => y = .non ∧ Q (.bl (decide (x = .non))) H) a .non (.bl (isNon a)) := fun G x y H0 ra rb H e _ Q q => by
  refine ⟨rb.non_inv, ?_⟩
  rw [ra.isNon_eq]; exact q _ G H (Grow.refl e) (.bl _)
theorem rv_notN : Rv K f f1 (fun x y H Q => y = .non ∧ Q (.bl (!decide (x = .non))) H) a .non (.bl (!isNon a)) := fun G x y H0 ra rb H e _ Q q => by
  refine ⟨rb.non_inv, ?_⟩
  rw [ra.isNon_eq]; exact q _ G H (Grow.refl e) (.bl _)
/-- x is True, x is False, whatever x is -/
def rIsTF : R2 := fun x y H Q => ∃ b, y = .bl b ∧ Q (.bl (decide (x = .bl b))) H
theorem op_isTF {X : Cx} : OpR X (compareOp .Is) rIsTF := by
  intro pins s σ H x y va vb Q I rx ry h
  obtain ⟨b, rfl, q⟩ := h
  cases (show vb = Value.bool b from ry)
  by_cases e : x = .bl b
  · subst e
    cases (show va = Value.bool b from rx)
    refine wpAny_is_self rfl ⟨.bl true, H, I, rfl, ?_⟩
    have e2 : decide (V.bl b = V.bl b) = true := by simp
    rw [← e2]; exact q
  · have hne : va ≠ Value.bool b := fun z => by
      subst z
      exact e (RelV.inj rx rfl)
    have hp : plainIs va (Value.bool b) = true := by
      cases x with
      | non => cases rx; rfl
      | bl c => cases rx; rfl
      | int i => obtain ⟨t, rfl⟩ := rx; rfl
      | str i => obtain ⟨t, rfl⟩ := rx; rfl
      | byt i => obtain ⟨t, rfl⟩ := rx; rfl
      | flt i => obtain ⟨t, rfl⟩ := rx; rfl
      | ref i => cases rx; rfl
      | ty i => cases rx; rfl
    refine wpAny_is_other hp hne ⟨.bl false, H, I, rfl, ?_⟩
    have e2 : decide (x = V.bl b) = false := decide_eq_false e
    rw [← e2]; exact q
def isBl (b : Bool) : D → Bool
  | .bl c => decide (c = b)
  | _ => false
theorem rv_isTF {x : Bool} : Rv K f f1 rIsTF a (.bl x) (.bl (isBl x a)) := fun G xv y H0 ra rb H e _ Q q => by
  refine ⟨x, rb.bl_inv, ?_⟩
  have h : decide (xv = V.bl x) = isBl x a := by cases ra <;> simp [isBl]
  rw [h]; exact q _ G H (Grow.refl e) (.bl _)

/-! in, for ints -/
theorem inV_int {n : Int} : ∀ (ns : List Int), inV (.int n) (ns.map V.int) = decide (n ∈ ns)
  | [] => by simp [inV]
  | m :: ns => by
    have ih := inV_int (n := n) ns
    unfold inV at ih ⊢
    rw [List.map_cons, List.any_cons, ih]
    have h : eqV (.int m) (.int n) = decide (m = n) := by
      show (m == n) = decide (m = n)
      by_cases e : m = n <;> simp [e]
    rw [h]
    by_cases e : n = m
    · subst e; simp
    · have e' : ¬ m = n := fun z => e z.symm
      simp [e, e']
theorem flat_ints : ∀ (ns : List Int), (ns.map V.int).all flatV = true
  | [] => rfl
  | n :: ns => by rw [List.map_cons, List.all_cons, flat_ints ns]; rfl
theorem rv_inL {n : Int} {ns : List Int} : Rv K f f1 (rIn K false) (.int n) (.lst (ns.map D.int)) (.bl (decide (n ∈ ns))) := fun G x y H0 ra rb H e _ Q q => by
  obtain ⟨p, vs, rfl, _, hp, rs⟩ := rb.lst_inv
  cases ra
  have ev := rs.ints
  subst ev
  refine ⟨p, _, rfl, Or.inl (SqL.of (e _ _ hp)), rfl, flat_ints ns, ?_⟩
  show Q (.bl (inV (.int n) (ns.map V.int))) H
  rw [inV_int]; exact q _ G H (Grow.refl e) (.bl _)
theorem rv_niL {n : Int} {ns : List Int} : Rv K f f1 (rIn K true) (.int n) (.lst (ns.map D.int)) (.bl (!decide (n ∈ ns))) := fun G x y H0 ra rb H e _ Q q => by
  obtain ⟨p, vs, rfl, _, hp, rs⟩ := rb.lst_inv
  cases ra
  have ev := rs.ints
  subst ev
  refine ⟨p, _, rfl, Or.inl (SqL.of (e _ _ hp)), rfl, flat_ints ns, ?_⟩
  show Q (.bl (!inV (.int n) (ns.map V.int))) H
  rw [inV_int]; exact q _ G H (Grow.refl e) (.bl _)
theorem rv_inT {n : Int} {ns : List Int} : Rv K f f1 (rIn K false) (.int n) (.tup (ns.map D.int)) (.bl (decide (n ∈ ns))) := fun G x y H0 ra rb H e _ Q q => by
  obtain ⟨p, vs, rfl, hp, rs⟩ := rb.tup_inv
  cases ra
  have ev := rs.ints
  subst ev
  refine ⟨p, _, rfl, Or.inr (Evl.ex_t e hp), rfl, flat_ints ns, ?_⟩
  show Q (.bl (inV (.int n) (ns.map V.int))) H
  rw [inV_int]; exact q _ G H (Grow.refl e) (.bl _)
theorem rv_niT {n : Int} {ns : List Int} : Rv K f f1 (rIn K true) (.int n) (.tup (ns.map D.int)) (.bl (!decide (n ∈ ns))) := fun G x y H0 ra rb H e _ Q q => by
  obtain ⟨p, vs, rfl, hp, rs⟩ := rb.tup_inv
  cases ra
  have ev := rs.ints
  subst ev
  refine ⟨p, _, rfl, Or.inr (Evl.ex_t e hp), rfl, flat_ints ns, ?_⟩
  show Q (.bl (!inV (.int n) (ns.map V.int))) H
  rw [inV_int]; exact q _ G H (Grow.refl e) (.bl _)

/-! items -/
theorem atI_len {α β : Type} {xs : List α} {ys : List β} (h : xs.length = ys.length) {i : Int} {x : α} (e : atI xs i = some x) : ∃ j : Nat, xs[j]? = some x ∧ ∀ y : β, ys[j]? = some y → atI ys i = some y := by
  unfold atI at e ⊢
  rw [h] at e
  cases q : ixN ys.length i with
  | none => rw [q] at e; cases e
  | some j =>
    rw [q] at e
    exact ⟨j, e, fun y hy => hy⟩
theorem rv_ixL {i : Int} (h : atI ds i = some d) : Rv K f f (rIxL K) (.lst ds) (.int i) d := fun G x y H0 ra rb H e e0 Q q => by
  obtain ⟨p, vs, rfl, _, hp, rs⟩ := ra.lst_inv
  cases rb
  obtain ⟨j, hj, hy⟩ := atI_len rs.length h
  obtain ⟨w, hw, rw'⟩ := rs.get hj
  exact ⟨p, vs, i, w, rfl, rfl, SqL.of (e _ _ hp), hy w hw, q w G H (Grow.refl e) rw'⟩
theorem rv_ixT {i : Int} (h : atI ds i = some d) : Rv K f f (rIxT K) (.tup ds) (.int i) d := fun G x y H0 ra rb H e e0 Q q => by
  obtain ⟨p, vs, rfl, hp, rs⟩ := ra.tup_inv
  cases rb
  obtain ⟨j, hj, hy⟩ := atI_len rs.length h
  obtain ⟨w, hw, rw'⟩ := rs.get hj
  exact ⟨p, vs, i, w, rfl, rfl, Evl.ex_t e hp, hy w hw, q w G H (Grow.refl e) rw'⟩
/-- + of two new lists -/
theorem rv_cat (hl : ds.length + es.length ≤ 100000) : Rv K true true rCat (.lst ds) (.lst es) (.lst (ds ++ es)) := fun G x y H0 ra rb H e e0 Q q => by
  obtain ⟨p, vs, rfl, fp, hp, rs⟩ := ra.lst_inv
  obtain ⟨p2, us, rfl, fp2, hp2, rs2⟩ := rb.lst_inv
  refine ⟨p, p2, vs, us, rfl, rfl, e _ _ hp, e _ _ hp2, Evl.sz_of (by rw [← rs.length, ← rs2.length]; exact hl), fun n hn => ?_⟩
  have g := Grow.laid (o := .lst (vs ++ us)) e hn
  exact q (.ref n) _ _ g (.lst (Evl.fresh_back e0 hn) upd_same ((rs.append rs2).mono g.e))
/-- + of two lists, the result new -/
theorem rv_catO (hl : ds.length + es.length ≤ 100000) : Rv K false f1 rCat (.lst ds) (.lst es) (.lst (ds ++ es)) := fun G x y H0 ra rb H e e0 Q q => by
  obtain ⟨p, vs, rfl, fp, hp, rs⟩ := ra.lst_inv
  obtain ⟨p2, us, rfl, fp2, hp2, rs2⟩ := rb.lst_inv
  refine ⟨p, p2, vs, us, rfl, rfl, e _ _ hp, e _ _ hp2, Evl.sz_of (by rw [← rs.length, ← rs2.length]; exact hl), fun n hn => ?_⟩
  have g := Grow.laid (o := .lst (vs ++ us)) e hn
  exact q (.ref n) _ _ g (.lst trivial upd_same ((rs.append rs2).old.mono g.e))
/-- [x] * k -/
theorem rv_rep1 {k : Int} (h0 : 0 ≤ k) (h1 : k ≤ 100000) (hs : scalarD d = true) : Rv K f f1 rRep (.lst [d]) (.int k) (.lst (List.replicate k.toNat d)) := fun G x y H0 ra rb H e e0 Q q => by
  obtain ⟨p, vs, rfl, fp, hp, rs⟩ := ra.lst_inv
  cases rb
  cases rs with
  | cons r1 r2 =>
    cases r2
    rename_i w
    refine ⟨p, k, [w], rfl, rfl, e _ _ hp, by omega, by omega, Evl.sz_of (by simp; omega), fun n hn => ?_⟩
    have g := Grow.laid (o := .lst (List.replicate k.toNat [w]).flatten) e hn
    have eq : (List.replicate k.toNat [w]).flatten = List.replicate k.toNat w := by
      generalize k.toNat = m
      induction m with
      | zero => rfl
      | succ m ih => rw [List.replicate_succ, List.replicate_succ, List.flatten_cons, ih]; rfl
    have rr : RepA K (frh f H0) (upd G n (.lst (List.replicate k.toNat [w]).flatten)) (List.replicate k.toNat d) (List.replicate k.toNat [w]).flatten := by
      rw [eq]
      have r' : Rep K (frh f H0) (upd G n (.lst (List.replicate k.toNat w))) d w := r1.scalar hs
      generalize (upd G n (.lst (List.replicate k.toNat w))) = G9 at r'
      generalize k.toNat = m
      induction m with
      | zero => exact .nil
      | succ m ih => exact .cons r' ih
    refine q (.ref n) _ _ g (.lst ?_ upd_same rr)
    cases f with
    | true => exact Evl.fresh_back e0 hn
    | false => trivial

/-! displays -/
theorem ev_tup {ta : TA} (h : EvA K f ta σ G ds) (hl : ds.length ≤ 100000) : Ev K f (tTup ta) σ G (.tup ds) := fun H e Q q =>
  h H e _ fun vs G1 H1 g1 rs => ⟨Evl.sz_of (by rw [← rs.length]; exact hl), fun p hp =>
    have g := Grow.laid (o := .tup vs) g1.sub hp
    q (.ref p) _ _ (g1.trans g) (.tup (SqT.of upd_same) (rs.mono g.e))⟩
theorem evS_tup {ta : TA} {PA : List D → Prop} (h : EvAS K f ta σ G PA) (hl : ∀ ds, PA ds → ds.length ≤ 100000) (hp : ∀ ds, PA ds → P (.tup ds)) : EvS K f (tTup ta) σ G P := fun H e Q q =>
  h H e _ fun ds vs G1 H1 pds g1 rs => ⟨Evl.sz_of (by rw [← rs.length]; exact hl ds pds), fun p hp' =>
    have g := Grow.laid (o := .tup vs) g1.sub hp'
    q (.tup ds) (.ref p) _ _ (hp ds pds) (g1.trans g) (.tup (SqT.of upd_same) (rs.mono g.e))⟩
/-- a new list is a list -/
theorem EvL.ev (h : EvL K f te σ G ds) : Ev K f te σ G (.lst ds) := fun H e Q q =>
  h H e _ fun p vs G1 H1 g1 h1 h2 h3 rs => by
    have e1 : Ex G1 (upd G1 p (.lst vs)) := Ex.new h2
    refine q (.ref p) (upd G1 p (.lst vs)) H1 ⟨g1.e.trans e1, fun a o ha => ?_, g1.ext, fun a ha ha' => ?_⟩ (.lst ?_ upd_same (rs.mono e1))
    · by_cases hx : a = p
      · subst hx; rw [upd_same] at ha; cases ha; exact h3
      · rw [upd_ne hx] at ha; exact g1.sub a o ha
    · by_cases hx : a = p
      · subst hx; exact h1
      · rw [upd_ne hx] at ha'; exact g1.new a ha ha'
    · cases f with
      | true => exact h1
      | false => trivial
theorem evl_lst {ta : TA} (h : EvA K f ta σ G ds) (hl : ds.length ≤ 100000) : EvL K f (tLst ta) σ G ds := fun H e Q q =>
  h H e _ fun vs G1 H1 g1 rs => ⟨Evl.sz_of (by rw [← rs.length]; exact hl), fun p hp =>
    q p vs G1 _ (g1.trans (Grow.hid g1.sub hp)) (Evl.fresh_back g1.ext hp) (Evl.fresh_back g1.sub hp) upd_same rs⟩
theorem ev_lst {ta : TA} (h : EvA K f ta σ G ds) (hl : ds.length ≤ 100000) : Ev K f (tLst ta) σ G (.lst ds) := (evl_lst h hl).ev
theorem evS_lst {ta : TA} {PA : List D → Prop} (h : EvAS K f ta σ G PA) (hl : ∀ ds, PA ds → ds.length ≤ 100000) (hp : ∀ ds, PA ds → P (.lst ds)) : EvS K f (tLst ta) σ G P := fun H e Q q =>
  h H e _ fun ds vs G1 H1 pds g1 rs => ⟨Evl.sz_of (by rw [← rs.length]; exact hl ds pds), fun p hp' => by
    have g := Grow.laid (o := .lst vs) g1.sub hp'
    refine q (.lst ds) (.ref p) _ _ (hp ds pds) (g1.trans g) (.lst ?_ upd_same (rs.mono g.e))
    cases f with
    | true => exact Evl.fresh_back g1.ext hp'
    | false => trivial⟩

/-! slices -/
theorem eo_none : EvO K tNoPart σ G none := fun H e Q q => q G H (Grow.refl e)
theorem eo_some {i : Int} (h : Ev K false te σ G (.int i)) : EvO K (tPart te) σ G (some i) := fun H e Q q => h H e _ fun v G1 H1 g1 rv => ⟨i, rv.int_inv, q G1 H1 g1⟩
/-- the part lo .. hi of a list -/
def cutD {α : Type} (xs : List α) (lo hi : Option Int) : List α := (xs.drop (HT.sIx xs.length 0 lo)).take (HT.sIx xs.length xs.length hi - HT.sIx xs.length 0 lo)
theorem RepA.cut {fr : Option Hp} {vs : List V} (lo hi : Option Int) (h : RepA K fr H ds vs) : RepA K fr H (cutD ds lo hi) (cutV vs lo hi) := by
  unfold cutD cutV
  rw [h.length]
  exact (h.drop _).take _
theorem evl_sl {tl th : TO} {lo hi : Option Int} (h : Ev K f te σ G (.lst ds)) (h1 : EvO K tl σ G lo) (h2 : EvO K th σ G hi) : EvL K f (tSl (rSlL K) te tl th) σ G (cutD ds lo hi) := fun H e Q q =>
  h H e _ fun v G1 H1 g1 rv => (h1.mono g1.e) H1 g1.sub _ fun G2 H2 g2 => (h2.mono (g1.e.trans g2.e)) H2 g2.sub _ fun G3 H3 g3 => by
    obtain ⟨p, vs, rfl, _, hp, rs⟩ := rv.lst_inv
    have g := (g1.trans g2).trans g3
    refine ⟨p, vs, rfl, SqL.of (g3.sub _ _ (g3.e _ _ (g2.e _ _ hp))), fun n hn => q n _ G3 _ (g.trans (Grow.hid g.sub hn)) (Evl.fresh_back g.ext hn) (Evl.fresh_back g.sub hn) upd_same ((rs.mono (g2.e.trans g3.e)).cut lo hi)⟩
theorem ev_sl {tl th : TO} {lo hi : Option Int} (h : Ev K f te σ G (.lst ds)) (h1 : EvO K tl σ G lo) (h2 : EvO K th σ G hi) : Ev K f (tSl (rSlL K) te tl th) σ G (.lst (cutD ds lo hi)) := (evl_sl h h1 h2).ev

/-! built-in calls -/
theorem rc_len1 : Rc K f (fun xs H Q => ∃ p ys, xs = [.ref p] ∧ (SqL K H p ys ∨ SqT K H p ys) ∧ Q (.int ys.length) H) [.lst ds] (.int (ds.length : Int)) := fun G vs rs H e Q q => by
  cases rs with
  | cons r t =>
    cases t
    obtain ⟨p, us, rfl, _, hp, rr⟩ := r.lst_inv
    refine ⟨p, us, rfl, Or.inl (SqL.of (e _ _ hp)), ?_⟩
    rw [← rr.length]; exact q _ G H (Grow.refl e) (.int _)
theorem rc_len2 : Rc K f (fun xs H Q => ∃ p ys, xs = [.ref p] ∧ (SqL K H p ys ∨ SqT K H p ys) ∧ Q (.int ys.length) H) [.tup ds] (.int (ds.length : Int)) := fun G vs rs H e Q q => by
  cases rs with
  | cons r t =>
    cases t
    obtain ⟨p, us, rfl, hp, rr⟩ := r.tup_inv
    refine ⟨p, us, rfl, Or.inr (Evl.ex_t e hp), ?_⟩
    rw [← rr.length]; exact q _ G H (Grow.refl e) (.int _)
theorem rc_sum {ns : List Int} : Rc K f (rSum K) [.lst (ns.map D.int)] (.int ns.sum) := fun G vs rs H e Q q => by
  cases rs with
  | cons r t =>
    cases t
    obtain ⟨p, us, rfl, _, hp, rr⟩ := r.lst_inv
    cases rr.ints
    exact ⟨p, ns, rfl, SqL.of (e _ _ hp), q _ G H (Grow.refl e) (.int _)⟩
theorem rc_any {bs : List Bool} : Rc K f (rAny K) [.lst (bs.map D.bl)] (.bl (bs.any id)) := fun G vs rs H e Q q => by
  cases rs with
  | cons r t =>
    cases t
    obtain ⟨p, us, rfl, _, hp, rr⟩ := r.lst_inv
    cases rr.bools
    exact ⟨p, bs, rfl, SqL.of (e _ _ hp), q _ G H (Grow.refl e) (.bl _)⟩
theorem rc_all {bs : List Bool} : Rc K f (rAll K) [.lst (bs.map D.bl)] (.bl (bs.all id)) := fun G vs rs H e Q q => by
  cases rs with
  | cons r t =>
    cases t
    obtain ⟨p, us, rfl, _, hp, rr⟩ := r.lst_inv
    cases rr.bools
    exact ⟨p, bs, rfl, SqL.of (e _ _ hp), q _ G H (Grow.refl e) (.bl _)⟩
theorem rc_abs {i : Int} : Rc K f (fun xs H Q => ∃ i, xs = [.int i] ∧ Q (.int (if i < 0 then -i else i)) H) [.int i] (.int (if i < 0 then -i else i)) := fun G vs rs H e Q q => by
  cases rs with
  | cons r t => cases t; cases r; exact ⟨i, rfl, q _ G H (Grow.refl e) (.int _)⟩
theorem rc_max2 {i j : Int} : Rc K f (fun xs H Q => ∃ i j, xs = [.int i, .int j] ∧ Q (.int (if j > i then j else i)) H) [.int i, .int j] (.int (max i j)) := fun G vs rs H e Q q => by
  cases rs with
  | cons r t =>
    cases t with
    | cons r' t =>
      cases t; cases r; cases r'
      refine ⟨i, j, rfl, ?_⟩
      have h : (if j > i then j else i) = max i j := by split <;> omega
      rw [h]; exact q _ G H (Grow.refl e) (.int _)
theorem rc_min2 {i j : Int} : Rc K f (fun xs H Q => ∃ i j, xs = [.int i, .int j] ∧ Q (.int (if j < i then j else i)) H) [.int i, .int j] (.int (min i j)) := fun G vs rs H e Q q => by
  cases rs with
  | cons r t =>
    cases t with
    | cons r' t =>
      cases t; cases r; cases r'
      refine ⟨i, j, rfl, ?_⟩
      have h : (if j < i then j else i) = min i j := by split <;> omega
      rw [h]; exact q _ G H (Grow.refl e) (.int _)
theorem rc_int {i : Int} : Rc K f (fun xs H Q => (∃ i, xs = [.int i] ∧ Q (.int i) H) ∨ ∃ k, xs = [.bl k] ∧ Q (.int (if k then 1 else 0)) H) [.int i] (.int i) := fun G vs rs H e Q q => by
  cases rs with
  | cons r t => cases t; cases r; exact Or.inl ⟨i, rfl, q _ G H (Grow.refl e) (.int _)⟩
theorem rc_intB {i : Bool} : Rc K f (fun xs H Q => (∃ i, xs = [.int i] ∧ Q (.int i) H) ∨ ∃ k, xs = [.bl k] ∧ Q (.int (if k then 1 else 0)) H) [.bl i] (.int (if i then 1 else 0)) := fun G vs rs H e Q q => by
  cases rs with
  | cons r t => cases t; cases r; exact Or.inr ⟨i, rfl, q _ G H (Grow.refl e) (.int _)⟩
/-- list(x): the items as they are -/
theorem rc_listL : Rc K false (fun xs H Q => ∃ p ys, xs = [.ref p] ∧ (SqL K H p ys ∨ SqT K H p ys) ∧ ∀ l, H l = none → Q (.ref l) (upd H l (.lst ys))) [.lst ds] (.lst ds) := fun G vs rs H e Q q => by
  cases rs with
  | cons r t =>
    cases t
    obtain ⟨p, us, rfl, _, hp, rr⟩ := r.lst_inv
    refine ⟨p, us, rfl, Or.inl (SqL.of (e _ _ hp)), fun n hn => ?_⟩
    have g := Grow.laid (o := .lst us) e hn
    exact q (.ref n) _ _ g (.lst trivial upd_same (rr.mono g.e))
theorem rc_listT : Rc K false (fun xs H Q => ∃ p ys, xs = [.ref p] ∧ (SqL K H p ys ∨ SqT K H p ys) ∧ ∀ l, H l = none → Q (.ref l) (upd H l (.lst ys))) [.tup ds] (.lst ds) := fun G vs rs H e Q q => by
  cases rs with
  | cons r t =>
    cases t
    obtain ⟨p, us, rfl, hp, rr⟩ := r.tup_inv
    refine ⟨p, us, rfl, Or.inr (Evl.ex_t e hp), fun n hn => ?_⟩
    have g := Grow.laid (o := .lst us) e hn
    exact q (.ref n) _ _ g (.lst trivial upd_same (rr.mono g.e))
/-- data without lists within: old is new -/
theorem RepA.scalars {fr fr' : Option Hp} : ∀ {ds : List D} {vs : List V}, (∀ d ∈ ds, scalarD d = true) → RepA K fr H ds vs → RepA K fr' H' ds vs := by
  intro ds
  induction ds with
  | nil => intro vs _ h; cases h; exact .nil
  | cons d ds ih =>
    intro vs hs h
    cases h with
    | cons h t => exact .cons (h.scalar (hs d List.mem_cons_self)) (ih (fun x hx => hs x (List.mem_cons_of_mem _ hx)) t)
theorem rc_listLs (hs : ∀ d ∈ ds, scalarD d = true) : Rc K f (fun xs H Q => ∃ p ys, xs = [.ref p] ∧ (SqL K H p ys ∨ SqT K H p ys) ∧ ∀ l, H l = none → Q (.ref l) (upd H l (.lst ys))) [.lst ds] (.lst ds) := fun G vs rs H e Q q => by
  cases rs with
  | cons r t =>
    cases t
    obtain ⟨p, us, rfl, _, hp, rr⟩ := r.lst_inv
    refine ⟨p, us, rfl, Or.inl (SqL.of (e _ _ hp)), fun n hn => ?_⟩
    have g := Grow.laid (o := .lst us) e hn
    refine q (.ref n) _ _ g (.lst ?_ upd_same (rr.scalars hs))
    cases f with
    | true => exact hn
    | false => trivial
theorem rc_listTs (hs : ∀ d ∈ ds, scalarD d = true) : Rc K f (fun xs H Q => ∃ p ys, xs = [.ref p] ∧ (SqL K H p ys ∨ SqT K H p ys) ∧ ∀ l, H l = none → Q (.ref l) (upd H l (.lst ys))) [.tup ds] (.lst ds) := fun G vs rs H e Q q => by
  cases rs with
  | cons r t =>
    cases t
    obtain ⟨p, us, rfl, hp, rr⟩ := r.tup_inv
    refine ⟨p, us, rfl, Or.inr (Evl.ex_t e hp), fun n hn => ?_⟩
    have g := Grow.laid (o := .lst us) e hn
    refine q (.ref n) _ _ g (.lst ?_ upd_same (rr.scalars hs))
    cases f with
    | true => exact hn
    | false => trivial
/-- tuple(list) -/
theorem rc_tupL : Rc K false (fun xs H Q => ∃ p ys, xs = [.ref p] ∧ ((SqL K H p ys ∧ ∀ l, H l = none → Q (.ref l) (upd H l (.tup ys))) ∨ (SqT K H p ys ∧ Q (.ref p) H))) [.lst ds] (.tup ds) := fun G vs rs H e Q q => by
  cases rs with
  | cons r t =>
    cases t
    obtain ⟨p, us, rfl, _, hp, rr⟩ := r.lst_inv
    refine ⟨p, us, rfl, Or.inl ⟨SqL.of (e _ _ hp), fun n hn => ?_⟩⟩
    have g := Grow.laid (o := .tup us) e hn
    exact q (.ref n) _ _ g (.tup (SqT.of upd_same) (rr.mono g.e))
theorem rc_tupT : Rc K false (fun xs H Q => ∃ p ys, xs = [.ref p] ∧ ((SqL K H p ys ∧ ∀ l, H l = none → Q (.ref l) (upd H l (.tup ys))) ∨ (SqT K H p ys ∧ Q (.ref p) H))) [.tup ds] (.tup ds) := fun G vs rs H e Q q => by
  cases rs with
  | cons r t =>
    cases t
    obtain ⟨p, us, rfl, hp, rr⟩ := r.tup_inv
    exact ⟨p, us, rfl, Or.inr ⟨Evl.ex_t e hp, q (.ref p) G H (Grow.refl e) (.tup hp rr)⟩⟩
/-- sorted(ints) -/
theorem rc_sorted {ns ms : List Int} (hu : ∀ zs : List Int, zs.Perm ns → zs.Pairwise (· ≤ ·) → zs = ms) : Rc K f (rSortedI K) [.lst (ns.map D.int)] (.lst (ms.map D.int)) := fun G vs rs H e Q q => by
  cases rs with
  | cons r t =>
    cases t
    obtain ⟨p, us, rfl, _, hp, rr⟩ := r.lst_inv
    cases rr.ints
    refine ⟨p, ns, rfl, SqL.of (e _ _ hp), fun zs n h1 h2 hn => ?_⟩
    have hz := hu zs h1 h2
    rw [hz]
    have g := Grow.laid (o := .lst (ms.map V.int)) e hn
    refine q (.ref n) _ _ g (.lst ?_ upd_same (RepA.ofInts ms))
    cases f with
    | true => exact hn
    | false => trivial
end
end VL

/-! VL3: what a for walks, comprehensions, statements, loops, promises. -/
namespace VL
open PySem PySem.Spec PyProof.Rows L2
open Evl (Ex)

/-- what is given at turn i: some data of the i-th -/
def YR (K : Fr) (G : Hp) {α : Type} (xs : List α) (c : α → D) : Nat → Hp → V → Hp → Prop := fun i Hc x H' => ∃ a G2, xs[i]? = some a ∧ Grow G Hc G2 H' ∧ Rep K none G2 (c a) x
def EvI (K : Fr) (wi : TI) (σ : L2.St) (G : Hp) {α : Type} (xs : List α) (c : α → D) : Prop := ∀ H, Ex G H → ∀ R : It → Hp → Prop, (∀ J G' H', Grow G H G' H' → Walk J xs.length (fun H => Ex G' H) (YR K G' xs c) → R J H') → wi σ H R
def iOr (w1 w2 : TI) : TI := fun σ H R => w1 σ H R ∨ w2 σ H R
theorem pi_or {X : Cx} {tg e : Expr} {w1 w2 : TI} (h1 : PI X tg e w1) (h2 : PI X tg e w2) : PI X tg e (iOr w1 w2) :=
  ⟨fun pins s σ H R I h => h.elim (fun z => h1.run pins s σ H R I z) fun z => h2.run pins s σ H R I z⟩
def eOr (t1 t2 : TE) : TE := fun σ H Q => t1 σ H Q ∨ t2 σ H Q
theorem pe_or2 {X : Cx} {e : Expr} {t1 t2 : TE} (h1 : PE X e t1) (h2 : PE X e t2) : PE X e (eOr t1 t2) :=
  ⟨fun pins s σ H Q I h => h.elim (fun z => h1.run pins s σ H Q I z) fun z => h2.run pins s σ H Q I z⟩

/-- lo, lo + 1, .. -/
def rng (lo : Int) (n : Nat) : List Int := (List.range n).map fun i : Nat => lo + (i : Int)
theorem rng_length (lo : Int) (n : Nat) : (rng lo n).length = n := by unfold rng; rw [List.length_map, List.length_range]
theorem rng_get {lo : Int} {n i : Nat} (h : i < n) : (rng lo n)[i]? = some (lo + (i : Int)) := by
  unfold rng
  rw [List.getElem?_map, List.getElem?_range h]
  rfl
theorem mem_rng {lo x : Int} {n : Nat} : x ∈ rng lo n ↔ lo ≤ x ∧ x < lo + (n : Int) := by
  unfold rng
  rw [List.mem_map]
  constructor
  · rintro ⟨i, hi, rfl⟩
    have := List.mem_range.mp hi
    omega
  · rintro ⟨h1, h2⟩
    exact ⟨(x - lo).toNat, List.mem_range.mpr (by omega), by omega⟩
/-- the items with their numbers -/
def enumL {α : Type} : Nat → List α → List (Int × α)
  | _, [] => []
  | n, x :: xs => ((n : Int), x) :: enumL (n + 1) xs
theorem enumL_length {α : Type} : ∀ (n : Nat) (xs : List α), (enumL n xs).length = xs.length
  | _, [] => rfl
  | n, x :: xs => by unfold enumL; rw [List.length_cons, List.length_cons, enumL_length]
theorem enumL_get {α : Type} : ∀ {n : Nat} {xs : List α} {i : Nat} {x : α}, xs[i]? = some x → (enumL n xs)[i]? = some (((n + i : Nat) : Int), x)
  | n, [], i, x, h => by simp at h
  | n, y :: ys, 0, x, h => by simp at h; subst h; rfl
  | n, y :: ys, i + 1, x, h => by
    have q := enumL_get (n := n + 1) (xs := ys) (i := i) (x := x) (by simpa using h)
    have e : n + 1 + i = n + (i + 1) := by omega
    rw [e] at q
    simpa [enumL] using q
theorem mem_enumL {α : Type} : ∀ {n : Nat} {xs : List α} {p : Int × α}, p ∈ enumL n xs → ∃ i : Nat, xs[i]? = some p.2 ∧ p.1 = ((n + i : Nat) : Int)
  | n, [], p, h => by simp [enumL] at h
  | n, y :: ys, p, h => by
    unfold enumL at h
    rcases List.mem_cons.mp h with rfl | h
    · exact ⟨0, rfl, by simp⟩
    · obtain ⟨i, h1, h2⟩ := mem_enumL h
      exact ⟨i + 1, by simpa using h1, by rw [h2]; congr 1; omega⟩

section
variable {K : Fr} {f : Bool} {σ : L2.St} {G H : Hp} {te ta tb : TE} {d : D} {α : Type} {xs : List α} {c : α → D} {wi : TI}
theorem getm {i : Nat} {d : D} (h : (xs.map c)[i]? = some d) : ∃ a, xs[i]? = some a ∧ d = c a := by
  rw [List.getElem?_map] at h
  cases q : xs[i]? with
  | none => rw [q] at h; cases h
  | some a => rw [q] at h; exact ⟨a, rfl, (Option.some.inj h).symm⟩
theorem ei_list {tl : TE} (h : Ev K false tl σ G (.lst (xs.map c))) : EvI K (iList K tl) σ G xs c := fun H e R q =>
  h H e _ fun v G1 H1 g1 rv => by
    obtain ⟨p, vs, rfl, _, hp, rs⟩ := rv.lst_inv
    refine ⟨p, rfl, ⟨vs, SqL.of (g1.sub _ _ hp)⟩, q _ G1 H1 g1 ?_⟩
    have hl : xs.length = vs.length := by rw [← rs.length, List.length_map]
    rw [hl]
    refine Walk.mono walk_list (fun H2 e2 => SqL.of (e2 _ _ hp)) fun i H2 x H3 hi e2 y => ?_
    obtain ⟨rfl, hx⟩ := y
    obtain ⟨d, hd, rd⟩ := rs.getV hx
    obtain ⟨a, ha, rfl⟩ := getm hd
    exact ⟨a, G1, ha, Grow.refl e2, rd⟩
theorem ei_tup {tl : TE} (h : Ev K false tl σ G (.tup (xs.map c))) : EvI K (iTup K tl) σ G xs c := fun H e R q =>
  h H e _ fun v G1 H1 g1 rv => by
    obtain ⟨p, vs, rfl, hp, rs⟩ := rv.tup_inv
    refine ⟨p, rfl, ⟨vs, Evl.ex_t g1.sub hp⟩, q _ G1 H1 g1 ?_⟩
    have hl : xs.length = vs.length := by rw [← rs.length, List.length_map]
    rw [hl]
    refine Walk.mono walk_tup (fun H2 e2 => Evl.ex_t e2 hp) fun i H2 x H3 hi e2 y => ?_
    obtain ⟨rfl, hx⟩ := y
    obtain ⟨d, hd, rd⟩ := rs.getV hx
    obtain ⟨a, ha, rfl⟩ := getm hd
    exact ⟨a, G1, ha, Grow.refl e2, rd⟩
theorem ei_left {w1 w2 : TI} (h : EvI K w1 σ G xs c) : EvI K (iOr w1 w2) σ G xs c := fun H e R q => Or.inl (h H e R q)
theorem ei_right {w1 w2 : TI} (h : EvI K w2 σ G xs c) : EvI K (iOr w1 w2) σ G xs c := fun H e R q => Or.inr (h H e R q)
theorem ev_left {t1 t2 : TE} (h : Ev K f t1 σ G d) : Ev K f (eOr t1 t2) σ G d := fun H e R q => Or.inl (h H e R q)
theorem ev_right {t1 t2 : TE} (h : Ev K f t2 σ G d) : Ev K f (eOr t1 t2) σ G d := fun H e R q => Or.inr (h H e R q)
theorem ei_rng1 {ta : TA} {n : Int} (h : EvA K false ta σ G [.int n]) (h1 : -(2 ^ 62) ≤ n) (h2 : n < 2 ^ 62) : EvI K (iRng1 ta) σ G (rng 0 n.toNat) D.int := fun H e R q =>
  h H e _ fun vs G1 H1 g1 rs => by
    cases rs with
    | cons r t =>
      cases t
      cases r
      refine ⟨n, rfl, h1, h2, q _ G1 H1 g1 ?_⟩
      rw [rng_length]
      refine Walk.mono walk_range (fun _ _ => trivial) fun i H2 x H3 hi e2 y => ?_
      obtain ⟨rfl, rfl⟩ := y
      exact ⟨_, G1, rng_get hi, Grow.refl e2, .int _⟩
theorem ei_rng2 {ta : TA} {a b : Int} (h : EvA K false ta σ G [.int a, .int b]) (hb : -(2 ^ 62) ≤ a ∧ a < 2 ^ 62 ∧ -(2 ^ 62) ≤ b ∧ b < 2 ^ 62) : EvI K (iRng2 ta) σ G (rng a (b - a).toNat) D.int := fun H e R q =>
  h H e _ fun vs G1 H1 g1 rs => by
    cases rs with
    | cons r t =>
      cases t with
      | cons r' t =>
        cases t; cases r; cases r'
        refine ⟨a, b, rfl, hb, q _ G1 H1 g1 ?_⟩
        rw [rng_length]
        refine Walk.mono walk_range (fun _ _ => trivial) fun i H2 x H3 hi e2 y => ?_
        obtain ⟨rfl, rfl⟩ := y
        exact ⟨_, G1, rng_get hi, Grow.refl e2, .int _⟩
theorem rep_pair {G H : Hp} {p : Addr} {n : Int} {d : D} {v : V} (e : Ex G H) (hn : H p = none) (r : Rep K none G d v) : Grow G H (upd G p (.tup [.int n, v])) (upd H p (.tup [.int n, v])) ∧ Rep K none (upd G p (.tup [.int n, v])) (.tup [.int n, d]) (.ref p) :=
  have g := Grow.laid (o := .tup [.int n, v]) e hn
  ⟨g, .tup (SqT.of upd_same) (.cons (.int n) (.cons (r.mono g.e) .nil))⟩
theorem ei_enum {ta : TA} (h : EvA K false ta σ G [.lst (xs.map c)]) : EvI K (iEnum K ta) σ G (enumL 0 xs) (fun p => .tup [.int p.1, c p.2]) := fun H e R q =>
  h H e _ fun vs G1 H1 g1 rs => by
    cases rs with
    | cons r t =>
      cases t
      obtain ⟨p, us, rfl, _, hp, rr⟩ := r.lst_inv
      refine ⟨p, us, rfl, SqL.of (g1.sub _ _ hp), q _ G1 H1 g1 ?_⟩
      have hl : xs.length = us.length := by rw [← rr.length, List.length_map]
      rw [enumL_length, hl]
      refine Walk.mono walk_enum (fun H2 e2 => SqL.of (e2 _ _ hp)) fun i H2 x H3 hi e2 y => ?_
      obtain ⟨T, x1, x2, rfl, hT, rfl, h1, h2⟩ := y
      cases h1
      obtain ⟨d, hd, rd⟩ := rr.getV h2
      obtain ⟨a, ha, rfl⟩ := getm hd
      obtain ⟨g, r2⟩ := rep_pair (n := (i : Int)) e2 hT rd
      exact ⟨_, _, enumL_get ha, g, by simpa using r2⟩
end

/-! ### targets -/
/-- the target g takes data d: the slots behind it are of S -/
def Tgt (K : Fr) (g : TG) (σ : L2.St) (d : D) (G : Hp) (S : L2.St → Prop) : Prop := ∀ v, Rep K none G d v → ∀ H, Ex G H → ∀ Q : L2.St → Hp → Prop, (∀ σ', S σ' → Q σ' H) → g v σ H Q
section
variable {K : Fr} {σ : L2.St} {G : Hp} {d d1 d2 : D} {S S1 : L2.St → Prop} {g g1 g2 : TG} {i : Nat}
theorem tg_name : Tgt K (gName i) σ d G (fun σ' => ∃ v, Rep K none G d v ∧ σ' = σ.set i (some v)) := fun v r H e Q q => q _ ⟨v, r, rfl⟩
theorem tg_int {n : Int} : Tgt K (gName i) σ (.int n) G (fun σ' => σ' = σ.set i (some (.int n))) := fun v r H e Q q => by cases r; exact q _ rfl
theorem tg_pair {S2 : L2.St → L2.St → Prop} (h1 : Tgt K g1 σ d1 G S1) (h2 : ∀ σ1, S1 σ1 → Tgt K g2 σ1 d2 G (S2 σ1)) : Tgt K (gTup K 2 (gCons g1 (gCons g2 gNil))) σ (.tup [d1, d2]) G (fun σ' => ∃ σ1, S1 σ1 ∧ S2 σ1 σ') := fun v r H e Q q => by
  obtain ⟨a, vs, rfl, ha, rs⟩ := r.tup_inv
  cases rs with
  | cons r1 t =>
    cases t with
    | cons r2 t =>
      cases t
      refine ⟨a, _, rfl, Evl.ex_t e ha, rfl, _, _, rfl, ?_⟩
      exact h1 _ r1 H e _ fun σ1 s1 => ⟨_, _, rfl, h2 σ1 s1 _ r2 H e _ fun σ2 s2 => ⟨rfl, q _ ⟨σ1, s1, s2⟩⟩⟩
theorem tg_triple {g3 : TG} {d3 : D} {S2 S3 : L2.St → L2.St → Prop} (h1 : Tgt K g1 σ d1 G S1) (h2 : ∀ σ1, S1 σ1 → Tgt K g2 σ1 d2 G (S2 σ1)) (h3 : ∀ σ1 σ2, S1 σ1 → S2 σ1 σ2 → Tgt K g3 σ2 d3 G (S3 σ2)) : Tgt K (gTup K 3 (gCons g1 (gCons g2 (gCons g3 gNil)))) σ (.tup [d1, d2, d3]) G (fun σ' => ∃ σ1 σ2, S1 σ1 ∧ S2 σ1 σ2 ∧ S3 σ2 σ') := fun v r H e Q q => by
  obtain ⟨a, vs, rfl, ha, rs⟩ := r.tup_inv
  cases rs with
  | cons r1 t =>
    cases t with
    | cons r2 t =>
      cases t with
      | cons r3 t =>
        cases t
        refine ⟨a, _, rfl, Evl.ex_t e ha, rfl, _, _, rfl, ?_⟩
        exact h1 _ r1 H e _ fun σ1 s1 => ⟨_, _, rfl, h2 σ1 s1 _ r2 H e _ fun σ2 s2 => ⟨_, _, rfl, h3 σ1 σ2 s1 s2 _ r3 H e _ fun σ3 s3 => ⟨rfl, q _ ⟨σ1, σ2, s1, s2, s3⟩⟩⟩⟩
theorem Tgt.imp {S' : L2.St → Prop} (h : Tgt K g σ d G S) (hs : ∀ σ', S σ' → S' σ') : Tgt K g σ d G S' := fun v r H e Q q => h v r H e Q fun σ' s => q σ' (hs σ' s)
end

/-! ### comprehensions -/
theorem take_next {α : Type} {xs : List α} {i : Nat} {a : α} (h : xs[i]? = some a) : xs.take (i + 1) = xs.take i ++ [a] := by
  rw [List.take_add_one, h]; rfl
section
variable {K : Fr} {f : Bool} {σ : L2.St} {G H : Hp} {te : TE} {tt : TT} {g : TG} {vs : List Nat} {α : Type} {xs : List α} {c : α → D} {wi : TI} {b : α → Bool} {h : α → D} {S : α → Hp → L2.St → Prop}
theorem evl_lc (hi : EvI K wi σ G xs c) (hl : xs.length ≤ 50000) (hw : ∀ a G1 σ', S a G1 σ' → wipe σ' vs = wipe σ vs)
    (hg : ∀ a ∈ xs, ∀ G1, Ex G G1 → Tgt K g (wipe σ vs) (c a) G1 (S a G1))
    (ht : ∀ a ∈ xs, ∀ G1, Ex G G1 → ∀ σ', S a G1 σ' → EvT K tt σ' G1 (b a))
    (he : ∀ a ∈ xs, b a = true → ∀ G1, Ex G G1 → ∀ σ', S a G1 σ' → Ev K f te σ' G1 (h a)) : EvL K f (tLc wi g tt te vs) σ G ((xs.filter b).map h) := fun H e Q q =>
  hi H e _ fun J G1 H1 g1 W => fun L hL => by
    have hLH : H L = none := g1.free hL
    refine lc_it W (fun i Hc => ∃ Gc acc, Grow G H Gc Hc ∧ Ex G1 Gc ∧ Gc L = none ∧ Hc L = some (.lst acc) ∧ RepA K (frh f H) Gc (((xs.take i).filter b).map h) acc) ?_ ?_ ?_ ?_
    · exact ⟨G1, [], g1.trans (Grow.hid g1.sub hL), Ex.refl _, Evl.fresh_back g1.sub hL, upd_same, by simpa using RepA.nil⟩
    · rintro i Hc hi' ⟨Gc, acc, gc, e1, _, _, _⟩
      exact e1.trans gc.sub
    · rintro i x Hc H2 hi' ⟨Gc, acc, gc, e1, nL, hcL, rs⟩ ⟨a, G2, ha, g2, rx⟩
      obtain ⟨g3, e3⟩ := g2.on e1 gc.sub
      have ma : a ∈ xs := List.mem_of_getElem? ha
      have k2 := g3.keep hcL nL
      have lenA : acc.length ≤ xs.length := by
        rw [← rs.length, List.length_map]
        refine Nat.le_trans (List.length_filter_le _ _) ?_
        rw [List.length_take]; exact Nat.min_le_right _ _
      refine hg a ma _ (gc.e.trans g3.e) x (rx.mono e3) H2 g3.sub _ fun σ' sσ => ⟨hw a _ σ' sσ, ?_⟩
      refine ht a ma _ (gc.e.trans g3.e) σ' sσ H2 g3.sub _ fun G4 H4 g4 => ?_
      have k4 := g4.keep k2.1 k2.2
      cases hb : b a with
      | true =>
        refine ((he a ma hb _ (gc.e.trans g3.e) σ' sσ).mono g4.e) H4 g4.sub _ fun y G5 H5 g5 ry => ?_
        have k5 := g5.keep k4.1 k4.2
        have gA := ((gc.trans g3).trans g4)
        refine ⟨acc, k5.1, Evl.sz_lt (by omega), G5, acc ++ [y], (gA.trans g5).put hLH k5.2, e1.trans (g3.e.trans (g4.e.trans g5.e)), k5.2, upd_same, ?_⟩
        rw [take_next ha, List.filter_append, List.map_append, List.filter_cons, if_pos hb]
        exact (rs.mono (g3.e.trans (g4.e.trans g5.e))).append (.cons (ry.h2 gA.ext) .nil)
      | false =>
        refine ⟨G4, acc, (gc.trans g3).trans g4, e1.trans (g3.e.trans g4.e), k4.2, k4.1, ?_⟩
        rw [take_next ha, List.filter_append, List.map_append, List.filter_cons, if_neg (by rw [hb]; decide)]
        have z := rs.mono (g3.e.trans g4.e)
        simpa using z
    · rintro Hc ⟨Gc, acc, gc, e1, nL, hcL, rs⟩
      rw [List.take_length] at rs
      exact q L acc Gc Hc gc hLH nL hcL rs
theorem filter_yes : ∀ xs : List α, xs.filter (fun _ => true) = xs
  | [] => rfl
  | x :: xs => by rw [List.filter_cons, if_pos rfl, filter_yes xs]
/-- without a test -/
theorem evl_lc0 (hi : EvI K wi σ G xs c) (hl : xs.length ≤ 50000) (hw : ∀ a G1 σ', S a G1 σ' → wipe σ' vs = wipe σ vs)
    (hg : ∀ a ∈ xs, ∀ G1, Ex G G1 → Tgt K g (wipe σ vs) (c a) G1 (S a G1))
    (he : ∀ a ∈ xs, ∀ G1, Ex G G1 → ∀ σ', S a G1 σ' → Ev K f te σ' G1 (h a)) : EvL K f (tLc wi g tYes te vs) σ G (xs.map h) := by
  have z := evl_lc (b := fun _ => true) hi hl hw hg (fun a ma G1 e σ' s => et_yes) (fun a ma _ G1 e σ' s => he a ma G1 e σ' s)
  rw [filter_yes] at z
  exact z
/-- the elements (and the tests) are drawn: which lists may come -/
inductive LcR {α : Type} (T : α → Bool → Prop) (E : α → D → Prop) : List α → List D → Prop
  | nil : LcR T E [] []
  | skip {a : α} {as : List α} {ds : List D} : T a false → LcR T E as ds → LcR T E (a :: as) ds
  | take {a : α} {as : List α} {d : D} {ds : List D} : T a true → E a d → LcR T E as ds → LcR T E (a :: as) (d :: ds)
theorem LcR.skipR {T : α → Bool → Prop} {E : α → D → Prop} {a : α} (ht : T a false) : ∀ {as : List α} {ds : List D}, LcR T E as ds → LcR T E (as ++ [a]) ds
  | _, _, .nil => .skip ht .nil
  | _, _, .skip h t => .skip h (LcR.skipR ht t)
  | _, _, .take h e t => .take h e (LcR.skipR ht t)
theorem LcR.takeR {T : α → Bool → Prop} {E : α → D → Prop} {a : α} {d : D} (ht : T a true) (hd : E a d) : ∀ {as : List α} {ds : List D}, LcR T E as ds → LcR T E (as ++ [a]) (ds ++ [d])
  | _, _, .nil => .take ht hd .nil
  | _, _, .skip h t => .skip h (LcR.takeR ht hd t)
  | _, _, .take h e t => .take h e (LcR.takeR ht hd t)
theorem LcR.len {T : α → Bool → Prop} {E : α → D → Prop} : ∀ {as : List α} {ds : List D}, LcR T E as ds → ds.length ≤ as.length
  | _, _, .nil => Nat.le_refl _
  | _, _, .skip h t => Nat.le_succ_of_le (LcR.len t)
  | _, _, .take h e t => Nat.succ_le_succ (LcR.len t)
def EvTS (_ : Fr) (tt : TT) (σ : L2.St) (G : Hp) (T : Bool → Prop) : Prop := ∀ H, Ex G H → ∀ Q : Bool → Hp → Prop, (∀ b G' H', T b → Grow G H G' H' → Q b H') → tt σ H Q
theorem evS_lc {T : α → Bool → Prop} {E : α → D → Prop} (hi : EvI K wi σ G xs c) (hl : xs.length ≤ 50000) (hw : ∀ a G1 σ', S a G1 σ' → wipe σ' vs = wipe σ vs)
    (hg : ∀ a ∈ xs, ∀ G1, Ex G G1 → Tgt K g (wipe σ vs) (c a) G1 (S a G1))
    (ht : ∀ a ∈ xs, ∀ G1, Ex G G1 → ∀ σ', S a G1 σ' → EvTS K tt σ' G1 (T a))
    (he : ∀ a ∈ xs, ∀ G1, Ex G G1 → ∀ σ', S a G1 σ' → EvS K f te σ' G1 (E a)) : EvS K f (tLc wi g tt te vs) σ G (fun d => ∃ ds, d = .lst ds ∧ LcR T E xs ds) := fun H e Q q =>
  hi H e _ fun J G1 H1 g1 W => fun L hL => by
    have hLH : H L = none := g1.free hL
    refine lc_it W (fun i Hc => ∃ Gc acc ds, Grow G H Gc Hc ∧ Ex G1 Gc ∧ Gc L = none ∧ Hc L = some (.lst acc) ∧ LcR T E (xs.take i) ds ∧ RepA K (frh f H) Gc ds acc) ?_ ?_ ?_ ?_
    · exact ⟨G1, [], [], g1.trans (Grow.hid g1.sub hL), Ex.refl _, Evl.fresh_back g1.sub hL, upd_same, by simpa using LcR.nil, RepA.nil⟩
    · rintro i Hc hi' ⟨Gc, acc, ds, gc, e1, _, _, _, _⟩
      exact e1.trans gc.sub
    · rintro i x Hc H2 hi' ⟨Gc, acc, ds, gc, e1, nL, hcL, lr, rs⟩ ⟨a, G2, ha, g2, rx⟩
      obtain ⟨g3, e3⟩ := g2.on e1 gc.sub
      have ma : a ∈ xs := List.mem_of_getElem? ha
      have k2 := g3.keep hcL nL
      have lenA : acc.length ≤ xs.length := by
        rw [← rs.length]
        refine Nat.le_trans lr.len ?_
        rw [List.length_take]; exact Nat.min_le_right _ _
      refine hg a ma _ (gc.e.trans g3.e) x (rx.mono e3) H2 g3.sub _ fun σ' sσ => ⟨hw a _ σ' sσ, ?_⟩
      refine ht a ma _ (gc.e.trans g3.e) σ' sσ H2 g3.sub _ fun bb G4 H4 tb g4 => ?_
      have k4 := g4.keep k2.1 k2.2
      cases bb with
      | true =>
        refine ((he a ma _ (gc.e.trans g3.e) σ' sσ).mono g4.e) H4 g4.sub _ fun d y G5 H5 pd g5 ry => ?_
        have k5 := g5.keep k4.1 k4.2
        have gA := ((gc.trans g3).trans g4)
        refine ⟨acc, k5.1, Evl.sz_lt (by omega), G5, acc ++ [y], ds ++ [d], (gA.trans g5).put hLH k5.2, e1.trans (g3.e.trans (g4.e.trans g5.e)), k5.2, upd_same, ?_, ?_⟩
        · rw [take_next ha]; exact lr.takeR tb pd
        · exact (rs.mono (g3.e.trans (g4.e.trans g5.e))).append (.cons (ry.h2 gA.ext) .nil)
      | false =>
        refine ⟨G4, acc, ds, (gc.trans g3).trans g4, e1.trans (g3.e.trans g4.e), k4.2, k4.1, ?_, rs.mono (g3.e.trans g4.e)⟩
        rw [take_next ha]; exact lr.skipR tb
    · rintro Hc ⟨Gc, acc, ds, gc, e1, nL, hcL, lr, rs⟩
      rw [List.take_length] at lr
      have e2 : Ex Gc (upd Gc L (.lst acc)) := Ex.new nL
      refine q (.lst ds) (.ref L) (upd Gc L (.lst acc)) Hc ⟨ds, rfl, lr⟩ ⟨gc.e.trans e2, fun a o ha => ?_, gc.ext, fun a ha ha' => ?_⟩ (.lst ?_ upd_same (rs.mono e2))
      · by_cases hx : a = L
        · subst hx; rw [upd_same] at ha; cases ha; exact hcL
        · rw [upd_ne hx] at ha; exact gc.sub a o ha
      · by_cases hx : a = L
        · subst hx; exact hLH
        · rw [upd_ne hx] at ha'; exact gc.new a ha ha'
      · cases f with
        | true => exact hLH
        | false => trivial
theorem EvT.toS {x : Bool} (h : EvT K tt σ G x) : EvTS K tt σ G (fun y => y = x) := fun H e Q q => h H e Q fun G' H' g => q x G' H' rfl g
theorem etS_test {P : D → Prop} {T : Bool → Prop} (h : EvS K f te σ G P) (hp : ∀ d, P d → ∃ b, d = .bl b ∧ T b) : EvTS K (tTest te) σ G T := fun H e Q q => h H e _ fun d v G1 H1 pd g1 rv => by
  obtain ⟨b, rfl, tb⟩ := hp d pd
  exact ⟨b, rv.bl_inv, q b G1 H1 tb g1⟩
end

/-! ### statements -/
section
variable {K : Fr} {f : Bool} {σ : L2.St} {G H G0 H0 : Hp} {te ta tb : TE} {tt : TT} {g : TG} {De : Ends} {tu tw : TS} {P : D → Prop} {d : D} {ds : List D} {i : Nat}
theorem s_asgS {σf : V → L2.St} (e : Ex G H) (h : EvS K f te σ G P) (k : ∀ d v G' H', P d → Grow G H G' H' → Rep K (frh f H) G' d v → De.nx (σf v) H') (hσ : ∀ v, σ.set i (some v) = σf v := by intro v; simp only [L2.start, List.map_cons, List.map_nil, List.length_cons, List.length_nil, List.cons_append, List.nil_append, Nat.reduceAdd, Nat.reduceSub, List.replicate_succ, List.replicate_zero, List.set_cons_zero, List.set_cons_succ]; rfl) : tAsg te (gName i) De σ H := h H e _ fun d v G' H' pd g r => by
  show De.nx (σ.set i (some v)) H'
  rw [hσ v]; exact k d v G' H' pd g r
theorem s_asg {σf : V → L2.St} (e : Ex G H) (h : Ev K f te σ G d) (k : ∀ v G' H', Grow G H G' H' → Rep K (frh f H) G' d v → De.nx (σf v) H') (hσ : ∀ v, σ.set i (some v) = σf v := by intro v; simp only [L2.start, List.map_cons, List.map_nil, List.length_cons, List.length_nil, List.cons_append, List.nil_append, Nat.reduceAdd, Nat.reduceSub, List.replicate_succ, List.replicate_zero, List.set_cons_zero, List.set_cons_succ]; rfl) : tAsg te (gName i) De σ H := h H e _ fun v G' H' g r => by
  show De.nx (σ.set i (some v)) H'
  rw [hσ v]; exact k v G' H' g r
theorem s_asgL {σf : V → L2.St} (e : Ex G H) (h : EvL K f te σ G ds) (k : ∀ p vs G' H', Grow G H G' H' → H p = none → G' p = none → H' p = some (.lst vs) → RepA K (frh f H) G' ds vs → De.nx (σf (.ref p)) H') (hσ : ∀ v, σ.set i (some v) = σf v := by intro v; simp only [L2.start, List.map_cons, List.map_nil, List.length_cons, List.length_nil, List.cons_append, List.nil_append, Nat.reduceAdd, Nat.reduceSub, List.replicate_succ, List.replicate_zero, List.set_cons_zero, List.set_cons_succ]; rfl) : tAsg te (gName i) De σ H := h H e _ fun p vs G' H' g h1 h2 h3 r => by
  show De.nx (σ.set i (some (.ref p))) H'
  rw [hσ (.ref p)]; exact k p vs G' H' g h1 h2 h3 r
/-- a target of any form -/
theorem s_asgG {S : Hp → L2.St → Prop} (e : Ex G H) (h : EvS K f te σ G P) (hg : ∀ d, P d → ∀ G1, Ex G G1 → Tgt K g σ d G1 (S G1)) (k : ∀ d σ' G' H', P d → Grow G H G' H' → S G' σ' → De.nx σ' H') : tAsg te g De σ H := h H e _ fun d v G' H' pd g1 r =>
  hg d pd G' g1.e v r.old H' g1.sub _ fun σ' s => k d σ' G' H' pd g1 s
theorem s_retS (e : Ex G H) (h : EvS K f te σ G P) (k : ∀ d v G' H', P d → Grow G H G' H' → Rep K (frh f H) G' d v → De.rt v H') : tRet te De σ H := h H e _ fun d v G' H' pd g r => k d v G' H' pd g r
theorem s_ret (e : Ex G H) (h : Ev K f te σ G d) (k : ∀ v G' H', Grow G H G' H' → Rep K (frh f H) G' d v → De.rt v H') : tRet te De σ H := h H e _ fun v G' H' g r => k v G' H' g r
theorem s_if {x : Bool} (e : Ex G H) (h : EvT K tt σ G x) (h1 : x = true → ∀ G' H', Grow G H G' H' → tu De σ H') (h2 : x = false → ∀ G' H', Grow G H G' H' → tw De σ H') : tIfS tt tu tw De σ H := h H e _ fun G' H' g => by
  cases x with
  | true => exact h1 rfl G' H' g
  | false => exact h2 rfl G' H' g
theorem s_ifS {T : Bool → Prop} (e : Ex G H) (h : EvTS K tt σ G T) (h1 : T true → ∀ G' H', Grow G H G' H' → tu De σ H') (h2 : T false → ∀ G' H', Grow G H G' H' → tw De σ H') : tIfS tt tu tw De σ H := h H e _ fun b G' H' tb g => by
  cases b with
  | true => exact h1 tb G' H' g
  | false => exact h2 tb G' H' g
/-- xs.append(e), xs written -/
theorem s_app {p : Addr} {vs : List V} (e : Ex G H) (hv : σ[i]? = some (some (.ref p))) (hp : H p = some (.lst vs)) (hn : G p = none) (hl : vs.length < 100000) (h : EvS K f te σ G P)
    (k : ∀ d v G' H', P d → Grow G H G' H' → Rep K (frh f H) G' d v → H' p = some (.lst vs) → G' p = none → De.nx σ (upd H' p (.lst (vs ++ [v])))) : tDrop (tBM K "list" rAppend (tVar i) (tCons te tNil)) De σ H :=
  ⟨.ref p, hv, Or.inl ⟨rfl, vs, SqL.of hp⟩, h H e _ fun d v G' H' pd g r =>
    have z := g.keep hp hn
    ⟨p, vs, v, rfl, rfl, z.1, Evl.sz_lt hl, k d v G' H' pd g r z.1 z.2⟩⟩
/-- xs[j] = e, xs written -/
theorem s_set {p : Addr} {vs : List V} {j : Nat} {ti : TE} (e : Ex G H) (hv : σ[i]? = some (some (.ref p))) (hp : H p = some (.lst vs)) (hn : G p = none) (hj : j < vs.length) (h : EvS K f te σ G P) (hi : Ev K false ti σ G (.int (j : Int)))
    (k : ∀ d v G' H', P d → Grow G H G' H' → Rep K (frh f H) G' d v → H' p = some (.lst vs) → G' p = none → De.nx σ (upd H' p (.lst (vs.set j v)))) : tAsg te (gSub (tVar i) ti rSetL) De σ H :=
  h H e _ fun d v G1 H1 pd g1 r => ⟨.ref p, hv, (hi.mono g1.e) H1 g1.sub _ fun w G2 H2 g2 rw => by
    cases rw
    have z := (g1.trans g2).keep hp hn
    exact ⟨p, vs, (j : Int), j, rfl, rfl, z.1, Evl.ixN_nat hj, k d v G2 H2 pd (g1.trans g2) (r.mono g2.e) z.1 z.2⟩⟩
/-- a loop: Pv by the turn, the slots, what is known, the heap -/
theorem s_for {α : Type} {xs : List α} {c : α → D} {wi : TI} {S : α → L2.St → Hp → L2.St → Prop} (g0 : Grow G0 H0 G H) (hi : EvI K wi σ G xs c) (Pv : Nat → L2.St → Hp → Hp → Prop)
    (h0 : ∀ G' H', Grow G H G' H' → Pv 0 σ G' H')
    (hg : ∀ a ∈ xs, ∀ i σ1 G1 H1 G2, Pv i σ1 G1 H1 → Ex G1 G2 → Tgt K g σ1 (c a) G2 (S a σ1 G2))
    (hs : ∀ i a σ1 G1 H1 G2 H2 σ2, xs[i]? = some a → Ex G G1 → Grow G0 H0 G1 H1 → Pv i σ1 G1 H1 → Grow G1 H1 G2 H2 → S a σ1 G2 σ2 → ∀ N : L2.St → Hp → Prop, (∀ σ' G' H', Ex G1 G' → Grow G0 H0 G' H' → Pv (i + 1) σ' G' H' → N σ' H') →
      tu { De with nx := N, ct := N, bk := De.nx } σ2 H2)
    (hd : ∀ σ1 G1 H1, Ex G G1 → Grow G0 H0 G1 H1 → Pv xs.length σ1 G1 H1 → De.nx σ1 H1) : tFor wi g tu De σ H :=
  hi H g0.sub _ fun J Gs Hs gs W => by
    refine for_it W (fun i σ1 H1 => ∃ G1, Ex Gs G1 ∧ Grow G0 H0 G1 H1 ∧ Pv i σ1 G1 H1) ⟨Gs, Ex.refl _, g0.trans gs, h0 Gs Hs gs⟩ ?_ ?_ ?_
    · rintro i σ1 H1 _ ⟨G1, e1, g1, _⟩
      exact e1.trans g1.sub
    · rintro i x σ1 H1 H2 hi' ⟨G1, e1, g1, p1⟩ ⟨a, G2, ha, g2, rx⟩
      obtain ⟨g3, e3⟩ := g2.on e1 g1.sub
      refine hg a (List.mem_of_getElem? ha) i σ1 G1 H1 _ p1 g3.e x (rx.mono e3) H2 g3.sub _ fun σ2 s2 => ?_
      exact hs i a σ1 G1 H1 _ H2 σ2 ha (gs.e.trans e1) g1 p1 g3 s2 _ fun σ' G' H' e' g' p' => ⟨G', e1.trans e', g', p'⟩
    · rintro σ1 H1 ⟨G1, e1, g1, p1⟩
      exact hd σ1 G1 H1 (gs.e.trans e1) g1 p1
end

/-! ### promises -/
/-- arguments that are data of some i with pre i; the result is data d with out i d -/
def spF (K : Fr) (f : Bool) {ι : Type} (args : ι → List D) (pre : ι → Prop) (out : ι → D → Prop) : Sp := fun vs H Q _ => ∃ (i : ι) (G : Hp), Ex G H ∧ RepA K none G (args i) vs ∧ pre i ∧ ∀ d v G' H', out i d → Grow G H G' H' → Rep K (frh f H) G' d v → Q v H'
theorem spF_useS {K : Fr} {f : Bool} {ι : Type} {args : ι → List D} {pre : ι → Prop} {out : ι → D → Prop} (i : ι) (hp : pre i) : SpDS K f (spF K f args pre out) (args i) (out i) := fun E G vs rs H e Q q => ⟨i, G, e, rs, hp, q⟩
theorem spF_use {K : Fr} {f : Bool} {ι : Type} {args : ι → List D} {pre : ι → Prop} {o : ι → D} (i : ι) (hp : pre i) : SpD K f (spF K f args pre fun i d => d = o i) (args i) (o i) := fun E G vs rs H e Q q => ⟨i, G, e, rs, hp, fun d v G' H' hd g r => q v G' H' g (hd ▸ r)⟩
section
variable {P : Program} {w : World} {K : Fr} {mg : Str → Option Value} {base : Heap}
theorem okF {f : Bool} {ι : Type} {args : ι → List D} {pre : ι → Prop} {out : ι → D → Prop} {x qual : Str} {st : Stmt} {fa : Addr} {fd : FuncData} {N ps : List Str} {k : Nat} (F : L2.Fun K x qual st fa fd) (S : FnScope N ps (defScope st)) (len : ∀ i, (args i).length = ps.length)
    (hb : ∀ (cdv : Value) (A : Around) (outer : List Env) (s : Shared) (H : Hp) (vs : List V) (Q : VK) (E : XK), Room k (A.deeper (envOfC qual (defScope st) s.heap.objs.size fa cdv)) → ∀ (i : ι) (G : Hp), Ex G H → RepA K none G (args i) vs → pre i →
      (∀ d v G' H', out i d → Grow G H G' H' → Rep K (frh f H) G' d v → Q v H') →
      ∃ t, PSs (cxOf CX0 P w K mg base N qual (defScope st) fa cdv A outer s H E).nox (defBody st) t ∧ t { nx := fun _ H' => Q .non H', rt := Q } (start N vs) H) : FnOk P w K mg base CX0 (k + 1) fa fd ps (spF K f args pre out) := by
  refine F.ok S (fun vs H Q E h => ?_) (fun cdv A outer s H vs Q E hr h => ?_)
  · obtain ⟨i, G, e, rs, _⟩ := h
    rw [← rs.length, len]
  · obtain ⟨i, G, e, rs, hp, q⟩ := h
    exact hb cdv A outer s H vs Q E hr i G e rs hp q
end
end VL

/-! VL4: enumerate(tuple), rules that serve several kinds at once, isinstance, the pool seen from outside. -/
namespace VL
open PySem PySem.Spec PyProof.Rows L2
open Evl (Ex)

/-! ### enumerate(tuple) -/
theorem meets_enumT (t : Addr) (o : Obj) (its : Array Value) (ht : o.cls = .type "tuple") (hd : ∃ n, o.data = .seq its n) :
    Meets (Builtin.«enumerate.__new__» ⟨[.type "enumerate", .ref t], []⟩) (fun _ R s => s.heap.get? t = some o ∧
      R (.ok (.ret (.ref (s.heap.push { cls := .type "tuple_iterator", data := .fields #[.ref t, .int 0 0] }).objs.size)))
        { s with heap := (s.heap.push { cls := .type "tuple_iterator", data := .fields #[.ref t, .int 0 0] }).push { cls := .type "enumerate", data := .fields #[.none, .bool false, .ref s.heap.objs.size, rawInt 0, .none, .none] } }) :=
  .of_wp fun prog w A R s h => by
    obtain ⟨oc, od, odt, osl⟩ := o
    replace ht : oc = .type "tuple" := ht
    subst ht
    obtain ⟨n, hd⟩ := hd
    replace hd : odt = .seq its n := hd
    subst hd
    obtain ⟨hp, gs, dr, tk, os⟩ := s
    obtain ⟨hl, h⟩ := h
    have hsub := sub_enumerate
    have hT : Heap.IsTuple (Shared.heap ⟨hp, gs, dr, tk, os⟩) t its := ⟨_, hl, rfl, n, rfl⟩
    wp_walk using wpAny_loadPart' hl
    refine wpAny_stack_any fun st => wpAny_pure ?_
    split
    · rename_i c _ _ _ _ _
      cases (c == Value.type "enumerate")
      · wp_walk using wpAny_loadPart' hl, wpAny_pyIter_tuple hT
        exact ⟨_, rfl, h⟩
      · wp_walk using wpAny_loadPart' hl, wpAny_pyIter_tuple hT
        exact ⟨_, rfl, h⟩
    · wp_walk using wpAny_loadPart' hl, wpAny_pyIter_tuple hT
      exact ⟨_, rfl, h⟩
theorem call_enumT {prog : Program} {w : World} {A : Around} {E : Value → Shared → Prop} {s : Shared} {t : Addr} {its : Array Value} {Q : Value → Shared → Prop} (hT : s.heap.IsTuple t its)
    (h : ∀ h', IsEnum h' (s.heap.objs.size + 1) s.heap.objs.size 0 .none → h'.IsTupleIter s.heap.objs.size t 0 → h'.objs.size = s.heap.objs.size + 2 →
      (∀ b o, s.heap.get? b = some o → h'.get? b = some o) → Q (.ref (s.heap.objs.size + 1)) { s with heap := h' }) : wpAny (model prog w) A (call (.type "enumerate") [.ref t]) Q E s := by
  obtain ⟨o, ho, hc, hd⟩ := hT
  refine callType_new F.called_enumerate (by decide) (F.typeCall_enumerate_1 _) (F.newCall_enumerate_1 _) (fun obj => F.args_object_init_2 obj _) F.entry_enumerate_new (meets_enumT t o its hc hd) ⟨ho, ?_⟩
  have hz : (s.heap.push { cls := .type "tuple_iterator", data := .fields #[.ref t, .int 0 0] }).objs.size = s.heap.objs.size + 1 := Heap.size_push ..
  show _ ∧ _
  rw [hz]
  have he : IsEnum ((s.heap.push { cls := .type "tuple_iterator", data := .fields #[.ref t, .int 0 0] }).push
      { cls := .type "enumerate", data := .fields #[.none, .bool false, .ref s.heap.objs.size, rawInt 0, .none, .none] }) (s.heap.objs.size + 1) s.heap.objs.size 0 .none := by
    have q := Heap.get?_push_size (s.heap.push { cls := .type "tuple_iterator", data := .fields #[.ref t, .int 0 0] }) (o := { cls := .type "enumerate", data := .fields #[.none, .bool false, .ref s.heap.objs.size, rawInt 0, .none, .none] }) rfl
    rw [hz] at q; exact q
  exact ⟨⟨_, he, rfl⟩, h _ he ⟨_, Heap.get?_push_of_some _ (Heap.get?_push_size _ rfl), rfl, rfl⟩ (by rw [Heap.size_push, hz]) fun b o x => Heap.get?_push_of_some _ (Heap.get?_push_of_some _ x)⟩
/-- the tuple at a, each item in a new pair -/
def IteT (K : PySem.W.Frag) (a : Addr) : It :=
  ⟨fun i H => ∃ (xs : List V) (x : V), SqT K H a xs ∧ xs[i]? = some x, fun i H v H' => ∃ T x, v = .ref T ∧ H T = none ∧ H' = upd H T (.tup [.int (i : Nat), x]) ∧ ∀ xs, SqT K H a xs → xs[i]? = some x, fun i H => ∃ xs : List V, SqT K H a xs ∧ xs.length = i⟩
theorem turn_enumT {P : Program} {w : World} {K : PySem.W.Frag} {elts : List Expr} {kk : Nat} {tpos : Pos} (a e it : Addr) :
    Turn P w K (.Tuple elts kk tpos) (IteT K a) [e, it] e (fun i h => (∃ old, IsEnum h e it ((i : Nat) : Int) old) ∧ h.IsTupleIter it a i ∧ e ≠ it) where
  mem := by simp
  obj := fun i h st b hb => by
    obtain ⟨⟨old, he⟩, ⟨o, ho, hc, hd⟩, _⟩ := st
    have e' : b = e ∨ b = it := by simpa using hb
    rcases e' with z | z
    · rw [z]; exact ⟨_, he, fun v q => nomatch q⟩
    · rw [z]; exact ⟨o, ho, fun v q => by rw [hd] at q; cases q⟩
  keep := fun i h h' st k => by
    obtain ⟨⟨old, he⟩, ⟨o, ho, hr⟩, hne⟩ := st
    exact ⟨⟨old, k e (by simp) _ he⟩, ⟨o, k it (by simp) o ho, hr⟩, hne⟩
  item := by
    intro X hP hw hK hc i pins s σ H E I hf st hg
    subst hP hw hK
    obtain ⟨⟨old, he⟩, hit, hne⟩ := st
    obtain ⟨xs, x, hq, hx⟩ := hg
    obtain ⟨its, rv, ⟨oT, hoT, hcT, hdT⟩, hz⟩ := I.tuple hq
    obtain ⟨u, hu, ru⟩ := rv.get hx
    have hel : e < s.heap.objs.size := Heap.lt_size he
    have hil : it < s.heap.objs.size := by obtain ⟨_, q, _⟩ := hit; exact Heap.lt_size q
    have tit : a ≠ it := fun z => by
      obtain ⟨oi, hoi, hci, _⟩ := hit
      rw [z, hoi] at hoT; cases hoT
      rw [hci] at hcT; exact absurd hcT (by decide)
    have tie : e ≠ a := fun z => by
      rw [← z] at hoT
      have q : s.heap.get? e = _ := he
      rw [q] at hoT; cases hoT
      exact absurd (show Value.type "enumerate" = Value.type "tuple" from hcT) (by decide)
    have hit2 : s.heap.IsTupleIter it a i ∧ s.heap.IsTuple a its.toArray := ⟨hit, oT, hoT, hcT, hdT⟩
    refine wpAny_pyNext_enum_itemD (Draws.tuple (prog := X.prog) (w := X.w) (A := X.A.in1) (I.ok.hd hc) it a tit its.toArray) he hit2 (by have := rv.length; have q := (List.getElem?_eq_some_iff.mp hx).1; simp; omega) hne (by simp [hne, tie]) fun y h' tk hy ho hit' hT hsz hk => ?_
    have ey : y = u := by
      rw [List.getElem?_toArray, hu] at hy
      exact (Option.some.inj hy).symm
    subst ey
    refine ⟨_, rfl, wpAny_letOwnedTupleGo_enum (s := { s with heap := h', toks := tk + 1 }) ho fun h'' he' sb => ?_⟩
    have hT2 : h''.get? s.heap.objs.size = some { cls := .type "tuple", data := .seq #[.int i tk, y] } := (sb.2 _ (Nat.ne_of_gt hel)).trans hT
    have new : ObjOk X.prog X.w (upd H s.heap.objs.size (.tup [.int (i : Nat), x])) h'' s.heap.objs.size (.tup [.int (i : Nat), x]) :=
      ⟨by show 2 ≤ sizeLine; decide, [.int i tk, y], .cons ⟨_, rfl⟩ (.cons ru .nil), ⟨_, hT2, rfl, _, rfl⟩⟩
    have I1 : Inv X pins σ (upd H s.heap.objs.size (.tup [.int (i : Nat), x])) { s with heap := h'', toks := tk + 1 } :=
      I.turnedNew (ch := [e, it]) (fun b ob hb q => (sb.2 b (fun z => hb (by simp [z]))).trans (hk b ob (fun z => hb (by simp [z])) (fun z => hb (by simp [z])) q)) hf (Nat.le_refl _) new
    refine ⟨.ref s.heap.objs.size, _, I1, rfl, ⟨_, x, rfl, I.hok.fresh (Nat.le_refl _), rfl, fun ys hy2 => by rw [I.tuple_inj hy2 hq]; exact hx⟩, ⟨⟨y, ?_⟩, ?_, hne⟩, fun b hb => ?_⟩
    · have e1 : ((i + 1 : Nat) : Int) = (i : Int) + 1 := by omega
      rw [e1]; exact he'
    · obtain ⟨oi, hoi, hri⟩ := hit'.1
      exact ⟨oi, (sb.2 it (Ne.symm hne)).trans hoi, hri⟩
    · have hb' : b < s.heap.objs.size := by
        have e' : b = e ∨ b = it := by simpa using hb
        rcases e' with z | z
        · rw [z]; exact hel
        · rw [z]; exact hil
      rw [upd_ne (Nat.ne_of_lt hb')]
      exact (hf b hb).1
  done := by
    intro X hP hw hK hc i pins s σ H E I hf st hg
    subst hP hw hK
    obtain ⟨⟨old, he⟩, hit, hne⟩ := st
    obtain ⟨xs, hq, hx⟩ := hg
    obtain ⟨its, rv, ⟨oT, hoT, hcT, hdT⟩, hz⟩ := I.tuple hq
    obtain ⟨f0, f1, f2, f3, f4, f5⟩ := hf it (by simp)
    have hl := rv.length
    have tit : a ≠ it := fun z => by
      obtain ⟨oi, hoi, hci, _⟩ := hit
      rw [z, hoi] at hoT; cases hoT
      rw [hci] at hcT; exact absurd hcT (by decide)
    have ei : its.toArray.size = i := by rw [List.size_toArray, ← hl]; exact hx
    have hit2 : s.heap.IsTupleIter it a its.toArray.size ∧ s.heap.IsTuple a its.toArray := ⟨by rw [ei]; exact hit, oT, hoT, hcT, hdT⟩
    exact wpAny_pyNext_enum_endD (Draws.tuple (prog := X.prog) (w := X.w) (A := X.A.in1) (I.ok.hd hc) it a tit its.toArray) he hit2 fun h' eb => ⟨rfl, I.turned (t' := s.toks) (fun b o hb q => eb b o hb q) f0 f1 f3 f4 f5⟩
  self := fun A i s Q E st h => let ⟨⟨_, he⟩, _⟩ := st; wpAny_pyIter_enum he h
def iEnumT (K : PySem.W.Frag) (ta : TA) : TI := fun σ H R => ta σ H fun vs H1 => ∃ a xs, vs = [.ref a] ∧ SqT K H1 a xs ∧ R (IteT K a) H1
theorem pi_enumT {X : Cx} {e : Expr} {ta : TA} {p pos tpos : Pos} {elts : List Expr} {kk : Nat} (hg : Gl X "enumerate") (hm : X.mg "enumerate" = none) (ha : PA X [e] ta) (hs : starEach [e] X.env = [(false, eval e X.env)] := by rfl) :
    PI X (.Tuple elts kk tpos) (.Call (.Name "enumerate" p) [e] [] pos) (iEnumT X.K ta) := by
  refine ⟨fun pins s σ H R I h => ?_⟩
  refine Call_ (ld_blt I hg hm boot_enumerate (PyProof.Rows.callWith_type1 (thn (ha.run pos pins s σ H _ I h) fun us s1 ⟨vs, H1, I1, r1, q1⟩ => ?_) hs rfl))
  obtain ⟨a, xs, ex, hq, q⟩ := q1
  subst ex
  cases r1 with
  | cons r rr =>
    cases rr
    cases r
    obtain ⟨its, rv, p', hz⟩ := I1.tuple hq
    refine call_enumT p' fun h' he hit hsz hk => wpAny_pyIter_enum he ?_
    have I2 : Inv X pins σ H1 { s1 with heap := h' } := I1.kept (t' := s1.toks) hk
    refine ⟨s1.heap.objs.size + 1, [s1.heap.objs.size + 1, s1.heap.objs.size], _, _, H1, rfl, I2, turn_enumT a (s1.heap.objs.size + 1) s1.heap.objs.size, ⟨⟨.none, he⟩, hit, Nat.succ_ne_self _⟩, fun b hb => ?_, q⟩
    have e' : b = s1.heap.objs.size + 1 ∨ b = s1.heap.objs.size := by simpa using hb
    have hle : s1.heap.objs.size ≤ b := by
      rcases e' with z | z
      · rw [z]; exact Nat.le_add_right _ _
      · rw [z]; exact Nat.le_refl _
    exact I1.fpOk hle (I1.hok.fresh hle)
theorem walk_enumT {K : PySem.W.Frag} {a : Addr} {xs : List V} : Walk (IteT K a) xs.length (fun H => SqT K H a xs) (YPair (fun i => some (.int (i : Nat))) (fun i => xs[i]?)) := by
  refine ⟨fun i _ hi q => ⟨xs, xs[i], q, by simp [hi]⟩, fun _ q => ⟨xs, q, rfl⟩, fun i H v H' _ q y => ?_⟩
  obtain ⟨T, x, h1, h2, h3, h4⟩ := y
  exact ⟨T, .int (i : Nat), x, h1, h2, h3, rfl, h4 xs q⟩
theorem ei_enumT {K : Fr} {σ : L2.St} {G : Hp} {α : Type} {xs : List α} {c : α → D} {ta : TA} (h : EvA K false ta σ G [.tup (xs.map c)]) : EvI K (iEnumT K ta) σ G (enumL 0 xs) (fun p => .tup [.int p.1, c p.2]) := fun H e R q =>
  h H e _ fun vs G1 H1 g1 rs => by
    cases rs with
    | cons r t =>
      cases t
      obtain ⟨p, us, rfl, hp, rr⟩ := r.tup_inv
      refine ⟨p, us, rfl, Evl.ex_t g1.sub hp, q _ G1 H1 g1 ?_⟩
      have hl : xs.length = us.length := by rw [← rr.length, List.length_map]
      rw [enumL_length, hl]
      refine Walk.mono walk_enumT (fun H2 e2 => Evl.ex_t e2 hp) fun i H2 x H3 hi e2 y => ?_
      obtain ⟨T, x1, x2, rfl, hT, rfl, h1, h2⟩ := y
      cases h1
      obtain ⟨d, hd, rd⟩ := rr.getV h2
      obtain ⟨a, ha, rfl⟩ := getm hd
      obtain ⟨g, r2⟩ := rep_pair (n := (i : Int)) e2 hT rd
      exact ⟨_, _, enumL_get ha, g, by simpa using r2⟩

/-! ### rules that serve several kinds -/
section
variable {X : Cx} {K : Fr} {f f1 : Bool} {ds es : List D} {d : D} {σ : L2.St} {G H : Hp} {te : TE}
def rAddS2 : R2 := fun x y H Q => ∃ i j, x = .str i ∧ y = .str j ∧ i.length + j.length ≤ sizeLine ∧ Q (.str (i ++ j)) H
def rAddU (K : Fr) : R2 := fun x y H Q => (rI0 (fun i j => .int (i + j)) x y H Q ∨ rCat x y H Q) ∨ (rAddS2 x y H Q ∨ rCatT K x y H Q)
theorem op_addU : OpR X (binaryOp .Add) (rAddU X.K) := (op_add.or op_cat).or (OpR.or (r := rAddS2) op_add_str op_catT)
theorem va_int {i j : Int} : Rv K f f1 (rAddU K) (.int i) (.int j) (.int (i + j)) := Rv.left (Rv.left (rv_ii (g := fun i j => i + j)))
theorem va_lst (hl : ds.length + es.length ≤ 100000) : Rv K true true (rAddU K) (.lst ds) (.lst es) (.lst (ds ++ es)) := Rv.left (Rv.right (rv_cat hl))
theorem va_lstO (hl : ds.length + es.length ≤ 100000) : Rv K false f1 (rAddU K) (.lst ds) (.lst es) (.lst (ds ++ es)) := Rv.left (Rv.right (rv_catO hl))
theorem va_str {i j : Str} (hl : i.length + j.length ≤ 100000) : Rv K f f1 (rAddU K) (.str i) (.str j) (.str (i ++ j)) := Rv.right (Rv.left (fun G x y H0 ra rb H e _ Q q =>
  ⟨i, j, ra.str_inv, rb.str_inv, Evl.sz_of hl, q _ G H (Grow.refl e) (.str _)⟩))
def rMulU : R2 := fun x y H Q => rI CMul (fun i j => .int (i * j)) x y H Q ∨ rRep x y H Q
theorem op_mulU : OpR X (binaryOp .Mult) rMulU := op_mul.or op_rep
theorem vm_int {i j : Int} (h : CMul i j) : Rv K f f1 rMulU (.int i) (.int j) (.int (i * j)) := Rv.left (rv_iiC (g := fun i j => i * j) h)
theorem vm_rep {k : Int} (h0 : 0 ≤ k) (h1 : k ≤ 100000) (hs : scalarD d = true) : Rv K f f1 rMulU (.lst [d]) (.int k) (.lst (List.replicate k.toNat d)) := Rv.right (rv_rep1 h0 h1 hs)
theorem vs_int {i j : Int} : Rv K f f1 (rI0 fun i j => .int (i - j)) (.int i) (.int j) (.int (i - j)) := rv_ii (g := fun i j => i - j)
theorem vd_int {i j : Int} (h : CDivW i j) : Rv K f f1 (rI CDivW fun i j => .int (i / j)) (.int i) (.int j) (.int (i / j)) := rv_iiC (g := fun i j => i / j) h
theorem vo_int {i j : Int} (h : 0 < j) : Rv K f f1 (rI (fun _ j => j ≠ 0) fun i j => .int (i.fmod j)) (.int i) (.int j) (.int (i % j)) := by
  have e : i.fmod j = i % j := Int.fmod_eq_emod_of_nonneg i (by omega)
  rw [← e]
  exact rv_iiC (g := fun i j => i.fmod j) (by omega)
theorem vp_int {i j : Int} (h : CPow i j) : Rv K f f1 (rI CPow fun i j => .int (i ^ j.toNat)) (.int i) (.int j) (.int (i ^ j.toNat)) := rv_iiC (g := fun i j => i ^ j.toNat) h
theorem v_lt {i j : Int} : Rv K f f1 (rI0 fun i j => .bl (decide (i < j))) (.int i) (.int j) (.bl (decide (i < j))) := rv_ib (g := fun i j => decide (i < j))
theorem v_le {i j : Int} : Rv K f f1 (rI0 fun i j => .bl (decide (i ≤ j))) (.int i) (.int j) (.bl (decide (i ≤ j))) := rv_ib (g := fun i j => decide (i ≤ j))
theorem v_gt {i j : Int} : Rv K f f1 (rI0 fun i j => .bl (decide (j < i))) (.int i) (.int j) (.bl (decide (j < i))) := rv_ib (g := fun i j => decide (j < i))
theorem v_ge {i j : Int} : Rv K f f1 (rI0 fun i j => .bl (decide (j ≤ i))) (.int i) (.int j) (.bl (decide (j ≤ i))) := rv_ib (g := fun i j => decide (j ≤ i))
/-- is None | is True, is False -/
def rIsU : R2 := fun x y H Q => (y = .non ∧ Q (.bl (decide (x = .non))) H) ∨ rIsTF x y H Q
theorem op_isU : OpR X (compareOp .Is) rIsU := OpR.or (r := fun x y H Q => y = .non ∧ Q (.bl (decide (x = .non))) H) op_isN op_isTF
theorem v_isN : Rv K f f1 rIsU d .non (.bl (isNon d)) := Rv.left rv_isN
theorem v_isTF {x : Bool} : Rv K f f1 rIsU d (.bl x) (.bl (isBl x d)) := Rv.right rv_isTF
theorem v_notN : Rv K f f1 (fun x y H Q => y = .non ∧ Q (.bl (!decide (x = .non))) H) d .non (.bl (!isNon d)) := rv_notN
/-- == -/
def rEqU (K : Fr) : R2 := fun x y H Q => rEq x y H Q ∨ rEqD K x y H Q
def rNeU (K : Fr) : R2 := fun x y H Q => rNe x y H Q ∨ rNeD K x y H Q
theorem op_eqU (hu : X.A.units + 64 < cLine) : OpR X (compareOp .Eq) (rEqU X.K) := op_eq.or (op_eqD hu)
theorem op_neU (hu : X.A.units + 64 < cLine) : OpR X (compareOp .NotEq) (rNeU X.K) := op_ne.or (op_neD hu)
theorem v_eqI {i j : Int} : Rv K f f1 (rEqU K) (.int i) (.int j) (.bl (decide (i = j))) := Rv.left rv_eqI
theorem v_neI {i j : Int} : Rv K f f1 (rNeU K) (.int i) (.int j) (.bl (!decide (i = j))) := Rv.left rv_neI
theorem v_eqS {i j : Str} : Rv K f f1 (rEqU K) (.str i) (.str j) (.bl (decide (i = j))) := Rv.left rv_eqS
theorem v_neS {i j : Str} : Rv K f f1 (rNeU K) (.str i) (.str j) (.bl (!decide (i = j))) := Rv.left rv_neS
/-- x[i] -/
theorem v_ixL {i : Int} (h : atI ds i = some d) : Rv K f f (rIx K) (.lst ds) (.int i) d := Rv.left (rv_ixL h)
theorem v_ixT {i : Int} (h : atI ds i = some d) : Rv K f f (rIx K) (.tup ds) (.int i) d := Rv.right (Rv.left (rv_ixT h))
/-- x[a:b] -/
def rSlU (K : Fr) : V → Option Int → Option Int → Hp → VK → Prop := fun x lo hi H Q => rSlL K x lo hi H Q ∨ rSlT K x lo hi H Q
theorem sl_U : SlR X (rSlU X.K) := sl_list.or sl_tup
theorem ev_slU {tl th : TO} {lo hi : Option Int} (h : Ev K f te σ G (.lst ds)) (h1 : EvO K tl σ G lo) (h2 : EvO K th σ G hi) : Ev K f (tSl (rSlU K) te tl th) σ G (.lst (cutD ds lo hi)) := fun H e Q q =>
  h H e _ fun v G1 H1 g1 rv => (h1.mono g1.e) H1 g1.sub _ fun G2 H2 g2 => (h2.mono (g1.e.trans g2.e)) H2 g2.sub _ fun G3 H3 g3 => Or.inl (by
    obtain ⟨p, vs, rfl, _, hp, rs⟩ := rv.lst_inv
    have g := (g1.trans g2).trans g3
    refine ⟨p, vs, rfl, SqL.of (g3.sub _ _ (g3.e _ _ (g2.e _ _ hp))), fun n hn => ?_⟩
    have gl := Grow.laid (o := .lst (cutV vs lo hi)) g.sub hn
    refine q (.ref n) _ _ (g.trans gl) (.lst ?_ upd_same (((rs.mono (g2.e.trans g3.e)).cut lo hi).mono gl.e))
    cases f with
    | true => exact Evl.fresh_back g.ext hn
    | false => trivial)
/-- len -/
def rcLen (K : Fr) : List V → Hp → VK → Prop := fun xs H Q => (∃ p ys, xs = [.ref p] ∧ (SqL K H p ys ∨ SqT K H p ys) ∧ Q (.int ys.length) H) ∨ (∃ z, xs = [.str z] ∧ z.length ≤ sizeLine ∧ Q (.int z.length) H)
theorem cl_len : CallR X (.builtin "len") (rcLen X.K) := call_len_seq.or call_len_str
theorem c_lenL : Rc K f (rcLen K) [.lst ds] (.int (ds.length : Int)) := Rc.left rc_len1
theorem c_lenT : Rc K f (rcLen K) [.tup ds] (.int (ds.length : Int)) := Rc.left rc_len2
theorem c_lenS {z : Str} (h : z.length ≤ 100000) : Rc K f (rcLen K) [.str z] (.int (z.length : Int)) := Rc.right fun G vs rs H e Q q => by
  cases rs with
  | cons r t => cases t; cases r; exact ⟨z, rfl, Evl.sz_of h, q _ G H (Grow.refl e) (.int _)⟩
def rcList (K : Fr) : List V → Hp → VK → Prop := fun xs H Q => ∃ p ys, xs = [.ref p] ∧ (SqL K H p ys ∨ SqT K H p ys) ∧ ∀ l, H l = none → Q (.ref l) (upd H l (.lst ys))
def rcTup (K : Fr) : List V → Hp → VK → Prop := fun xs H Q => ∃ p ys, xs = [.ref p] ∧ ((SqL K H p ys ∧ ∀ l, H l = none → Q (.ref l) (upd H l (.tup ys))) ∨ (SqT K H p ys ∧ Q (.ref p) H))
theorem cl_list : CallR X (.type "list") (rcList X.K) := call_list_of
theorem cl_tup : CallR X (.type "tuple") (rcTup X.K) := call_tuple_of
theorem c_listL : Rc K false (rcList K) [.lst ds] (.lst ds) := rc_listL
theorem c_listT : Rc K false (rcList K) [.tup ds] (.lst ds) := rc_listT
theorem c_listLs (hs : ∀ d ∈ ds, scalarD d = true) : Rc K f (rcList K) [.lst ds] (.lst ds) := rc_listLs hs
theorem c_listTs (hs : ∀ d ∈ ds, scalarD d = true) : Rc K f (rcList K) [.tup ds] (.lst ds) := rc_listTs hs
theorem c_tupL : Rc K false (rcTup K) [.lst ds] (.tup ds) := rc_tupL
theorem c_tupT : Rc K false (rcTup K) [.tup ds] (.tup ds) := rc_tupT
def rcInt : List V → Hp → VK → Prop := fun xs H Q => (∃ i, xs = [.int i] ∧ Q (.int i) H) ∨ ∃ k, xs = [.bl k] ∧ Q (.int (if k then 1 else 0)) H
theorem cl_int : CallR X (.type "int") rcInt := call_int1
theorem c_int {i : Int} : Rc K f rcInt [.int i] (.int i) := rc_int
theorem c_intB {i : Bool} : Rc K f rcInt [.bl i] (.int (if i then 1 else 0)) := rc_intB
/-- list(range(n)) -/
theorem rg_scal (lo : Int) (n : Nat) : RepA K (frh f H) G ((rng lo n).map D.int) ((rng lo n).map V.int) := RepA.ofInts _
theorem ev_listRg {ta : TE} {n : Int} (h : Ev K false ta σ G (.int n)) (h0 : -100000 ≤ n) (h1 : n ≤ 100000) : Ev K f (tLstRg (tRg1 ta)) σ G (.lst ((rng 0 n.toNat).map D.int)) := fun H e Q q =>
  h H e _ fun v G1 H1 g1 rv => by
    cases rv
    refine ⟨n, rfl, ⟨by omega, by omega, by omega, by omega, by omega⟩, fun p hp => ?_⟩
    have ev : rgV 0 n = (rng 0 n.toNat).map V.int := by
      unfold rgV rng
      rw [List.map_map]
      have e0 : n - 0 = n := by omega
      rw [e0]; rfl
    rw [ev]
    have g := Grow.laid (o := .lst ((rng 0 n.toNat).map V.int)) g1.sub hp
    refine q (.ref p) _ _ (g1.trans g) (.lst ?_ upd_same (rg_scal 0 _))
    cases f with
    | true => exact Evl.fresh_back g1.ext hp
    | false => trivial
/-- a list's items by place, for += -/
def rGetL (K : Fr) : V → V → Hp → VK → Prop := fun x y H Q => ∃ p xs i j v, x = .ref p ∧ y = .int i ∧ SqL K H p xs ∧ i = ((j : Nat) : Int) ∧ xs[j]? = some v ∧ Q v H
theorem get_list : PGet X (rGetL X.K) := by
  intro pins s σ H o i ov iv Q I ro ri h
  obtain ⟨p, xs, i, j, v, rfl, rfl, hq, rfl, hj, q⟩ := h
  cases ro
  obtain ⟨t, rfl⟩ := ri
  obtain ⟨its, r, pl, hz⟩ := I.list hq
  obtain ⟨u, hu, ru⟩ := r.get hj
  have hlt : j < xs.length := (List.getElem?_eq_some_iff.mp hj).1
  have hs : sizeLine < 2 ^ 62 := by decide
  exact wpAny_getItem_list pl.isList (by omega) (by omega) (by simpa using hu) ⟨v, H, I, ru, q⟩
/-- xs[j] += e, xs written, ints -/
theorem s_augL {De : Ends} {i : Nat} {p : Addr} {vs : List V} {j : Nat} {ti te : TE} {a b : Int} (e : Ex G H) (hv : σ[i]? = some (some (.ref p))) (hp : H p = some (.lst vs)) (hn : G p = none) (hi : Ev K false ti σ G (.int (j : Int))) (ha : vs[j]? = some (.int a)) (h : Ev K false te σ G (.int b))
    (k : ∀ G' H', Grow G H G' H' → H' p = some (.lst vs) → G' p = none → De.nx σ (upd H' p (.lst (vs.set j (.int (a + b)))))) : tAugS (tVar i) ti te (rGetL K) (ipI fun i j => i + j) rSetL De σ H :=
  ⟨.ref p, hv, hi H e _ fun w G1 H1 g1 rw => by
    cases rw
    have z := g1.keep hp hn
    refine ⟨p, vs, (j : Int), j, _, rfl, rfl, SqL.of z.1, rfl, ha, (h.mono g1.e) H1 g1.sub _ fun w2 G2 H2 g2 rw2 => ?_⟩
    cases rw2
    have z2 := g2.keep z.1 z.2
    have hlt : j < vs.length := (List.getElem?_eq_some_iff.mp ha).1
    exact ⟨a, b, rfl, rfl, p, vs, (j : Int), j, rfl, rfl, z2.1, Evl.ixN_nat hlt, k G2 H2 (g1.trans g2) z2.1 z2.2⟩⟩
end
end VL

/-! VL5: isinstance by data; the pool. -/
namespace VL
open PySem PySem.Spec PyProof.Rows L2
open Evl (Ex)

/-- the name of a datum's built-in class -/
def tyD : D → String
  | .non => "NoneType" | .bl _ => "bool" | .int _ => "int" | .str _ => "str" | .lst _ => "list" | .tup _ => "tuple" | .ins _ _ _ => "object" | .pool => "list" | .ty _ => "type"
/-- plain data -/
def plainD : D → Bool
  | .non => true | .bl _ => true | .int _ => true | .str _ => true | .lst _ => true | .tup _ => true | _ => false
def isiD (d : D) (T : String) : Bool := tyD d == T || (T == "int" && tyD d == "bool")
theorem kit_tab (a b : String) (ha : a ∈ ["NoneType", "bool", "int", "str", "list", "tuple"]) (hb : b ∈ ["bool", "int", "str", "list", "tuple"]) : kitB a b = some (a == b || (b == "int" && a == "bool")) := by
  simp only [List.mem_cons, List.not_mem_nil, or_false] at ha hb
  rcases ha with rfl | rfl | rfl | rfl | rfl | rfl <;> rcases hb with rfl | rfl | rfl | rfl | rfl <;> decide +kernel
section
variable {K : Fr} {f : Bool} {G H : Hp} {d : D} {v : V}
theorem Rep.tyx {fr : Option Hp} (hp : plainD d = true) (h : Rep K fr H d v) : TyX K H v (.type (tyD d)) := by
  cases h with
  | non => exact .base .non
  | bl b => exact .base (.bl b)
  | int b => exact .base (.int b)
  | str b => exact .base (.str b)
  | lst _ h _ => exact .base (.lst h)
  | tup h _ =>
    rcases h with (h | ⟨o, h⟩) | ⟨o, its, n, h1, h2, _⟩
    · exact .base (.tup h)
    · exact .fTuple h
    · exact .kTuple h1 h2
  | ins _ _ _ => cases hp
  | pool _ => cases hp
  | ty _ => cases hp
theorem c_isi {T : String} (hp : plainD d = true) (hT : T ∈ ["bool", "int", "str", "list", "tuple"]) : Rc K f (rIsi K) [d, .ty T] (.bl (isiD d T)) := fun G vs rs H e Q q => by
  cases rs with
  | cons r t =>
    cases t with
    | cons r' t =>
      cases t; cases r'
      rename_i x
      refine ⟨x, .ty T, _, .type T, isiD d T, rfl, .ty T, (r.mono e).tyx hp, kit_ty (kit_tab _ _ ?_ hT), q _ G H (Grow.refl e) (.bl _)⟩
      cases d <;> first | (cases hp; done) | (simp [tyD])
theorem ev_ty {σ : L2.St} {n : String} : Ev K f (tC (.ty n)) σ G (.ty n) := fun H e Q q => q _ G H (Grow.refl e) (.ty n)
end

/-! ### the pool -/
/-- what the pool's list holds -/
def poolVs (c : Addr) (i1 i2 i3 i4 : Int) : List V := [.ref c, .int i1, .int i2, .int i3, .int i4]
theorem poolO_stable (p c : Addr) (n : Nat) : ∀ h1 h2 : Heap, PoolO p c n h1 → (∀ o, h1.get? p = some o → h2.get? p = some o) → PoolO p c n h2 := fun h1 h2 ⟨i1, i2, i3, i4, t1, t2, t3, t4, m, a1, a2, a3, a4, e⟩ k =>
  ⟨i1, i2, i3, i4, t1, t2, t3, t4, m, a1, a2, a3, a4, k _ e⟩
section
variable {P : Program} {w : World} {H : Hp} {h : Heap} {p c : Addr} {n : Nat}
/-- from the list to the pool -/
theorem pool_in {i1 i2 i3 i4 : Int} (a1 : 0 ≤ i1) (a2 : 0 ≤ i2) (a3 : 0 ≤ i3) (a4 : 0 ≤ i4) (x : ObjOk P w H h p (.lst (poolVs c i1 i2 i3 i4))) : PoolO p c n h := by
  obtain ⟨_, its, m, rv, e⟩ := x
  unfold poolVs at rv
  cases rv with
  | cons r0 rv =>
    cases rv with
    | cons r1 rv =>
      cases rv with
      | cons r2 rv =>
        cases rv with
        | cons r3 rv =>
          cases rv with
          | cons r4 rv =>
            cases rv
            cases r0
            obtain ⟨t1, rfl⟩ := r1
            obtain ⟨t2, rfl⟩ := r2
            obtain ⟨t3, rfl⟩ := r3
            obtain ⟨t4, rfl⟩ := r4
            exact ⟨i1, i2, i3, i4, t1, t2, t3, t4, m, a1, a2, a3, a4, e⟩
/-- from the pool to the list -/
theorem pool_out (x : PoolO p c n h) : ∃ i1 i2 i3 i4 : Int, 0 ≤ i1 ∧ 0 ≤ i2 ∧ 0 ≤ i3 ∧ 0 ≤ i4 ∧ ∀ H : Hp, ObjOk P w H h p (.lst (poolVs c i1 i2 i3 i4)) := by
  obtain ⟨i1, i2, i3, i4, t1, t2, t3, t4, m, a1, a2, a3, a4, e⟩ := x
  exact ⟨i1, i2, i3, i4, a1, a2, a3, a4, fun H => ⟨by show 5 ≤ sizeLine; decide, _, m, .cons rfl (.cons ⟨t1, rfl⟩ (.cons ⟨t2, rfl⟩ (.cons ⟨t3, rfl⟩ (.cons ⟨t4, rfl⟩ .nil)))), e⟩⟩
end
/-- behind: the list at p is the pool again -/
def asPool (H : Hp) (p c : Addr) (n : Nat) : Hp := upd H p (.ext (PoolO p c n))
theorem asPool_ok {P : Program} {w : World} {H : Hp} {h : Heap} {p c : Addr} {n : Nat} {i1 i2 i3 i4 : Int} (ok : HOk P w H h) (hp : H p = some (.lst (poolVs c i1 i2 i3 i4))) (a1 : 0 ≤ i1) (a2 : 0 ≤ i2) (a3 : 0 ≤ i3) (a4 : 0 ≤ i4) : HOk P w (asPool H p c n) h := fun a o e => by
  by_cases ha : a = p
  · subst ha
    unfold asPool at e
    rw [upd_same] at e; cases e
    have z := pool_in (n := n) a1 a2 a3 a4 (ok a _ hp)
    exact ⟨z, (by obtain ⟨_, _, _, _, _, _, _, _, _, _, _, _, _, e⟩ := z; exact ⟨_, e⟩), poolO_stable a c n⟩
  · unfold asPool at e ⊢
    rw [upd_ne ha] at e
    refine (ok a o e).stay (fun _ _ _ z => z) (fun b z => ?_) fun b xs z => ?_
    · rw [upd_ne (fun y => by rw [y, hp] at z; cases z)]; exact z
    · rw [upd_ne (fun y => by rw [y, hp] at z; cases z)]; exact z
theorem asPool_un {H1 H2 : Hp} {h h' : Heap} {fs : List Addr} {p c : Addr} {n : Nat} {i1 i2 i3 i4 : Int} (u : Un fs [] H1 H2 h h') (hp : H2 p = some (.lst (poolVs c i1 i2 i3 i4))) (hn : ∀ o, h.get? p = some o → H1 p ≠ none) : Un fs [] H1 (asPool H2 p c n) h h' := by
  have nt : ∀ b o, H2 b = some o → (∀ vs, o ≠ .lst vs) → asPool H2 p c n b = some o := fun b o z hv => by
    unfold asPool
    rw [upd_ne (fun y => by rw [y, hp] at z; cases z; exact hv _ rfl)]; exact z
  refine ⟨u.keep, u.slot, fun b o e n0 hx => ?_, u.there, fun b xs z => nt b _ (u.tups b xs z) (fun _ q => by cases q), fun b o w z => nt b _ (u.frzs b o w z) (fun _ q => by cases q), fun b ps z => ?_⟩
  · unfold asPool
    rw [upd_ne (fun y => by subst y; exact hn o e n0)]
    exact u.free b o e n0 hx
  · obtain ⟨m, q⟩ := u.tbls b ps z
    exact ⟨m, nt b _ q (fun _ q => by cases q)⟩
/-- inside: the pool's list is written -/
def spDrawIn : Sp := fun vs H Q _ => ∃ (p c : Addr) (ns : List Int) (many i1 i2 i3 i4 : Int), vs = [.ref p, .int many] ∧ p ≠ c ∧ H p = some (.lst (poolVs c i1 i2 i3 i4)) ∧ H c = some (.lst (ns.map V.int)) ∧ (∀ n ∈ ns, 0 ≤ n) ∧
  0 < many ∧ many < 2 ^ 200 ∧ 0 ≤ i1 ∧ 0 ≤ i2 ∧ 0 ≤ i3 ∧ 0 ≤ i4 ∧ ∀ (d j1 j2 j3 j4 : Int) (H' : Hp), 0 ≤ d → d < many → 0 ≤ j1 → 0 ≤ j2 → 0 ≤ j3 → 0 ≤ j4 → H' p = some (.lst (poolVs c j1 j2 j3 j4)) → Ex (fun a => if a = p then none else H a) H' → Q (.int d) H'
/-- outside: nothing changes -/
def spDrawV : Sp := fun vs H Q _ => ∃ (p : Addr) (many : Int), vs = [.ref p, .int many] ∧ PoolAt H p ∧ 0 < many ∧ many < 2 ^ 200 ∧ ∀ (d : Int) (H' : Hp), 0 ≤ d → d < many → Ex H H' → Q (.int d) H'
theorem draw_out {P : Program} {w : World} {K : Fr} {mg : Str → Option Value} {base : Heap} {k : Nat} {f : Addr} {fd : FuncData} {ps : List Str} (F : FnOk P w K mg base CX0 k f fd ps spDrawIn) (hl : ps.length = 2) : FnOk P w K mg base CX0 k f fd ps spDrawV := by
  refine ⟨fun vs H Q E h => ?_, fun A outer s H args us vs Q E hr e0 hb rv hsp => ?_⟩
  · obtain ⟨p, many, rfl, _⟩ := h
    rw [hl]; rfl
  · obtain ⟨p, many, rfl, hP, hm, hm2, q⟩ := hsp
    obtain ⟨c, ns, hp, hc, hn⟩ := hP.ex
    have hpc : p ≠ c := ne_of hp hc (fun z => by cases z)
    obtain ⟨po, _, _⟩ := (show ObjOk P w H s.heap p (.ext (PoolO p c ns.length)) from e0.hok p _ hp)
    obtain ⟨i1, i2, i3, i4, a1, a2, a3, a4, ol⟩ := pool_out (P := P) (w := w) po
    generalize hH1 : upd H p (.lst (poolVs c i1 i2 i3 i4)) = H1
    have ne : ∀ b, b ≠ p → H1 b = H b := fun b hb => by rw [← hH1, upd_ne hb]
    have at1 : H1 p = some (.lst (poolVs c i1 i2 i3 i4)) := by rw [← hH1, upd_same]
    have e1 : Env0 P w K mg base A outer s H1 := by
      refine ⟨e0.frames, e0.mod, fun b o e => ?_, e0.bsz, e0.funs, fun b hb => ?_, fun a o e => ?_, e0.bare⟩
      · have z := e0.bs b o e
        refine ⟨z.1, ?_⟩
        rw [ne b (fun y => by rw [y, hp] at z; cases z.2)]; exact z.2
      · have z := e0.frf b hb
        rw [ne b (fun y => by rw [y, hp] at z; cases z)]; exact z
      · by_cases ha : a = p
        · subst ha
          rw [at1] at e; cases e
          exact ol H1
        · rw [ne a ha] at e
          refine (e0.hok a o e).stay (fun _ _ _ z => z) (fun b z => ?_) fun b xs z => ?_
          · rw [ne b (fun y => by rw [y, hp] at z; cases z)]; exact z
          · rw [ne b (fun y => by rw [y, hp] at z; cases z)]; exact z
    have run := F.run A outer s H1 args us [.ref p, .int many] (fun v H2 => ∃ d j1 j2 j3 j4 : Int, v = .int d ∧ 0 ≤ d ∧ d < many ∧ 0 ≤ j1 ∧ 0 ≤ j2 ∧ 0 ≤ j3 ∧ 0 ≤ j4 ∧ H2 p = some (.lst (poolVs c j1 j2 j3 j4)) ∧ Ex (fun a => if a = p then none else H1 a) H2) E hr e1 hb rv
      ⟨p, c, ns, many, i1, i2, i3, i4, rfl, hpc, at1, by rw [ne c hpc.symm]; exact hc, hn, hm, hm2, a1, a2, a3, a4, fun d j1 j2 j3 j4 H' h1 h2 h3 h4 h5 h6 h7 h8 => ⟨d, j1, j2, j3, j4, rfl, h1, h2, h3, h4, h5, h6, h7, h8⟩⟩
    refine codeAny_mono run fun r s' hh => ?_
    cases r with
    | error e => exact hh
    | ok fl =>
      cases fl with
      | next => exact hh
      | brk => exact hh
      | cont => exact hh
      | ret u =>
        obtain ⟨v, H2, os, bare, un, hok, rr, d, j1, j2, j3, j4, rfl, h1, h2, h3, h4, h5, h6, hp2, ex2⟩ := hh
        have np : ∀ b, H b = none → b ≠ p := fun b z y => by rw [y, hp] at z; cases z
        have un2 := asPool_un (n := ns.length) un hp2 (fun o e z => by rw [at1] at z; cases z)
        refine ⟨.int d, asPool H2 p c ns.length, os, bare, ⟨fun b o e n hf hx => un.keep b o e (by rw [ne b (np b n)]; exact n) hf hx, fun b o e n hf hx => un.slot b o e (by rw [ne b (np b n)]; exact n) hf hx, fun b o e n hx => un2.free b o e (by rw [ne b (np b n)]; exact n) hx, fun b o e hx => un.there b o e hx,
          fun b xs z => un2.tups b xs (by rw [ne b (fun y => by rw [y, hp] at z; cases z)]; exact z), fun b o u z => un2.frzs b o u (by rw [ne b (fun y => by rw [y, hp] at z; cases z)]; exact z), fun b pz z => un2.tbls b pz (by rw [ne b (fun y => by rw [y, hp] at z; cases z)]; exact z)⟩, asPool_ok hok hp2 h3 h4 h5 h6, rr, q d _ h1 h2 fun a o e => ?_⟩
        unfold asPool
        by_cases ha : a = p
        · subst ha; rw [upd_same, ← e, hp]
        · rw [upd_ne ha]
          exact ex2 a o (by show (if a = p then none else H1 a) = some o; rw [if_neg ha, ne a ha]; exact e)
/-- a draw by data -/
theorem spDraw_use {K : Fr} {f : Bool} {many : Int} (h : 0 < many) (h2 : many < 2 ^ 200) : SpDS K f spDrawV [.pool, .int many] (fun d => ∃ i, d = .int i ∧ 0 ≤ i ∧ i < many) := fun E G vs rs H e Q q => by
  cases rs with
  | cons r t =>
    cases t with
    | cons r' t =>
      cases t; cases r'
      cases r with
      | pool hp => exact ⟨_, many, rfl, hp.mono e, h, h2, fun d H' h1 h2 eH => q (.int d) _ G H' ⟨d, rfl, h1, h2⟩ ⟨Ex.refl _, e.trans eH, eH, fun a h h' => absurd h h'⟩ (.int d)⟩
/-- the pool is made: inside its list is new -/
def spPoolIn (K : Fr) : Sp := fun vs H Q _ => ∃ (a : Addr) (ns : List Int), vs = [.ref a] ∧ SqL K H a (ns.map V.int) ∧ ns.length ≤ 63 ∧
  ∀ (p c : Addr) (ms : List Int) (j1 j2 j3 j4 : Int) (H' : Hp), 0 ≤ j1 → 0 ≤ j2 → 0 ≤ j3 → 0 ≤ j4 → H p = none → p ≠ c → H' p = some (.lst (poolVs c j1 j2 j3 j4)) → H' c = some (.lst (ms.map V.int)) → (∀ n ∈ ms, 0 ≤ n) → Ex H H' → Q (.ref p) H'
def spPoolV (K : Fr) : Sp := fun vs H Q _ => ∃ (a : Addr) (ns : List Int), vs = [.ref a] ∧ SqL K H a (ns.map V.int) ∧ ns.length ≤ 63 ∧ ∀ (p : Addr) (H' : Hp), PoolAt H' p → Ex H H' → Q (.ref p) H'
theorem pool_made {P : Program} {w : World} {K : Fr} {mg : Str → Option Value} {base : Heap} {k : Nat} {f : Addr} {fd : FuncData} {ps : List Str} (F : FnOk P w K mg base CX0 k f fd ps (spPoolIn K)) (hl : ps.length = 1) : FnOk P w K mg base CX0 k f fd ps (spPoolV K) := by
  refine ⟨fun vs H Q E h => ?_, fun A outer s H args us vs Q E hr e0 hb rv hsp => ?_⟩
  · obtain ⟨p, many, rfl, _⟩ := h
    rw [hl]; rfl
  · obtain ⟨a, ns, rfl, hS, hl63, q⟩ := hsp
    have run := F.run A outer s H args us [.ref a] (fun v H2 => ∃ (p c : Addr) (ms : List Int) (j1 j2 j3 j4 : Int), v = .ref p ∧ 0 ≤ j1 ∧ 0 ≤ j2 ∧ 0 ≤ j3 ∧ 0 ≤ j4 ∧ H p = none ∧ p ≠ c ∧ H2 p = some (.lst (poolVs c j1 j2 j3 j4)) ∧ H2 c = some (.lst (ms.map V.int)) ∧ (∀ n ∈ ms, 0 ≤ n) ∧ Ex H H2) E hr e0 hb rv
      ⟨a, ns, rfl, hS, hl63, fun p c ms j1 j2 j3 j4 H' h1 h2 h3 h4 h5 h6 h7 h8 h9 h10 => ⟨p, c, ms, j1, j2, j3, j4, rfl, h1, h2, h3, h4, h5, h6, h7, h8, h9, h10⟩⟩
    refine codeAny_mono run fun r s' hh => ?_
    cases r with
    | error e => exact hh
    | ok fl =>
      cases fl with
      | next => exact hh
      | brk => exact hh
      | cont => exact hh
      | ret u =>
        obtain ⟨v, H2, os, bare, un, hok, rr, p, c, ms, j1, j2, j3, j4, rfl, h1, h2, h3, h4, hn, hpc, hp2, hc2, hms, ex2⟩ := hh
        have un2 := asPool_un (n := ms.length) un hp2 (fun o e z => by
          have y := un.free p o e z (by simp)
          rw [hp2] at y; cases y)
        refine ⟨.ref p, asPool H2 p c ms.length, os, bare, un2, asPool_ok hok hp2 h1 h2 h3 h4, rr, q p _ ⟨c, ms, by unfold asPool; rw [upd_same], by unfold asPool; rw [upd_ne hpc.symm]; exact hc2, hms⟩ fun b o e => ?_⟩
        unfold asPool
        rw [upd_ne (ne_of_none e hn)]
        exact ex2 b o e
end VL

/-! VL6: the built-in names, sequences, fields, items of mapped lists. -/
namespace VL
open PySem PySem.Spec PyProof.Rows L2
open Evl (Ex)

theorem bt_len : bootBuiltins "len" = some (.builtin "len") := by decide +kernel
theorem bt_sum : bootBuiltins "sum" = some (.builtin "sum") := by decide +kernel
theorem bt_any : bootBuiltins "any" = some (.builtin "any") := by decide +kernel
theorem bt_all : bootBuiltins "all" = some (.builtin "all") := by decide +kernel
theorem bt_abs : bootBuiltins "abs" = some (.builtin "abs") := by decide +kernel
theorem bt_isinstance : bootBuiltins "isinstance" = some (.builtin "isinstance") := by decide +kernel
theorem bt_max : bootBuiltins "max" = some (.builtin "max") := by decide +kernel
theorem bt_min : bootBuiltins "min" = some (.builtin "min") := by decide +kernel
theorem bt_sorted : bootBuiltins "sorted" = some (.builtin "sorted") := by decide +kernel
theorem bt_int : bootBuiltins "int" = some (.type "int") := by decide +kernel
theorem bt_list : bootBuiltins "list" = some (.type "list") := by decide +kernel
theorem bt_tuple : bootBuiltins "tuple" = some (.type "tuple") := by decide +kernel
theorem bt_str : bootBuiltins "str" = some (.type "str") := by decide +kernel
theorem bt_bool : bootBuiltins "bool" = some (.type "bool") := by decide +kernel
theorem bt_set : bootBuiltins "set" = some (.type "set") := by decide +kernel
theorem bt_dict : bootBuiltins "dict" = some (.type "dict") := by decide +kernel
/-- no name of a built-in is taken by the module -/
structure Bt (mg : Str → Option Value) : Prop where
  b_len : mg "len" = none
  b_range : mg "range" = none
  b_sum : mg "sum" = none
  b_any : mg "any" = none
  b_all : mg "all" = none
  b_abs : mg "abs" = none
  b_int : mg "int" = none
  b_isinstance : mg "isinstance" = none
  b_list : mg "list" = none
  b_tuple : mg "tuple" = none
  b_sorted : mg "sorted" = none
  b_enumerate : mg "enumerate" = none
  b_max : mg "max" = none
  b_min : mg "min" = none
  b_str : mg "str" = none
  b_set : mg "set" = none
  b_zip : mg "zip" = none
  b_reversed : mg "reversed" = none
  b_dict : mg "dict" = none
  b_bool : mg "bool" = none

/-- a list or a tuple -/
def iSeq (K : Fr) (tl : TE) : TI := iOr (iList K tl) (iTup K tl)
theorem pi_seq {X : Cx} {tg l : Expr} {tl : TE} (h : PE X l tl) : PI X tg l (iSeq X.K tl) := pi_or (pi_list h) (pi_tup h)
def iEnumU (K : Fr) (ta : TA) : TI := iOr (iEnum K ta) (iEnumT K ta)
theorem pi_enumU {X : Cx} {e : Expr} {ta : TA} {p pos tpos : Pos} {elts : List Expr} {kk : Nat} (hg : Gl X "enumerate") (hm : X.mg "enumerate" = none) (ha : PA X [e] ta) (hs : starEach [e] X.env = [(false, eval e X.env)] := by rfl) :
    PI X (.Tuple elts kk tpos) (.Call (.Name "enumerate" p) [e] [] pos) (iEnumU X.K ta) := pi_or (pi_enum hg hm ha hs) (pi_enumT hg hm ha hs)
def seqD (b : Bool) (ds : List D) : D := if b then .tup ds else .lst ds
section
variable {K : Fr} {f f1 : Bool} {σ : L2.St} {G H : Hp} {α β : Type} {xs : List α} {c : α → D} {te tl : TE} {ta : TA} {ds : List D} {d : D}
theorem ei_seqL (h : Ev K false tl σ G (.lst (xs.map c))) : EvI K (iSeq K tl) σ G xs c := ei_left (ei_list h)
theorem ei_seqT (h : Ev K false tl σ G (.tup (xs.map c))) : EvI K (iSeq K tl) σ G xs c := ei_right (ei_tup h)
theorem ei_seq {b : Bool} (h : Ev K false tl σ G (seqD b (xs.map c))) : EvI K (iSeq K tl) σ G xs c := by
  cases b with
  | true => exact ei_seqT h
  | false => exact ei_seqL h
theorem ei_enumL (h : EvA K false ta σ G [.lst (xs.map c)]) : EvI K (iEnumU K ta) σ G (enumL 0 xs) (fun p => .tup [.int p.1, c p.2]) := ei_left (ei_enum h)
theorem ei_enumTu (h : EvA K false ta σ G [.tup (xs.map c)]) : EvI K (iEnumU K ta) σ G (enumL 0 xs) (fun p => .tup [.int p.1, c p.2]) := ei_right (ei_enumT h)
theorem c_lenU {b : Bool} : Rc K f (rcLen K) [seqD b ds] (.int (ds.length : Int)) := by
  cases b with
  | true => exact c_lenT
  | false => exact c_lenL
theorem v_ixU {b : Bool} {i : Int} (h : atI ds i = some d) : Rv K f f (rIx K) (seqD b ds) (.int i) d := by
  cases b with
  | true => exact v_ixT h
  | false => exact v_ixL h
theorem v_inU {b : Bool} {n : Int} {ns : List Int} : Rv K f f1 (rIn K false) (.int n) (seqD b (ns.map D.int)) (.bl (decide (n ∈ ns))) := by
  cases b with
  | true => exact rv_inT
  | false => exact rv_inL
theorem v_niU {b : Bool} {n : Int} {ns : List Int} : Rv K f f1 (rIn K true) (.int n) (seqD b (ns.map D.int)) (.bl (!decide (n ∈ ns))) := by
  cases b with
  | true => exact rv_niT
  | false => exact rv_niL
/-- the item at i, i a place of the list -/
theorem at_map {i : Int} {a : α} (h0 : 0 ≤ i) (h : xs[i.toNat]? = some a) : atI (xs.map c) i = some (c a) := by
  have hl : i.toNat < xs.length := (List.getElem?_eq_some_iff.mp h).1
  unfold atI ixN
  rw [List.length_map, if_pos h0, if_pos (by omega)]
  show (xs.map c)[i.toNat]? = some (c a)
  rw [List.getElem?_map, h]; rfl
/-- a number's item, 0 beyond -/
def ix (xs : List Int) (i : Int) : Int := xs.getD i.toNat 0
theorem ix_get {xs : List Int} {i : Int} (h0 : 0 ≤ i) (h1 : i < xs.length) : xs[i.toNat]? = some (ix xs i) := by
  unfold ix
  have hl : i.toNat < xs.length := by omega
  rw [List.getD_eq_getElem?_getD, List.getElem?_eq_getElem hl]; rfl
theorem at_int {xs : List Int} {i : Int} (h0 : 0 ≤ i) (h1 : i < xs.length) : atI (xs.map D.int) i = some (.int (ix xs i)) := at_map h0 (ix_get h0 h1)
theorem at_last {d : D} {ds : List D} : atI (ds ++ [d]) (-1) = some d := by
  unfold atI ixN
  rw [if_neg (by omega), if_pos (by simp; omega)]
  show (ds ++ [d])[((-1 : Int) + ((ds ++ [d]).length : Int)).toNat]? = some d
  have e : ((-1 : Int) + ((ds ++ [d]).length : Int)).toNat = ds.length := by simp; omega
  rw [e]; simp
/-- a field of an instance -/
theorem look_fld {fr : Option Hp} {G : Hp} {fld : Str} : ∀ {ns : List Str} {ds : List D} {fs : List (Str × V)} {d : D}, fs.map (·.1) = ns → RepA K fr G ds (fs.map (·.2)) → (ns.zip ds).lookup fld = some d → ∃ v, fs.lookup fld = some v ∧ Rep K fr G d v := by
  intro ns
  induction ns with
  | nil => intro ds fs d _ _ h; simp at h
  | cons n ns ih =>
    intro ds fs d hn hr h
    cases fs with
    | nil => simp at hn
    | cons p fs =>
      obtain ⟨m, v⟩ := p
      simp only [List.map_cons, List.cons.injEq] at hn
      obtain ⟨rfl, hn⟩ := hn
      cases ds with
      | nil => simp at h
      | cons d0 ds =>
        simp only [List.map_cons] at hr
        cases hr with
        | cons h1 t1 =>
          rw [List.zip_cons_cons, List.lookup_cons] at h
          rw [List.lookup_cons]
          cases q : (fld == m) with
          | true => rw [q] at h; cases h; exact ⟨v, rfl, h1⟩
          | false => rw [q] at h; exact ih hn t1 h
theorem ev_fld {C : Addr} {ns : List Str} {fld : Str} (cl : Cls K C) (na : NoAttr K C fld) (hd : (ns.zip ds).lookup fld = some d) (h : Ev K f te σ G (.ins C ns ds)) : Ev K f (tFld K te fld) σ G d := fun H e Q q =>
  h H e _ fun v G1 H1 g1 rv => by
    cases rv with
    | ins hp hn hr =>
      rename_i a dx fs
      obtain ⟨w, hw, rw'⟩ := look_fld hn hr hd
      exact ⟨a, C, dx, fs, w, rfl, g1.sub _ _ hp, cl, na, hw, q w G1 H1 g1 rw'⟩
theorem RepA.one {fr : Option Hp} {d1 : D} {vs : List V} (h : RepA K fr G [d1] vs) : ∃ v1, vs = [v1] ∧ Rep K fr G d1 v1 := by
  cases h with | cons h t => cases t; exact ⟨_, rfl, h⟩
theorem RepA.two {fr : Option Hp} {d1 d2 : D} {vs : List V} (h : RepA K fr G [d1, d2] vs) : ∃ v1 v2, vs = [v1, v2] ∧ Rep K fr G d1 v1 ∧ Rep K fr G d2 v2 := by
  cases h with | cons h t => obtain ⟨v2, rfl, h2⟩ := t.one; exact ⟨_, _, rfl, h, h2⟩
theorem RepA.three {fr : Option Hp} {d1 d2 d3 : D} {vs : List V} (h : RepA K fr G [d1, d2, d3] vs) : ∃ v1 v2 v3, vs = [v1, v2, v3] ∧ Rep K fr G d1 v1 ∧ Rep K fr G d2 v2 ∧ Rep K fr G d3 v3 := by
  cases h with | cons h t => obtain ⟨v2, v3, rfl, h2, h3⟩ := t.two; exact ⟨_, _, _, rfl, h, h2, h3⟩
theorem RepA.four {fr : Option Hp} {d1 d2 d3 d4 : D} {vs : List V} (h : RepA K fr G [d1, d2, d3, d4] vs) : ∃ v1 v2 v3 v4, vs = [v1, v2, v3, v4] ∧ Rep K fr G d1 v1 ∧ Rep K fr G d2 v2 ∧ Rep K fr G d3 v3 ∧ Rep K fr G d4 v4 := by
  cases h with | cons h t => obtain ⟨v2, v3, v4, rfl, h2, h3, h4⟩ := t.three; exact ⟨_, _, _, _, rfl, h, h2, h3, h4⟩
theorem RepA.five {fr : Option Hp} {d1 d2 d3 d4 d5 : D} {vs : List V} (h : RepA K fr G [d1, d2, d3, d4, d5] vs) : ∃ v1 v2 v3 v4 v5, vs = [v1, v2, v3, v4, v5] ∧ Rep K fr G d1 v1 ∧ Rep K fr G d2 v2 ∧ Rep K fr G d3 v3 ∧ Rep K fr G d4 v4 ∧ Rep K fr G d5 v5 := by
  cases h with | cons h t => obtain ⟨v2, v3, v4, v5, rfl, h2, h3, h4, h5⟩ := t.four; exact ⟨_, _, _, _, _, rfl, h, h2, h3, h4, h5⟩
end
end VL

/-! VL7: the rules with the written part told by name (a block's own context hides it). -/
namespace VL
open PySem PySem.Spec PyProof.Rows L2
section
variable {X : Cx} {K : Fr}
theorem ix_seqK (hK : X.K = K) : IxR X (rIx K) := hK ▸ ix_seq
theorem sl_UK (hK : X.K = K) : SlR X (rSlU K) := hK ▸ sl_U
theorem op_addUK (hK : X.K = K) : OpR X (binaryOp .Add) (rAddU K) := hK ▸ op_addU
theorem op_eqUK (hK : X.K = K) (hu : X.A.units + 64 < cLine) : OpR X (compareOp .Eq) (rEqU K) := hK ▸ op_eqU hu
theorem op_neUK (hK : X.K = K) (hu : X.A.units + 64 < cLine) : OpR X (compareOp .NotEq) (rNeU K) := hK ▸ op_neU hu
theorem op_inK (hK : X.K = K) : OpR X (compareOp .In) (rIn K false) := hK ▸ op_in_seq
theorem op_niK (hK : X.K = K) : OpR X (compareOp .NotIn) (rIn K true) := hK ▸ op_notIn_seq
theorem cl_lenK (hK : X.K = K) : CallR X (.builtin "len") (rcLen K) := hK ▸ cl_len
theorem cl_listK (hK : X.K = K) : CallR X (.type "list") (rcList K) := hK ▸ cl_list
theorem cl_tupK (hK : X.K = K) : CallR X (.type "tuple") (rcTup K) := hK ▸ cl_tup
theorem cr_sumK (hK : X.K = K) (hc : X.calm = true) : CallR X (.builtin "sum") (rSum K) := hK ▸ cr_sum hc
theorem cr_anyK (hK : X.K = K) (hc : X.calm = true) : CallR X (.builtin "any") (rAny K) := hK ▸ cr_any hc
theorem cr_allK (hK : X.K = K) (hc : X.calm = true) : CallR X (.builtin "all") (rAll K) := hK ▸ cr_all hc
theorem cr_maxK (hK : X.K = K) (hc : X.calm = true) : CallR X (.builtin "max") (rMax K) := hK ▸ cr_max hc
theorem cr_minK (hK : X.K = K) (hc : X.calm = true) : CallR X (.builtin "min") (rMin K) := hK ▸ cr_min hc
theorem cr_sortedK (hK : X.K = K) : CallR X (.builtin "sorted") (rSortedI K) := hK ▸ cr_sortedI
theorem cl_isiK (hK : X.K = K) : CallR X (.builtin "isinstance") (rIsi K) := hK ▸ call_isi
theorem mt_indexK (hK : X.K = K) : MtR X "list.index" (rIndex K) := hK ▸ mt_index
theorem get_listK (hK : X.K = K) : PGet X (rGetL K) := hK ▸ get_list
theorem pe_fldK (hK : X.K = K) {e : Expr} {te : TE} {fld : Str} {pos : Pos} (he : PE X e te) (hb : attributeBase e fld X.env (eval e X.env) = eval e X.env) : PE X (.Attribute e fld pos) (tFld K te fld) := hK ▸ pe_fld he hb
theorem pi_seqK (hK : X.K = K) {tg l : Expr} {tl : TE} (h : PE X l tl) : PI X tg l (iSeq K tl) := hK ▸ pi_seq h
theorem pi_enumK (hK : X.K = K) {e : Expr} {ta : TA} {p pos tpos : Pos} {elts : List Expr} {kk : Nat} (hg : Gl X "enumerate") (hm : X.mg "enumerate" = none) (ha : PA X [e] ta) (hs : starEach [e] X.env = [(false, eval e X.env)] := by rfl) :
    PI X (.Tuple elts kk tpos) (.Call (.Name "enumerate" p) [e] [] pos) (iEnumU K ta) := hK ▸ pi_enumU hg hm ha hs
theorem pg_tupK (hK : X.K = K) {es : List Expr} {k : Nat} {t : TGs} {n : Nat} {pos : Pos} (hc : X.calm = true) (h : PGs X es t)
    (hn : (assignEach es X.env).length = n := by rfl) (hst : (assignEach es X.env).findIdx? (·.1) = none := by rfl) : PG X (.Tuple es k pos) (gTup K n t) := hK ▸ pg_tup hc h hn hst
theorem pe_revLK (hK : X.K = K) {e : Expr} {te : TE} {k : Nat} {p1 p2 p3 pos : Pos} (he : PE X e te) : PE X (.Subscript e (.Slice none none (some (.UnaryOp .USub (.Constant (.int 1) k p1) p2)) p3) pos) (tRevL K te) := hK ▸ pe_revL he
theorem pa_starK (hK : X.K = K) {e : Expr} {es : List Expr} {te : TE} {t : TA} {p : Pos} (he : PE X e te) (hr : PA X es t) (hs : starEach (.Starred e p :: es) X.env = (true, eval e X.env) :: starEach es X.env := by rfl) : PA X (.Starred e p :: es) (StX.tStar K te t) := hK ▸ StX.pa_star he hr hs
theorem pi_reversedK (hK : X.K = K) {tg e : Expr} {ta : TA} {p pos : Pos} (hg : Gl X "reversed") (hm : X.mg "reversed" = none) (ha : PA X [e] ta) (hs : starEach [e] X.env = [(false, eval e X.env)] := by rfl) : PI X tg (.Call (.Name "reversed" p) [e] [] pos) (iRev K ta) := hK ▸ pi_reversed hg hm ha hs
theorem pi_zipK (hK : X.K = K) {e e2 : Expr} {ta : TA} {p pos tpos : Pos} {elts : List Expr} {kk : Nat} (hg : Gl X "zip") (hm : X.mg "zip" = none) (ha : PA X [e, e2] ta)
    (hs : starEach [e, e2] X.env = (false, eval e X.env) :: starEach [e2] X.env := by rfl) (hpl : (backTo pos (starEach [e2] X.env)).any (·.1) = false := by rfl) :
    PI X (.Tuple elts kk tpos) (.Call (.Name "zip" p) [e, e2] [] pos) (iZip K ta) := hK ▸ pi_zip hg hm ha hs hpl
end
end VL

/-! VL8: later rules. -/
namespace VL
open PySem PySem.Spec PyProof.Rows L2
open Evl (Ex)
theorem Rc.is1 {K : Fr} {f : Bool} {r : List V → Hp → VK → Prop} {d e c : D} (h : Rc K f r [e] c) (eq : d = e) : Rc K f r [d] c := eq ▸ h
theorem Rc.old {K : Fr} {f : Bool} {r : List V → Hp → VK → Prop} {ds : List D} {c : D} (h : Rc K f r ds c) : Rc K false r ds c := fun G vs rs H e Q q => h G vs rs H e Q fun v G' H' g rv => q v G' H' g rv.old
theorem RcS.old {K : Fr} {f : Bool} {r : List V → Hp → VK → Prop} {ds : List D} {P : D → Prop} (h : RcS K f r ds P) : RcS K false r ds P := fun G vs rs H e Q q => h G vs rs H e Q fun d v G' H' pd g rv => q d v G' H' pd g rv.old
theorem EvI.is {K : Fr} {wi : TI} {σ : L2.St} {G : Hp} {α : Type} {xs ys : List α} {c : α → D} (h : EvI K wi σ G xs c) (e : xs = ys) : EvI K wi σ G ys c := e ▸ h
section
variable {K : Fr} {f : Bool} {σ : L2.St} {G H G0 H0 : Hp} {te : TE} {d : D} {p : Addr} {vs : List V} {ds : List D} {De : Ends} {i : Nat}
/-- a scalar is as good as new -/
theorem Ev.sc (h : Ev K false te σ G d) (hs : scalarD d = true) : Ev K f te σ G d := fun H e Q q => h H e Q fun v G' H' g r => q v G' H' g (r.scalar hs)
/-- a list of one's own is written no more: it is known from here on -/
theorem Grow.own (g : Grow G0 H0 G H) (hp : H p = some (.lst vs)) (hn : G p = none) (h0 : H0 p = none) : Grow G0 H0 (upd G p (.lst vs)) H :=
  ⟨g.e.trans (Ex.new hn), fun a o ha => by
    by_cases hx : a = p
    · subst hx; rw [upd_same] at ha; cases ha; exact hp
    · rw [upd_ne hx] at ha; exact g.sub a o ha, g.ext, fun a ha ha' => by
    by_cases hx : a = p
    · subst hx; exact h0
    · rw [upd_ne hx] at ha'; exact g.new a ha ha'⟩
theorem rep_own (h0 : H0 p = none) (hn : G p = none) (r : RepA K (frh f H0) G ds vs) : Rep K (frh f H0) (upd G p (.lst vs)) (.lst ds) (.ref p) := by
  refine .lst ?_ upd_same (r.mono (Ex.new hn))
  cases f with
  | true => exact h0
  | false => trivial
theorem ev_anyLc {α : Type} {xs : List α} {c : α → D} {wi : TI} {g : TG} {vs : List Nat} {h : α → Bool} {S : α → Hp → L2.St → Prop} (hi : EvI K wi σ G xs c) (hl : xs.length ≤ 50000) (hw : ∀ a G1 σ', S a G1 σ' → wipe σ' vs = wipe σ vs)
    (hg : ∀ a ∈ xs, ∀ G1, Ex G G1 → Tgt K g (wipe σ vs) (c a) G1 (S a G1)) (he : ∀ a ∈ xs, ∀ G1, Ex G G1 → ∀ σ', S a G1 σ' → Ev K false te σ' G1 (.bl (h a))) : Ev K f (tCB (rAny K) (tCons (tLc wi g tYes te vs) tNil)) σ G (.bl (xs.any h)) := by
  have z := ev_cb (f := f) (ea_cons ((evl_lc0 (f := false) (h := fun a => .bl (h a)) hi hl hw hg he).ev.is (show _ = D.lst ((xs.map h).map D.bl) by rw [List.map_map]; rfl)) ea_nil) (rc_any (bs := xs.map h))
  rw [List.any_map] at z
  exact z
theorem ev_allLc {α : Type} {xs : List α} {c : α → D} {wi : TI} {g : TG} {vs : List Nat} {h : α → Bool} {S : α → Hp → L2.St → Prop} (hi : EvI K wi σ G xs c) (hl : xs.length ≤ 50000) (hw : ∀ a G1 σ', S a G1 σ' → wipe σ' vs = wipe σ vs)
    (hg : ∀ a ∈ xs, ∀ G1, Ex G G1 → Tgt K g (wipe σ vs) (c a) G1 (S a G1)) (he : ∀ a ∈ xs, ∀ G1, Ex G G1 → ∀ σ', S a G1 σ' → Ev K false te σ' G1 (.bl (h a))) : Ev K f (tCB (rAll K) (tCons (tLc wi g tYes te vs) tNil)) σ G (.bl (xs.all h)) := by
  have z := ev_cb (f := f) (ea_cons ((evl_lc0 (f := false) (h := fun a => .bl (h a)) hi hl hw hg he).ev.is (show _ = D.lst ((xs.map h).map D.bl) by rw [List.map_map]; rfl)) ea_nil) (rc_all (bs := xs.map h))
  rw [List.all_map] at z
  exact z
theorem ev_sumLc {α : Type} {xs : List α} {c : α → D} {wi : TI} {g : TG} {tt : TT} {vs : List Nat} {b : α → Bool} {h : α → Int} {S : α → Hp → L2.St → Prop} (hi : EvI K wi σ G xs c) (hl : xs.length ≤ 50000) (hw : ∀ a G1 σ', S a G1 σ' → wipe σ' vs = wipe σ vs)
    (hg : ∀ a ∈ xs, ∀ G1, Ex G G1 → Tgt K g (wipe σ vs) (c a) G1 (S a G1)) (ht : ∀ a ∈ xs, ∀ G1, Ex G G1 → ∀ σ', S a G1 σ' → EvT K tt σ' G1 (b a)) (he : ∀ a ∈ xs, b a = true → ∀ G1, Ex G G1 → ∀ σ', S a G1 σ' → Ev K false te σ' G1 (.int (h a))) :
    Ev K f (tCB (rSum K) (tCons (tLc wi g tt te vs) tNil)) σ G (.int (((xs.filter b).map h).sum)) :=
  ev_cb (f := f) (ea_cons ((evl_lc (f := false) (b := b) (h := fun a => .int (h a)) hi hl hw hg ht he).ev.is (show _ = D.lst (((xs.filter b).map h).map D.int) by rw [List.map_map]; rfl)) ea_nil) rc_sum
theorem ev_sumLc0 {α : Type} {xs : List α} {c : α → D} {wi : TI} {g : TG} {vs : List Nat} {h : α → Int} {S : α → Hp → L2.St → Prop} (hi : EvI K wi σ G xs c) (hl : xs.length ≤ 50000) (hw : ∀ a G1 σ', S a G1 σ' → wipe σ' vs = wipe σ vs)
    (hg : ∀ a ∈ xs, ∀ G1, Ex G G1 → Tgt K g (wipe σ vs) (c a) G1 (S a G1)) (he : ∀ a ∈ xs, ∀ G1, Ex G G1 → ∀ σ', S a G1 σ' → Ev K false te σ' G1 (.int (h a))) :
    Ev K f (tCB (rSum K) (tCons (tLc wi g tYes te vs) tNil)) σ G (.int ((xs.map h).sum)) :=
  ev_cb (f := f) (ea_cons ((evl_lc0 (f := false) (h := fun a => .int (h a)) hi hl hw hg he).ev.is (show _ = D.lst ((xs.map h).map D.int) by rw [List.map_map]; rfl)) ea_nil) rc_sum
/-- a list of whole numbers by a comprehension -/
theorem ev_intLc {α : Type} {xs : List α} {c : α → D} {wi : TI} {g : TG} {tt : TT} {vs : List Nat} {b : α → Bool} {h : α → Int} {S : α → Hp → L2.St → Prop} (hi : EvI K wi σ G xs c) (hl : xs.length ≤ 50000) (hw : ∀ a G1 σ', S a G1 σ' → wipe σ' vs = wipe σ vs)
    (hg : ∀ a ∈ xs, ∀ G1, Ex G G1 → Tgt K g (wipe σ vs) (c a) G1 (S a G1)) (ht : ∀ a ∈ xs, ∀ G1, Ex G G1 → ∀ σ', S a G1 σ' → EvT K tt σ' G1 (b a)) (he : ∀ a ∈ xs, b a = true → ∀ G1, Ex G G1 → ∀ σ', S a G1 σ' → Ev K f te σ' G1 (.int (h a))) :
    Ev K f (tLc wi g tt te vs) σ G (.lst (((xs.filter b).map h).map D.int)) := (evl_lc (b := b) (h := fun a => .int (h a)) hi hl hw hg ht he).ev.is (by rw [List.map_map]; rfl)
theorem ev_intLc0 {α : Type} {xs : List α} {c : α → D} {wi : TI} {g : TG} {vs : List Nat} {h : α → Int} {S : α → Hp → L2.St → Prop} (hi : EvI K wi σ G xs c) (hl : xs.length ≤ 50000) (hw : ∀ a G1 σ', S a G1 σ' → wipe σ' vs = wipe σ vs)
    (hg : ∀ a ∈ xs, ∀ G1, Ex G G1 → Tgt K g (wipe σ vs) (c a) G1 (S a G1)) (he : ∀ a ∈ xs, ∀ G1, Ex G G1 → ∀ σ', S a G1 σ' → Ev K f te σ' G1 (.int (h a))) :
    Ev K f (tLc wi g tYes te vs) σ G (.lst ((xs.map h).map D.int)) := (evl_lc0 (h := fun a => .int (h a)) hi hl hw hg he).ev.is (by rw [List.map_map]; rfl)
/-- if .. : (leaves); what follows -/
theorem s_ifc {x : Bool} {tt : TT} {tu tr : TS} (e : Ex G H) (h : EvT K tt σ G x) (h1 : x = true → ∀ G' H', Grow G H G' H' → tu { De with nx := tr De } σ H') (h2 : x = false → ∀ G' H', Grow G H G' H' → tr De σ H') : tSeq (tIfS tt tu tNext) tr De σ H := h H e _ fun G' H' g => by
  cases x with
  | true => exact h1 rfl G' H' g
  | false => exact h2 rfl G' H' g
theorem s_ifcS {T : Bool → Prop} {tt : TT} {tu tr : TS} (e : Ex G H) (h : EvTS K tt σ G T) (h1 : T true → ∀ G' H', Grow G H G' H' → tu { De with nx := tr De } σ H') (h2 : T false → ∀ G' H', Grow G H G' H' → tr De σ H') : tSeq (tIfS tt tu tNext) tr De σ H := h H e _ fun x G' H' tx g => by
  cases x with
  | true => exact h1 tx G' H' g
  | false => exact h2 tx G' H' g
theorem s_retP {v : V} (hv : σ[i]? = some (some v)) (k : De.rt v H) : tRet (tVar i) De σ H := ⟨v, hv, k⟩
end
/-! ### instances made -/
/-- the heap without x -/
def cutx (H : Hp) (x : Addr) : Hp := fun a => if a = x then none else H a
theorem cutx_self {H : Hp} {x : Addr} : cutx H x x = none := if_pos rfl
theorem cutx_ne {H : Hp} {x a : Addr} (h : a ≠ x) : cutx H x a = H a := if_neg h
theorem cutx_ex {H : Hp} {x : Addr} : Ex (cutx H x) H := fun a o h => by
  by_cases e : a = x
  · subst e; rw [cutx_self] at h; cases h
  · rw [cutx_ne e] at h; exact h
theorem Grow.cutx {G H : Hp} {x : Addr} (e : Ex G H) : Grow G (cutx H x) G H := ⟨Ex.refl _, e, cutx_ex, fun a h h' => absurd h h'⟩
/-- __init__: x is new; its fields behind -/
def spInit (K : Fr) (C : Addr) {ι : Type} (args : ι → List D) (pre : ι → Prop) (names : List Str) (out : ι → List D) : Sp := fun vs H Q _ => ∃ (i : ι) (G : Hp) (x dx : Addr) (us : List V), vs = .ref x :: us ∧ Ex G H ∧ G x = none ∧ H x = some (.ins C dx []) ∧ RepA K none G (args i) us ∧ pre i ∧
  ∀ fs G' H', fs.map (·.1) = names → RepA K none G' (out i) (fs.map (·.2)) → Grow G (cutx H x) G' H' → H' x = some (.ins C dx fs) → G' x = none → Q .non H'
section
variable {K : Fr} {f : Bool} {σ : L2.St} {G H G0 H0 : Hp} {te : TE} {d : D} {ds : List D} {De : Ends} {i : Nat} {P : D → Prop}
theorem ev_mk {C : Addr} {ι : Type} {args : ι → List D} {pre : ι → Prop} {names : List Str} {out : ι → List D} {E : XK} {ta : TA} (j : ι) (hp : pre j) (h : EvA K false ta σ G (args j)) : Ev K false (tMake C (spInit K C args pre names out) [] E ta) σ G (.ins C names (out j)) := fun H e Q q =>
  h H e _ fun vs G1 H1 g1 rs => fun x dx hx hdx hne => by
    have n1 : G1 x = none := Evl.fresh_back g1.sub hx
    have e2 : Ex G1 (upd (upd H1 dx (.own x)) x (.ins C dx [])) := fun a o ha => by
      have z := g1.sub a o ha
      rw [upd_ne (ne_of_none z hx), upd_ne (ne_of_none z hdx)]; exact z
    refine ⟨j, G1, x, dx, vs, by rw [List.append_nil], e2, n1, upd_same, rs, hp, fun fs G' H' hn hr g hX hG => ⟨rfl, ?_⟩⟩
    have e3 : Ex G' (upd G' x (.ins C dx fs)) := Ex.new hG
    refine q (.ref x) (upd G' x (.ins C dx fs)) H' (g1.trans ⟨g.e.trans e3, fun a o ha => ?_, fun a o ha => ?_, fun a ha ha' => ?_⟩) (.ins upd_same hn (hr.mono e3))
    · by_cases hh : a = x
      · subst hh; rw [upd_same] at ha; cases ha; exact hX
      · rw [upd_ne hh] at ha; exact g.sub a o ha
    · refine g.ext a o ?_
      rw [cutx_ne (ne_of_none ha hx), upd_ne (ne_of_none ha hx), upd_ne (ne_of_none ha hdx)]; exact ha
    · by_cases hh : a = x
      · subst hh; exact hx
      · rw [upd_ne hh] at ha'
        have z := g.new a ha ha'
        rw [cutx_ne hh, upd_ne hh] at z
        by_cases hd : a = dx
        · subst hd; exact hdx
        · rw [upd_ne hd] at z; exact z
theorem putF_new {fl : Str} {v : V} : ∀ {fs : List (Str × V)}, (∀ p ∈ fs, ¬ p.1 = fl) → putF fl v fs = fs ++ [(fl, v)]
  | [], _ => rfl
  | p :: fs, h => by
    unfold putF
    rw [if_neg (h p List.mem_cons_self), putF_new fun q hq => h q (List.mem_cons_of_mem _ hq)]; rfl
/-- self.x = e, self still new -/
theorem s_fldS {x C dx : Addr} {fs : List (Str × V)} {fl : Str} (e : Ex G H) (hv : σ[i]? = some (some (.ref x))) (hx : H x = some (.ins C dx fs)) (hn : G x = none) (cl : Cls K C) (na : NoAttr K C fl) (hl : fs.length < 1000) (h : EvS K f te σ G P)
    (k : ∀ d v G' H', P d → Grow G H G' H' → Rep K (frh f H) G' d v → H' x = some (.ins C dx fs) → G' x = none → De.nx σ (upd H' x (.ins C dx (putF fl v fs)))) : sFld K (tVar i) te fl De σ H :=
  h H e _ fun d v G1 H1 pd g1 r => by
    have z := g1.keep hx hn
    exact ⟨.ref x, hv, x, C, dx, fs, rfl, z.1, cl, na, hl, k d v G1 H1 pd g1 r z.1 z.2⟩
end
section
variable {K : Fr} {f : Bool} {σ : L2.St} {G H : Hp}
/-- a part of a list of whole numbers that may be the script -/
theorem ev_slScript {tl th : TO} {lo hi : Option Int} {i : Nat} {a : Addr} {ns : List Int} (hv : σ[i]? = some (some (.ref a))) (hs : SqL K G a (ns.map V.int)) (h1 : EvO K tl σ G lo) (h2 : EvO K th σ G hi) : Ev K f (tSl (rSlU K) (tVar i) tl th) σ G (.lst ((cutD ns lo hi).map D.int)) := fun H e Q q =>
  ⟨.ref a, hv, h1 H e _ fun G2 H2 g2 => (h2.mono g2.e) H2 g2.sub _ fun G3 H3 g3 => Or.inl (by
    have g := g2.trans g3
    refine ⟨a, _, rfl, Evl.ex_l (e.trans g.ext) hs, fun n hn => ?_⟩
    have ec : cutV (ns.map V.int) lo hi = (cutD ns lo hi).map V.int := by
      unfold cutV cutD
      rw [List.length_map, ← List.map_drop, ← List.map_take]
    rw [ec]
    have gl := Grow.laid (o := .lst ((cutD ns lo hi).map V.int)) g.sub hn
    refine q (.ref n) _ _ (g.trans gl) (.lst ?_ upd_same (RepA.ofInts _))
    cases f with
    | true => exact Evl.fresh_back g.ext hn
    | false => trivial)⟩
theorem cutD_length {α : Type} (xs : List α) (lo hi : Option Int) : (cutD xs lo hi).length ≤ xs.length := by
  unfold cutD
  rw [List.length_take, List.length_drop]
  omega
end
end VL

/-! VL9: drawn whole numbers, lists of one's own that are read while they grow. -/
namespace VL
open PySem PySem.Spec PyProof.Rows L2
open Evl (Ex)
/-- a whole number with p -/
def IntP (p : Int → Prop) : D → Prop := fun d => ∃ i, d = .int i ∧ p i
/-- at one heap -/
def EvH (K : Fr) (f : Bool) (te : TE) (σ : L2.St) (G H : Hp) (P : D → Prop) : Prop := ∀ Q : VK, (∀ d v G' H', P d → Grow G H G' H' → Rep K (frh f H) G' d v → Q v H') → te σ H Q
def EtH (_ : Fr) (tt : TT) (σ : L2.St) (G H : Hp) (T : Bool → Prop) : Prop := ∀ Q : Bool → Hp → Prop, (∀ b G' H', T b → Grow G H G' H' → Q b H') → tt σ H Q
def EaH (K : Fr) (f : Bool) (ta : TA) (σ : L2.St) (G H : Hp) (P : List D → Prop) : Prop := ∀ Q : List V → Hp → Prop, (∀ ds vs G' H', P ds → Grow G H G' H' → RepA K (frh f H) G' ds vs → Q vs H') → ta σ H Q
section
variable {K : Fr} {f : Bool} {σ : L2.St} {G H : Hp} {te ta tb : TE} {tt tu : TT} {P P1 : D → Prop} {p p1 p2 p3 : Int → Prop} {T T1 T2 : Bool → Prop} {ds : List D} {vs : List V} {d : D} {x : Addr} {i : Nat}
theorem EvS.h (h : EvS K f te σ G P) (e : Ex G H) : EvH K f te σ G H P := fun Q q => h H e Q q
theorem Ev.h (h : Ev K f te σ G d) (e : Ex G H) : EvH K f te σ G H (fun z => z = d) := fun Q q => h H e Q fun v G' H' g r => q d v G' H' rfl g r
theorem EvH.imp (h : EvH K f te σ G H P) (hp : ∀ d, P d → P1 d) : EvH K f te σ G H P1 := fun Q q => h Q fun d v G' H' k g r => q d v G' H' (hp d k) g r
theorem Ev.toI {j : Int} (h : Ev K f te σ G (.int j)) (hp : p j) : EvS K f te σ G (IntP p) := h.toS.imp fun _ e => ⟨j, e, hp⟩
theorem iS_op {r : R2} (ha : EvS K true ta σ G (IntP p1)) (hb : EvS K true tb σ G (IntP p2)) (hr : ∀ i j, p1 i → p2 j → ∃ k, p3 k ∧ Rv K f true r (.int i) (.int j) (.int k)) : EvS K f (tOp r ta tb) σ G (IntP p3) :=
  evS_op ha hb fun a b ⟨i, ea, h1⟩ ⟨j, eb, h2⟩ => by
    subst ea; subst eb
    obtain ⟨k, hk, hv⟩ := hr i j h1 h2
    exact ⟨_, ⟨k, rfl, hk⟩, hv⟩
theorem iS_add (ha : EvS K true ta σ G (IntP p1)) (hb : EvS K true tb σ G (IntP p2)) (hr : ∀ i j, p1 i → p2 j → p3 (i + j)) : EvS K f (tOp (rAddU K) ta tb) σ G (IntP p3) := iS_op ha hb fun i j h1 h2 => ⟨_, hr i j h1 h2, va_int⟩
theorem iS_sub (ha : EvS K true ta σ G (IntP p1)) (hb : EvS K true tb σ G (IntP p2)) (hr : ∀ i j, p1 i → p2 j → p3 (i - j)) : EvS K f (tOp (rI0 fun i j => .int (i - j)) ta tb) σ G (IntP p3) := iS_op ha hb fun i j h1 h2 => ⟨_, hr i j h1 h2, vs_int⟩
theorem iS_mul (ha : EvS K true ta σ G (IntP p1)) (hb : EvS K true tb σ G (IntP p2)) (hr : ∀ i j, p1 i → p2 j → CMul i j ∧ p3 (i * j)) : EvS K f (tOp rMulU ta tb) σ G (IntP p3) := iS_op ha hb fun i j h1 h2 => ⟨_, (hr i j h1 h2).2, vm_int (hr i j h1 h2).1⟩
theorem iS_mod (ha : EvS K true ta σ G (IntP p1)) (hb : EvS K true tb σ G (IntP p2)) (hr : ∀ i j, p1 i → p2 j → 0 < j ∧ p3 (i % j)) : EvS K f (tOp (rI (fun _ j => j ≠ 0) fun i j => .int (i.fmod j)) ta tb) σ G (IntP p3) := iS_op ha hb fun i j h1 h2 => ⟨_, (hr i j h1 h2).2, vo_int (hr i j h1 h2).1⟩
theorem iS_c1 {r : List V → Hp → VK → Prop} (ha : EvS K false ta σ G (IntP p1)) (hr : ∀ i, p1 i → ∃ k, p3 k ∧ Rc K f r [.int i] (.int k)) : EvS K f (tCB r (tCons ta tNil)) σ G (IntP p3) :=
  evS_cb (eaS_cons ha eaS_nil) (by
    rintro _ ⟨_, _, rfl, ⟨i, rfl, h1⟩, rfl⟩
    obtain ⟨k, hk, hv⟩ := hr i h1
    exact fun G vs rs H e Q q => hv G vs rs H e Q fun v G' H' g r => q _ v G' H' ⟨k, rfl, hk⟩ g r)
theorem iS_int (ha : EvS K false ta σ G (IntP p)) : EvS K f (tCB rcInt (tCons ta tNil)) σ G (IntP p) := iS_c1 ha fun i h => ⟨i, h, c_int⟩
theorem iS_c2 {r : List V → Hp → VK → Prop} (ha : EvS K false ta σ G (IntP p1)) (hb : EvS K false tb σ G (IntP p2)) (hr : ∀ i j, p1 i → p2 j → ∃ k, p3 k ∧ Rc K f r [.int i, .int j] (.int k)) : EvS K f (tCB r (tCons ta (tCons tb tNil))) σ G (IntP p3) :=
  evS_cb (eaS_cons ha (eaS_cons hb eaS_nil)) (by
    rintro _ ⟨_, _, rfl, ⟨i, rfl, h1⟩, _, _, rfl, ⟨j, rfl, h2⟩, rfl⟩
    obtain ⟨k, hk, hv⟩ := hr i j h1 h2
    exact fun G vs rs H e Q q => hv G vs rs H e Q fun v G' H' g r => q _ v G' H' ⟨k, rfl, hk⟩ g r)
theorem iS_max (ha : EvS K false ta σ G (IntP p1)) (hb : EvS K false tb σ G (IntP p2)) (hr : ∀ i j, p1 i → p2 j → p3 (max i j)) : EvS K f (tCB (fun xs H Q => ∃ i j, xs = [.int i, .int j] ∧ Q (.int (if j > i then j else i)) H) (tCons ta (tCons tb tNil))) σ G (IntP p3) := iS_c2 ha hb fun i j h1 h2 => ⟨_, hr i j h1 h2, rc_max2⟩
/-- a draw -/
theorem ev_draw {E : XK} {ta : TA} {many : Int} (h : EvA K false ta σ G [.pool, .int many]) (h0 : 0 < many) (h1 : many < 2 ^ 200) : EvS K f (tCall spDrawV [] E ta) σ G (IntP fun i => 0 ≤ i ∧ i < many) := evS_call1 h (spDraw_use h0 h1)
/-- tests of drawn things -/
theorem etS_eq {g : Int → Int → Bool} {r : R2} (ha : EvS K true ta σ G (IntP p1)) (hb : EvS K true tb σ G (IntP p2)) (hr : ∀ i j, Rv K false true r (.int i) (.int j) (.bl (g i j))) (hT : ∀ i j, p1 i → p2 j → T (g i j)) : EvTS K (tTest (tOp r ta tb)) σ G T :=
  etS_test (f := false) (P := fun d => ∃ b, d = .bl b ∧ T b) (evS_op ha hb fun a b ⟨i, ea, h1⟩ ⟨j, eb, h2⟩ => by
    subst ea; subst eb
    exact ⟨_, ⟨_, rfl, hT i j h1 h2⟩, hr i j⟩) fun d h => h
theorem EvTS.mono {G1 : Hp} (e : Ex G G1) (h : EvTS K tt σ G T) : EvTS K tt σ G1 T := fun H eH Q q => h H (e.trans eH) Q fun b G' H' hb g => q b _ H' hb (Grow.on e eH g).1
theorem EvTS.imp (h : EvTS K tt σ G T) (hp : ∀ b, T b → T1 b) : EvTS K tt σ G T1 := fun H e Q q => h H e Q fun b G' H' k g => q b G' H' (hp b k) g
theorem etS_and (h1 : EvTS K tt σ G T1) (h2 : T1 true → EvTS K tu σ G T2) : EvTS K (tAnd tt tu) σ G (fun b => (b = true → T1 true ∧ T2 true)) := fun H e Q q => h1 H e _ fun c G1 H1 hc g1 => by
  cases c with
  | true => exact (h2 hc).mono g1.e H1 g1.sub _ fun b G2 H2 hb g2 => q b G2 H2 (fun eb => ⟨hc, eb ▸ hb⟩) (g1.trans g2)
  | false => exact q false G1 H1 (fun eb => by cases eb) g1
theorem EvTS.h (h : EvTS K tt σ G T) (e : Ex G H) : EtH K tt σ G H T := fun Q q => h H e Q q
/-! own lists -/
theorem Grow.forget {G' H' : Hp} (hn : G x = none) (e : Ex G H) (g : Grow (upd G x (.lst vs)) H G' H') : Grow G H (VL.cutx G' x) H' := ⟨fun a o ha => by
    have hx : a ≠ x := fun y => by rw [y, hn] at ha; cases ha
    rw [cutx_ne hx]
    exact g.e a o (by rw [upd_ne hx]; exact ha), cutx_ex.trans g.sub, g.ext, fun a ha ha' => by
    by_cases hx : a = x
    · subst hx; rw [cutx_self] at ha'; exact absurd rfl ha'
    · rw [cutx_ne hx] at ha'
      exact g.new a (by rw [upd_ne hx]; exact ha) ha'⟩
theorem ex_own (hp : H x = some (.lst vs)) (e : Ex G H) : Ex (upd G x (.lst vs)) H := fun a o ha => by
  by_cases hx : a = x
  · subst hx; rw [upd_same] at ha; cases ha; exact hp
  · rw [upd_ne hx] at ha; exact e a o ha
theorem rep_ownN (hn : G x = none) (r : RepA K none G ds vs) : Rep K none (upd G x (.lst vs)) (.lst ds) (.ref x) := .lst trivial upd_same (r.mono (Ex.new hn))
/-- what reads one's own list and gives a scalar -/
theorem eh_own (hp : H x = some (.lst vs)) (hn : G x = none) (e : Ex G H) (h : EvS K f te σ (upd G x (.lst vs)) P) (hs : ∀ d, P d → scalarD d = true) : EvH K f te σ G H P := fun Q q =>
  h H (ex_own hp e) Q fun d v G' H' pd g r => q d v _ H' pd (Grow.forget hn e g) (r.scalar (hs d pd))
theorem eth_own (hp : H x = some (.lst vs)) (hn : G x = none) (e : Ex G H) (h : EvTS K tt σ (upd G x (.lst vs)) T) : EtH K tt σ G H T := fun Q q =>
  h H (ex_own hp e) Q fun d G' H' pd g => q d _ H' pd (Grow.forget hn e g)
/-- an item of one's own list -/
theorem eh_ixOwn (hv : σ[i]? = some (some (.ref x))) (hp : H x = some (.lst vs)) (r : RepA K none G ds vs) (h : EvH K false tb σ G H (IntP p)) (hq : ∀ j, p j → ∃ d, atI ds j = some d ∧ P d) : EvH K false (tOp (rIx K) (tVar i) tb) σ G H P := fun Q q =>
  ⟨.ref x, hv, h _ fun d v G1 H1 pd g1 rv => by
    obtain ⟨j, rfl, pj⟩ := pd
    cases rv
    obtain ⟨d, hd, pd⟩ := hq j pj
    obtain ⟨n, hn, hy⟩ := atI_len (ys := vs) r.length hd
    obtain ⟨v, hv', rv⟩ := r.get hn
    exact Or.inl ⟨x, vs, j, v, rfl, rfl, SqL.of (g1.ext _ _ hp), hy v hv', q d v G1 H1 pd g1 (rv.mono g1.e)⟩⟩
theorem EvH.ix {tc : TE} (hc : EvS K f tc σ G P) (e : Ex G H) : EvH K f tc σ G H P := hc.h e
variable {De : Ends} {ts tw tr : TS}
theorem s_asgH (h : EvH K f te σ G H P) (k : ∀ d v G' H', P d → Grow G H G' H' → Rep K (frh f H) G' d v → De.nx (σ.set i (some v)) H') : tAsg te (gName i) De σ H := h _ fun d v G' H' pd g r => k d v G' H' pd g r
theorem s_retH (h : EvH K f te σ G H P) (k : ∀ d v G' H', P d → Grow G H G' H' → Rep K (frh f H) G' d v → De.rt v H') : tRet te De σ H := h _ fun d v G' H' pd g r => k d v G' H' pd g r
theorem s_ifH (h : EtH K tt σ G H T) (h1 : T true → ∀ G' H', Grow G H G' H' → ts De σ H') (h2 : T false → ∀ G' H', Grow G H G' H' → tw De σ H') : tIfS tt ts tw De σ H := h _ fun b G' H' tb g => by
  cases b with
  | true => exact h1 tb G' H' g
  | false => exact h2 tb G' H' g
theorem s_ifcH (h : EtH K tt σ G H T) (h1 : T true → ∀ G' H', Grow G H G' H' → ts { De with nx := tr De } σ H') (h2 : T false → ∀ G' H', Grow G H G' H' → tr De σ H') : tSeq (tIfS tt ts tNext) tr De σ H := h _ fun b G' H' tb g => by
  cases b with
  | true => exact h1 tb G' H' g
  | false => exact h2 tb G' H' g
theorem s_appH {y : Addr} {us : List V} (hv : σ[i]? = some (some (.ref y))) (hp : H y = some (.lst us)) (hn : G y = none) (hl : us.length < 100000) (h : EvH K f te σ G H P)
    (k : ∀ d v G' H', P d → Grow G H G' H' → Rep K (frh f H) G' d v → H' y = some (.lst us) → G' y = none → De.nx σ (upd H' y (.lst (us ++ [v])))) : tDrop (tBM K "list" rAppend (tVar i) (tCons te tNil)) De σ H :=
  ⟨.ref y, hv, Or.inl ⟨rfl, us, SqL.of hp⟩, h _ fun d v G' H' pd g r =>
    have z := g.keep hp hn
    ⟨y, us, v, rfl, rfl, z.1, Evl.sz_lt hl, k d v G' H' pd g r z.1 z.2⟩⟩
theorem s_setH {y : Addr} {us : List V} {j : Nat} {ti : TE} (hv : σ[i]? = some (some (.ref y))) (hp : H y = some (.lst us)) (hn : G y = none) (hj : j < us.length) (h : EvH K f te σ G H P) (hi : Ev K false ti σ G (.int (j : Int)))
    (k : ∀ d v G' H', P d → Grow G H G' H' → Rep K (frh f H) G' d v → H' y = some (.lst us) → G' y = none → De.nx σ (upd H' y (.lst (us.set j v)))) : tAsg te (gSub (tVar i) ti rSetL) De σ H :=
  h _ fun d v G1 H1 pd g1 r => ⟨.ref y, hv, (hi.mono g1.e) H1 g1.sub _ fun w G2 H2 g2 rw => by
    cases rw
    have z := (g1.trans g2).keep hp hn
    exact ⟨y, us, (j : Int), j, rfl, rfl, z.1, Evl.ixN_nat hj, k d v G2 H2 pd (g1.trans g2) (r.mono g2.e) z.1 z.2⟩⟩
/-- less is known than could be -/
theorem Grow.less {G0 H0 G2 G' H' : Hp} (g : Grow G0 H0 G' H') (e : Ex G0 G2) (e2 : Ex G2 G') : Grow G0 H0 G2 H' := ⟨e, e2.trans g.sub, g.ext, fun a h h' => g.new a h fun z => h' (by
    cases q : G2 a with
    | none => rfl
    | some o => rw [e2 a o q] at z; cases z)⟩
/-- a comprehension of drawn whole numbers -/
theorem LcR.ints {α : Type} : ∀ {xs : List α} {ds : List D}, LcR (fun _ b => b = true) (fun _ => IntP p) xs ds → ∃ ns : List Int, ds = ns.map .int ∧ ns.length = xs.length ∧ ∀ n ∈ ns, p n
  | _, _, .nil => ⟨[], rfl, rfl, fun n h => by cases h⟩
  | _, _, .skip h _ => by cases h
  | _, _, .take _ ⟨i, e, hi⟩ t => by
    obtain ⟨ns, h1, h2, h3⟩ := LcR.ints t
    refine ⟨i :: ns, by rw [e, h1]; rfl, by rw [List.length_cons, List.length_cons, h2], fun n hn => ?_⟩
    rcases List.mem_cons.mp hn with h | h
    · rw [h]; exact hi
    · exact h3 n h
theorem evS_intLc {α : Type} {xs : List α} {c : α → D} {wi : TI} {g : TG} {ws : List Nat} {S : α → Hp → L2.St → Prop} (hi : EvI K wi σ G xs c) (hl : xs.length ≤ 50000) (hw : ∀ a G1 σ', S a G1 σ' → wipe σ' ws = wipe σ ws)
    (hg : ∀ a ∈ xs, ∀ G1, Ex G G1 → Tgt K g (wipe σ ws) (c a) G1 (S a G1)) (he : ∀ a ∈ xs, ∀ G1, Ex G G1 → ∀ σ', S a G1 σ' → EvS K f te σ' G1 (IntP p)) : EvS K f (tLc wi g tYes te ws) σ G (fun d => ∃ ns : List Int, d = .lst (ns.map .int) ∧ ns.length = xs.length ∧ ∀ n ∈ ns, p n) :=
  (evS_lc (T := fun _ b => b = true) (E := fun _ => IntP p) hi hl hw hg (fun a ma G1 e σ' hs => et_yes.toS) he).imp fun d ⟨ds, hd, hr⟩ => by
    obtain ⟨ns, h1, h2, h3⟩ := hr.ints
    exact ⟨ns, by rw [hd, h1], h2, h3⟩
/-- arguments that are there already -/
def cstA (us : List V) : TA := fun _ H Q => Q us H
theorem ea_cst {us : List V} (h : RepA K none G ds us) : EvA K false (cstA us) σ G ds := fun H e Q q => q us G H (Grow.refl e) h
/-- for .. in range(what is drawn) -/
theorem s_forA {ta : TA} {g : TG} {PA : List D → Prop} (e : Ex G H) (h : EvAS K false ta σ G PA) (k : ∀ ds us G' H', PA ds → Grow G H G' H' → RepA K none G' ds us → tFor (iRng1 (cstA us)) g ts De σ H') : tFor (iRng1 ta) g ts De σ H :=
  h H e _ fun ds us G' H' pd g r => k ds us G' H' pd g r
end
/-- the same items, otherwise called -/
theorem EvI.as {K : Fr} {wi : TI} {σ : L2.St} {G : Hp} {α β : Type} {xs : List α} {c : α → D} {ys : List β} {c' : β → D} (h : EvI K wi σ G xs c) (e : xs.map c = ys.map c') : EvI K wi σ G ys c' := fun H eH R q => h H eH R fun J G' H' g W => by
  have hl : xs.length = ys.length := by have := congrArg List.length e; rwa [List.length_map, List.length_map] at this
  refine q J G' H' g ?_
  rw [← hl]
  refine Walk.mono W (fun _ h => h) fun i H2 x H3 hi e2 y => ?_
  obtain ⟨a, G2, ha, g2, rx⟩ := y
  have h1 : (xs.map c)[i]? = some (c a) := by rw [List.getElem?_map, ha]; rfl
  rw [e] at h1
  obtain ⟨b, hb, eb⟩ := getm h1
  exact ⟨b, G2, hb, g2, eb ▸ rx⟩
theorem rng_cons (lo : Int) (n : Nat) : rng lo (n + 1) = lo :: rng (lo + 1) n := by
  unfold rng
  rw [List.range_succ_eq_map, List.map_cons, List.map_map]
  have e1 : lo + ((0 : Nat) : Int) = lo := by omega
  rw [e1]
  congr 1
  apply List.map_congr_left
  intro a _
  show lo + ((a + 1 : Nat) : Int) = lo + 1 + (a : Int)
  omega
theorem map_enum_fst {α : Type} : ∀ (n : Nat) (xs : List α), (enumL n xs).map (fun p => D.int p.1) = (rng n xs.length).map D.int
  | _, [] => rfl
  | n, x :: xs => by
    show D.int (n : Int) :: (enumL (n + 1) xs).map (fun p => D.int p.1) = _
    rw [map_enum_fst (n + 1) xs, List.length_cons, rng_cons]
    rfl
theorem enum_rng {α : Type} {xs : List α} {n : Nat} {k : Nat} (h : xs.length = n) (hk : k = n := by omega) : (rng 0 k).map D.int = (enumL 0 xs).map (fun p => D.int p.1) := by
  subst hk; subst h
  rw [map_enum_fst]; rfl
theorem rv_inTK {K : Fr} {f f1 : Bool} {n : Int} {ns : List Int} : Rv K f f1 (rIn K false) (.int n) (.tup (ns.map D.int)) (.bl (decide (n ∈ ns))) := rv_inT
theorem c_listU {K : Fr} {b : Bool} {ds : List D} : Rc K false (rcList K) [seqD b ds] (.lst ds) := by
  cases b
  · exact c_listL
  · exact c_listT
/-! ### picking -/
theorem cutD_to {α : Type} {xs : List α} {k : Nat} (h : k ≤ xs.length) : cutD xs none (some (k : Int)) = xs.take k := by
  unfold cutD
  have e1 : HT.sIx xs.length 0 none = 0 := by unfold HT.sIx; rfl
  have e2 : HT.sIx xs.length xs.length (some (k : Int)) = k := by
    have hk : ¬ ((k : Int) < 0) := by omega
    unfold HT.sIx; simp only [if_neg hk]; omega
  rw [e1, e2, List.drop_zero, Nat.sub_zero]
theorem cutD_from {α : Type} {xs : List α} {k : Nat} (h : k ≤ xs.length) : cutD xs (some (k : Int)) none = xs.drop k := by
  unfold cutD
  have e1 : HT.sIx xs.length xs.length none = xs.length := by unfold HT.sIx; rfl
  have e2 : HT.sIx xs.length 0 (some (k : Int)) = k := by
    have hk : ¬ ((k : Int) < 0) := by omega
    unfold HT.sIx; simp only [if_neg hk]; omega
  rw [e1, e2, List.take_of_length_le (by rw [List.length_drop]; exact Nat.le_refl _)]
theorem perm_pick {α : Type} {xs : List α} {k : Nat} {x : α} (h : xs[k]? = some x) : (x :: (xs.take k ++ xs.drop (k + 1))).Perm xs := by
  have e : xs = xs.take k ++ x :: xs.drop (k + 1) := by
    have hk := (List.getElem?_eq_some_iff.mp h)
    obtain ⟨hl, he⟩ := hk
    rw [← he, ← List.drop_eq_getElem_cons hl, List.take_append_drop]
  have z : (x :: (xs.take k ++ xs.drop (k + 1))).Perm (xs.take k ++ x :: xs.drop (k + 1)) := List.perm_middle.symm
  rw [← e] at z
  exact z
theorem rcS_sorted {K : Fr} {f : Bool} {ns : List Int} : RcS K f (rSortedI K) [.lst (ns.map D.int)] (fun d => ∃ zs : List Int, d = .lst (zs.map .int) ∧ zs.Perm ns ∧ zs.Pairwise (· ≤ ·)) := fun G vs rs H e Q q => by
  cases rs with
  | cons r t =>
    cases t
    obtain ⟨p, us, rfl, _, hp, rr⟩ := r.lst_inv
    cases rr.ints
    refine ⟨p, ns, rfl, SqL.of (e _ _ hp), fun zs n h1 h2 hn => ?_⟩
    have g := Grow.laid (o := .lst (zs.map V.int)) e hn
    refine q _ (.ref n) _ _ ⟨zs, rfl, h1, h2⟩ g (.lst ?_ upd_same (RepA.ofInts zs))
    cases f with
    | true => exact hn
    | false => trivial
theorem rng_nodup (lo : Int) (n : Nat) : (rng lo n).Nodup := by
  unfold rng
  exact List.pairwise_map.mpr (List.nodup_range.imp fun {a b} h e => h (by omega))
theorem sum_append (xs ys : List Int) : (xs ++ ys).sum = xs.sum + ys.sum := by simp
end VL

/-! VL10: sorted of lists of whole numbers. -/
namespace VL
open PySem PySem.Spec PyProof.Rows L2
open Evl (Ex)
/-- rows: where each stands, what it holds -/
abbrev Row := Addr × List Int
def rowLe (p q : Row) : Bool := decide (p.2 ≤ q.2)
def rSortedLL (K : Fr) : List V → Hp → VK → Prop := fun vs H Q => ∃ (a : Addr) (bs : List Row), vs = [V.ref a] ∧ SqL K H a (bs.map fun b => V.ref b.1) ∧ (∀ b ∈ bs, SqL K H b.1 (b.2.map V.int)) ∧
  ∀ p, H p = none → Q (.ref p) (upd H p (.lst ((bs.mergeSort rowLe).map fun b => V.ref b.1)))
theorem vals_refs : ∀ {bs : List Row} {us : List Value}, Vals (bs.map fun b => V.ref b.1) us → PySem.W.EachIs (fun v (b : Row) => v = Value.ref b.1) us bs
  | [], us, h => by cases h; exact .nil
  | b :: bs, us, h => by
    cases h with
    | cons r t => cases r; exact .cons rfl (vals_refs t)
theorem refs_vals : ∀ {bs : List Row} {us : List Value}, PySem.W.EachIs (fun v (b : Row) => v = Value.ref b.1) us bs → Vals (bs.map fun b => V.ref b.1) us
  | [], us, h => by cases h; exact .nil
  | b :: bs, us, h => by
    cases h with
    | cons r t => cases r; exact .cons rfl (refs_vals t)
theorem reads_ints {h : Heap} : ∀ {ns : List Int} {us : List Value}, Vals (ns.map V.int) us → ReadsAll h us (ns.map PyData.int) []
  | [], us, h => by cases h; exact .nil
  | n :: ns, us, h => by
    cases h with
    | cons r t =>
      obtain ⟨tk, rfl⟩ := r
      exact .cons (.int n tk) (reads_ints t)
theorem cr_sortedLL {X : Cx} (hu : X.A.units + 64 < cLine) : CallR X (.builtin "sorted") (rSortedLL X.K) := by
  intro pins s σ H vs us Q I r h
  obtain ⟨a, bs, rfl, hs, hb, q⟩ := h
  obtain ⟨its, rv, hl, hz⟩ := I.list hs
  rw [Vals.ref1 r]
  have e := vals_refs rv
  have er : ∀ (cs : List Row) (us : List Value), (∀ b ∈ cs, SqL X.K H b.1 (b.2.map V.int)) → PySem.W.EachIs (fun v (b : Row) => v = Value.ref b.1) us cs → PySem.W.EachIs (fun v (b : Row) => ∃ as, Reads s.heap v (.list (b.2.map .int)) as) us cs := by
    intro cs
    induction cs with
    | nil => intro us _ e; cases e; exact .nil
    | cons b cs ih =>
      intro us hc e
      cases e with
      | cons e1 et =>
        subst e1
        obtain ⟨is2, rv2, hl2, _⟩ := I.list (hc b List.mem_cons_self)
        obtain ⟨o, ho, hcl, n, hd⟩ := hl2.isList
        refine .cons ⟨[b.1], .list ho hcl hd ?_⟩ (ih _ (fun b hb => hc b (List.mem_cons_of_mem _ hb)) et)
        exact reads_ints rv2
  refine PySem.W.sorted_data (R := fun v b => v = Value.ref b.1) (enc := fun b : Row => .list (b.2.map .int)) hl.isList e (er bs its hb e) (PySem.W.AllAlike.of fun b b' => by simp only [PySem.W.alike]; exact PySem.W.alike_ints _ _) (PySem.W.Sortable.others fun b => ⟨(fun h => by cases h), fun xs h => by cases h⟩) (by rw [List.length_map] at hz; exact hz) (fun b _ => ?_) fun out hlen eo => ?_
  · have hd : (PyData.list (b.2.map .int)).depth = 1 := by rw [PyData.depth, PySem.W.depth_ints]
    omega
  · rw [PySem.W.dataLe_rows (fun b : Row => b.2)] at eo
    obtain ⟨ep, he'⟩ := PyProof.Rows.sortedAll_at s.heap its out.toArray
    have rv' := refs_vals eo
    have hl' : ((bs.mergeSort rowLe).map fun b => V.ref b.1).length ≤ sizeLine := by
      rw [List.length_map, List.length_mergeSort]; rw [List.length_map] at hz; exact hz
    exact ⟨.ref _, upd H (s.heap.objs.size + 1) (.lst ((bs.mergeSort rowLe).map fun b => V.ref b.1)), I.laid (t' := s.toks) (fun _ _ => PyProof.Rows.sortedAll_old) (Nat.le_succ _) ⟨hl', out, ep, rv', he'⟩, rfl, q _ (I.hok.fresh (Nat.le_succ _))⟩
def rSortedU (K : Fr) : List V → Hp → VK → Prop := fun vs H Q => rSortedI K vs H Q ∨ rSortedLL K vs H Q
theorem cr_sortedUK {X : Cx} {K : Fr} (hK : X.K = K) (hu : X.A.units + 64 < cLine) : CallR X (.builtin "sorted") (rSortedU K) := hK ▸ cr_sortedI.or (cr_sortedLL hu)
abbrev blockD (r : List Int) : D := .lst (r.map .int)
abbrev rowsD (rs : List (List Int)) : D := .lst (rs.map blockD)
def sortRows (rs : List (List Int)) : List (List Int) := rs.mergeSort fun a b => decide (a ≤ b)
def sortInts (r : List Int) : List Int := r.mergeSort fun a b => decide (a ≤ b)
section
variable {K : Fr} {f : Bool} {σ : L2.St} {G H : Hp} {te : TE} {fr : Option Hp}
theorem RepA.rowsInv : ∀ {rs : List (List Int)} {vs : List V}, RepA K fr H (rs.map blockD) vs → ∃ bs : List Row, vs = bs.map (fun b => V.ref b.1) ∧ bs.map (·.2) = rs ∧ ∀ b ∈ bs, frOk fr b.1 ∧ H b.1 = some (.lst (b.2.map V.int))
  | [], _, h => by cases h; exact ⟨[], rfl, rfl, fun b hb => by cases hb⟩
  | r :: rs, _, h => by
    cases h with
    | cons h1 ht =>
      obtain ⟨a, us, rfl, hf, ha, ru⟩ := h1.lst_inv
      have hu := ru.ints
      subst hu
      obtain ⟨bs, rfl, hb1, hb2⟩ := RepA.rowsInv ht
      refine ⟨(a, r) :: bs, rfl, by rw [List.map_cons, hb1], fun b hb => ?_⟩
      rcases List.mem_cons.mp hb with rfl | hb
      · exact ⟨hf, ha⟩
      · exact hb2 b hb
theorem RepA.ofRows : ∀ {bs : List Row}, (∀ b ∈ bs, frOk fr b.1 ∧ H b.1 = some (.lst (b.2.map V.int))) → RepA K fr H ((bs.map (·.2)).map blockD) (bs.map fun b => V.ref b.1)
  | [], _ => .nil
  | b :: bs, h => .cons (.lst (h b List.mem_cons_self).1 (h b List.mem_cons_self).2 (RepA.ofInts _)) (RepA.ofRows fun c hc => h c (List.mem_cons_of_mem _ hc))
theorem frOk_frh {a : Addr} (h : f = true → H a = none) : frOk (frh f H) a := by
  cases f with
  | true => exact h rfl
  | false => trivial
/-- sorted(rows): the same rows in their order -/
theorem ev_sortedLL {rs : List (List Int)} (h : Ev K f te σ G (rowsD rs)) : Ev K f (tCB (rSortedU K) (tCons te tNil)) σ G (rowsD (sortRows rs)) := fun H e Q q =>
  h H e _ fun v G1 H1 g1 rv => by
    obtain ⟨p, us, rfl, hf, hp, ru⟩ := rv.lst_inv
    obtain ⟨bs, rfl, hb1, hb2⟩ := RepA.rowsInv ru
    refine Or.inr ⟨p, bs, rfl, SqL.of (g1.sub _ _ hp), fun b hb => SqL.of (g1.sub _ _ (hb2 b hb).2), fun n hn => ?_⟩
    have gl := Grow.laid (o := .lst ((bs.mergeSort rowLe).map fun b => V.ref b.1)) g1.sub hn
    refine q (.ref n) _ _ (g1.trans gl) (.lst (frOk_frh fun _ => g1.free hn) upd_same ?_)
    have er : sortRows rs = (bs.mergeSort rowLe).map (·.2) := by
      unfold sortRows
      rw [← hb1]
      exact (List.map_mergeSort (r := rowLe) (f := fun b : Row => b.2) (fun a _ b _ => rfl)).symm
    rw [er]
    refine RepA.ofRows fun b hb => ?_
    have := hb2 b (List.mem_mergeSort.mp hb)
    exact ⟨this.1, gl.e _ _ this.2⟩
theorem sortInts_perm (r : List Int) : (sortInts r).Perm r := List.mergeSort_perm _ _
theorem sortInts_sorted (r : List Int) : (sortInts r).Pairwise (· ≤ ·) := by
  refine List.Pairwise.imp (fun h => of_decide_eq_true h) (List.pairwise_mergeSort (fun a b c h1 h2 => ?_) (fun a b => ?_) r)
  · have := of_decide_eq_true h1; have := of_decide_eq_true h2; exact decide_eq_true (by omega)
  · by_cases h : a ≤ b
    · rw [decide_eq_true h]; rfl
    · rw [decide_eq_true (p := b ≤ a) (by omega), Bool.or_true]
theorem sorted_uniq : ∀ {xs ys : List Int}, xs.Perm ys → xs.Pairwise (· ≤ ·) → ys.Pairwise (· ≤ ·) → xs = ys
  | xs, ys, hp, h1, h2 => List.Perm.eq_of_pairwise (fun _ _ _ _ a b => Int.le_antisymm a b) h1 h2 hp
/-- sorted(ints) -/
theorem c_sortedI {r : List Int} : Rc K f (rSortedU K) [blockD r] (blockD (sortInts r)) := Rc.left (rc_sorted fun zs h1 h2 => sorted_uniq (h1.trans (sortInts_perm r).symm) h2 (sortInts_sorted r))
end
end VL

/-! VL11: comprehensions of two fors; index, min, max. -/
namespace VL
open PySem PySem.Spec PyProof.Rows L2
open Evl (Ex)
section
variable {K : Fr} {f : Bool} {σ : L2.St} {G H : Hp} {te : TE} {tt tt1 : TT} {g g1 : TG} {vs vs1 : List Nat} {α β : Type} {xs : List α} {c : α → D} {wi wi1 : TI} {b : α → Bool} {ys : α → List β} {c1 : α → β → D} {b1 : α → β → Bool} {h : α → β → D} {S : α → Hp → L2.St → Prop} {S1 : α → β → L2.St → Hp → L2.St → Prop}
/-- what two fors give -/
def lc2D (xs : List α) (b : α → Bool) (ys : α → List β) (b1 : α → β → Bool) (h : α → β → D) : List D := (xs.filter b).flatMap fun a => ((ys a).filter (b1 a)).map (h a)
theorem lc2_take {i : Nat} {a : α} (ha : xs[i]? = some a) : lc2D (xs.take (i + 1)) b ys b1 h = lc2D (xs.take i) b ys b1 h ++ (if b a = true then ((ys a).filter (b1 a)).map (h a) else []) := by
  unfold lc2D
  rw [take_next ha, List.filter_append, List.flatMap_append, List.filter_cons]
  by_cases hb : b a = true
  · rw [if_pos hb, if_pos hb]; simp
  · rw [if_neg hb, if_neg hb]; rfl
theorem evl_lc2 (hi : EvI K wi σ G xs c) (hl : ∀ a ∈ xs, b a = true → (ys a).length ≤ 1000) (hl0 : xs.length ≤ 50) (hw : ∀ a G1 σ', S a G1 σ' → wipe σ' vs = wipe σ vs)
    (hg : ∀ a ∈ xs, ∀ G1, Ex G G1 → Tgt K g (wipe σ vs) (c a) G1 (S a G1))
    (ht : ∀ a ∈ xs, ∀ G1, Ex G G1 → ∀ σ', S a G1 σ' → EvT K tt σ' G1 (b a))
    (hi1 : ∀ a ∈ xs, b a = true → ∀ G1, Ex G G1 → ∀ σ', S a G1 σ' → EvI K wi1 σ' G1 (ys a) (c1 a))
    (hw1 : ∀ a y σ' G1 σ'', S1 a y σ' G1 σ'' → wipe σ'' vs1 = wipe σ' vs1)
    (hg1 : ∀ a ∈ xs, b a = true → ∀ y ∈ ys a, ∀ G1, Ex G G1 → ∀ σ', S a G1 σ' → ∀ G2, Ex G1 G2 → Tgt K g1 (wipe σ' vs1) (c1 a y) G2 (S1 a y σ' G2))
    (ht1 : ∀ a ∈ xs, b a = true → ∀ y ∈ ys a, ∀ G1, Ex G G1 → ∀ σ', S a G1 σ' → ∀ G2, Ex G1 G2 → ∀ σ'', S1 a y σ' G2 σ'' → EvT K tt1 σ'' G2 (b1 a y))
    (he : ∀ a ∈ xs, b a = true → ∀ y ∈ ys a, b1 a y = true → ∀ G1, Ex G G1 → ∀ σ', S a G1 σ' → ∀ G2, Ex G1 G2 → ∀ σ'', S1 a y σ' G2 σ'' → Ev K f te σ'' G2 (h a y)) :
    EvL K f (tLc2 wi g tt wi1 g1 tt1 te vs vs1) σ G (lc2D xs b ys b1 h) := fun H e Q q =>
  hi H e _ fun J G1 H1 g1' W => fun L hL => by
    have hLH : H L = none := g1'.free hL
    let Pv : List D → Hp → Prop := fun ds Hc => ∃ Gc acc, Grow G H Gc Hc ∧ Ex G1 Gc ∧ Gc L = none ∧ Hc L = some (.lst acc) ∧ RepA K (frh f H) Gc ds acc ∧ acc.length = ds.length
    have bound : ∀ i, (lc2D (xs.take i) b ys b1 h).length ≤ 1000 * (xs.take i).length := by
      intro i
      have : ∀ zs : List α, (∀ a ∈ zs, b a = true → (ys a).length ≤ 1000) → (lc2D zs b ys b1 h).length ≤ 1000 * zs.length := by
        intro zs
        induction zs with
        | nil => intro _; simp [lc2D]
        | cons z zs ih =>
          intro hz
          have h1 := ih fun a ha => hz a (List.mem_cons_of_mem _ ha)
          unfold lc2D at h1 ⊢
          rw [List.filter_cons, List.length_cons]
          by_cases hb : b z = true
          · rw [if_pos hb, List.flatMap_cons, List.length_append, List.length_map]
            have h2 := hz z List.mem_cons_self hb
            have h3 := List.length_filter_le (b1 z) (ys z)
            omega
          · rw [if_neg hb]; omega
      exact this _ fun a ha => hl a (List.mem_of_mem_take ha)
    refine ⟨fun i m Hc => m = xs.length - i ∧ i ≤ xs.length ∧ Pv (lc2D (xs.take i) b ys b1 h) Hc, ⟨_, rfl, Nat.zero_le _, G1, [], g1'.trans (Grow.hid g1'.sub hL), Ex.refl _, Evl.fresh_back g1'.sub hL, upd_same, by simpa [lc2D] using RepA.nil, by simp [lc2D]⟩, ?_⟩
    rintro i m Hc ⟨rfl, hil, Gc, acc, gc, e1, nL, hcL, rs, hal⟩
    have eH : Ex G1 Hc := e1.trans gc.sub
    by_cases hlt : i < xs.length
    · obtain ⟨a, ha⟩ : ∃ a, xs[i]? = some a := ⟨_, List.getElem?_eq_getElem hlt⟩
      have ma : a ∈ xs := List.mem_of_getElem? ha
      refine .inr ⟨W.goes i Hc hlt eH, Pv (lc2D (xs.take (i + 1)) b ys b1 h), fun H' p' => ⟨_, by omega, rfl, hlt, p'⟩, fun x H2 hy => ?_⟩
      obtain ⟨a', G2, ha', g2, rx⟩ := W.yields i Hc x H2 hlt eH hy
      rw [ha] at ha'
      cases ha'
      obtain ⟨g3, e3⟩ := g2.on e1 gc.sub
      have k2 := g3.keep hcL nL
      refine hg a ma _ (gc.e.trans g3.e) x (rx.mono e3) H2 g3.sub _ fun σ' sσ => ⟨hw a _ σ' sσ, ?_⟩
      have eA := gc.e.trans g3.e
      refine ht a ma _ eA σ' sσ H2 g3.sub _ fun G4 H4 g4 => ?_
      have k4 := g4.keep k2.1 k2.2
      have gA := (gc.trans g3).trans g4
      cases hb : b a with
      | false =>
        refine ⟨G4, acc, gA, e1.trans (g3.e.trans g4.e), k4.2, k4.1, ?_, ?_⟩
        · rw [lc2_take ha, if_neg (by rw [hb]; decide), List.append_nil]; exact rs.mono (g3.e.trans g4.e)
        · rw [lc2_take ha, if_neg (by rw [hb]; decide), List.append_nil]; exact hal
      | true =>
        have hln := hl a ma hb
        -- the inner for
        refine hi1 a ma hb _ eA σ' sσ H4 (g3.sub.trans g4.ext) _ fun J1 G5 H5 g5 W1 => ?_
        obtain ⟨g5', e5'⟩ := g5.on g4.e g4.sub
        have k5 := g5'.keep k4.1 k4.2
        have gB := gA.trans g5'
        let Pi : Nat → Hp → Prop := fun j Hd => ∃ Gd acc', Grow G H Gd Hd ∧ Ex (un G4 G5) Gd ∧ Gd L = none ∧ Hd L = some (.lst acc') ∧ RepA K (frh f H) Gd (lc2D (xs.take i) b ys b1 h ++ (((ys a).take j).filter (b1 a)).map (h a)) acc' ∧ acc'.length ≤ acc.length + j
        refine ⟨fun j k Hd => k = (ys a).length - j ∧ j ≤ (ys a).length ∧ Pi j Hd, ⟨_, rfl, Nat.zero_le _, un G4 G5, acc, gB, Ex.refl _, k5.2, k5.1, by simpa using rs.mono ((g3.e.trans g4.e).trans g5'.e), by omega⟩, ?_⟩
        rintro j k Hd ⟨rfl, hjl, Gd, acc', gd, ed, nd, hd, rd, hda⟩
        have eD : Ex G5 Hd := (e5'.trans ed).trans gd.sub
        by_cases hj : j < (ys a).length
        · obtain ⟨y, hy'⟩ : ∃ y, (ys a)[j]? = some y := ⟨_, List.getElem?_eq_getElem hj⟩
          have my : y ∈ ys a := List.mem_of_getElem? hy'
          refine .inr ⟨W1.goes j Hd hj eD, Pi (j + 1), fun H' p' => ⟨_, by omega, rfl, hj, p'⟩, fun x2 H6 hy2 => ?_⟩
          obtain ⟨y', G6, hy'', g6, rx2⟩ := W1.yields j Hd x2 H6 hj eD hy2
          rw [hy'] at hy''
          cases hy''
          obtain ⟨g7, e7⟩ := g6.on (e5'.trans ed) gd.sub
          have k7 := g7.keep hd nd
          have e4u : Ex G4 (un G4 G5) := g5'.e
          have eU : Ex (un Gc G2) (un Gd G6) := (g4.e.trans (e4u.trans ed)).trans g7.e
          refine hg1 a ma hb y my _ eA σ' sσ _ eU x2 (rx2.mono e7) H6 g7.sub _ fun σ'' sσ2 => ⟨hw1 a y _ _ _ sσ2, ?_⟩
          refine ht1 a ma hb y my _ eA σ' sσ _ eU σ'' sσ2 H6 g7.sub _ fun G8 H8 g8 => ?_
          have k8 := g8.keep k7.1 k7.2
          have gC := (gd.trans g7).trans g8
          have tj := take_next hy'
          cases hb1 : b1 a y with
          | false =>
            refine ⟨G8, acc', gC, ed.trans (g7.e.trans g8.e), k8.2, k8.1, ?_, by omega⟩
            rw [tj, List.filter_append, List.filter_cons, if_neg (by rw [hb1]; decide), List.filter_nil, List.append_nil]
            exact rd.mono (g7.e.trans g8.e)
          | true =>
            refine ((he a ma hb y my hb1 _ eA σ' sσ _ eU σ'' sσ2).mono g8.e) H8 g8.sub _ fun v G9 H9 g9 ry => ?_
            have k9 := g9.keep k8.1 k8.2
            have hbd := bound i
            have hti : (xs.take i).length ≤ 50 := by rw [List.length_take]; omega
            refine ⟨acc', k9.1, Evl.sz_lt (by omega), G9, acc' ++ [v], (gC.trans g9).put hLH k9.2, ed.trans (g7.e.trans (g8.e.trans g9.e)), k9.2, upd_same, ?_, by rw [List.length_append]; simp only [List.length_cons, List.length_nil]; omega⟩
            rw [tj, List.filter_append, List.filter_cons, if_pos hb1, List.filter_nil, List.map_append, ← List.append_assoc]
            exact (rd.mono (g7.e.trans (g8.e.trans g9.e))).append (.cons (ry.h2 gC.ext) .nil)
        · have ej : j = (ys a).length := by omega
          subst ej
          refine .inl ⟨W1.stops Hd eD, Gd, acc', gd, ?_, nd, hd, ?_, ?_⟩
          · exact (e1.trans (g3.e.trans g4.e)).trans (g5'.e.trans ed)
          · rw [lc2_take ha, if_pos hb]; rw [List.take_length] at rd; exact rd
          · have := rd.length
            rw [lc2_take ha, if_pos hb]; rw [List.take_length] at this; exact this.symm
    · have ei : i = xs.length := by omega
      subst ei
      rw [List.take_length] at rs
      exact .inl ⟨W.stops Hc eH, q L acc Gc Hc gc hLH nL hcL rs⟩
end
end VL

/-! VL12: list.index, min and max of a list. -/
namespace VL
open PySem PySem.Spec PyProof.Rows L2
open Evl (Ex)
/-- the first place -/
def idx {α : Type} [DecidableEq α] : List α → α → Nat
  | [], _ => 0
  | y :: ys, x => if y = x then 0 else idx ys x + 1
theorem idx_get {α : Type} [DecidableEq α] {x : α} : ∀ {xs : List α}, x ∈ xs → xs[idx xs x]? = some x
  | [], h => by cases h
  | y :: ys, h => by
    unfold idx
    by_cases e : y = x
    · rw [if_pos e, e]; rfl
    · rw [if_neg e, List.getElem?_cons_succ]
      exact idx_get ((List.mem_cons.mp h).resolve_left fun z => e z.symm)
theorem idx_first {α : Type} [DecidableEq α] {x z : α} : ∀ {xs : List α} {m : Nat}, m < idx xs x → xs[m]? = some z → z ≠ x
  | [], _, h, _ => by simp [idx] at h
  | y :: ys, m, h, hz => by
    unfold idx at h
    by_cases e : y = x
    · rw [if_pos e] at h; omega
    · rw [if_neg e] at h
      cases m with
      | zero => simp at hz; subst hz; exact e
      | succ m => exact idx_first (xs := ys) (m := m) (by omega) (by simpa using hz)
theorem idx_lt {α : Type} [DecidableEq α] {x : α} {xs : List α} (h : x ∈ xs) : idx xs x < xs.length := (List.getElem?_eq_some_iff.mp (idx_get h)).1
def rIndexU (K : Fr) : V → List V → Hp → VK → Prop := fun x xs H Q => rIndex K x xs H Q ∨ rIndexD K x xs H Q
theorem mt_indexUK {X : Cx} {K : Fr} (hK : X.K = K) (hu : X.A.units + 65 < cLine) : MtR X "list.index" (rIndexU K) := by
  subst hK
  intro pins s σ H x xs v us Q I rx rxs h
  rcases h with h | h
  · exact mt_index pins s σ H x xs v us Q I rx rxs h
  · exact mt_indexD hu pins s σ H x xs v us Q I rx rxs h
def pairD (p : Int × Int) : D := .tup [.int p.1, .int p.2]
def pairP (p : Int × Int) : PyData := .tuple [.int p.1, .int p.2]
section
variable {K : Fr} {f : Bool} {σ : L2.St} {G H : Hp} {te tl : TE}
theorem ev_indexI {ns : List Int} {x : Int} (h : Ev K false tl σ G (.lst (ns.map .int))) (hx : Ev K false te σ G (.int x)) (hm : x ∈ ns) : Ev K f (tBM K "list" (rIndexU K) tl (tCons te tNil)) σ G (.int (idx ns x : Nat)) := fun H e Q q =>
  h H e _ fun v G1 H1 g1 rv => by
    obtain ⟨p, us, rfl, _, hp, ru⟩ := rv.lst_inv
    have hu := ru.ints
    subst hu
    have S1 : SqL K H1 p (ns.map V.int) := SqL.of (g1.sub _ _ hp)
    refine ⟨Or.inl ⟨rfl, _, S1⟩, (hx.mono g1.e) H1 g1.sub _ fun w G2 H2 g2 rw => ?_⟩
    cases rw
    refine Or.inl ⟨p, ns.map V.int, .int x, idx ns x, .int x, rfl, rfl, SqL.of (g2.ext _ _ (g1.sub _ _ hp)), rfl, flat_ints ns, by rw [List.getElem?_map, idx_get hm]; rfl, by show (x == x) = true; simp, fun m z hz hm' => ?_, q _ G2 H2 (g1.trans g2) (.int _)⟩
    rw [List.getElem?_map] at hm'
    cases e : ns[m]? with
    | none => rw [e] at hm'; cases hm'
    | some y =>
      rw [e] at hm'
      cases hm'
      show (y == x) = false
      have := idx_first hz e
      simpa using this
theorem dp_pair {p : Int × Int} {v : V} (r : Rep K none G (pairD p) v) (e : Ex G H) : Dp K H v (pairP p) := by
  obtain ⟨a, us, rfl, ha, rs⟩ := r.tup_inv
  cases rs with
  | cons r1 t =>
    cases t with
    | cons r2 t =>
      cases t; cases r1; cases r2
      exact .tup (Evl.ex_t e ha) (.cons (.int _) (.cons (.int _) .nil))
theorem dp_pairs : ∀ {ps : List (Int × Int)} {us : List V}, RepA K none G (ps.map pairD) us → Ex G H → DpAll K H us (ps.map pairP)
  | [], _, h, _ => by cases h; exact .nil
  | p :: ps, _, h, e => by
    cases h with
    | cons r t => exact .cons (dp_pair r e) (dp_pairs t e)
theorem pairP_eqv (p q : Int × Int) : PyData.eqv (pairP p) (pairP q) = decide (p = q) := by
  obtain ⟨a, b⟩ := p
  obtain ⟨c, d⟩ := q
  simp only [pairP, PyData.eqv, PyData.eqvAll, Bool.and_true]
  by_cases h1 : a = c <;> by_cases h2 : b = d <;> simp [h1, h2]
theorem shaped_pair (p : Int × Int) : SeqAt.shaped (pairP p) = true := by
  simp [SeqAt.shaped, pairP, PyData.canLay0, PyData.canLayAll0, PyData.depth, PyData.depthAll]
theorem lay_pairs : ∀ ps : List (Int × Int), PyData.canLayAll0 (ps.map pairP) = true ∧ PyData.depthAll (ps.map pairP) ≤ 1
  | [] => by simp [PyData.canLayAll0, PyData.depthAll]
  | p :: ps => by
    have ih := lay_pairs ps
    simp only [List.map_cons, PyData.canLayAll0, PyData.depthAll, ih.1]
    refine ⟨by simp [pairP, PyData.canLay0, PyData.canLayAll0], ?_⟩
    have : (pairP p).depth = 1 := by simp [pairP, PyData.depth, PyData.depthAll]
    omega
theorem shaped_pairs (ps : List (Int × Int)) : SeqAt.shaped (.list (ps.map pairP)) = true := by
  have h := lay_pairs ps
  unfold SeqAt.shaped
  rw [Bool.and_eq_true]
  refine ⟨?_, ?_⟩
  · rw [PyData.canLay0]; exact h.1
  · rw [PyData.depth]; exact decide_eq_true (by omega)
theorem ev_indexP {ps : List (Int × Int)} {x : Int × Int} (h : Ev K false tl σ G (.lst (ps.map pairD))) (hx : Ev K false te σ G (pairD x)) (hm : x ∈ ps) : Ev K f (tBM K "list" (rIndexU K) tl (tCons te tNil)) σ G (.int (idx ps x : Nat)) := fun H e Q q =>
  h H e _ fun v G1 H1 g1 rv => by
    obtain ⟨p, us, rfl, _, hp, ru⟩ := rv.lst_inv
    refine ⟨Or.inl ⟨rfl, _, SqL.of (g1.sub _ _ hp)⟩, (hx.mono g1.e) H1 g1.sub _ fun w G2 H2 g2 rw => ?_⟩
    refine Or.inr ⟨p, w, pairP x, ps.map pairP, idx ps x, pairP x, rfl, rfl, .lst (SqL.of (g2.ext _ _ (g1.sub _ _ hp))) (dp_pairs ru (g1.sub.trans g2.ext)), dp_pair rw g2.sub, shaped_pairs ps, shaped_pair x, by rw [List.getElem?_map, idx_get hm]; rfl, by rw [pairP_eqv]; exact decide_eq_true rfl, fun m z hz hm' => ?_, q _ G2 H2 (g1.trans g2) (.int _)⟩
    rw [List.getElem?_map] at hm'
    cases e : ps[m]? with
    | none => rw [e] at hm'; cases hm'
    | some y =>
      rw [e] at hm'
      cases hm'
      rw [pairP_eqv]
      exact decide_eq_false (idx_first hz e)
/-! min, max -/
def minI : List Int → Int
  | [] => 0
  | [x] => x
  | x :: y :: r => min x (minI (y :: r))
def maxI : List Int → Int
  | [] => 0
  | [x] => x
  | x :: y :: r => max x (maxI (y :: r))
theorem minI_spec : ∀ {ns : List Int}, 0 < ns.length → minI ns ∈ ns ∧ ∀ y ∈ ns, minI ns ≤ y
  | [], h => by simp at h
  | [x], _ => ⟨by simp [minI], fun y hy => by simp at hy; simp [minI, hy]⟩
  | x :: y :: r, _ => by
    have ih := minI_spec (ns := y :: r) (by simp)
    unfold minI
    refine ⟨?_, fun z hz => ?_⟩
    · by_cases h : x ≤ minI (y :: r)
      · rw [Int.min_eq_left h]; exact List.mem_cons_self
      · rw [Int.min_eq_right (by omega)]; exact List.mem_cons_of_mem _ ih.1
    · rcases List.mem_cons.mp hz with e | hz
      · rw [e]; omega
      · have := ih.2 z hz; omega
theorem maxI_spec : ∀ {ns : List Int}, 0 < ns.length → maxI ns ∈ ns ∧ ∀ y ∈ ns, y ≤ maxI ns
  | [], h => by simp at h
  | [x], _ => ⟨by simp [maxI], fun y hy => by simp at hy; simp [maxI, hy]⟩
  | x :: y :: r, _ => by
    have ih := maxI_spec (ns := y :: r) (by simp)
    unfold maxI
    refine ⟨?_, fun z hz => ?_⟩
    · by_cases h : x ≤ maxI (y :: r)
      · rw [Int.max_eq_right h]; exact List.mem_cons_of_mem _ ih.1
      · rw [Int.max_eq_left (by omega)]; exact List.mem_cons_self
    · rcases List.mem_cons.mp hz with e | hz
      · rw [e]; omega
      · have := ih.2 z hz; omega
theorem rc_minL {ns : List Int} (h : 0 < ns.length) : Rc K f (rMin K) [.lst (ns.map D.int)] (.int (minI ns)) := fun G vs rs H e Q q => by
  cases rs with
  | cons r t =>
    cases t
    obtain ⟨p, us, rfl, _, hp, rr⟩ := r.lst_inv
    cases rr.ints
    refine ⟨p, ns, rfl, SqL.of (e _ _ hp), h, fun m hm hy => ?_⟩
    have s := minI_spec h
    have em : m = minI ns := by have := hy _ s.1; have := s.2 _ hm; omega
    rw [em]
    exact q _ G H (Grow.refl e) (.int _)
theorem rc_maxL {ns : List Int} (h : 0 < ns.length) : Rc K f (rMax K) [.lst (ns.map D.int)] (.int (maxI ns)) := fun G vs rs H e Q q => by
  cases rs with
  | cons r t =>
    cases t
    obtain ⟨p, us, rfl, _, hp, rr⟩ := r.lst_inv
    cases rr.ints
    refine ⟨p, ns, rfl, SqL.of (e _ _ hp), h, fun m hm hy => ?_⟩
    have s := maxI_spec h
    have em : m = maxI ns := by have := hy _ s.1; have := s.2 _ hm; omega
    rw [em]
    exact q _ G H (Grow.refl e) (.int _)
end
theorem u65 {k : Nat} {A : Around} (r : Room k A) : A.units + 65 < cLine := by have := r.un; omega
theorem rcS_sortedU {K : Fr} {f : Bool} {ns : List Int} : RcS K f (rSortedU K) [.lst (ns.map D.int)] (fun d => ∃ zs : List Int, d = .lst (zs.map .int) ∧ zs.Perm ns ∧ zs.Pairwise (· ≤ ·)) := fun G vs rs H e Q q => Or.inl (rcS_sorted G vs rs H e Q q)
theorem EvS.scS {K : Fr} {f : Bool} {te : TE} {σ : L2.St} {G : Hp} {P : D → Prop} (h : EvS K false te σ G P) (hs : ∀ d, P d → scalarD d = true) : EvS K f te σ G P := fun H e Q q => h H e Q fun d v G' H' pd g r => q d v G' H' pd g (r.scalar (hs d pd))
theorem pe_bmK {X : Cx} {K : Fr} (hK : X.K = K) {T : String} {name : Str} {id : String} {r : V → List V → Hp → VK → Prop} {o e : Expr} {es : List Expr} {to : TE} {t : TA} {apos cpos : Pos} (pa : PlainAttrs T) (slot : Slot T name id) (hty : typeOf (.builtin id) = pure (.type "method_descriptor")) (hm : MtR X id r) (ho : PE X o to) (ha : PA X (e :: es) t) (hbase : attributeBase o name X.env (eval o X.env) = eval o X.env := by rfl) (hfew : ((backTo cpos (starEach (e :: es) X.env)).all (fun x => !x.1) && (backToKw cpos (keywordEach [] X.env)).all (fun x => x.1.isSome) && decide ((e :: es).length + ([] : List Keyword).length + (if ([] : List Keyword).isEmpty then 0 else 1) < 30)) = true := by rfl) (hline : (apos.endLine == cpos.line) = true := by rfl) (hs : starEach (e :: es) X.env = (false, eval e X.env) :: starEach es X.env := by rfl) (hplain : (backTo cpos (starEach es X.env)).any (·.1) = false := by rfl) : PE X (.Call (.Attribute o name apos) (e :: es) [] cpos) (tBM K T r to t) := hK ▸ pe_bm pa slot hty hm ho ha hbase hfew hline hs hplain
theorem at_gen {α : Type} {xs : List α} {i : Int} {a : α} (h0 : 0 ≤ i) (h : xs[i.toNat]? = some a) : atI xs i = some a := by
  have hl := (List.getElem?_eq_some_iff.mp h).1
  unfold atI ixN
  rw [if_pos h0, if_pos (by omega)]
  exact h
end VL

/-! VL13: set(list of whole numbers), sorted of it. -/
namespace VL
open PySem PySem.Spec PyProof.Rows L2
open Evl (Ex)
/-- a set just made -/
abbrev newSetO (w : World) : Obj := { cls := .type "set", dict := none, data := .set #[] 0 (.fresh 0 0 (!w.params.followText "set-order")) }
section
variable {P : Program} {w : World} {A : Around} {E : Value → Shared → Prop} {s : Shared}
theorem set_of_list {l : Addr} {its : Array Value} (ns : List Int) {Q : Value → Shared → Prop} (quiet : A.handled = none) (hl : s.heap.IsList l its) (hit : IntsAre its.toList ns) (small : ns.length + 1 < scanBound)
    (done : ∀ (h' : Heap) (tk c : Nat), SetR w h' s.heap.objs.size (fun j => decide (j ∈ ns)) c → c ≤ ns.length → (∀ b o, s.heap.get? b = some o → h'.get? b = some o) → Q (.ref s.heap.objs.size) { s with heap := h', toks := tk }) : wpAny (model P w) A (call (.type "set") [.ref l]) Q E s := by
  have size_eq : its.size = ns.length := by
    have z := IntsAre.length hit
    rwa [Array.length_toList] at z
  obtain ⟨_, _, order⟩ := F.called_set.mro
  have f1 := F.called_set.made
  have f2 := F.called_set.sub
  refine wpAny_call (codeAny_of_tree ?_)
  show wpAny _ _ (callAny (.type "set") _) _ _ _
  refine wpAny_pure ⟨Code.quiet_builtin _ (by decide +kernel), codeAny_builtin F.entry_type_call ?_⟩
  rw [Around.under_plain (weight_type_call_type "set" [.ref l] []) rfl]
  have f3 := F.called_set.notType
  have f4 := F.called_set.canCreate
  have f5 := F.typeCall_set_1 (.ref l)
  repeat (any_goals (first | assumption | wp_step))
  refine codeAny_mono (code_set_led1 (.ref l) (E := E) (Q₁ := fun u s₁ => u = .ref s.heap.objs.size ∧ s₁ = { s with heap := s.heap.push (newSetO w) }) ⟨rfl, rfl⟩) fun r s₁ hr => ?_
  match r, hr with
  | .error _, hr => exact hr
  | .ok .next, hr => exact hr.elim
  | .ok .brk, hr => exact hr.elim
  | .ok .cont, hr => exact hr.elim
  | .ok (.ret u), hr =>
    obtain ⟨rfl, rfl⟩ := hr
    have at0 : (s.heap.push (newSetO w)).get? s.heap.objs.size = some (newSetO w) := Heap.get?_push_size _ rfl
    have ty0 : Shared.TypeIs { s with heap := s.heap.push (newSetO w) } (.ref s.heap.objs.size) "set" := ⟨_, at0, rfl⟩
    have f6 := F.called_set.init.lookup
    have f7 := F.called_set.init.bind (.ref s.heap.objs.size)
    repeat (any_goals (first | assumption | wp_step))
    refine codeAny_mono (codeAny_call_builtin (R := wants (fun v s₂ => v = .none ∧ ∃ h' tk c, s₂ = { s with heap := h', toks := tk } ∧ SetR w h' s.heap.objs.size (fun j => decide (j ∈ ns)) c ∧ c ≤ ns.length ∧ (∀ b o, s.heap.get? b = some o → h'.get? b = some o)) E) F.called_set.init.plain F.entry_set_init (check_set_init_1 ty0 ?_)) fun r₂ s₂ hr₂ => ?_
    · obtain ⟨⟨kc, kd, kt, ks⟩, lo, lc, ln, ld⟩ := hl
      dsimp only at lc ld
      subst lc ld
      have lo1 : (s.heap.push (newSetO w)).get? l = some { cls := .type "list", dict := kd, data := .seq its ln, slots := ks } := Heap.get?_push_of_some _ lo
      have g1 := F.sub_list_set
      have g2 := F.sub_list_frozenset
      have g3 : (Value.type "list" == Value.type "dict") = false := by decide
      have isl : (s.heap.push (newSetO w)).IsList l its := ⟨_, lo1, rfl, ln, rfl⟩
      unfold Builtin.«set.__init__» noKeywords Builtin.Frozenset.updateFrom
      generalize hIter : pyIter = PI
      wp_walk
      subst hIter
      refine wpAny_pyIter_list isl ?_
      refine wpAny_bind (wpAny_runValue ?_)
      have lsm : l < s.heap.objs.size := Heap.lt_size lo
      have q3 : A.in1.in1.in1.handled = none := by simp [quiet]
      have sz1 : (s.heap.push (newSetO w)).objs.size = s.heap.objs.size + 1 := Heap.size_push ..
      have apart : l ≠ (s.heap.push (newSetO w)).objs.size := by rw [sz1]; exact Nat.ne_of_lt (Nat.lt_succ_of_lt lsm)
      have outside : s.heap.objs.size ∉ [(s.heap.push (newSetO w)).objs.size, l] := by
        rw [sz1]
        intro hm
        rcases List.mem_cons.mp hm with e | hm
        · exact absurd e (Nat.ne_of_lt (Nat.lt_succ_self _))
        · exact absurd (List.mem_singleton.mp hm) (Nat.ne_of_gt lsm)
      have vals : ∀ (i : Nat) (v : Value), its[i]? = some v → ∃ k t, ns[i]? = some k ∧ v = .int k t := fun i v hv => by
        have hi : i < ns.length := by rw [← size_eq]; exact (Array.getElem?_eq_some_iff.mp hv).1
        obtain ⟨t, e⟩ := PyProof.Rows.IntsAre.int_at hit i v (by rw [Array.getElem?_toList]; exact hv)
        exact ⟨ns[i], t, List.getElem?_eq_getElem hi, by rw [e, List.getD_eq_getElem?_getD, List.getElem?_eq_getElem hi]; rfl⟩
      refine set_update_ints ((Walks.list q3 _ l apart its).toS) s.heap.objs.size outside ns size_eq small vals (its.size - 0) 0 _ (by omega) (Nat.zero_le _) ⟨⟨_, Heap.get?_push_size _ rfl, rfl, rfl⟩, isl.push _⟩ ⟨0, Nat.le_refl 0, setR_new_at (Heap.get?_push_of_some _ at0)⟩ ?_
      intro s' c' mv hc' hS'
      obtain ⟨h', gs, dr, tk', os'⟩ := s'
      have e1 : gs = s.gens := mv.gens
      have e2 : dr = s.drawn := mv.drawn
      have e3 : os' = s.os := mv.os
      subst e1 e2 e3
      show wpAny _ _ _ _ _ _
      refine wpAny_pure ?_
      show wpAny _ _ (ret Value.none) _ _ _
      refine wpAny_pure ⟨rfl, h', tk', c', rfl, hS', by omega, fun b o e => ?_⟩
      have b0 : b < s.heap.objs.size := Heap.lt_size e
      refine mv.heap b o (fun hm => ?_) (Heap.get?_push_of_some _ (Heap.get?_push_of_some _ e))
      rcases List.mem_cons.mp hm with z | hm
      · exact absurd z (Nat.ne_of_lt b0)
      · have z := List.mem_singleton.mp hm
        rw [sz1] at z; exact absurd z (Nat.ne_of_lt (Nat.lt_succ_of_lt b0))
    · match r₂, hr₂ with
      | .error _, hr₂ => exact hr₂
      | .ok .next, hr₂ => exact hr₂.elim
      | .ok .brk, hr₂ => exact hr₂.elim
      | .ok .cont, hr₂ => exact hr₂.elim
      | .ok (.ret v), hr₂ =>
        obtain ⟨rfl, h', tk, c', rfl, hS', hc', hk'⟩ := hr₂
        repeat (any_goals (first | assumption | wp_step))
        exact done _ _ _ hS' hc' hk'
end
end VL

/-! VL14: sorted(set(ints)). -/
namespace VL
open PySem PySem.Spec PyProof.Rows L2
open Evl (Ex)
/-! ### as rules -/
def rSetL (K : Fr) (w : World) : List V → Hp → VK → Prop := fun xs H Q => ∃ (l : Addr) (ns : List Int), xs = [V.ref l] ∧ SqL K H l (ns.map V.int) ∧ ns.length < 64 ∧ ∀ p c, H p = none → c ≤ ns.length → Q (.ref p) (upd H p (SetO w p (fun j => decide (j ∈ ns)) c))
theorem cr_setLK {X : Cx} {K : Fr} {w : World} (hK : X.K = K) (hw : X.w = w) (hc : X.calm = true) : CallR X (.type "set") (rSetL K w) := by
  subst hK hw
  intro pins s σ H xs us Q I r h
  obtain ⟨l, ns, rfl, hs, h64, q⟩ := h
  obtain ⟨its, rv, hl, hz⟩ := I.list hs
  rw [Vals.ref1 r]
  refine set_of_list ns (I.ok.hd hc) hl.isList (by simpa using rv.ints) (by unfold scanBound; omega) fun h' tk c R hcn kp => ?_
  have hn : H s.heap.objs.size = none := I.hok.fresh (Nat.le_refl _)
  exact ⟨.ref _, upd H s.heap.objs.size (SetO X.w s.heap.objs.size (fun j => decide (j ∈ ns)) c), I.laid (t' := tk) kp (Nat.le_refl _) (setO_new R), rfl, q _ c hn hcn⟩
theorem cr_sortedSetK {X : Cx} {w : World} (hw : X.w = w) (hc : X.calm = true) : CallR X (.builtin "sorted") (rSortedSet w) := hw ▸ cr_sortedSet hc
theorem lt_uniq {xs ys : List Int} (h1 : xs.Pairwise (· < ·)) (h2 : ys.Pairwise (· < ·)) (h : ∀ k, k ∈ xs ↔ k ∈ ys) : xs = ys := by
  have n1 : xs.Nodup := h1.imp fun {a b} h e => by omega
  have n2 : ys.Nodup := h2.imp fun {a b} h e => by omega
  exact sorted_uniq ((List.perm_ext_iff_of_nodup n1 n2).mpr h) (h1.imp fun {a b} h => by omega) (h2.imp fun {a b} h => by omega)
/-- sorted(set(ints)) -/
theorem ev_sortedSet {K : Fr} {f : Bool} {σ : L2.St} {G : Hp} {te : TE} {w : World} {ns rs : List Int} (h : Ev K false te σ G (blockD ns)) (hl : ns.length < 64) (h1 : rs.Pairwise (· < ·)) (h2 : ∀ k, k ∈ rs ↔ k ∈ ns) : Ev K f (tCB (rSortedSet w) (tCons (tCB (rSetL K w) (tCons te tNil)) tNil)) σ G (blockD rs) := fun H e Q q =>
  h H e _ fun v G1 H1 g1 rv => by
    obtain ⟨p, us, rfl, _, hp, ru⟩ := rv.lst_inv
    have hu := ru.ints
    subst hu
    refine ⟨p, ns, rfl, SqL.of (g1.sub _ _ hp), hl, fun s c hs hc => ?_⟩
    refine ⟨s, _, c, rfl, upd_same, by omega, fun zs m hz hm _ hn => ?_⟩
    have ez : zs = rs := lt_uniq hz h1 fun k => by rw [hm, h2, decide_eq_true_iff]
    subst ez
    have g2 : Grow G1 H1 G1 (upd H1 s (SetO w s (fun j => decide (j ∈ ns)) c)) := Grow.hid g1.sub hs
    have g3 := Grow.laid (o := .lst (zs.map V.int)) g2.sub hn
    exact q (.ref m) _ _ ((g1.trans g2).trans g3) (.lst (frOk_frh fun _ => (g1.trans g2).free hn) upd_same (RepA.ofInts _))
end VL

/-! VL15: lists of lists of one's own, written at will. -/
namespace VL
open PySem PySem.Spec PyProof.Rows L2
open Evl (Ex)
/-- a list of lists that nobody knows of any more -/
structure OwnRows (H0 G H : Hp) (p : Addr) (us : List V) (b : Nat) : Prop where
  hp : H p = some (.lst us)
  gp : G p = none
  h0 : H0 p = none
  row : ∀ u ∈ us, ∃ a xs, u = V.ref a ∧ a ≠ p ∧ H a = some (.lst xs) ∧ xs.length ≤ b ∧ G a = none ∧ H0 a = none
theorem OwnRows.of {K : Fr} {H0 Gb Hb G2 H : Hp} {p : Addr} {rs : List (List Int)} {b : Nat} (r : Rep K (frh true Hb) Gb (rowsD rs) (.ref p)) (hb : Ex Gb H) (e2 : Ex G2 Hb) (e3 : Ex H0 Hb) (hr : ∀ r ∈ rs, r.length ≤ b) : ∃ us, us.length = rs.length ∧ OwnRows H0 G2 H p us b := by
  obtain ⟨q, us, e, hf, hp, ru⟩ := r.lst_inv
  cases e
  obtain ⟨bs, rfl, hb1, hb2⟩ := RepA.rowsInv ru
  have hf : Hb p = none := hf
  refine ⟨_, by rw [← hb1, List.length_map, List.length_map], hb _ _ hp, Evl.fresh_back e2 hf, Evl.fresh_back e3 hf, fun u hu => ?_⟩
  obtain ⟨c, mc, rfl⟩ := List.mem_map.mp hu
  have z := hb2 c mc
  have z0 : Hb c.1 = none := z.1
  refine ⟨c.1, c.2.map V.int, rfl, fun e => ?_, hb _ _ z.2, by rw [List.length_map]; exact hr _ (by rw [← hb1]; exact List.mem_map_of_mem mc), Evl.fresh_back e2 z0, Evl.fresh_back e3 z0⟩
  have z2 := z.2
  rw [e, hp] at z2
  have z3 : bs.map (fun b => V.ref b.1) = c.2.map V.int := HO.lst.inj (Option.some.inj z2)
  have : V.ref c.1 ∈ c.2.map V.int := by rw [← z3]; exact List.mem_map_of_mem mc
  obtain ⟨_, _, h⟩ := List.mem_map.mp this
  cases h
theorem OwnRows.grow {H0 G H G' H' : Hp} {p : Addr} {us : List V} {b : Nat} (o : OwnRows H0 G H p us b) (g : Grow G H G' H') : OwnRows H0 G' H' p us b :=
  ⟨(g.keep o.hp o.gp).1, (g.keep o.hp o.gp).2, o.h0, fun u hu => by
    obtain ⟨a, xs, rfl, h1, h2, h3, h4, h5⟩ := o.row u hu
    have z := g.keep h2 h4
    exact ⟨a, xs, rfl, h1, z.1, h3, z.2, h5⟩⟩
theorem OwnRows.up {H0 G H : Hp} {p : Addr} {us : List V} {b c : Nat} (o : OwnRows H0 G H p us b) (h : b ≤ c) : OwnRows H0 G H p us c :=
  ⟨o.hp, o.gp, o.h0, fun u hu => by
    obtain ⟨a, xs, rfl, h1, h2, h3, h4, h5⟩ := o.row u hu
    exact ⟨a, xs, rfl, h1, h2, by omega, h4, h5⟩⟩
section
variable {K : Fr} {σ : L2.St} {De : Ends} {G0 H0 G H : Hp} {p : Addr} {us : List V} {b i : Nat} {te tk : TE} {d : D} {k : Int}
/-- xs[k].append(e) -/
theorem s_appRow (o : OwnRows H0 G H p us b) (g : Grow G0 H0 G H) (hv : σ[i]? = some (some (.ref p))) (hk : Ev K false tk σ G (.int k)) (k0 : 0 ≤ k) (k1 : k < us.length) (hb : b < 100000) (he : Ev K false te σ G d)
    (cont : ∀ G' H', Ex G G' → Grow G0 H0 G' H' → OwnRows H0 G' H' p us (b + 1) → De.nx σ H') : tDrop (tBM K "list" rAppend (tOp (rIx K) (tVar i) tk) (tCons te tNil)) De σ H := by
  refine ⟨.ref p, hv, hk H g.sub _ fun v G1 H1 g1 rv => ?_⟩
  cases rv
  have o1 := o.grow g1
  obtain ⟨u, hu⟩ : ∃ u, us[k.toNat]? = some u := ⟨_, List.getElem?_eq_getElem (by omega)⟩
  obtain ⟨a, xs, rfl, hne, ha, hl, na, n0⟩ := o1.row u (List.mem_of_getElem? hu)
  refine Or.inl ⟨p, us, k, .ref a, rfl, rfl, SqL.of o1.hp, at_gen k0 hu, Or.inl ⟨rfl, xs, SqL.of ha⟩, (he.mono g1.e) H1 g1.sub _ fun v G2 H2 g2 rv => ?_⟩
  have o2 := o1.grow g2
  have ka := g2.keep ha na
  refine ⟨a, xs, v, rfl, rfl, ka.1, Evl.sz_lt (by omega), cont G2 _ (g1.e.trans g2.e) (((g.trans g1).trans g2).put n0 ka.2) ⟨by rw [upd_ne hne.symm]; exact o2.hp, o2.gp, o2.h0, fun w hw => ?_⟩⟩
  obtain ⟨c, ys, rfl, c1, c2, c3, c4, c5⟩ := o2.row w hw
  by_cases e : c = a
  · subst e
    rw [ka.1] at c2
    cases c2
    exact ⟨c, _, rfl, c1, upd_same, by rw [List.length_append]; simp only [List.length_cons, List.length_nil]; omega, c4, c5⟩
  · exact ⟨c, ys, rfl, c1, by rw [upd_ne e]; exact c2, by omega, c4, c5⟩
end
end VL

/-! VL16: tuples: parts, sums, range. -/
namespace VL
open PySem PySem.Spec PyProof.Rows L2
open Evl (Ex)
section
variable {K : Fr} {f f1 : Bool} {σ : L2.St} {G H : Hp} {te : TE} {ds es : List D}
/-- a true part of a tuple -/
theorem ev_slT {tl th : TO} {lo hi : Option Int} (h : Ev K f te σ G (.tup ds)) (h1 : EvO K tl σ G lo) (h2 : EvO K th σ G hi) (hne : ¬ (HT.sIx ds.length 0 lo = 0 ∧ HT.sIx ds.length ds.length hi = ds.length)) : Ev K f (tSl (rSlU K) te tl th) σ G (.tup (cutD ds lo hi)) := fun H e Q q =>
  h H e _ fun v G1 H1 g1 rv => (h1.mono g1.e) H1 g1.sub _ fun G2 H2 g2 => (h2.mono (g1.e.trans g2.e)) H2 g2.sub _ fun G3 H3 g3 => Or.inr (by
    obtain ⟨p, vs, rfl, hp, rs⟩ := rv.tup_inv
    have g := (g1.trans g2).trans g3
    have hp3 : SqT K H3 p vs := Evl.ex_t (g3.sub) (Evl.ex_t (g2.e.trans g3.e) hp)
    refine ⟨p, vs, rfl, hp3, by rw [← rs.length]; exact hne, fun n hn => ?_⟩
    have gl := Grow.laid (o := .tup (cutV vs lo hi)) g.sub hn
    exact q (.ref n) _ _ (g.trans gl) (.tup (SqT.of upd_same) (((rs.mono (g2.e.trans g3.e)).cut lo hi).mono gl.e)))
theorem va_tup (h1 : ds ≠ []) (h2 : es ≠ []) (hl : ds.length + es.length ≤ 100000) : Rv K f f (rAddU K) (.tup ds) (.tup es) (.tup (ds ++ es)) := Rv.right (Rv.right (fun G x y H0 ra rb H e e0 Q q => by
  obtain ⟨a, xs, rfl, ha, rx⟩ := ra.tup_inv
  obtain ⟨b, ys, rfl, hb, ry⟩ := rb.tup_inv
  have l1 := rx.length
  have l2 := ry.length
  have nx : xs ≠ [] := fun z => h1 (List.length_eq_zero_iff.mp (by rw [l1, z]; rfl))
  have ny : ys ≠ [] := fun z => h2 (List.length_eq_zero_iff.mp (by rw [l2, z]; rfl))
  refine ⟨a, b, xs, ys, rfl, rfl, Evl.ex_t e ha, Evl.ex_t e hb, nx, Evl.sz_of (by omega), fun z => absurd z ny, fun _ p hp => ?_⟩
  have g := Grow.laid (o := .tup (xs ++ ys)) e hp
  exact q (.ref p) _ _ g (.tup (SqT.of upd_same) ((rx.append ry).mono g.e))))
theorem ev_tupRg {ta : TE} {n : Int} (h : Ev K false ta σ G (.int n)) (h0 : -100000 ≤ n) (h1 : n ≤ 100000) : Ev K f (tTupRg (tRg1 ta)) σ G (.tup ((rng 0 n.toNat).map D.int)) := fun H e Q q =>
  h H e _ fun v G1 H1 g1 rv => by
    cases rv
    refine ⟨n, rfl, ⟨by omega, by omega, by omega, by omega, by omega⟩, fun p hp => ?_⟩
    have ev : rgV 0 n = (rng 0 n.toNat).map V.int := by
      unfold rgV rng
      rw [List.map_map, show n - 0 = n by omega]; rfl
    rw [ev]
    have g := Grow.laid (o := .tup ((rng 0 n.toNat).map V.int)) g1.sub hp
    exact q (.ref p) _ _ (g1.trans g) (.tup (SqT.of upd_same) (RepA.ofInts _))
end
end VL

/-! VL17: a tuple backwards by its slice. -/
namespace VL
open PySem PySem.Spec PyProof.Rows L2
open Evl (Ex)
section
variable {prog : Program} {w : World} {A : Around} {E : Value → Shared → Prop} {s : Shared}
theorem places_back (n : Nat) : Builtin.Slice.slicePlaces ((n : Int) - 1) (-1) (-1) = n := by
  unfold Builtin.Slice.slicePlaces
  rw [if_neg (by omega)]
  by_cases h : (n : Int) - 1 > -1
  · rw [if_pos h, show -(-1 : Int) = 1 by omega, Int.ediv_one]; omega
  · rw [if_neg h]; omega
theorem applied_back {sl : Addr} {a b c : Value} {n : Nat} {Q : Int × Int × Nat → Shared → Prop} (hs : s.heap.IsSliceOf sl a b c) (pa : IsPart a none) (pb : IsPart b none) (pc : IsPart c (some (-1))) (h : Q ((n : Int) - 1, -1, n) s) : wpAny (model prog w) A (Builtin.Slice.sliceApplied (.ref sl) (pure (n : Int))) Q E s := by
  obtain ⟨o, g, _, f⟩ := id hs
  unfold Builtin.Slice.sliceApplied Builtin.Slice.sliceFields
  refine wpAny_bind (wpAny_bind (wpAny_field g f (x := a) rfl (wpAny_bind (wpAny_field g f (x := b) rfl (wpAny_bind (wpAny_field g f (x := c) rfl (wpAny_pure ?_)))))))
  refine wpAny_bind (HT.slicePart_ pc ?_)
  show wpAny _ _ (if ((-1 : Int) == 0) = true then _ else _) _ _ s
  rw [if_neg (show ¬ (((-1 : Int) == 0) = true) by decide)]
  refine wpAny_bind (HT.slicePart_ pa (wpAny_bind (HT.slicePart_ pb (wpAny_bind (wpAny_pure ?_)))))
  show wpAny _ _ (match Builtin.Slice.sliceAdjust none none (-1) (n : Int) with | (x, y) => pure (x, (-1 : Int), Builtin.Slice.slicePlaces x y (-1))) _ _ s
  have e : Builtin.Slice.sliceAdjust none none (-1) (n : Int) = ((n : Int) - 1, -1) := rfl
  rw [e]
  refine wpAny_pure ?_
  rw [places_back]; exact h
theorem pick_back (xs : Array Value) : ((List.range xs.size).filterMap fun (k : Nat) => xs[((xs.size : Int) - 1 + (k : Int) * (-1)).toNat]?) = xs.toList.reverse := by
  have e : ((List.range xs.size).filterMap fun (k : Nat) => xs[((xs.size : Int) - 1 + (k : Int) * (-1)).toNat]?) = ((List.range xs.size).map fun k => xs.size - 1 - k).filterMap (xs[·]?) := by
    rw [List.filterMap_map]
    have go : ∀ l : List Nat, (∀ k ∈ l, k < xs.size) → (l.filterMap fun (k : Nat) => xs[((xs.size : Int) - 1 + (k : Int) * (-1)).toNat]?) = l.filterMap ((xs[·]?) ∘ fun k => xs.size - 1 - k) := by
      intro l
      induction l with
      | nil => intro _; rfl
      | cons k l ih =>
        intro hk
        have h1 := hk k List.mem_cons_self
        rw [List.filterMap_cons, List.filterMap_cons, ih fun j hj => hk j (List.mem_cons_of_mem _ hj)]
        have e1 : ((xs.size : Int) - 1 + (k : Int) * (-1)).toNat = xs.size - 1 - k := by omega
        rw [e1]; rfl
    exact go _ fun k hk => List.mem_range.mp hk
  rw [e, PySem.W.krv_range, List.filterMap_reverse, PySem.W.krv_all]
theorem tuple_back {t sl : Addr} {xs : Array Value} {a b c : Value} {Q : Value → Shared → Prop} (ht : IsTup s.heap t xs) (hs : s.heap.IsSliceOf sl a b c) (pa : IsPart a none) (pb : IsPart b none) (pc : IsPart c (some (-1)))
    (h : Q (.ref s.heap.objs.size) { s with heap := s.heap.push { cls := .type "tuple", data := .seq xs.toList.reverse.toArray } }) (hz : xs.size ≤ sizeLine) : wpAny (model prog w) A (getItem (.ref t) (.ref sl)) Q E s := by
  have fits : sizeOk (.seq xs.toList.reverse.toArray) := by show xs.toList.reverse.toArray.size ≤ sizeLine; rw [List.size_toArray, List.length_reverse, Array.length_toList]; exact hz
  obtain ⟨o, g, k, _⟩ := id hs
  have ty : s.TypeIs (.ref sl) "slice" := ⟨o, g, k⟩
  unfold getItem; try with_reducible refine wpAny_holding ?_
  (first | refine wpAny_bind (wpAny_pure ?_) | skip); refine wpAny_bind (wpAny_sequenceKey ht.typeIs (by decide) ?_)
  refine wpAny_bind (wpAny_callSpecial?_slot (name := Str.ofString "__getitem__") ht.typeIs PyProof.Rows.slot_tuple_getitem (wpAny_call_entry PyProof.Rows.slot_tuple_getitem ht.typeIs entry_tuple_getitem ?_ (args_tuple_getitem _ _)))
  show wpAny _ _ (Builtin.Tuple.tupleItemsOf (Value.ref t) >>= _) _ _ s
  refine wpAny_bind (tupleItemsOf_ ht (wpAny_bind (wpAny_typeOf ty ?_)))
  rw [if_pos (show _ = true by decide)]
  refine wpAny_bind (applied_back hs pa pb pc ?_)
  show wpAny _ _ (if (((xs.size : Int) - 1 == 0 && (-1 : Int) == 1 && xs.size == xs.size)) = true then _ else _) _ _ s
  rw [if_neg (by simp), pick_back]
  first
    | exact wpAny_bind (wpAny_bind (m := Builtin.Tuple.tupleExact _) (wpAny_newObj_type (wpAny_pure (wpAny_pure ⟨_, rfl, wpAny_pure h⟩)) fits))
    | (refine wpAny_bind (m := Builtin.Tuple.tupleExact _) (wpAny_newObj_type (wpAny_pure ⟨_, rfl, ?_⟩) fits); exact wpAny_pure h)
    | (refine wpAny_bind (m := Builtin.Tuple.tupleExact _) (wpAny_newObj_type (wpAny_bind (wpAny_pure (wpAny_pure ⟨_, rfl, ?_⟩))) fits); exact wpAny_pure h)
    | (refine wpAny_bind (wpAny_bind (m := Builtin.Tuple.tupleExact _) (wpAny_newObj_type (wpAny_pure ⟨_, rfl, ?_⟩) fits)); exact wpAny_pure h)
end
end VL

/-! VL18: xs[::-1] of lists and tuples. -/
namespace VL
open PySem PySem.Spec PyProof.Rows L2
open Evl (Ex)
def tRevT (K : Fr) (te : TE) : TE := fun σ H Q => te σ H fun x H1 => ∃ a xs, x = V.ref a ∧ SqT K H1 a xs ∧ ∀ p, H1 p = none → Q (.ref p) (upd H1 p (.tup xs.reverse))
theorem pe_revT {X : Cx} {e : Expr} {te : TE} {k : Nat} {p1 p2 p3 pos : Pos} (he : PE X e te) : PE X (.Subscript e (.Slice none none (some (.UnaryOp .USub (.Constant (.int 1) k p1) p2)) p3) pos) (tRevT X.K te) := by
  refine ⟨fun pins s σ H Q I h => Subscript_ (thn (he.run pins s σ H _ I h) fun v s1 ⟨x, H1, I1, r1, a, xs, ex, hx, q⟩ => ?_)⟩
  subst ex; cases r1
  have back : PO X (some (.UnaryOp .USub (.Constant (.int 1) k p1) p2)) (tPart (tUn (rU fun i => .int (-i)) (tC (.int 1)))) := po_some (pe_un un_neg pe_int)
  refine wpAny_Slice (thn (po_none.run pins s1 σ H1 (fun o H2 => o = none ∧ H2 = H1) I1 ⟨rfl, rfl⟩) fun va s2 ⟨o1, H2, I2, pa, e1, e2⟩ => ?_)
  subst e1 e2; refine thn (po_none.run pins s2 σ H2 (fun o H3 => o = none ∧ H3 = H2) I2 ⟨rfl, rfl⟩) fun vb s3 ⟨o2, H3, I3, pb, e1, e2⟩ => ?_
  subst e1 e2; refine thn (back.run pins s3 σ H3 (fun o H4 => o = some (-1) ∧ H4 = H3) I3 ⟨1, rfl, -1, rfl, rfl, rfl⟩) fun vc s4 ⟨o3, H4, I4, pc, e1, e2⟩ => ?_
  subst e1 e2
  have J : Inv X pins σ H4 { s4 with heap := s4.heap.push { cls := .type "slice", data := .fields #[va, vb, vc] } } := I4.kept (t' := s4.toks) fun b ob z => Heap.get?_push_of_some _ z
  obtain ⟨its, r, ht, hz⟩ := J.tuple hx
  have len := r.length
  show wpAny (model X.prog X.w) X.A (subscriptTail e (.Slice none none (some (.UnaryOp .USub (.Constant (.int 1) k p1) p2)) p3) (Value.ref a) (Value.ref s4.heap.objs.size)) (EP X pins σ Q) X.xe { s4 with heap := s4.heap.push { cls := .type "slice", data := .fields #[va, vb, vc] } }
  refine tail_any (ops := [Value.ref a, Value.ref s4.heap.objs.size]) ht.typeIs (PyProof.Rows.slot_tuple_getitem.lookup) ?_ (by with_unfolding_all rfl)
  refine tuple_back ht (Heap.IsSliceOf.new _ va vb vc) pa pb pc ?_ (by rw [List.size_toArray]; omega)
  refine ⟨.ref _, _, J.laid (t' := s4.toks) (o := .tup xs.reverse) (fun b ob z => Heap.get?_push_of_some _ z) (Nat.le_refl _) ⟨by rw [List.length_reverse]; exact hz, _, r.reverse, IsTup.new _ _⟩, rfl, q _ (J.hok.fresh (Nat.le_refl _))⟩
theorem pe_revUK {X : Cx} {K : Fr} (hK : X.K = K) {e : Expr} {te : TE} {k : Nat} {p1 p2 p3 pos : Pos} (he : PE X e te) : PE X (.Subscript e (.Slice none none (some (.UnaryOp .USub (.Constant (.int 1) k p1) p2)) p3) pos) (eOr (tRevL K te) (tRevT K te)) := hK ▸ pe_or2 (pe_revL he) (pe_revT he)
section
variable {K : Fr} {f : Bool} {σ : L2.St} {G : Hp} {te : TE} {ds : List D}
theorem RepA.rev {fr : Option Hp} {H : Hp} : ∀ {ds : List D} {vs : List V}, RepA K fr H ds vs → RepA K fr H ds.reverse vs.reverse
  | _, _, .nil => .nil
  | _, _, .cons r t => by rw [List.reverse_cons, List.reverse_cons]; exact (RepA.rev t).append (.cons r .nil)
theorem ev_revT (h : Ev K f te σ G (.tup ds)) : Ev K f (eOr (tRevL K te) (tRevT K te)) σ G (.tup ds.reverse) := ev_right fun H e Q q =>
  h H e _ fun v G1 H1 g1 rv => by
    obtain ⟨p, vs, rfl, hp, rs⟩ := rv.tup_inv
    refine ⟨p, vs, rfl, Evl.ex_t g1.sub hp, fun n hn => ?_⟩
    have gl := Grow.laid (o := .tup vs.reverse) g1.sub hn
    exact q (.ref n) _ _ (g1.trans gl) (.tup (SqT.of upd_same) (rs.rev.mono gl.e))
theorem ev_revL (h : Ev K f te σ G (.lst ds)) : Ev K f (eOr (tRevL K te) (tRevT K te)) σ G (.lst ds.reverse) := ev_left fun H e Q q =>
  h H e _ fun v G1 H1 g1 rv => by
    obtain ⟨p, vs, rfl, _, hp, rs⟩ := rv.lst_inv
    refine ⟨p, vs, rfl, SqL.of (g1.sub _ _ hp), fun n hn => ?_⟩
    have gl := Grow.laid (o := .lst vs.reverse) g1.sub hn
    exact q (.ref n) _ _ (g1.trans gl) (.lst (frOk_frh fun _ => g1.free hn) upd_same (rs.rev.mono gl.e))
end
end VL

set_option Elab.async false
set_option linter.all false
set_option maxRecDepth 100000
set_option maxHeartbeats 4000000
namespace VL
open PySem PySem.Spec PyProof.Rows L2
open Evl (Ex)
def top (i : Nat) : Stmt := PySem.Challenge.pw_villagelines_k12_touch_and_join.main.body.getD i (.Pass ⟨0, 0, 0, 0⟩)
abbrev s_ordered : Stmt := top 1
abbrev s_singles : Stmt := top 2
abbrev s_place_of : Stmt := top 3
abbrev s_touched_by : Stmt := top 4
abbrev s_join_blocks : Stmt := top 5
abbrev s_law_pool : Stmt := top 7
abbrev s_law_draw : Stmt := top 8
abbrev s_law_stops : Stmt := top 9
abbrev s_law_blocks : Stmt := top 10
abbrev s_law_same : Stmt := top 11
abbrev s_law_built : Stmt := top 12
abbrev s_law_index : Stmt := top 13
abbrev s_law_joins : Stmt := top 14
abbrev s_law_touches : Stmt := top 15
abbrev s_law : Stmt := top 16
theorem sc_ordered : FnScope ["blocks", "block"] ["blocks"] (defScope s_ordered) := ⟨rfl, rfl, rfl, by decide +kernel, rfl, by decide +kernel, by decide +kernel⟩
theorem sc_singles : FnScope ["villages", "village"] ["villages"] (defScope s_singles) := ⟨rfl, rfl, rfl, by decide +kernel, rfl, by decide +kernel, by decide +kernel⟩
theorem sc_place_of : FnScope ["division", "village", "place", "block"] ["division", "village"] (defScope s_place_of) := ⟨rfl, rfl, rfl, by decide +kernel, rfl, by decide +kernel, by decide +kernel⟩
theorem sc_touched_by : FnScope ["division", "stops", "place", "block", "stop"] ["division", "stops"] (defScope s_touched_by) := ⟨rfl, rfl, rfl, by decide +kernel, rfl, by decide +kernel, by decide +kernel⟩
theorem sc_join_blocks : FnScope ["division", "places", "joined", "place", "block", "village", "rest"] ["division", "places"] (defScope s_join_blocks) := ⟨rfl, rfl, rfl, by decide +kernel, rfl, by decide +kernel, by decide +kernel⟩
theorem sc_law_pool : FnScope ["script", "cells", "cell"] ["script"] (defScope s_law_pool) := ⟨rfl, rfl, rfl, by decide +kernel, rfl, by decide +kernel, by decide +kernel⟩
theorem sc_law_draw : FnScope ["pool", "many", "base", "digit", "mixed"] ["pool", "many"] (defScope s_law_draw) := ⟨rfl, rfl, rfl, by decide +kernel, rfl, by decide +kernel, by decide +kernel⟩
theorem sc_law_stops : FnScope ["pool", "villages", "widest", "size", "left", "stops", "turn", "at"] ["pool", "villages", "widest"] (defScope s_law_stops) := ⟨rfl, rfl, rfl, by decide +kernel, rfl, by decide +kernel, by decide +kernel⟩
theorem sc_law_blocks : FnScope ["labels", "v", "first"] ["labels"] (defScope s_law_blocks) := ⟨rfl, rfl, rfl, by decide +kernel, rfl, by decide +kernel, by decide +kernel⟩
theorem sc_law_same : FnScope ["got", "due", "k"] ["got", "due"] (defScope s_law_same) := ⟨rfl, rfl, rfl, by decide +kernel, rfl, by decide +kernel, by decide +kernel⟩
theorem sc_law_built : FnScope ["pool", "villages", "kinds", "drawn", "v", "labels", "label", "left", "places", "turn", "at", "stops"] ["pool"] (defScope s_law_built) := ⟨rfl, rfl, rfl, by decide +kernel, rfl, by decide +kernel, by decide +kernel⟩
theorem sc_law_index : FnScope ["labels", "village", "v"] ["labels", "village"] (defScope s_law_index) := ⟨rfl, rfl, rfl, by decide +kernel, rfl, by decide +kernel, by decide +kernel⟩
theorem sc_law_joins : FnScope ["labels", "mine", "places", "firsts", "v", "marks", "place", "due", "label", "asked", "got", "k"] ["labels", "mine", "places"] (defScope s_law_joins) := ⟨rfl, rfl, rfl, by decide +kernel, rfl, by decide +kernel, by decide +kernel⟩
theorem sc_law_touches : FnScope ["labels", "mine", "stops", "due", "stop", "got", "every", "v"] ["labels", "mine", "stops"] (defScope s_law_touches) := ⟨rfl, rfl, rfl, by decide +kernel, rfl, by decide +kernel, by decide +kernel⟩
theorem sc_law : FnScope ["script", "villages", "labels", "places", "stops", "blocks", "mine", "block", "alone", "v", "due"] ["script"] (defScope s_law) := ⟨rfl, rfl, rfl, by decide +kernel, rfl, by decide +kernel, by decide +kernel⟩
/-- the blocks in their order, each in its order, none empty -/
def orderedR (rs : List (List Int)) : List (List Int) := sortRows ((rs.filter fun r => decide (0 < r.length)).map sortInts)
abbrev sp_ordered (K : Fr) : Sp := spF K true (fun i : List (List Int) => [rowsD i]) (fun i => i.length ≤ 50000) (fun i d => d = rowsD (orderedR i))
theorem ok_ordered {P : Program} {w : World} {K : Fr} {mg : Str → Option Value} {base : Heap} {fa : Addr} {fd : FuncData} (F : L2.Fun K "ordered" "ordered" s_ordered fa fd) (B : Bt mg) : FnOk P w K mg base CX0 1 fa fd ["blocks"] (sp_ordered K) := by
  refine okF F sc_ordered (fun _ => rfl) fun cdv A outer s H vs Q E hr rs G eG rr pre q => ?_
  obtain ⟨v1, rfl, r1⟩ := rr.one
  refine ⟨_, (pss_one (ps_ret (pe_callB (cr_sortedUK (K := K) rfl hr.units) (by rfl) B.b_sorted bt_sorted (pa_cons (pe_lc (own := [("block", 1)]) rfl sc_ordered.nd (pi_seqK (K := K) rfl (pv 0)) (blkOk_by (by kernel_rfl)) (fun _ _ _ _ _ => (pg_name (i := 1) sc_ordered.nd rfl (Or.inl rfl))) (fun _ _ _ _ _ => (pts_one (pt_cmpR op_gt (pe_callB (cl_lenK (K := K) rfl) (by rfl) B.b_len bt_len (pa_cons (pv 1) pa_nil)) pe_int (nomark _)))) (fun _ _ _ _ _ => (pe_callB (cr_sortedUK (K := K) rfl hr.units) (by rfl) B.b_sorted bt_sorted (pa_cons (pv 1) pa_nil)))) pa_nil)))), ?_⟩
  refine s_ret (K := K) (f := true) eG (ev_sortedLL (rs := (rs.filter fun r : List Int => decide (0 < r.length)).map sortInts) (Ev.is (evl_lc (f := true) (b := fun r : List Int => decide (0 < r.length)) (h := fun r => blockD (sortInts r)) (ei_seqL (ev_var rfl r1)) pre
    (S := fun r G1 σ' => ∃ v, Rep K none G1 (blockD r) v ∧ σ' = [some v1, some v]) (by rintro r G1 σ' ⟨v, rv, rfl⟩; rfl) (fun r _ G1 _ => tg_name.imp (by rintro _ ⟨v, rv, rfl⟩; exact ⟨v, rv, rfl⟩))
    (fun r mr G1 e1 σ' hs => ?_) (fun r mr _ G1 e1 σ' hs => ?_)).ev (by rw [rowsD, List.map_map]; rfl))) fun v G' H' g r => q _ v G' H' rfl g r
  · obtain ⟨v, rv, rfl⟩ := hs
    exact (et_test (f := false) (ev_op (f1 := false) (ev_cb (ea_cons (ev_var rfl rv) ea_nil) c_lenL) ev_int v_gt)).is (by rw [List.length_map]; by_cases h : 0 < r.length <;> simp [h])
  · obtain ⟨v, rv, rfl⟩ := hs
    exact ev_cb (ea_cons (ev_var rfl rv) ea_nil) c_sortedI
def touched (rs : List (List Int)) (stops : List Int) : List Int := ((enumL 0 rs).filter fun p => stops.any fun s => decide (s ∈ p.2)).map (·.1)
abbrev sp_touched_by (K : Fr) : Sp := spF K true (fun i : List (List Int) × Bool × List Int => [rowsD i.1, seqD i.2.1 (i.2.2.map .int)]) (fun i => i.1.length ≤ 50000 ∧ i.2.2.length ≤ 50000) (fun i d => d = blockD (touched i.1 i.2.2))
theorem ok_touched_by {P : Program} {w : World} {K : Fr} {mg : Str → Option Value} {base : Heap} {fa : Addr} {fd : FuncData} (F : L2.Fun K "touched_by" "touched_by" s_touched_by fa fd) (B : Bt mg) : FnOk P w K mg base CX0 1 fa fd ["division", "stops"] (sp_touched_by K) := by
  refine okF F sc_touched_by (fun _ => rfl) fun cdv A outer s H vs Q E hr i G eG rr pre q => ?_
  obtain ⟨rs, bb, stops⟩ := i
  dsimp only at rr pre q
  obtain ⟨v1, v2, rfl, r1, r2⟩ := rr.two
  refine ⟨_, (pss_one (ps_ret (pe_lc (own := [("place", 2), ("block", 3)]) rfl sc_touched_by.nd (pi_enumK (K := K) rfl (by rfl) B.b_enumerate (pa_cons (pv 0) pa_nil)) (blkOk_by (by kernel_rfl)) (fun _ _ _ _ _ => (pg_tupK (K := K) (n := 2) rfl rfl (pgs_cons (pg_name (i := 2) sc_touched_by.nd rfl (Or.inl rfl)) (pgs_cons (pg_name (i := 3) sc_touched_by.nd rfl (Or.inr rfl)) pgs_nil)))) (fun _ _ _ _ _ => (pts_one (pt_val (pe_callB (cr_anyK (K := K) rfl rfl) (by rfl) B.b_any bt_any (pa_cons (pe_lc (own := [("stop", 4)]) rfl sc_touched_by.nd (pi_seqK (K := K) rfl (pv 1)) (blkOk_by (by kernel_rfl)) (fun _ _ _ _ _ => (pg_name (i := 4) sc_touched_by.nd rfl (Or.inl rfl))) (fun _ _ _ _ _ => pts_nil) (fun _ _ _ _ _ => (pe_cmpR (op_inK (K := K) rfl) (pv 4) (pv 3) rfl))) pa_nil))))) (fun _ _ _ _ _ => (pv 2))))), ?_⟩
  refine s_ret (K := K) (f := true) eG (ev_intLc (h := fun p : Int × List Int => p.1) (b := fun p : Int × List Int => stops.any fun s : Int => decide (s ∈ p.2)) (ei_enumL (c := blockD) (ea_cons (ev_var rfl r1) ea_nil)) (by rw [enumL_length]; exact pre.1)
    (S := fun p G1 σ' => ∃ v, Rep K none G1 (blockD p.2) v ∧ σ' = [some v1, some v2, some (.int p.1), some v, none]) (by rintro p G1 _ ⟨v, rv, rfl⟩; rfl)
    (fun p _ G1 _ => (tg_pair tg_int (fun _ _ => tg_name)).imp (by rintro _ ⟨_, rfl, v, rv, rfl⟩; exact ⟨v, rv, rfl⟩))
    (fun p mp G1 e1 σ' hs => ?_) (fun p mp _ G1 e1 σ' hs => ?_)) fun v G' H' g r => q _ v G' H' rfl g r
  · obtain ⟨v, rv, rfl⟩ := hs
    refine et_B (f := false) (ev_anyLc (xs := stops) (h := fun s => decide (s ∈ p.2)) (ei_seq (ev_var rfl (r2.mono e1))) pre.2 (S := fun s G1 σ' => σ' = [some v1, some v2, some (.int p.1), some v, some (.int s)]) (by rintro a G1 σ' rfl; rfl) (fun a _ G1 _ => tg_int) (fun a ma G2 e2 σ' hs => ?_))
    subst hs
    exact ev_op (f1 := false) (ev_vi rfl) (ev_var rfl (rv.mono e2)) rv_inL
  · obtain ⟨v, rv, rfl⟩ := hs
    exact ev_vi rfl
def joinR (rs : List (List Int)) (places : List Int) : List (List Int) := ((enumL 0 rs).filter fun p => decide (p.1 ∈ places)).flatMap (·.2) :: ((enumL 0 rs).filter fun p => !decide (p.1 ∈ places)).map (·.2)
theorem filter_tt {α : Type} (xs : List α) : xs.filter (fun _ => true) = xs := filter_yes xs
theorem ea_starLast {K : Fr} {f : Bool} {σ : L2.St} {G : Hp} {te : TE} {ds : List D} (h : Ev K f te σ G (.lst ds)) : EvA K f (StX.tStar K te tNil) σ G ds := fun H e Q q =>
  h H e _ fun v G1 H1 g1 rv => by
    obtain ⟨p, us, rfl, hf, hp, ru⟩ := rv.lst_inv
    refine ⟨p, us, rfl, Or.inr (SqL.of (g1.sub _ _ hp)), ?_⟩
    show Q (us ++ []) H1
    rw [List.append_nil]
    exact q us G1 H1 g1 ru
abbrev sp_join_blocks (K : Fr) : Sp := spF K true (fun i : List (List Int) × List Int => [rowsD i.1, blockD i.2]) (fun i => i.1.length ≤ 50 ∧ ∀ r ∈ i.1, r.length ≤ 1000) (fun i d => d = rowsD (orderedR (joinR i.1 i.2)))
theorem ok_join_blocks {P : Program} {w : World} {K : Fr} {mg : Str → Option Value} {base : Heap} {fa : Addr} {fd : FuncData} (F : L2.Fun K "join_blocks" "join_blocks" s_join_blocks fa fd) (B : Bt mg)
    (c_ordered : C8.Cal P w K mg base 1 "ordered" (sp_ordered K) []) : FnOk P w K mg base CX0 2 fa fd ["division", "places"] (sp_join_blocks K) := by
  refine okF F sc_join_blocks (fun _ => rfl) fun cdv A outer s H vs Q E hr i G eG rr pre q => ?_
  obtain ⟨rs, places⟩ := i
  dsimp only at rr pre q
  obtain ⟨v1, v2, rfl, r1, r2⟩ := rr.two
  obtain ⟨p1, p2⟩ := pre
  have hm : ∀ p ∈ enumL 0 rs, p.2.length ≤ 1000 := fun p mp => by
    obtain ⟨j, hj, _⟩ := mem_enumL mp
    exact p2 _ (List.mem_of_getElem? hj)
  refine ⟨_, (pss_cons (ps_setLc2 (i := 2) (own := [("place", 3), ("block", 4), ("village", 5)]) (vs1 := [5]) rfl sc_join_blocks.nd rfl rfl (sw_true rfl rfl rfl (by decide +kernel)) (pi_enumK (K := K) rfl (by rfl) B.b_enumerate (pa_cons (pv 0) pa_nil)) (blkOk_by (by kernel_rfl)) (by decide) (fun _ _ _ _ _ => (pg_tupK (K := K) (n := 2) rfl rfl (pgs_cons (pg_name (i := 3) sc_join_blocks.nd rfl (Or.inl rfl)) (pgs_cons (pg_name (i := 4) sc_join_blocks.nd rfl (Or.inl rfl)) pgs_nil)))) (fun _ _ _ _ _ => (pts_one (pt_cmpR (op_inK (K := K) rfl) (pv 3) (pv 1) rfl))) (fun _ _ _ _ _ => (pi_seqK (K := K) rfl (pv 4))) (fun _ _ _ _ _ => (pg_name (i := 5) sc_join_blocks.nd rfl (Or.inl rfl))) (fun _ _ _ _ _ => pts_nil) (fun _ _ _ _ _ => (pv 5))) 
  (pss_cons (ps_setLc (i := 6) (own := [("place", 3), ("block", 4)]) rfl sc_join_blocks.nd rfl rfl (sw_true rfl rfl rfl (by decide +kernel)) (pi_enumK (K := K) rfl (by rfl) B.b_enumerate (pa_cons (pv 0) pa_nil)) (blkOk_by (by kernel_rfl)) (fun _ _ _ _ _ => (pg_tupK (K := K) (n := 2) rfl rfl (pgs_cons (pg_name (i := 3) sc_join_blocks.nd rfl (Or.inl rfl)) (pgs_cons (pg_name (i := 4) sc_join_blocks.nd rfl (Or.inl rfl)) pgs_nil)))) (fun _ _ _ _ _ => (pts_one (pt_cmpR (op_niK (K := K) rfl) (pv 3) (pv 1) rfl))) (fun _ _ _ _ _ => (pv 4))) 
  (pss_one (ps_ret (C8.pe_c c_ordered hr (by first | decide | exact Nat.le_refl _) (by rfl) (pa_cons (pe_lst (pa_cons (pv 2) (pa_starK (K := K) rfl (pv 6) pa_nil))) pa_nil)))))), ?_⟩
  refine s_asg (K := K) (f := false) (d := blockD (((enumL 0 rs).filter fun p => decide (p.1 ∈ places)).flatMap (·.2))) eG (Ev.is (evl_lc2 (f := false) (b := fun p : Int × List Int => decide (p.1 ∈ places)) (ys := fun p => p.2) (b1 := fun _ _ => true) (c1 := fun _ y => .int y) (h := fun _ y => .int y) (ei_enumL (c := blockD) (ea_cons (ev_var rfl r1) ea_nil)) (fun p mp _ => hm p mp) (by rw [enumL_length]; exact p1)
    (S := fun p G1 σ' => ∃ v, Rep K none G1 (blockD p.2) v ∧ σ' = [some v1, some v2, none, some (.int p.1), some v, none, none]) (S1 := fun p y σ' G2 σ'' => σ'' = σ'.set 5 (some (.int y))) (by rintro p G1 _ ⟨v, rv, rfl⟩; rfl)
    (fun p _ G1 _ => (tg_pair tg_int (fun _ _ => tg_name)).imp (by rintro _ ⟨_, rfl, v, rv, rfl⟩; exact ⟨v, rv, rfl⟩))
    (fun p mp G1 e1 σ' hs => ?_) (fun p mp _ G1 e1 σ' hs => ?_) ?_ (fun p mp _ y my G1 e1 σ' hs G2 e2 => ?_) (fun p mp _ y my G1 e1 σ' hs G2 e2 σ'' hs2 => et_yes) (fun p mp _ y my _ G1 e1 σ' hs G2 e2 σ'' hs2 => ?_)).ev ?_) fun v3 G1 H1 g1 r3 => ?_
  · obtain ⟨v, rv, rfl⟩ := hs
    exact et_test (f := false) (ev_op (f1 := false) (ev_vi rfl) (ev_var rfl (r2.mono e1)) rv_inL)
  · obtain ⟨v, rv, rfl⟩ := hs
    exact ei_seqL (ev_var rfl rv)
  · rintro p y σ' G1 σ'' rfl
    show (σ'.set 5 _).set 5 none = σ'.set 5 none
    rw [List.set_set]
  · obtain ⟨v, rv, rfl⟩ := hs
    exact tg_int
  · obtain ⟨v, rv, rfl⟩ := hs
    subst hs2
    exact ev_vi rfl
  · unfold lc2D
    simp only [filter_tt]
    rw [blockD, List.map_flatMap]
  refine s_asg (K := K) (f := false) (d := rowsD (((enumL 0 rs).filter fun p => !decide (p.1 ∈ places)).map (·.2))) g1.sub (Ev.is (evl_lc (f := false) (b := fun p : Int × List Int => !decide (p.1 ∈ places)) (h := fun p => blockD p.2) (ei_enumL (c := blockD) (ea_cons (ev_var rfl (r1.mono g1.e)) ea_nil)) (by rw [enumL_length]; omega)
    (S := fun p G1 σ' => ∃ v, Rep K none G1 (blockD p.2) v ∧ σ' = [some v1, some v2, some v3, some (.int p.1), some v, none, none]) (by rintro p G1 _ ⟨v, rv, rfl⟩; rfl)
    (fun p _ G1 _ => (tg_pair tg_int (fun _ _ => tg_name)).imp (by rintro _ ⟨_, rfl, v, rv, rfl⟩; exact ⟨v, rv, rfl⟩))
    (fun p mp G2 e2 σ' hs => ?_) (fun p mp _ G2 e2 σ' hs => ?_)).ev (by rw [rowsD, List.map_map]; rfl)) fun v4 G2 H2 g2 r4 => ?_
  · obtain ⟨v, rv, rfl⟩ := hs
    exact et_test (f := false) (ev_op (f1 := false) (ev_vi rfl) (ev_var rfl (r2.mono (g1.e.trans e2))) rv_niL)
  · obtain ⟨v, rv, rfl⟩ := hs
    exact ev_var rfl rv
  have lj : (joinR rs places).length ≤ 51 := by
    unfold joinR
    rw [List.length_cons, List.length_map]
    have := List.length_filter_le (fun p : Int × List Int => !decide (p.1 ∈ places)) (enumL 0 rs)
    rw [enumL_length] at this
    omega
  refine s_ret (K := K) (f := true) g2.sub (ev_call (f := true) (ea_cons (Ev.is (ev_lst (f := false) (ea_cons (ev_var rfl (r3.old.mono g2.e)) (ea_starLast (ev_var rfl r4.old))) (by rw [List.length_cons, List.length_map, List.length_map]; have := lj; unfold joinR at this; rw [List.length_cons, List.length_map] at this; omega)) (show _ = rowsD (joinR rs places) from rfl)) ea_nil) (spF_use (o := fun i => rowsD (orderedR i)) (joinR rs places) (by omega))) fun v G' H' g r => q _ v G' H' rfl ((g1.trans g2).trans g) (r.h2 (g1.trans g2).ext)
/-! how many stand in rows -/
theorem sortRows_perm (rs : List (List Int)) : (sortRows rs).Perm rs := List.mergeSort_perm _ _
theorem flat_filter : ∀ rs : List (List Int), (rs.filter fun r => decide (0 < r.length)).flatten = rs.flatten
  | [] => rfl
  | [] :: rs => by rw [List.filter_cons, if_neg (by decide), flat_filter rs]; rfl
  | (x :: r) :: rs => by rw [List.filter_cons, if_pos (by simp), List.flatten_cons, List.flatten_cons, flat_filter rs]
theorem flat_sorts : ∀ rs : List (List Int), (rs.map sortInts).flatten.Perm rs.flatten
  | [] => List.Perm.refl _
  | r :: rs => by rw [List.map_cons, List.flatten_cons, List.flatten_cons]; exact (sortInts_perm r).append (flat_sorts rs)
theorem flat_ordered (rs : List (List Int)) : (orderedR rs).flatten.Perm rs.flatten := by
  unfold orderedR
  refine (List.Perm.flatten (sortRows_perm _)).trans ?_
  refine (flat_sorts _).trans ?_
  rw [flat_filter]
theorem mem_ordered {rs : List (List Int)} {r : List Int} (h : r ∈ orderedR rs) : 0 < r.length := by
  unfold orderedR at h
  obtain ⟨x, hx, rfl⟩ := List.mem_map.mp ((sortRows_perm _).mem_iff.mp h)
  rw [(sortInts_perm x).length_eq]
  exact of_decide_eq_true (List.mem_filter.mp hx).2
theorem len_flat : ∀ {rs : List (List Int)}, (∀ r ∈ rs, 0 < r.length) → rs.length ≤ rs.flatten.length
  | [], _ => Nat.le_refl _
  | r :: rs, h => by
    have := h r List.mem_cons_self
    have := len_flat fun r hr => h r (List.mem_cons_of_mem _ hr)
    rw [List.flatten_cons, List.length_append, List.length_cons]; omega
theorem row_flat : ∀ {rs : List (List Int)} {r : List Int}, r ∈ rs → r.length ≤ rs.flatten.length
  | x :: rs, r, h => by
    rw [List.flatten_cons, List.length_append]
    rcases List.mem_cons.mp h with rfl | h
    · omega
    · have := row_flat h; omega
theorem len_ordered (rs : List (List Int)) : (orderedR rs).length ≤ rs.flatten.length := by
  rw [← (flat_ordered rs).length_eq]
  exact len_flat fun r hr => mem_ordered hr
theorem filter_split {α : Type} (p : α → Bool) : ∀ xs : List α, (xs.filter p ++ xs.filter fun x => !p x).Perm xs
  | [] => List.Perm.refl _
  | x :: xs => by
    have ih := filter_split p xs
    rw [List.filter_cons, List.filter_cons]
    cases h : p x with
    | true => simp; exact ih
    | false =>
      simp
      exact List.perm_middle.trans (ih.cons x)
theorem enum_snd {α : Type} : ∀ (n : Nat) (xs : List α), (enumL n xs).map (·.2) = xs
  | _, [] => rfl
  | n, x :: xs => by
    show x :: (enumL (n + 1) xs).map (·.2) = x :: xs
    rw [enum_snd]
theorem flat_join (d : List (List Int)) (ps : List Int) : (joinR d ps).flatten.Perm d.flatten := by
  unfold joinR
  rw [List.flatten_cons, List.flatMap_def, ← List.flatten_append, ← List.map_append]
  have z := List.Perm.flatten ((filter_split (fun p : Int × List Int => decide (p.1 ∈ ps)) (enumL 0 d)).map (·.2))
  rw [enum_snd] at z
  exact z
theorem lt_nodup' {xs : List Int} (h : xs.Pairwise (· < ·)) : xs.Nodup := h.imp fun {a b} h e => by omega
theorem ext_ix' {as bs : List Int} (hl : as.length = bs.length) (h : ∀ v : Int, 0 ≤ v → v < as.length → ix as v = ix bs v) : as = bs := by
  refine List.ext_getElem? fun i => ?_
  by_cases hi : i < as.length
  · have e1 := ix_get (xs := as) (i := (i : Int)) (by omega) (by omega)
    have e2 := ix_get (xs := bs) (i := (i : Int)) (by omega) (by omega)
    have e3 : ((i : Int)).toNat = i := by omega
    rw [e3] at e1 e2
    rw [e1, e2, h i (by omega) (by omega)]
  · rw [List.getElem?_eq_none (by omega), List.getElem?_eq_none (by omega)]
/-! ### divisions by labels: the plain law -/
/-- each village's label is the first village of its class -/
structure Canon (n : Nat) (L : List Int) : Prop where
  len : L.length = n
  at0 : ∀ v : Int, 0 ≤ v → v < n → 0 ≤ ix L v ∧ ix L v ≤ v ∧ ix L (ix L v) = ix L v
def cls (L : List Int) (x : Int) : List Int := (rng 0 L.length).filter fun v => decide (ix L v = x)
def blocksOf (L : List Int) : List (List Int) := ((rng 0 L.length).filter fun x => decide (ix L x = x)).map (cls L)
theorem mem_cls {L : List Int} {x v : Int} : v ∈ cls L x ↔ (0 ≤ v ∧ v < L.length) ∧ ix L v = x := by
  unfold cls
  rw [List.mem_filter, mem_rng, decide_eq_true_iff]
  constructor
  · rintro ⟨h, e⟩; exact ⟨⟨by omega, by omega⟩, e⟩
  · rintro ⟨h, e⟩; exact ⟨⟨by omega, by omega⟩, e⟩
theorem mem_blocks {L : List Int} {r : List Int} : r ∈ blocksOf L ↔ ∃ x : Int, 0 ≤ x ∧ x < L.length ∧ ix L x = x ∧ r = cls L x := by
  unfold blocksOf
  rw [List.mem_map]
  constructor
  · rintro ⟨x, hx, rfl⟩
    rw [List.mem_filter, mem_rng, decide_eq_true_iff] at hx
    exact ⟨x, by omega, by omega, hx.2, rfl⟩
  · rintro ⟨x, h0, h1, h2, rfl⟩
    exact ⟨x, by rw [List.mem_filter, mem_rng, decide_eq_true_iff]; exact ⟨⟨by omega, by omega⟩, h2⟩, rfl⟩
theorem rng_lt (lo : Int) (n : Nat) : (rng lo n).Pairwise (· < ·) := List.pairwise_map.mpr (List.pairwise_lt_range.imp fun {a b} h => by omega)
theorem cls_lt (L : List Int) (x : Int) : (cls L x).Pairwise (· < ·) := (rng_lt _ _).filter _
theorem cls_le (L : List Int) (x : Int) : (cls L x).Pairwise (· ≤ ·) := (cls_lt L x).imp fun {a b} h => by omega
theorem cls_nodup (L : List Int) (x : Int) : (cls L x).Nodup := lt_nodup' (cls_lt L x)
theorem list_le_iff (a b : List Int) : decide (a ≤ b) = true ↔ a ≤ b := decide_eq_true_iff
theorem sortRows_sorted (rs : List (List Int)) : (sortRows rs).Pairwise (· ≤ ·) := by
  refine List.Pairwise.imp (fun h => of_decide_eq_true h) (List.pairwise_mergeSort (fun a b c h1 h2 => ?_) (fun a b => ?_) rs)
  · exact decide_eq_true (List.le_trans (of_decide_eq_true h1) (of_decide_eq_true h2))
  · rcases List.le_total a b with h | h
    · rw [decide_eq_true h]; rfl
    · rw [decide_eq_true h, Bool.or_true]
theorem sortRows_uniq {rs ss : List (List Int)} (hp : rs.Perm ss) (hs : ss.Pairwise (· ≤ ·)) : sortRows rs = ss :=
  List.Perm.eq_of_pairwise (fun _ _ _ _ a b => List.le_antisymm a b) (sortRows_sorted rs) hs ((sortRows_perm rs).trans hp)
theorem sortInts_uniq {r s : List Int} (hr : r.Nodup) (hs : s.Pairwise (· < ·)) (h : ∀ v, v ∈ r ↔ v ∈ s) : sortInts r = s :=
  sorted_uniq ((sortInts_perm r).trans ((List.perm_ext_iff_of_nodup hr (lt_nodup' hs)).mpr h)) (sortInts_sorted r) (hs.imp fun {a b} h => by omega)
section
variable {n : Nat} {L A B C : List Int}
theorem Canon.head (c : Canon n L) {x : Int} (h0 : 0 ≤ x) (h1 : x < n) (h2 : ix L x = x) : ∃ t, cls L x = x :: t := by
  have hm : x ∈ cls L x := mem_cls.mpr ⟨⟨h0, by rw [c.len]; exact h1⟩, h2⟩
  cases e : cls L x with
  | nil => rw [e] at hm; cases hm
  | cons y t =>
    have hy : y ∈ cls L x := by rw [e]; exact List.mem_cons_self
    have hy' := mem_cls.mp hy
    rw [c.len] at hy'
    have := (c.at0 y hy'.1.1 hy'.1.2).2.1
    rw [hy'.2] at this
    have hs := cls_lt L x
    rw [e] at hs hm
    rcases List.mem_cons.mp hm with z | z
    · rw [z]; exact ⟨t, rfl⟩
    · have := (List.pairwise_cons.mp hs).1 x z; omega
theorem Canon.blocks_le (c : Canon n L) : (blocksOf L).Pairwise (· ≤ ·) := by
  unfold blocksOf
  rw [List.pairwise_map]
  refine List.Pairwise.imp_of_mem ?_ ((rng_lt 0 L.length).filter _)
  intro a b ha hb hab
  rw [List.mem_filter, mem_rng, decide_eq_true_iff, c.len] at ha hb
  obtain ⟨t, ea⟩ := c.head (x := a) (by omega) (by omega) ha.2
  obtain ⟨u, eb⟩ := c.head (x := b) (by omega) (by omega) hb.2
  rw [ea, eb]
  exact List.le_of_lt (List.Lex.rel hab)
theorem Canon.blocks_nodup (c : Canon n L) : (blocksOf L).Nodup := by
  unfold blocksOf
  refine List.pairwise_map.mpr (List.Pairwise.imp_of_mem ?_ ((rng_lt 0 L.length).filter _))
  intro a b ha hb hab e
  rw [List.mem_filter, mem_rng, decide_eq_true_iff, c.len] at ha hb
  obtain ⟨t, ea⟩ := c.head (x := a) (by omega) (by omega) ha.2
  obtain ⟨u, eb⟩ := c.head (x := b) (by omega) (by omega) hb.2
  rw [ea, eb] at e
  have := (List.cons.inj e).1
  omega
/-- rows that are the classes, each once, and empty ones -/
structure ClassRows (L : List Int) (rs : List (List Int)) : Prop where
  nd : ∀ r ∈ rs, r.Nodup
  cl : ∀ r ∈ rs, r ≠ [] → ∃ x : Int, 0 ≤ x ∧ x < L.length ∧ ix L x = x ∧ ∀ v, v ∈ r ↔ v ∈ cls L x
  all : ∀ x : Int, 0 ≤ x → x < L.length → ix L x = x → ∃ r ∈ rs, x ∈ r
  dis : rs.Pairwise fun r s => ∀ v, v ∈ r → ¬ v ∈ s
theorem Canon.ordered (c : Canon n L) {rs : List (List Int)} (h : ClassRows L rs) : orderedR rs = blocksOf L := by
  unfold orderedR
  refine sortRows_uniq ?_ c.blocks_le
  have hne : ∀ r, r ∈ rs.filter (fun r => decide (0 < r.length)) → r ∈ rs ∧ r ≠ [] := fun r hr => by
    rw [List.mem_filter, decide_eq_true_iff] at hr
    exact ⟨hr.1, fun e => by rw [e] at hr; exact absurd hr.2 (by decide)⟩
  have hx : ∀ r, r ∈ rs.filter (fun r => decide (0 < r.length)) → ∃ x : Int, 0 ≤ x ∧ x < L.length ∧ ix L x = x ∧ (∀ v, v ∈ r ↔ v ∈ cls L x) ∧ sortInts r = cls L x := fun r hr => by
    obtain ⟨x, h0, h1, h2, h3⟩ := h.cl r (hne r hr).1 (hne r hr).2
    exact ⟨x, h0, h1, h2, h3, sortInts_uniq (h.nd r (hne r hr).1) (cls_lt L x) h3⟩
  refine (List.perm_ext_iff_of_nodup ?_ c.blocks_nodup).mpr fun s => ?_
  · refine List.pairwise_map.mpr (List.Pairwise.imp_of_mem ?_ (h.dis.filter _))
    intro r s hr hs hd e
    obtain ⟨x, x0, x1, x2, x3, x4⟩ := hx r hr
    obtain ⟨y, y0, y1, y2, y3, y4⟩ := hx s hs
    rw [x4, y4] at e
    have mx : x ∈ cls L x := mem_cls.mpr ⟨⟨x0, x1⟩, x2⟩
    exact hd x ((x3 x).mpr mx) ((y3 x).mpr (e ▸ mx))
  · rw [List.mem_map, mem_blocks]
    constructor
    · rintro ⟨r, hr, rfl⟩
      obtain ⟨x, x0, x1, x2, x3, x4⟩ := hx r hr
      exact ⟨x, x0, x1, x2, x4⟩
    · rintro ⟨x, x0, x1, x2, rfl⟩
      obtain ⟨r, hr, hxr⟩ := h.all x x0 x1 x2
      have hf : r ∈ rs.filter (fun r => decide (0 < r.length)) := by
        rw [List.mem_filter, decide_eq_true_iff]
        exact ⟨hr, List.length_pos_of_mem hxr⟩
      obtain ⟨y, y0, y1, y2, y3, y4⟩ := hx r hf
      have := (mem_cls.mp ((y3 x).mp hxr)).2
      have exy : y = x := by rw [← this, x2]
      subst exy
      exact ⟨r, hf, y4⟩
theorem Canon.dis (c : Canon n L) : (blocksOf L).Pairwise fun r s => ∀ v, v ∈ r → ¬ v ∈ s := by
  unfold blocksOf
  refine List.pairwise_map.mpr (List.Pairwise.imp_of_mem ?_ ((rng_lt 0 L.length).filter _))
  intro a b ha hb hab v h1 h2
  have := (mem_cls.mp h1).2
  have := (mem_cls.mp h2).2
  omega
theorem Canon.rows (c : Canon n L) : ClassRows L (blocksOf L) := ⟨fun r hr => by
    obtain ⟨x, _, _, _, rfl⟩ := mem_blocks.mp hr
    exact cls_nodup L x, fun r hr _ => by
    obtain ⟨x, h0, h1, h2, rfl⟩ := mem_blocks.mp hr
    exact ⟨x, h0, h1, h2, fun v => Iff.rfl⟩, fun x h0 h1 h2 => ⟨_, mem_blocks.mpr ⟨x, h0, h1, h2, rfl⟩, mem_cls.mpr ⟨⟨h0, h1⟩, h2⟩⟩, c.dis⟩
/-- two labellings of one relation are one -/
theorem Canon.ext (a : Canon n A) (b : Canon n B) (h : ∀ u v : Int, 0 ≤ u → u < n → 0 ≤ v → v < n → (ix A u = ix A v ↔ ix B u = ix B v)) : A = B := by
  refine ext_ix' (by rw [a.len, b.len]) fun v h0 h1 => ?_
  rw [a.len] at h1
  have ha := a.at0 v h0 h1
  have hb := b.at0 v h0 h1
  have e1 := (h (ix A v) v ha.1 (by omega) h0 h1).mp ha.2.2
  have e2 := (h (ix B v) v hb.1 (by omega) h0 h1).mpr hb.2.2
  have hA := a.at0 (ix B v) hb.1 (by omega)
  have hB := b.at0 (ix A v) ha.1 (by omega)
  omega
end
/-! ### classes are joined -/
def mergeLab (L marks : List Int) : List Int := L.map fun l => if l ∈ marks then minI marks else l
theorem ix_map' {f : Int → Int} {L : List Int} {v : Int} (h0 : 0 ≤ v) (h1 : v < L.length) : ix (L.map f) v = f (ix L v) := by
  have e := ix_get h0 h1
  unfold ix at e ⊢
  rw [List.getD_eq_getElem?_getD, List.getElem?_map, e]; rfl
section
variable {n : Nat} {L A B C : List Int}
theorem ix_merge {marks : List Int} {v : Int} (h0 : 0 ≤ v) (h1 : v < L.length) : ix (mergeLab L marks) v = if ix L v ∈ marks then minI marks else ix L v := ix_map' h0 h1
theorem Canon.merge (c : Canon n L) {marks : List Int} (hm : 0 < marks.length) (hf : ∀ m ∈ marks, 0 ≤ m ∧ m < n ∧ ix L m = m) : Canon n (mergeLab L marks) := by
  have sp := minI_spec hm
  have sf := hf _ sp.1
  refine ⟨by unfold mergeLab; rw [List.length_map, c.len], fun v h0 h1 => ?_⟩
  have hv := c.at0 v h0 h1
  rw [ix_merge h0 (by rw [c.len]; exact h1)]
  by_cases h : ix L v ∈ marks
  · rw [if_pos h]
    have := sp.2 _ h
    refine ⟨sf.1, by omega, ?_⟩
    rw [ix_merge sf.1 (by rw [c.len]; exact sf.2.1), sf.2.2, if_pos sp.1]
  · rw [if_neg h]
    refine ⟨hv.1, hv.2.1, ?_⟩
    rw [ix_merge hv.1 (by rw [c.len]; omega), hv.2.2, if_neg h]
/-- which blocks are hit -/
def hit (stops r : List Int) : Bool := stops.any fun s => decide (s ∈ r)
theorem enum_idx {α : Type} {xs : List α} {p q : Int × α} (hp : p ∈ enumL 0 xs) (hq : q ∈ enumL 0 xs) (e : p.1 = q.1) : p = q := by
  obtain ⟨i, hi, ei⟩ := mem_enumL hp
  obtain ⟨j, hj, ej⟩ := mem_enumL hq
  have eij : i = j := by omega
  subst eij
  rw [hi] at hj
  exact Prod.ext e (Option.some.inj hj)
theorem mem_touched {rs : List (List Int)} {stops : List Int} {p : Int × List Int} (hp : p ∈ enumL 0 rs) : decide (p.1 ∈ touched rs stops) = hit stops p.2 := by
  have : p.1 ∈ touched rs stops ↔ hit stops p.2 = true := by
    unfold touched
    rw [List.mem_map]
    constructor
    · rintro ⟨q, hq, e⟩
      rw [List.mem_filter] at hq
      have := enum_idx hq.1 hp e
      subst this
      exact hq.2
    · intro h
      exact ⟨p, List.mem_filter.mpr ⟨hp, h⟩, rfl⟩
  rw [Bool.eq_iff_iff, decide_eq_true_iff]
  exact this
theorem joinR_touched (rs : List (List Int)) (stops : List Int) : joinR rs (touched rs stops) = (rs.filter (hit stops)).flatten :: rs.filter fun r => !hit stops r := by
  unfold joinR
  have e1 : (enumL 0 rs).filter (fun p => decide (p.1 ∈ touched rs stops)) = (enumL 0 rs).filter (fun p => hit stops p.2) := List.filter_congr fun p hp => mem_touched hp
  have e2 : (enumL 0 rs).filter (fun p => !decide (p.1 ∈ touched rs stops)) = (enumL 0 rs).filter (fun p => !hit stops p.2) := List.filter_congr fun p hp => by rw [mem_touched hp]
  have e3 : ∀ (f : List Int → Bool), ((enumL 0 rs).filter fun p => f p.2).map (·.2) = rs.filter f := fun f => by
    conv => rhs; rw [← enum_snd 0 rs]
    rw [List.filter_map]; rfl
  rw [e1, e2, e3 (fun r => !hit stops r), List.flatMap_def, e3 (hit stops)]
theorem hit_cls {stops : List Int} {x : Int} (hs : ∀ s ∈ stops, 0 ≤ s ∧ s < L.length) : hit stops (cls L x) = decide (x ∈ stops.map (ix L)) := by
  rw [Bool.eq_iff_iff, decide_eq_true_iff]
  unfold hit
  rw [List.any_eq_true, List.mem_map]
  constructor
  · rintro ⟨s, ms, h⟩
    exact ⟨s, ms, (mem_cls.mp (of_decide_eq_true h)).2⟩
  · rintro ⟨s, ms, e⟩
    exact ⟨s, ms, decide_eq_true (mem_cls.mpr ⟨hs s ms, e⟩)⟩
theorem Canon.join (c : Canon n L) {stops : List Int} (h0 : 0 < stops.length) (hs : ∀ s ∈ stops, 0 ≤ s ∧ s < n) : orderedR (joinR (blocksOf L) (touched (blocksOf L) stops)) = blocksOf (mergeLab L (stops.map (ix L))) := by
  have hs' : ∀ s ∈ stops, 0 ≤ s ∧ s < (L.length : Int) := fun s m => by rw [c.len]; exact hs s m
  have hm0 : 0 < (stops.map (ix L)).length := by rw [List.length_map]; exact h0
  have hmf : ∀ m ∈ stops.map (ix L), 0 ≤ m ∧ m < n ∧ ix L m = m := fun m hm => by
    obtain ⟨s, ms, rfl⟩ := List.mem_map.mp hm
    have := c.at0 s (hs s ms).1 (hs s ms).2
    have := hs s ms
    exact ⟨by omega, by omega, by omega⟩
  have c' := c.merge hm0 hmf
  have sp := minI_spec hm0
  have sf := hmf _ sp.1
  generalize hM : stops.map (ix L) = marks at *
  rw [joinR_touched]
  refine c'.ordered ?_
  have ll : (mergeLab L marks).length = L.length := by unfold mergeLab; rw [List.length_map]
  -- who stands in the joined one
  have mj : ∀ v, v ∈ ((blocksOf L).filter (hit stops)).flatten ↔ v ∈ cls (mergeLab L marks) (minI marks) := fun v => by
    rw [List.mem_flatten, mem_cls, ll]
    constructor
    · rintro ⟨r, hr, hv⟩
      obtain ⟨hb, hh⟩ := List.mem_filter.mp hr
      obtain ⟨x, x0, x1, x2, rfl⟩ := mem_blocks.mp hb
      rw [hit_cls hs', hM] at hh
      have hv' := mem_cls.mp hv
      refine ⟨hv'.1, ?_⟩
      rw [ix_merge hv'.1.1 hv'.1.2, hv'.2, if_pos (of_decide_eq_true hh)]
    · rintro ⟨hr, e⟩
      rw [ix_merge hr.1 hr.2] at e
      have hv := c.at0 v hr.1 (by rw [← c.len]; exact hr.2)
      have hin : ix L v ∈ marks := by
        by_cases h : ix L v ∈ marks
        · exact h
        · rw [if_neg h] at e; rw [e] at h; exact absurd sp.1 h
      refine ⟨cls L (ix L v), List.mem_filter.mpr ⟨mem_blocks.mpr ⟨_, hv.1, by omega, hv.2.2, rfl⟩, ?_⟩, mem_cls.mpr ⟨hr, rfl⟩⟩
      rw [hit_cls hs', hM]; exact decide_eq_true hin
  have mr : ∀ r, r ∈ (blocksOf L).filter (fun r => !hit stops r) → ∃ x : Int, 0 ≤ x ∧ x < L.length ∧ ix L x = x ∧ x ∉ marks ∧ r = cls L x ∧ ∀ v, v ∈ r ↔ v ∈ cls (mergeLab L marks) x := fun r hr => by
    obtain ⟨hb, hh⟩ := List.mem_filter.mp hr
    obtain ⟨x, x0, x1, x2, rfl⟩ := mem_blocks.mp hb
    rw [hit_cls hs', hM] at hh
    have hx : x ∉ marks := fun h => by rw [decide_eq_true h] at hh; cases hh
    refine ⟨x, x0, x1, x2, hx, rfl, fun v => ?_⟩
    rw [mem_cls, mem_cls, ll]
    constructor
    · rintro ⟨hv, e⟩
      exact ⟨hv, by rw [ix_merge hv.1 hv.2, e, if_neg hx]⟩
    · rintro ⟨hv, e⟩
      refine ⟨hv, ?_⟩
      rw [ix_merge hv.1 hv.2] at e
      by_cases h : ix L v ∈ marks
      · rw [if_pos h] at e; exact absurd (e ▸ sp.1) hx
      · rw [if_neg h] at e; exact e
  refine ⟨fun r hr => ?_, fun r hr hne => ?_, fun x x0 x1 x2 => ?_, List.pairwise_cons.mpr ⟨fun s hs2 v h1 h2 => ?_, c.dis.filter _⟩⟩
  · rcases List.mem_cons.mp hr with rfl | hr
    · refine List.pairwise_flatten.mpr ⟨fun r hr => ?_, ?_⟩
      · obtain ⟨x, _, _, _, rfl⟩ := mem_blocks.mp (List.mem_filter.mp hr).1
        exact cls_nodup L x
      · exact (c.dis.filter _).imp fun {a b} h v h1 w h2 (e : v = w) => h v h1 (e ▸ h2)
    · obtain ⟨x, _, _, _, _, rfl, _⟩ := mr r hr
      exact cls_nodup L x
  · rcases List.mem_cons.mp hr with rfl | hr
    · refine ⟨minI marks, sf.1, by rw [ll, c.len]; exact sf.2.1, ?_, mj⟩
      rw [ix_merge sf.1 (by rw [c.len]; exact sf.2.1), sf.2.2, if_pos sp.1]
    · obtain ⟨x, x0, x1, x2, hx, _, hv⟩ := mr r hr
      exact ⟨x, x0, by rw [ll]; exact x1, by rw [ix_merge x0 x1, x2, if_neg hx], hv⟩
  · rw [ll] at x1
    rw [ix_merge x0 x1] at x2
    by_cases h : ix L x ∈ marks
    · rw [if_pos h] at x2
      refine ⟨_, List.mem_cons_self, (mj x).mpr (mem_cls.mpr ⟨⟨x0, by rw [ll]; exact x1⟩, ?_⟩)⟩
      rw [ix_merge x0 x1, if_pos h, x2]
    · rw [if_neg h] at x2
      refine ⟨cls L x, List.mem_cons_of_mem _ (List.mem_filter.mpr ⟨mem_blocks.mpr ⟨x, x0, x1, x2, rfl⟩, ?_⟩), mem_cls.mpr ⟨⟨x0, x1⟩, x2⟩⟩
      rw [hit_cls hs', hM, decide_eq_false (by rw [x2] at h; exact h)]; rfl
  · obtain ⟨x, x0, x1, x2, hx, _, hv⟩ := mr s hs2
    have e1 := (mem_cls.mp ((mj v).mp h1)).2
    have e2 := (mem_cls.mp ((hv v).mp h2)).2
    rw [e1] at e2
    exact hx (e2 ▸ sp.1)
end
def singlesR (n : Int) : List (List Int) := (rng 0 n.toNat).map fun v => [v]
abbrev sp_singles (K : Fr) : Sp := spF K true (fun i : Int => [.int i]) (fun i => 0 ≤ i ∧ i ≤ 1000) (fun i d => d = rowsD (singlesR i))
theorem ok_singles {P : Program} {w : World} {K : Fr} {mg : Str → Option Value} {base : Heap} {fa : Addr} {fd : FuncData} (F : L2.Fun K "singles" "singles" s_singles fa fd) (B : Bt mg) : FnOk P w K mg base CX0 1 fa fd ["villages"] (sp_singles K) := by
  refine okF F sc_singles (fun _ => rfl) fun cdv A outer s H vs Q E hr n G eG rr pre q => ?_
  obtain ⟨v1, rfl, r1⟩ := rr.one
  cases r1
  obtain ⟨h0, h1⟩ := pre
  refine ⟨_, (pss_one (ps_ret (pe_lc (own := [("village", 1)]) rfl sc_singles.nd (pi_range1 (by rfl) B.b_range (pa_cons (pv 0) pa_nil)) (blkOk_by (by kernel_rfl)) (fun _ _ _ _ _ => (pg_name (i := 1) sc_singles.nd rfl (Or.inl rfl))) (fun _ _ _ _ _ => pts_nil) (fun _ _ _ _ _ => (pe_lst (pa_cons (pv 1) pa_nil)))))), ?_⟩
  refine s_ret (K := K) (f := true) eG (Ev.is (evl_lc0 (f := true) (h := fun v => blockD [v]) (ei_rng1 (n := n) (ea_cons (ev_vi rfl) ea_nil) (by omega) (by omega)) (by rw [rng_length]; omega) (S := fun x G1 σ' => σ' = [some (.int n), some (.int x)]) (by rintro x G1 σ' rfl; rfl) (fun x _ G1 _ => tg_int)
    (fun x mx G1 e1 σ' hs => by subst hs; exact ev_lst (ea_cons (ev_vi rfl) ea_nil) (Nat.le_of_ble_eq_true rfl))).ev (by unfold singlesR; rw [rowsD, List.map_map]; rfl)) fun v G' H' g r => q _ v G' H' rfl g r
def placeD (rs : List (List Int)) (v : Int) : D := match (enumL 0 rs).find? fun p => decide (v ∈ p.2) with
  | some p => .int p.1
  | none => .non
theorem find_none {α : Type} {f : α → Bool} {xs : List α} {i : Nat} (h : ∀ x ∈ xs.take i, f x = false) (hi : i = xs.length) : xs.find? f = none := by
  subst hi
  rw [List.take_length] at h
  exact List.find?_eq_none.mpr fun x hx => by rw [h x hx]; decide
theorem find_at {α : Type} {f : α → Bool} : ∀ {xs : List α} {i : Nat} {x : α}, xs[i]? = some x → f x = true → (∀ y ∈ xs.take i, f y = false) → xs.find? f = some x
  | [], _, _, h, _, _ => by simp at h
  | y :: ys, 0, x, h, hf, _ => by
    simp at h; subst h
    rw [List.find?_cons, hf]
  | y :: ys, i + 1, x, h, hf, hn => by
    rw [List.find?_cons, hn y (by simp)]
    exact find_at (xs := ys) (i := i) (by simpa using h) hf fun z hz => hn z (by rw [List.take_succ_cons]; exact List.mem_cons_of_mem _ hz)
abbrev sp_place_of (K : Fr) : Sp := spF K true (fun i : List (List Int) × Int => [rowsD i.1, .int i.2]) (fun i => i.1.length ≤ 50000) (fun i d => d = placeD i.1 i.2)
theorem ok_place_of {P : Program} {w : World} {K : Fr} {mg : Str → Option Value} {base : Heap} {fa : Addr} {fd : FuncData} (F : L2.Fun K "place_of" "place_of" s_place_of fa fd) (B : Bt mg) : FnOk P w K mg base CX0 1 fa fd ["division", "village"] (sp_place_of K) := by
  refine okF F sc_place_of (fun _ => rfl) fun cdv A outer s H vs Q E hr i G eG rr pre q => ?_
  obtain ⟨rs, x⟩ := i
  dsimp only at rr pre q
  obtain ⟨v1, v2, rfl, r1, r2⟩ := rr.two
  cases r2
  refine ⟨_, (pss_cons (ps_for PassesOwn.never rfl (pi_enumK (K := K) rfl (by rfl) B.b_enumerate (pa_cons (pv 0) pa_nil)) (pg_tupK (K := K) (n := 2) rfl rfl (pgs_cons (pg_name (i := 2) sc_place_of.nd rfl (Or.inl rfl)) (pgs_cons (pg_name (i := 3) sc_place_of.nd rfl (Or.inl rfl)) pgs_nil))) (pss_one (ps_if (pt_cmpR (op_inK (K := K) rfl) (pv 1) (pv 3) rfl) (pss_one (ps_ret (pv 2))) pss_nil))) 
  (pss_one (ps_ret pe_non))), ?_⟩
  refine s_for (K := K) (xs := enumL 0 rs) (c := fun p => .tup [.int p.1, blockD p.2]) (S := fun p σ1 G2 σ' => ∃ v, Rep K none G2 (blockD p.2) v ∧ σ' = (σ1.set 2 (some (.int p.1))).set 3 (some v)) (Grow.refl eG) (ei_enumL (c := blockD) (ea_cons (ev_var rfl r1) ea_nil))
    (fun i σ1 G1 H1 => ∃ y z, σ1 = [some v1, some (.int x), y, z] ∧ ∀ p ∈ (enumL 0 rs).take i, decide (x ∈ p.2) = false) ?_ ?_ ?_ ?_
  · intro G' H' g
    exact ⟨none, none, rfl, fun p hp => by simp at hp⟩
  · rintro a _ i σ1 G2 H2 G3 ⟨y, z, rfl, _⟩ _
    exact (tg_pair tg_int (fun _ _ => tg_name)).imp (by rintro _ ⟨_, rfl, v, rv, rfl⟩; exact ⟨v, rv, rfl⟩)
  · rintro i a σ1 G2 H2 G3 H3 σ2 ha e2 g2 ⟨y, z, rfl, hn⟩ g3 ⟨v, rv, rfl⟩ N hN
    refine s_if (K := K) (x := decide (x ∈ a.2)) g3.sub (et_test (f := false) (ev_op (f1 := false) (ev_vi rfl) (ev_var rfl rv) rv_inL)) (fun hx G4 H4 g4 => ?_) (fun hx G4 H4 g4 => ?_)
    · refine s_ret (K := K) (f := true) (d := .int a.1) g4.sub (ev_vi rfl) fun v G' H' g r => q _ v G' H' ?_ (((g2.trans g3).trans g4).trans g) (r.h2 ((g2.trans g3).trans g4).ext)
      unfold placeD
      rw [find_at ha hx hn]
    · refine hN _ G4 H4 (g3.e.trans g4.e) ((g2.trans g3).trans g4) ⟨_, _, rfl, fun p hp => ?_⟩
      rw [take_next ha] at hp
      rcases List.mem_append.mp hp with h | h
      · exact hn p h
      · rw [List.mem_singleton.mp h]; exact hx
  · rintro σ1 G2 H2 e2 g2 ⟨y, z, rfl, hn⟩
    dsimp only
    refine s_ret (K := K) (f := true) g2.sub ev_non ?_
    exact fun v G' H' g r => q _ v G' H' (by unfold placeD; rw [find_none hn rfl]) (g2.trans g) (r.h2 g2.ext)
theorem ok_draw_in {P : Program} {w : World} {K : Fr} {mg : Str → Option Value} {base : Heap} {fa : Addr} {fd : FuncData} (F : L2.Fun K "_law_draw" "_law_draw" s_law_draw fa fd) (B : Bt mg) : FnOk P w K mg base CX0 1 fa fd ["pool", "many"] spDrawIn := by
  refine F.ok sc_law_draw (fun vs H Q E h => ?_) (fun cdv A outer s H vs Q E hr h => ?_)
  · obtain ⟨p, c, ns, many, i1, i2, i3, i4, rfl, _⟩ := h
    rfl
  obtain ⟨p, c, ns, many, i1, i2, i3, i4, rfl, hpc, hp, hc, hns, hm, hm2, a1, a2, a3, a4, q⟩ := h
  -- the states
  let St : Int → Int → Int → Int → Hp → Prop := fun j1 j2 j3 j4 H' => H' p = some (.lst (poolVs c j1 j2 j3 j4)) ∧ Ex (fun a => if a = p then none else H a) H'
  let Gp : Int → Int → Int → Int → Hp := fun j1 j2 j3 j4 => upd (fun a => if a = c then some (.lst (ns.map V.int)) else none) p (.lst (poolVs c j1 j2 j3 j4))
  have GE : ∀ {j1 j2 j3 j4 : Int} {H' : Hp}, St j1 j2 j3 j4 H' → Ex (Gp j1 j2 j3 j4) H' := fun {j1 j2 j3 j4 H'} st a o e => by
    by_cases ha : a = p
    · subst ha; rw [show Gp j1 j2 j3 j4 a = some (.lst (poolVs c j1 j2 j3 j4)) from upd_same] at e; cases e; exact st.1
    · have e' : (if a = c then some (HO.lst (ns.map V.int)) else none) = some o := by
        have z : Gp j1 j2 j3 j4 a = (if a = c then some (HO.lst (ns.map V.int)) else none) := upd_ne ha
        rw [← z]; exact e
      by_cases hac : a = c
      · rw [if_pos hac] at e'; cases e'
        exact st.2 a _ (by show (if a = p then none else H a) = _; rw [if_neg ha, hac]; exact hc)
      · rw [if_neg hac] at e'; cases e'
  have SG : ∀ {j1 j2 j3 j4 : Int} {H' H'' : Hp}, St j1 j2 j3 j4 H' → Ex H' H'' → St j1 j2 j3 j4 H'' := fun st e => ⟨e _ _ st.1, st.2.trans e⟩
  have RP : ∀ (j1 j2 j3 j4 : Int), Rep K none (Gp j1 j2 j3 j4) (.lst [.lst (ns.map .int), .int j1, .int j2, .int j3, .int j4]) (.ref p) := fun j1 j2 j3 j4 =>
    .lst trivial upd_same (.cons (.lst trivial (by show upd _ p _ c = _; rw [upd_ne hpc.symm]; exact if_pos rfl) (RepA.ofInts ns)) (.cons (.int _) (.cons (.int _) (.cons (.int _) (.cons (.int _) .nil)))))
  have I1 : ∀ {f : Bool} {σ : L2.St} {j1 j2 j3 j4 : Int}, σ[0]? = some (some (.ref p)) → Ev K f (tOp (rIx K) (tVar 0) (tC (.int 1))) σ (Gp j1 j2 j3 j4) (.int j1) := fun h => (ev_op (ev_var h (RP _ _ _ _)) ev_int (v_ixL rfl)).sc rfl
  have I2 : ∀ {f : Bool} {σ : L2.St} {j1 j2 j3 j4 : Int}, σ[0]? = some (some (.ref p)) → Ev K f (tOp (rIx K) (tVar 0) (tC (.int 2))) σ (Gp j1 j2 j3 j4) (.int j2) := fun h => (ev_op (ev_var h (RP _ _ _ _)) ev_int (v_ixL rfl)).sc rfl
  have I3 : ∀ {f : Bool} {σ : L2.St} {j1 j2 j3 j4 : Int}, σ[0]? = some (some (.ref p)) → Ev K f (tOp (rIx K) (tVar 0) (tC (.int 3))) σ (Gp j1 j2 j3 j4) (.int j3) := fun h => (ev_op (ev_var h (RP _ _ _ _)) ev_int (v_ixL rfl)).sc rfl
  have I4 : ∀ {f : Bool} {σ : L2.St} {j1 j2 j3 j4 : Int}, σ[0]? = some (some (.ref p)) → Ev K f (tOp (rIx K) (tVar 0) (tC (.int 4))) σ (Gp j1 j2 j3 j4) (.int j4) := fun h => (ev_op (ev_var h (RP _ _ _ _)) ev_int (v_ixL rfl)).sc rfl
  have I0 : ∀ {σ : L2.St} {j1 j2 j3 j4 : Int}, σ[0]? = some (some (.ref p)) → Ev K false (tOp (rIx K) (tVar 0) (tC (.int 0))) σ (Gp j1 j2 j3 j4) (.lst (ns.map .int)) := fun h => ev_op (ev_var h (RP _ _ _ _)) ev_int (v_ixL rfl)
  have T18 : ∀ {f : Bool} {σ : L2.St} {G : Hp}, Ev K f (tOp (rI CPow fun i j => .int (i ^ j.toNat)) (tC (.int 10)) (tC (.int 18))) σ G (.int (10 ^ 18)) := ev_op (f1 := false) ev_int ev_int (vp_int ⟨by decide, by decide, by decide⟩)
  have ST : ∀ {j1 j2 j3 j4 k1 k2 k3 k4 : Int} {H' : Hp} {vs : List V}, St j1 j2 j3 j4 H' → vs = poolVs c k1 k2 k3 k4 → St k1 k2 k3 k4 (upd H' p (.lst vs)) := fun {j1 j2 j3 j4 k1 k2 k3 k4 H' vs} st e => ⟨by rw [upd_same, e], st.2.mut (if_pos rfl)⟩
  have s0 : St i1 i2 i3 i4 H := ⟨hp, fun a o e => by
    have e' : (if a = p then none else H a) = some o := e
    by_cases ha : a = p
    · rw [if_pos ha] at e'; cases e'
    · rw [if_neg ha] at e'; exact e'⟩
  refine ⟨_, (pss_cons (ps_asg (pe_op (op_addUK (K := K) rfl) (pe_ix (ix_seqK (K := K) rfl) (pv 0) pe_int (fun _ _ => rfl)) pe_int) (pg_sub (pv 0) pe_int set_list)) 
  (pss_cons (ps_set (i := 2) sc_law_draw.nd rfl (Or.inl rfl) (pe_ix (ix_seqK (K := K) rfl) (pv 0) pe_int (fun _ _ => rfl))) 
  (C8.pss_cut (ps_if (PW.pt (pw_and (pt_cmpR op_lt (pe_ix (ix_seqK (K := K) rfl) (pv 0) pe_int (fun _ _ => rfl)) pe_int (nomark _)) (pw_and1 (pt_cmpR op_lt (pe_ix (ix_seqK (K := K) rfl) (pv 0) pe_int (fun _ _ => rfl)) (pe_callB (cl_lenK (K := K) rfl) (by rfl) B.b_len bt_len (pa_cons (pe_ix (ix_seqK (K := K) rfl) (pv 0) pe_int (fun _ _ => rfl)) pa_nil)) (nomark _))))) (pss_cons (ps_set (i := 2) sc_law_draw.nd rfl (Or.inl rfl) (pe_ix (ix_seqK (K := K) rfl) (pe_ix (ix_seqK (K := K) rfl) (pv 0) pe_int (fun _ _ => rfl)) (pe_ix (ix_seqK (K := K) rfl) (pv 0) pe_int (fun _ _ => rfl)) (fun _ _ => rfl))) 
  (pss_cons (ps_asg (pe_op (op_addUK (K := K) rfl) (pe_ix (ix_seqK (K := K) rfl) (pv 0) pe_int (fun _ _ => rfl)) pe_int) (pg_sub (pv 0) pe_int set_list)) 
  (pss_one (ps_if (pt_cmpR op_ge (pv 2) (pe_op op_pow pe_int pe_int) (nomark _)) (pss_one (ps_asg (pe_op op_sub (pv 2) (pe_op op_pow pe_int pe_int)) (pg_sub (pv 0) pe_int set_list))) pss_nil)))) pss_nil) 
  (pss_cons (ps_if (PW.pt (pw_or (pt_cmpR op_gt (pe_ix (ix_seqK (K := K) rfl) (pv 0) pe_int (fun _ _ => rfl)) pe_int (nomark _)) (pw_or1 (pt_cmpR op_ge (pv 2) (pe_op op_pow pe_int pe_int) (nomark _))))) (pss_cons (ps_set (i := 3) sc_law_draw.nd rfl (Or.inl rfl) (pe_op op_modN (pe_callTy cl_int (by rfl) B.b_int bt_int (pa_cons (pe_ix (ix_seqK (K := K) rfl) (pv 0) pe_int (fun _ _ => rfl)) pa_nil)) (pv 1))) 
  (pss_cons (ps_asg (pe_op op_fdivW (pe_ix (ix_seqK (K := K) rfl) (pv 0) pe_int (fun _ _ => rfl)) (pv 1)) (pg_sub (pv 0) pe_int set_list)) 
  (pss_one (ps_ret (pv 3))))) pss_nil) 
  (pss_cons (ps_set (i := 4) sc_law_draw.nd rfl (Or.inl rfl) (pe_op op_modN (pe_callTy cl_int (by rfl) B.b_int bt_int (pa_cons (pe_op (op_addUK (K := K) rfl) (pe_op (op_addUK (K := K) rfl) (pe_op op_mulU (pv 2) pe_int) (pe_op op_mulU (pe_ix (ix_seqK (K := K) rfl) (pv 0) pe_int (fun _ _ => rfl)) pe_int)) pe_int) pa_nil)) pe_int)) 
  (pss_cons (ps_set (i := 4) sc_law_draw.nd rfl (Or.inl rfl) (pe_op op_modN (pe_callTy cl_int (by rfl) B.b_int bt_int (pa_cons (pe_op (op_addUK (K := K) rfl) (pe_op (op_addUK (K := K) rfl) (pe_op op_mulU (pv 4) (pv 4)) (pe_op op_mulU (pe_ix (ix_seqK (K := K) rfl) (pv 0) pe_int (fun _ _ => rfl)) pe_int)) pe_int) pa_nil)) pe_int)) 
  (pss_cons (ps_set (i := 4) sc_law_draw.nd rfl (Or.inl rfl) (pe_op op_modN (pe_callTy cl_int (by rfl) B.b_int bt_int (pa_cons (pe_op (op_addUK (K := K) rfl) (pe_op (op_addUK (K := K) rfl) (pe_op op_mulU (pv 4) (pv 4)) (pv 2)) pe_int) pa_nil)) pe_int)) 
  (pss_one (ps_ret (pe_op op_modN (pe_callTy cl_int (by rfl) B.b_int bt_int (pa_cons (pe_op op_fdivW (pv 4) pe_int) pa_nil)) (pv 1))))))))))), ?_⟩
  -- pool[3] = pool[3] + 1
  refine (ev_op (K := K) (f1 := false) (f := false) (I3 rfl) ev_int va_int) H (GE s0) _ fun v G1 H1 g1 r1 => ?_
  cases r1
  have s1 := SG s0 g1.ext
  refine ⟨.ref p, rfl, p, _, 3, 3, rfl, rfl, s1.1, rfl, ?_⟩
  have s2 : St i1 i2 (i3 + 1) i4 (upd H1 p (.lst ((poolVs c i1 i2 i3 i4).set 3 (.int (i3 + 1))))) := ST s1 rfl
  generalize upd H1 p (.lst ((poolVs c i1 i2 i3 i4).set 3 (.int (i3 + 1)))) = H2 at s2
  -- base = pool[4]
  refine (I4 (f := false) rfl) H2 (GE s2) _ fun v G3 H3 g3 r3 => ?_
  cases r3
  have s3 := SG s2 g3.ext
  refine ⟨fun σ H' => ∃ b j1 j2 j3 j4, σ = [some (.ref p), some (.int many), some (.int b), none, none] ∧ 0 ≤ j1 ∧ 0 ≤ j2 ∧ 0 ≤ j3 ∧ 0 ≤ j4 ∧ St j1 j2 j3 j4 H', ?_, ?_⟩
  · -- if pool[2] < 2 and pool[1] < len(pool[0])
    refine s_if (K := K) (x := decide (i2 < 2) && decide (i1 < (ns.length : Int))) (GE s3) (et_and (et_test (f := false) (ev_op (f1 := false) (I2 rfl) ev_int v_lt)) fun _ => et_test (f := false) (ev_op (f1 := false) (I1 rfl) (Ev.is (ev_cb (ea_cons (I0 rfl) ea_nil) c_lenL) (by rw [List.length_map])) v_lt)) (fun hx G4 H4 g4 => ?_) (fun hx G4 H4 g4 => ?_)
    · have s4 := SG s3 g4.ext
      rw [Bool.and_eq_true] at hx
      have hlt := of_decide_eq_true hx.2
      -- base = pool[0][pool[1]]
      refine (ev_op (K := K) (f1 := false) (f := false) (I0 rfl) (I1 rfl) (v_ixL (at_int a1 hlt))) H4 (GE s4) _ fun v G5 H5 g5 r5 => ?_
      cases r5
      have s5 := SG s4 g5.ext
      -- pool[1] = pool[1] + 1
      refine (ev_op (K := K) (f1 := false) (f := false) (I1 rfl) ev_int va_int) H5 (GE s5) _ fun v G6 H6 g6 r6 => ?_
      cases r6
      have s6 := SG s5 g6.ext
      refine ⟨.ref p, rfl, p, _, 1, 1, rfl, rfl, s6.1, rfl, ?_⟩
      have s7 : St (i1 + 1) i2 (i3 + 1) i4 (upd H6 p (.lst ((poolVs c i1 i2 (i3 + 1) i4).set 1 (.int (i1 + 1))))) := ST s6 rfl
      generalize upd H6 p (.lst ((poolVs c i1 i2 (i3 + 1) i4).set 1 (.int (i1 + 1)))) = H7 at s7
      -- if base >= 10 ** 18: pool[2] = base - 10 ** 18
      refine s_if (K := K) (x := decide ((10 : Int) ^ 18 ≤ ix ns i1)) (GE s7) (et_test (f := false) (ev_op (f1 := false) (ev_vi rfl) T18 v_ge)) (fun hy G8 H8 g8 => ?_) (fun hy G8 H8 g8 => ?_)
      · have s8 := SG s7 g8.ext
        have hge := of_decide_eq_true hy
        refine (ev_op (K := K) (f1 := false) (f := false) (ev_vi rfl) T18 vs_int) H8 (GE s8) _ fun v G9 H9 g9 r9 => ?_
        cases r9
        have s9 := SG s8 g9.ext
        refine ⟨.ref p, rfl, p, _, 2, 2, rfl, rfl, s9.1, rfl, ?_⟩
        exact ⟨_, _, _, _, _, rfl, by omega, by omega, by omega, a4, ST s9 rfl⟩
      · exact ⟨_, _, _, _, _, rfl, by omega, a2, by omega, a4, SG s7 g8.ext⟩
    · exact ⟨_, _, _, _, _, rfl, a1, a2, by omega, a4, SG s3 g4.ext⟩
  rintro σ' H4 ⟨b, j1, j2, j3, j4, rfl, b1, b2, b3, b4, s4⟩
  refine s_ifc (K := K) (x := decide (1 < j2) || decide ((10 : Int) ^ 18 ≤ b)) (GE s4) (et_or (et_test (f := false) (ev_op (f1 := false) (I2 rfl) ev_int v_gt)) fun _ => et_test (f := false) (ev_op (f1 := false) (ev_vi rfl) T18 v_ge)) (fun hx G5 H5 g5 => ?_) (fun hx G5 H5 g5 => ?_)
  · have s5 := SG s4 g5.ext
    -- digit = int(pool[2]) % many
    refine (ev_op (K := K) (f1 := false) (f := false) (ev_cb (ea_cons (I2 rfl) ea_nil) c_int) (ev_vi rfl) (vo_int hm)) H5 (GE s5) _ fun v G6 H6 g6 r6 => ?_
    cases r6
    have s6 := SG s5 g6.ext
    -- pool[2] = pool[2] // many
    refine (ev_op (K := K) (f1 := false) (f := false) (I2 rfl) (ev_vi rfl) (vd_int (wide_div hm (b := 200) (by omega) (by decide) (by decide)))) H6 (GE s6) _ fun v G7 H7 g7 r7 => ?_
    cases r7
    have s7 := SG s6 g7.ext
    refine ⟨.ref p, rfl, p, _, 2, 2, rfl, rfl, s7.1, rfl, ?_⟩
    have s8 : St j1 (j2 / many) j3 j4 (upd H7 p (.lst ((poolVs c j1 j2 j3 j4).set 2 (.int (j2 / many))))) := ST s7 rfl
    refine s_retP (v := .int (j2 % many)) rfl ?_
    exact q _ _ _ _ _ _ (Int.emod_nonneg _ (by omega)) (Int.emod_lt_of_pos _ hm) b1 (Int.ediv_nonneg b2 (by omega)) b3 b4 s8.1 s8.2
  · have s5 := SG s4 g5.ext
    -- mixed
    refine (ev_op (K := K) (f1 := false) (f := false) (ev_cb (ea_cons (ev_op (f1 := false) (ev_op (f1 := false) (ev_op (f1 := false) (ev_vi rfl) ev_int (vm_int (.inr (by constructor <;> decide)))) (ev_op (f1 := false) (I3 rfl) ev_int (vm_int (.inr (by constructor <;> decide)))) va_int) ev_int va_int) ea_nil) c_int) ev_int (vo_int (by decide))) H5 (GE s5) _ fun v G6 H6 g6 r6 => ?_
    have e6 := r6.int_inv
    subst e6
    have s6 := SG s5 g6.ext
    generalize hm1 : (b * 48271 + j3 * 69621 + 12345) % 2147483647 = m1 at *
    have l1 : 0 ≤ m1 ∧ m1 < 2147483647 := by rw [← hm1]; exact ⟨Int.emod_nonneg _ (by decide), Int.emod_lt_of_pos _ (by decide)⟩
    refine (ev_op (K := K) (f1 := false) (f := false) (ev_cb (ea_cons (ev_op (f1 := false) (ev_op (f1 := false) (ev_op (f1 := false) (ev_vi rfl) (ev_vi rfl) (vm_int (i := m1) (j := m1) (.inl ⟨by omega, by omega⟩))) (ev_op (f1 := false) (I3 rfl) ev_int (vm_int (.inr (by constructor <;> decide)))) va_int) ev_int va_int) ea_nil) c_int) ev_int (vo_int (by decide))) H6 (GE s6) _ fun v G7 H7 g7 r7 => ?_
    have e7 := r7.int_inv
    subst e7
    have s7 := SG s6 g7.ext
    generalize hm2' : (m1 * m1 + j3 * 40692 + 7) % 2147483399 = m2 at *
    have l2 : 0 ≤ m2 ∧ m2 < 2147483399 := by rw [← hm2']; exact ⟨Int.emod_nonneg _ (by decide), Int.emod_lt_of_pos _ (by decide)⟩
    refine (ev_op (K := K) (f1 := false) (f := false) (ev_cb (ea_cons (ev_op (f1 := false) (ev_op (f1 := false) (ev_op (f1 := false) (ev_vi rfl) (ev_vi rfl) (vm_int (i := m2) (j := m2) (.inl ⟨by omega, by omega⟩))) (ev_vi rfl) va_int) ev_int va_int) ea_nil) c_int) ev_int (vo_int (by decide))) H7 (GE s7) _ fun v G8 H8 g8 r8 => ?_
    have e8 := r8.int_inv
    subst e8
    have s8 := SG s7 g8.ext
    refine (ev_op (K := K) (f1 := false) (f := false) (ev_cb (ea_cons (ev_op (f1 := false) (ev_vi rfl) ev_int (vd_int ⟨by decide, by decide⟩)) ea_nil) c_int) (ev_vi rfl) (vo_int hm)) H8 (GE s8) _ fun v G9 H9 g9 r9 => ?_
    have e9 := r9.int_inv
    subst e9
    have s9 := SG s8 g9.ext
    exact q _ _ _ _ _ _ (Int.emod_nonneg _ (by omega)) (Int.emod_lt_of_pos _ hm) b1 b2 b3 b4 s9.1 s9.2
theorem ok_pool_in {P : Program} {w : World} {K : Fr} {mg : Str → Option Value} {base : Heap} {fa : Addr} {fd : FuncData} (F : L2.Fun K "_law_pool" "_law_pool" s_law_pool fa fd) (B : Bt mg) : FnOk P w K mg base CX0 1 fa fd ["script"] (spPoolIn K) := by
  refine F.ok sc_law_pool (fun vs H Q E h => ?_) (fun cdv A outer s H vs Q E hr h => ?_)
  · obtain ⟨a, ns, rfl, _⟩ := h
    rfl
  obtain ⟨a, ns, rfl, hS, hl, q⟩ := h
  refine ⟨_, (pss_cons (ps_setLc (i := 1) (own := [("cell", 2)]) rfl sc_law_pool.nd rfl rfl (sw_true rfl rfl rfl (by decide +kernel)) (pi_seqK (K := K) rfl (pe_slice (sl_UK (K := K) rfl) (pv 0) po_none (po_some pe_int))) (blkOk_by (by kernel_rfl)) (fun _ _ _ _ _ => (pg_name (i := 2) sc_law_pool.nd rfl (Or.inl rfl))) (fun _ _ _ _ _ => pts_nil) (fun _ _ _ _ _ => (pe_callB call_abs (by rfl) B.b_abs bt_abs (pa_cons (pe_callTy cl_int (by rfl) B.b_int bt_int (pa_cons (pv 2) pa_nil)) pa_nil)))) 
  (pss_one (ps_ret (pe_lst (pa_cons (pv 1) (pa_cons pe_int (pa_cons pe_int (pa_cons pe_int (pa_cons (pe_op op_modN (pe_callTy cl_int (by rfl) B.b_int bt_int (pa_cons (pe_callB (cr_sumK (K := K) rfl rfl) (by rfl) B.b_sum bt_sum (pa_cons (pv 1) pa_nil)) pa_nil)) pe_int) pa_nil))))))))), ?_⟩
  have lc : (cutD ns none (some 63)).length ≤ 50000 := Nat.le_trans (cutD_length _ _ _) (by omega)
  refine s_asg (K := K) (f := true) (Ex.refl H) (ev_intLc0 (h := fun n => if n < 0 then -n else n) (ei_seqL (ev_slScript (f := false) rfl hS eo_none (eo_some ev_int))) lc (S := fun n G1 σ' => σ' = [some (.ref a), none, some (.int n)]) (by rintro n G1 σ' rfl; rfl) (fun n _ G1 _ => tg_int)
    (fun n mn G1 e σ' hs => by subst hs; exact ev_cb (ea_cons (ev_cb (ea_cons (ev_vi rfl) ea_nil) c_int) ea_nil) rc_abs)) fun v G1 H1 g1 rv => ?_
  obtain ⟨c, us, rfl, fc, hc, rs⟩ := rv.lst_inv
  cases rs.ints
  generalize hms : (cutD ns none (some 63)).map (fun n => if n < 0 then -n else n) = ms at *
  have hms0 : ∀ n ∈ ms, 0 ≤ n := by
    rw [← hms]
    intro n hn
    obtain ⟨m, _, rfl⟩ := List.mem_map.mp hn
    split <;> omega
  have ec : Ev K false (tVar 1) [some (.ref a), some (.ref c), none] G1 (.lst (ms.map .int)) := ev_var rfl (.lst trivial hc rs.old)
  -- the list of the pool
  refine (evl_lst (f := false) (K := K) (G := G1) (ds := [.lst (ms.map .int), .int 0, .int 0, .int 0, .int (ms.sum % 1000000007)]) (ea_cons ec (ea_cons ev_int (ea_cons ev_int (ea_cons ev_int (ea_cons (ev_op (f1 := false) (ev_cb (ea_cons (ev_cb (ea_cons ec ea_nil) rc_sum) ea_nil) c_int) ev_int (vo_int (by decide))) ea_nil))))) (by simp)) H1 g1.sub _ fun p vs G2 H2 g2 hp hG hp2 rs2 => ?_
  cases rs2 with
  | cons r0 rs2 =>
    obtain ⟨v1, v2, v3, v4, rfl, r1, r2, r3, r4⟩ := rs2.four
    cases r1; cases r2; cases r3; cases r4
    obtain ⟨c', us', rfl, _, hc', rs'⟩ := r0.lst_inv
    cases rs'.ints
    have hpc : p ≠ c' := fun e => by rw [← e, hG] at hc'; cases hc'
    exact q p c' ms 0 0 0 _ H2 (by decide) (by decide) (by decide) (Int.emod_nonneg _ (by decide)) (Evl.fresh_back g1.ext hp) hpc hp2 (g2.sub _ _ hc') hms0 (g1.trans g2).ext
/-- plain data of at most so many levels -/
inductive Pl : Nat → D → Prop
  | sc {n : Nat} {d : D} (h : scalarD d = true) : Pl n d
  | lst {n : Nat} {ds : List D} (hl : ds.length ≤ 50000) (h : ∀ d ∈ ds, Pl n d) : Pl (n + 1) (.lst ds)
  | tup {n : Nat} {ds : List D} (hl : ds.length ≤ 50000) (h : ∀ d ∈ ds, Pl n d) : Pl (n + 1) (.tup ds)
theorem Pl.plain {n : Nat} {d : D} (h : Pl n d) : plainD d = true := by
  cases h with
  | sc h => cases d <;> first | rfl | cases h
  | lst _ _ => rfl
  | tup _ _ => rfl
theorem Pl.up {n : Nat} {d : D} (h : Pl n d) : Pl (n + 1) d := by
  induction h with
  | sc h => exact .sc h
  | lst hl _ ih => exact .lst hl ih
  | tup hl _ ih => exact .tup hl ih
theorem Pl.mono {n m : Nat} {d : D} (h : Pl n d) (l : n ≤ m) : Pl m d := by
  induction l with
  | refl => exact h
  | step _ ih => exact ih.up
mutual
/-- the same data of the same kinds -/
def sameD : D → D → Bool
  | .non, .non => true
  | .bl a, .bl b => decide (a = b)
  | .int a, .int b => decide (a = b)
  | .str a, .str b => decide (a = b)
  | .lst as, .lst bs => sameL as bs
  | .tup as, .tup bs => sameL as bs
  | _, _ => false
def sameL : List D → List D → Bool
  | [], [] => true
  | a :: as, b :: bs => sameD a b && sameL as bs
  | _, _ => false
end
mutual
theorem sameD_refl : ∀ {n : Nat} {d : D}, Pl n d → sameD d d = true
  | _, .non, _ => rfl
  | _, .bl _, _ => by simp [sameD]
  | _, .int _, _ => by simp [sameD]
  | _, .str _, _ => by simp [sameD]
  | _, .lst ds, h => by
    cases h with
    | sc h => cases h
    | lst hl h => exact sameL_refl ds h
  | _, .tup ds, h => by
    cases h with
    | sc h => cases h
    | tup hl h => exact sameL_refl ds h
  | _, .ins _ _ _, h => by cases h with | sc h => cases h
  | _, .pool, h => by cases h with | sc h => cases h
  | _, .ty _, h => by cases h with | sc h => cases h
theorem sameL_refl : ∀ {n : Nat} (ds : List D), (∀ d ∈ ds, Pl n d) → sameL ds ds = true
  | _, [], _ => rfl
  | _, d :: ds, h => by
    show (sameD d d && sameL ds ds) = true
    rw [sameD_refl (h d List.mem_cons_self), sameL_refl ds fun x hx => h x (List.mem_cons_of_mem _ hx)]; rfl
end
theorem sameL_len : ∀ {as bs : List D}, as.length ≠ bs.length → sameL as bs = false
  | [], [], h => absurd rfl h
  | [], _ :: _, _ => rfl
  | _ :: _, [], _ => rfl
  | a :: as, b :: bs, h => by
    show (sameD a b && sameL as bs) = false
    rw [sameL_len (as := as) (bs := bs) fun e => h (by rw [List.length_cons, List.length_cons, e]), Bool.and_false]
theorem sameL_no : ∀ {as bs : List D} {i : Nat} {a b : D}, as[i]? = some a → bs[i]? = some b → sameD a b = false → sameL as bs = false
  | [], _, _, _, _, h, _, _ => by simp at h
  | _ :: _, [], _, _, _, _, h, _ => by simp at h
  | a :: as, b :: bs, 0, x, y, h1, h2, h3 => by
    simp at h1 h2; subst h1; subst h2
    show (sameD a b && sameL as bs) = false
    rw [h3]; rfl
  | a :: as, b :: bs, i + 1, x, y, h1, h2, h3 => by
    show (sameD a b && sameL as bs) = false
    rw [sameL_no (i := i) (by simpa using h1) (by simpa using h2) h3, Bool.and_false]
theorem sameL_yes : ∀ {as bs : List D}, as.length = bs.length → (∀ (i : Nat) a b, as[i]? = some a → bs[i]? = some b → sameD a b = true) → sameL as bs = true
  | [], [], _, _ => rfl
  | [], _ :: _, h, _ => by simp at h
  | _ :: _, [], h, _ => by simp at h
  | a :: as, b :: bs, h, k => by
    show (sameD a b && sameL as bs) = true
    rw [k 0 a b rfl rfl, sameL_yes (by simpa using h) fun i x y h1 h2 => k (i + 1) x y (by simpa using h1) (by simpa using h2)]; rfl
theorem Ev.seq {K : Fr} {f : Bool} {te : TE} {σ : L2.St} {G : Hp} {d e : D} (h : Ev K f te σ G d) (eq : d = e) : Ev K f te σ G e := eq ▸ h
/-- by levels -/
def spSame (K : Fr) : Nat → Sp
  | 0 => fun _ _ _ _ => False
  | n + 1 => spF K true (fun i : D × D => [i.1, i.2]) (fun i => Pl n i.1 ∧ Pl n i.2) (fun i d => d = .bl (sameD i.1 i.2))
theorem same_use {K : Fr} {n : Nat} {a b : D} (ha : Pl n a) (hb : Pl n b) : SpD K true (spSame K (n + 1)) [a, b] (.bl (sameD a b)) := spF_use (o := fun i : D × D => .bl (sameD i.1 i.2)) (a, b) ⟨ha, hb⟩
theorem ok_same {P : Program} {w : World} {K : Fr} {mg : Str → Option Value} {base : Heap} {fa : Addr} {fd : FuncData} (F : L2.Fun K "_law_same" "_law_same" s_law_same fa fd) (B : Bt mg)
    (hc : ∀ k sp, FnOk P w K mg base CX0 k fa fd ["got", "due"] sp → C8.Cal P w K mg base k "_law_same" sp []) : ∀ n, FnOk P w K mg base CX0 n fa fd ["got", "due"] (spSame K n)
  | 0 => ⟨fun _ _ _ _ h => h.elim, fun _ _ _ _ _ _ _ _ _ _ _ _ _ h => h.elim⟩
  | n + 1 => by
    have c_law_same := hc _ _ (ok_same F B hc n)
    refine okF F sc_law_same (fun _ => rfl) fun cdv A outer s H vs Q E hr i G eG rs pre q => ?_
    obtain ⟨got, due⟩ := i
    dsimp only at rs pre q
    obtain ⟨v1, v2, rfl, r1, r2⟩ := rs.two
    obtain ⟨pg, pd⟩ := pre
    have hg : ∀ {f : Bool} {G1 : Hp} {y : Option V} , Ex G G1 → Ev K false (tVar 0) [some v1, some v2, y] G1 got := fun e => ev_var rfl (r1.mono e)
    have hd : ∀ {f : Bool} {G1 : Hp} {y : Option V}, Ex G G1 → Ev K false (tVar 1) [some v1, some v2, y] G1 due := fun e => ev_var rfl (r2.mono e)
    have ti : ∀ {f : Bool} {G1 : Hp} {y : Option V} {T : String}, Ex G G1 → T ∈ ["bool", "int", "str", "list", "tuple"] → Ev K f (tCB (rIsi K) (tCons (tVar 1) (tCons (tC (.ty T)) tNil))) [some v1, some v2, y] G1 (.bl (isiD due T)) := fun e hT => ev_cb (ea_cons (hd (f := false) e) (ea_cons ev_ty ea_nil)) (c_isi pd.plain hT)
    have tj : ∀ {f : Bool} {G1 : Hp} {y : Option V} {T : String}, Ex G G1 → T ∈ ["bool", "int", "str", "list", "tuple"] → Ev K f (tCB (rIsi K) (tCons (tVar 0) (tCons (tC (.ty T)) tNil))) [some v1, some v2, y] G1 (.bl (isiD got T)) := fun e hT => ev_cb (ea_cons (hg (f := false) e) (ea_cons ev_ty ea_nil)) (c_isi pg.plain hT)
    have pp := pg.plain
    have pq := pd.plain
    refine ⟨_, (pss_cons (ps_if (pt_cmpR op_isU (pv 1) pe_non (nomark _)) (pss_one (ps_ret (pe_cmpR op_isU (pv 0) pe_non (nomark _)))) pss_nil) 
  (pss_cons (ps_if (pt_cmpR op_isU (pv 1) pe_bl (nomark _)) (pss_one (ps_ret (pe_cmpR op_isU (pv 0) pe_bl (nomark _)))) pss_nil) 
  (pss_cons (ps_if (pt_cmpR op_isU (pv 1) pe_bl (nomark _)) (pss_one (ps_ret (pe_cmpR op_isU (pv 0) pe_bl (nomark _)))) pss_nil) 
  (pss_cons (ps_if (pt_val (pe_callB (cl_isiK (K := K) rfl) (by rfl) B.b_isinstance bt_isinstance (pa_cons (pv 1) (pa_cons (pe_bltn (v := .ty "int") (by rfl) B.b_int bt_int rfl) pa_nil)))) (pss_one (ps_ret (pe_and (pe_callB (cl_isiK (K := K) rfl) (by rfl) B.b_isinstance bt_isinstance (pa_cons (pv 0) (pa_cons (pe_bltn (v := .ty "int") (by rfl) B.b_int bt_int rfl) pa_nil))) (pe_and (pe_not (pe_callB (cl_isiK (K := K) rfl) (by rfl) B.b_isinstance bt_isinstance (pa_cons (pv 0) (pa_cons (pe_bltn (v := .ty "bool") (by rfl) B.b_bool bt_bool rfl) pa_nil)))) (pe_one (pe_cmpR (op_eqUK (K := K) rfl hr.units) (pv 0) (pv 1) (nomark _))))))) pss_nil) 
  (pss_cons (ps_if (pt_val (pe_callB (cl_isiK (K := K) rfl) (by rfl) B.b_isinstance bt_isinstance (pa_cons (pv 1) (pa_cons (pe_bltn (v := .ty "str") (by rfl) B.b_str bt_str rfl) pa_nil)))) (pss_one (ps_ret (pe_and (pe_callB (cl_isiK (K := K) rfl) (by rfl) B.b_isinstance bt_isinstance (pa_cons (pv 0) (pa_cons (pe_bltn (v := .ty "str") (by rfl) B.b_str bt_str rfl) pa_nil))) (pe_one (pe_cmpR (op_eqUK (K := K) rfl hr.units) (pv 0) (pv 1) (nomark _)))))) pss_nil) 
  (pss_cons (ps_if (PW.pt (pw_or (PW.pt (pw_and (pt_val (pe_callB (cl_isiK (K := K) rfl) (by rfl) B.b_isinstance bt_isinstance (pa_cons (pv 1) (pa_cons (pe_bltn (v := .ty "list") (by rfl) B.b_list bt_list rfl) pa_nil)))) (pw_and1 (pt_not (pt_val (pe_callB (cl_isiK (K := K) rfl) (by rfl) B.b_isinstance bt_isinstance (pa_cons (pv 0) (pa_cons (pe_bltn (v := .ty "list") (by rfl) B.b_list bt_list rfl) pa_nil)))))))) (pw_or1 (PW.pt (pw_and (pt_val (pe_callB (cl_isiK (K := K) rfl) (by rfl) B.b_isinstance bt_isinstance (pa_cons (pv 1) (pa_cons (pe_bltn (v := .ty "tuple") (by rfl) B.b_tuple bt_tuple rfl) pa_nil)))) (pw_and1 (pt_not (pt_val (pe_callB (cl_isiK (K := K) rfl) (by rfl) B.b_isinstance bt_isinstance (pa_cons (pv 0) (pa_cons (pe_bltn (v := .ty "tuple") (by rfl) B.b_tuple bt_tuple rfl) pa_nil))))))))))) (pss_one (ps_ret pe_bl)) pss_nil) 
  (pss_cons (ps_if (pt_cmpR (op_neUK (K := K) rfl hr.units) (pe_callB (cl_lenK (K := K) rfl) (by rfl) B.b_len bt_len (pa_cons (pv 0) pa_nil)) (pe_callB (cl_lenK (K := K) rfl) (by rfl) B.b_len bt_len (pa_cons (pv 1) pa_nil)) (nomark _)) (pss_one (ps_ret pe_bl)) pss_nil) 
  (pss_cons (ps_for PassesOwn.never rfl (pi_range1 (by rfl) B.b_range (pa_cons (pe_callB (cl_lenK (K := K) rfl) (by rfl) B.b_len bt_len (pa_cons (pv 1) pa_nil)) pa_nil)) (pg_name (i := 2) sc_law_same.nd rfl (Or.inl rfl)) (pss_one (ps_if (pt_not (pt_val (C8.pe_c c_law_same hr (by first | decide | exact Nat.le_refl _) (by rfl) (pa_cons (pe_ix (ix_seqK (K := K) rfl) (pv 0) (pv 2) (fun _ _ => rfl)) (pa_cons (pe_ix (ix_seqK (K := K) rfl) (pv 1) (pv 2) (fun _ _ => rfl)) pa_nil))))) (pss_one (ps_ret pe_bl)) pss_nil))) 
  (pss_one (ps_ret pe_bl)))))))))), ?_⟩
    -- None, True, False
    refine s_ifc (K := K) (x := isNon due) eG (et_test (f := false) (ev_op (f1 := false) (hd (f := false) (Ex.refl _)) ev_non v_isN)) (fun hx G1 H1 g1 => s_ret (K := K) (f := true) g1.sub (ev_op (f1 := false) (hg (f := false) g1.e) ev_non v_isN) fun v G' H' g r => q _ v G' H' ?_ (g1.trans g) (r.h2 g1.ext)) (fun h1 G1 H1 g1 => ?_)
    · cases due <;> first | (cases hx; done) | (cases got <;> rfl)
    refine s_ifc (K := K) (x := isBl true due) g1.sub (et_test (f := false) (ev_op (f1 := false) (hd (f := false) g1.e) ev_bl v_isTF)) (fun hx G2 H2 g2 => s_ret (K := K) (f := true) g2.sub (ev_op (f1 := false) (hg (f := false) (g1.e.trans g2.e)) ev_bl v_isTF) fun v G' H' g r => q _ v G' H' ?_ ((g1.trans g2).trans g) (r.h2 (g1.trans g2).ext)) (fun h2 G2 H2 g2 => ?_)
    · cases due <;> first | (cases hx; done) | (rename_i b; cases b <;> first | (cases hx; done) | (cases got <;> rfl))
    have g12 := g1.trans g2
    refine s_ifc (K := K) (x := isBl false due) g12.sub (et_test (f := false) (ev_op (f1 := false) (hd (f := false) g12.e) ev_bl v_isTF)) (fun hx G3 H3 g3 => s_ret (K := K) (f := true) g3.sub (ev_op (f1 := false) (hg (f := false) (g12.e.trans g3.e)) ev_bl v_isTF) fun v G' H' g r => q _ v G' H' ?_ ((g12.trans g3).trans g) (r.h2 (g12.trans g3).ext)) (fun h3 G3 H3 g3 => ?_)
    · cases due <;> first | (cases hx; done) | (rename_i b; cases b <;> first | (cases hx; done) | (cases got <;> rfl))
    have g13 := g12.trans g3
    have nb : ∀ b, due ≠ .bl b := fun b e => by subst e; cases b <;> first | (cases h2; done) | (cases h3; done)
    -- whole numbers
    refine s_ifc (K := K) (x := isiD due "int") g13.sub (et_B (ti (f := false) g13.e (by decide))) (fun hx G4 H4 g4 => ?_) (fun h4 G4 H4 g4 => ?_)
    · have e4 := g13.e.trans g4.e
      cases due with
      | int j =>
        refine s_ret (K := K) (f := true) g4.sub (Ev.seq (ev_andV (x := isiD got "int") (y := sameD got (.int j)) (tj e4 (by decide)) fun hi => Ev.seq (ev_andV (x := !isiD got "bool") (y := sameD got (.int j)) (ev_notV (tj e4 (by decide))) fun hb => ?_) ?_) ?_) fun v G' H' g r => q _ v G' H' rfl ((g13.trans g4).trans g) (r.h2 (g13.trans g4).ext)
        · cases got <;> first | (cases hi; done) | (cases hb; done) | skip
          rename_i i
          exact Ev.seq (ev_op (f1 := false) (hg (f := false) e4) (hd (f := false) e4) v_eqI) rfl
        · cases got <;> first | rfl | (cases hi; done)
        · cases got <;> rfl
      | bl b => exact absurd rfl (nb b)
      | non => cases hx
      | str _ => cases hx
      | lst _ => cases hx
      | tup _ => cases hx
      | ins _ _ _ => cases pq
      | pool => cases pq
      | ty _ => cases pq
    have g14 := g13.trans g4
    -- texts
    refine s_ifc (K := K) (x := isiD due "str") g14.sub (et_B (ti (f := false) g14.e (by decide))) (fun hx G5 H5 g5 => ?_) (fun h5 G5 H5 g5 => ?_)
    · have e5 := g14.e.trans g5.e
      cases due with
      | str j =>
        refine s_ret (K := K) (f := true) g5.sub (Ev.seq (ev_andV (x := isiD got "str") (y := sameD got (.str j)) (tj e5 (by decide)) fun hi => ?_) ?_) fun v G' H' g r => q _ v G' H' rfl ((g14.trans g5).trans g) (r.h2 (g14.trans g5).ext)
        · cases got <;> first | (cases hi; done) | skip
          rename_i i
          exact Ev.seq (ev_op (f1 := false) (hg (f := false) e5) (hd (f := false) e5) v_eqS) rfl
        · cases got <;> rfl
      | bl b => exact absurd rfl (nb b)
      | non => cases hx
      | int _ => cases h4
      | lst _ => cases hx
      | tup _ => cases hx
      | ins _ _ _ => cases pq
      | pool => cases pq
      | ty _ => cases pq
    have g15 := g14.trans g5
    -- lists and tuples
    refine s_ifc (K := K) (x := (isiD due "list" && !isiD got "list") || (isiD due "tuple" && !isiD got "tuple")) g15.sub (et_or (et_and (et_B (ti (f := false) g15.e (by decide))) fun _ => et_not (et_B (tj (f := false) g15.e (by decide)))) fun _ => et_and (et_B (ti (f := false) g15.e (by decide))) fun _ => et_not (et_B (tj (f := false) g15.e (by decide)))) (fun hx G6 H6 g6 => s_ret (K := K) (f := true) g6.sub ev_bl fun v G' H' g r => q _ v G' H' ?_ ((g15.trans g6).trans g) (r.h2 (g15.trans g6).ext)) (fun h6 G6 H6 g6 => ?_)
    · cases due <;> first | (cases hx; done) | (cases got <;> first | rfl | (cases hx; done))
    have g16 := g15.trans g6
    obtain ⟨b, es, ds, rfl, rfl, le, ld, m, pe, pds⟩ : ∃ b es ds, got = seqD b es ∧ due = seqD b ds ∧ es.length ≤ 50000 ∧ ds.length ≤ 50000 ∧ ∃ m, (∀ d ∈ es, Pl m d ∧ n = m + 1) ∧ (∀ d ∈ ds, Pl m d ∧ n = m + 1) := by
      cases due with
      | non => cases h1
      | bl b => exact absurd rfl (nb b)
      | int _ => cases h4
      | str _ => cases h5
      | ins _ _ _ => cases pq
      | pool => cases pq
      | ty _ => cases pq
      | lst ds =>
        cases got <;> first | (cases h6; done) | (cases pp; done) | skip
        rename_i es
        cases pd with
        | sc h => cases h
        | lst hl h =>
          cases pg with
          | sc h => cases h
          | lst hl' h' => exact ⟨false, es, ds, rfl, rfl, hl', hl, _, fun d hd => ⟨h' d hd, rfl⟩, fun d hd => ⟨h d hd, rfl⟩⟩
      | tup ds =>
        cases got <;> first | (cases h6; done) | (cases pp; done) | skip
        rename_i es
        cases pd with
        | sc h => cases h
        | tup hl h =>
          cases pg with
          | sc h => cases h
          | tup hl' h' => exact ⟨true, es, ds, rfl, rfl, hl', hl, _, fun d hd => ⟨h' d hd, rfl⟩, fun d hd => ⟨h d hd, rfl⟩⟩
    have es0 : sameD (seqD b es) (seqD b ds) = sameL es ds := by cases b <;> rfl
    rw [es0] at q
    have lg : ∀ {f : Bool} {G1 : Hp} {y : Option V}, Ex G G1 → Ev K f (tCB (rcLen K) (tCons (tVar 0) tNil)) [some v1, some v2, y] G1 (.int (es.length : Int)) := fun e => ev_cb (ea_cons (hg (f := false) e) ea_nil) c_lenU
    have ld' : ∀ {f : Bool} {G1 : Hp} {y : Option V}, Ex G G1 → Ev K f (tCB (rcLen K) (tCons (tVar 1) tNil)) [some v1, some v2, y] G1 (.int (ds.length : Int)) := fun e => ev_cb (ea_cons (hd (f := false) e) ea_nil) c_lenU
    refine s_ifc (K := K) (x := !decide ((es.length : Int) = (ds.length : Int))) g16.sub (et_test (f := false) (ev_op (f1 := false) (lg g16.e) (ld' g16.e) v_neI)) (fun hx G7 H7 g7 => s_ret (K := K) (f := true) g7.sub ev_bl fun v G' H' g r => q _ v G' H' ?_ ((g16.trans g7).trans g) (r.h2 (g16.trans g7).ext)) (fun h7 G7 H7 g7 => ?_)
    · rw [sameL_len (fun e => by rw [e] at hx; simp at hx)]
    have el : es.length = ds.length := by
      have z : decide ((es.length : Int) = (ds.length : Int)) = true := by simpa using h7
      have := of_decide_eq_true z
      omega
    have g17 := g16.trans g7
    refine s_for (K := K) (xs := rng 0 ds.length) (c := D.int) (S := fun a σ1 G2 σ' => σ' = σ1.set 2 (some (.int a))) g17 ((ei_rng1 (n := (ds.length : Int)) (ea_cons (ld' g17.e) ea_nil) (by omega) (by omega)).is (by congr 1))
      (fun i σ1 G1 H1 => ∃ y, σ1 = [some v1, some v2, y] ∧ ∀ (j : Nat) x z, j < i → es[j]? = some x → ds[j]? = some z → sameD x z = true) ?_ ?_ ?_ ?_
    · intro G' H' g
      exact ⟨none, rfl, fun j x z hj => absurd hj (Nat.not_lt_zero j)⟩
    · rintro a _ i σ1 G2 H2 G3 ⟨y, rfl, _⟩ _
      exact tg_int
    · rintro i a σ1 G2 H2 G3 H3 σ2 ha eG2 g2' ⟨y, rfl, hj⟩ g3' rfl N hN
      have hi : i < ds.length := by
        have := (List.getElem?_eq_some_iff.mp ha).1
        rwa [rng_length] at this
      rw [rng_get hi] at ha
      have ea : a = ((i : Nat) : Int) := by have := Option.some.inj ha; omega
      subst ea
      have e3 := (g17.e.trans eG2).trans g3'.e
      obtain ⟨x, hx⟩ : ∃ x, es[i]? = some x := ⟨_, List.getElem?_eq_getElem (by omega)⟩
      obtain ⟨z, hz⟩ : ∃ z, ds[i]? = some z := ⟨_, List.getElem?_eq_getElem hi⟩
      have px := pe x (List.mem_of_getElem? hx)
      have pz := pds z (List.mem_of_getElem? hz)
      obtain ⟨pz, rfl⟩ := pz
      refine s_if (K := K) (x := !sameD x z) g3'.sub (et_not (et_B (ev_call (f := true) (ea_cons (ev_op (f1 := false) (hg (f := false) e3) (ev_vi rfl) (v_ixU (at_map (c := id) (xs := es) (i := (i : Int)) (by omega) (by simpa using hx)) |> fun z => by simpa using z)) (ea_cons (ev_op (f1 := false) (hd (f := false) e3) (ev_vi rfl) (v_ixU (at_map (c := id) (xs := ds) (i := (i : Int)) (by omega) (by simpa using hz)) |> fun z => by simpa using z)) ea_nil)) (same_use px.1 pz)))) (fun hs G4 H4 g4 => ?_) (fun hs G4 H4 g4 => ?_)
      · exact s_ret (K := K) (f := true) g4.sub ev_bl fun v G' H' g r => q _ v G' H' (by rw [sameL_no hx hz (by simpa using hs)]) (((g2'.trans g3').trans g4).trans g) (r.h2 ((g2'.trans g3').trans g4).ext)
      · refine hN _ G4 H4 (g3'.trans g4).e ((g2'.trans g3').trans g4) ⟨_, rfl, fun j x' z' hj' hx' hz' => ?_⟩
        by_cases ej : j = i
        · subst ej
          rw [hx] at hx'; cases hx'
          rw [hz] at hz'; cases hz'
          simpa using hs
        · exact hj j x' z' (by omega) hx' hz'
    · rintro σ1 G2 H2 eG2 g2' ⟨y, rfl, hj⟩
      rw [rng_length] at hj
      dsimp only
      refine s_ret (K := K) (f := true) g2'.sub ev_bl ?_
      exact fun v G' H' g r => q _ v G' H' (by rw [sameL_yes el fun i x z h1 h2 => hj i x z (List.getElem?_eq_some_iff.mp h2).1 h1 h2]) (g2'.trans g) (r.h2 g2'.ext)
def stopsOk (n : Int) (ns : List Int) : Prop := 2 ≤ ns.length ∧ ns.length ≤ 1000 ∧ (∀ v ∈ ns, 0 ≤ v ∧ v < n) ∧ ns.Pairwise (· < ·)
abbrev sp_law_stops (K : Fr) : Sp := spF K false (fun i : Int × Int => [.pool, .int i.1, .int i.2]) (fun i => 2 ≤ i.1 ∧ i.1 ≤ 1000 ∧ 2 ≤ i.2 ∧ i.2 ≤ 1000) (fun i d => ∃ ns, d = .tup (ns.map .int) ∧ stopsOk i.1 ns)
theorem ok_law_stops {P : Program} {w : World} {K : Fr} {mg : Str → Option Value} {base : Heap} {fa : Addr} {fd : FuncData} (F : L2.Fun K "_law_stops" "_law_stops" s_law_stops fa fd) (B : Bt mg)
    (c_law_draw : C8.Cal P w K mg base 1 "_law_draw" spDrawV []) : FnOk P w K mg base CX0 2 fa fd ["pool", "villages", "widest"] (sp_law_stops K) := by
  refine okF F sc_law_stops (fun _ => rfl) fun cdv A outer s H vs Q E hr i G eG rs pre q => ?_
  obtain ⟨n, wd⟩ := i
  dsimp only at rs pre q
  obtain ⟨v1, v2, v3, rfl, r1, r2, r3⟩ := rs.three
  cases r2
  cases r3
  obtain ⟨h1, h2, h3, h4⟩ := pre
  refine ⟨_, (pss_cons (ps_set (i := 3) sc_law_stops.nd rfl (Or.inl rfl) (pe_op (op_addUK (K := K) rfl) pe_int (C8.pe_c c_law_draw hr (by first | decide | exact Nat.le_refl _) (by rfl) (pa_cons (pv 0) (pa_cons (pe_callB (call_max2 rfl) (by rfl) B.b_max bt_max (pa_cons pe_int (pa_cons (pe_op op_sub (pe_callB (call_min2 rfl) (by rfl) B.b_min bt_min (pa_cons (pv 2) (pa_cons (pv 1) pa_nil))) pe_int) pa_nil))) pa_nil))))) 
  (pss_cons (ps_set (i := 4) sc_law_stops.nd rfl (Or.inl rfl) (pe_listRg rfl (by rfl) B.b_list (prg_1 (by rfl) B.b_range (pv 1)))) 
  (pss_cons (ps_set (i := 5) sc_law_stops.nd rfl (Or.inl rfl) (pe_lst pa_nil)) 
  (pss_cons (ps_for PassesOwn.never rfl (pi_range1 (by rfl) B.b_range (pa_cons (pv 3) pa_nil)) (pg_name (i := 6) sc_law_stops.nd rfl (Or.inl rfl)) (pss_cons (ps_set (i := 7) sc_law_stops.nd rfl (Or.inl rfl) (C8.pe_c c_law_draw hr (by first | decide | exact Nat.le_refl _) (by rfl) (pa_cons (pv 0) (pa_cons (pe_callB (cl_lenK (K := K) rfl) (by rfl) B.b_len bt_len (pa_cons (pv 4) pa_nil)) pa_nil)))) 
  (pss_cons (ps_expr (pe_bmK (K := K) rfl PySem.F.plainAttrs_list PySem.F.slot_list_append PySem.F.type_list_append mt_append (pv 5) (pa_cons (pe_ix (ix_seqK (K := K) rfl) (pv 4) (pv 7) (fun _ _ => rfl)) pa_nil))) 
  (pss_one (ps_set (i := 4) sc_law_stops.nd rfl (Or.inl rfl) (pe_op (op_addUK (K := K) rfl) (pe_slice (sl_UK (K := K) rfl) (pv 4) po_none (po_some (pv 7))) (pe_slice (sl_UK (K := K) rfl) (pv 4) (po_some (pe_op (op_addUK (K := K) rfl) (pv 7) pe_int)) po_none))))))) 
  (pss_one (ps_ret (pe_callTy (cl_tupK (K := K) rfl) (by rfl) B.b_tuple bt_tuple (pa_cons (pe_callB (cr_sortedUK (K := K) rfl hr.units) (by rfl) B.b_sorted bt_sorted (pa_cons (pv 5) pa_nil)) pa_nil)))))))), ?_⟩
  refine s_asgS (K := K) (f := true) eG (iS_add (p1 := fun j => j = 2) (p2 := fun j => 0 ≤ j ∧ j < max 1 (min wd n - 1)) (p3 := fun j => 2 ≤ j ∧ j ≤ n) (ev_int.toI rfl) (ev_draw (ea_cons (ev_var rfl r1) (ea_cons (ev_cb (ea_cons ev_int (ea_cons (ev_op (f1 := false) (ev_cb (ea_cons (ev_vi rfl) (ea_cons (ev_vi rfl) ea_nil)) rc_min2) ev_int vs_int) ea_nil)) rc_max2) ea_nil)) (by omega) (by omega)) (by omega)) fun d v G1 H1 pd g1 rv => ?_
  obtain ⟨size, rfl, hs1, hs2⟩ := pd
  cases rv
  refine s_asg (K := K) (f := true) g1.sub (ev_listRg (ev_vi rfl) (by omega) (by omega)) fun vL G2 H2 g2 rL => ?_
  refine s_asgL (K := K) (f := true) g2.sub (evl_lst ea_nil (by decide)) fun p us G3 H3 g3 hp0 hn hp ru => ?_
  cases ru
  have g13 := (g1.trans g2).trans g3
  have hp00 : H p = none := (g1.trans g2).free hp0
  refine s_for (K := K) (xs := rng 0 size.toNat) (c := D.int) (S := fun a σ1 G2 σ' => σ' = σ1.set 6 (some (.int a))) g13 (ei_rng1 (n := size) (ea_cons (ev_vi rfl) ea_nil) (by omega) (by omega))
    (fun i σ1 G1 H1 => ∃ (L S : List Int) (vL : V) (y1 y2 : Option V), σ1 = [some v1, some (.int n), some (.int wd), some (.int size), some vL, some (.ref p), y1, y2] ∧ Rep K none G1 (.lst (L.map .int)) vL ∧ G1 p = none ∧ H1 p = some (.lst (S.map V.int)) ∧ S.length = i ∧ (S ++ L).Perm (rng 0 n.toNat)) ?_ ?_ ?_ ?_
  · intro G' H' g
    have z := g.keep hp hn
    exact ⟨_, [], vL, none, none, rfl, rL.old.mono (g3.e.trans g.e), z.2, z.1, rfl, List.Perm.refl _⟩
  · rintro a _ i σ1 G2 H2 G3 ⟨L, S, vL, y1, y2, rfl, _⟩ _
    exact tg_int
  · rintro i a σ1 G4 H4 G5 H5 σ2 ha e4 g4 ⟨L, S, vL, y1, y2, rfl, rl, n4, p4, hl, pm⟩ g5 rfl N hN
    have hi : i < size.toNat := by
      have := (List.getElem?_eq_some_iff.mp ha).1
      rwa [rng_length] at this
    have hlen := pm.length_eq
    rw [List.length_append, rng_length] at hlen
    have z5 := g5.keep p4 n4
    have eb := ((g13.e.trans e4).trans g5.e)
    refine s_asgS (K := K) (f := true) g5.sub (ev_draw (many := (L.length : Int)) (ea_cons (ev_var rfl (r1.mono eb)) (ea_cons (Ev.is (ev_cb (ea_cons (ev_var rfl (rl.mono g5.e)) ea_nil) c_lenL) (by rw [List.length_map])) ea_nil)) (by omega) (by omega)) fun d v G6 H6 pd g6 rv => ?_
    obtain ⟨at', rfl, ha1, ha2⟩ := pd
    cases rv
    have z6 := g6.keep z5.1 z5.2
    obtain ⟨k, rfl⟩ : ∃ k : Nat, at' = (k : Int) := ⟨at'.toNat, by omega⟩
    have hx : L[k]? = some (ix L k) := ix_get (i := (k : Int)) ha1 ha2
    refine s_app (K := K) (f := false) (P := fun d => d = .int (ix L k)) g6.sub rfl z6.1 z6.2 (by rw [List.length_map]; omega) (ev_op (f1 := false) (ev_var rfl (rl.mono (g5.e.trans g6.e))) (ev_vi rfl) (v_ixL (at_int ha1 ha2))).toS fun d v G7 H7 pd g7 rv h7 n7 => ?_
    subst pd
    cases rv
    have e7 := (g5.e.trans g6.e).trans g7.e
    refine s_asg (K := K) (f := false) (d := .lst ((L.take k ++ L.drop (k + 1)).map .int)) (g7.sub.mut n7) (Ev.is (ev_op (f1 := false) (ev_slU (ev_var rfl (rl.mono e7)) eo_none (eo_some (ev_vi rfl))) (ev_slU (ev_var rfl (rl.mono e7)) (eo_some (i := ((k + 1 : Nat) : Int)) (Ev.is (ev_op (f1 := false) (ev_vi rfl) ev_int va_int) (by simp))) eo_none) (va_lstO ?_)) ?_) fun v8 G8 H8 g8 r8 => ?_
    · have q1 := cutD_length (L.map D.int) none (some (k : Int))
      have q2 := cutD_length (L.map D.int) (some ((k + 1 : Nat) : Int)) none
      rw [List.length_map] at q1 q2
      omega
    · rw [cutD_to (by rw [List.length_map]; omega), cutD_from (by rw [List.length_map]; omega), List.map_append, List.map_take, List.map_drop]
    · have z8 := g8.keep upd_same n7
      have gg : Grow G H G8 H8 := ((((g4.trans g5).trans g6).trans g7).put hp00 n7).trans g8
      refine hN _ G8 H8 (e7.trans g8.e) gg ⟨_, S ++ [ix L k], v8, _, _, rfl, r8, z8.2, by rw [List.map_append]; exact z8.1, by rw [List.length_append, hl]; rfl, ?_⟩
      rw [List.append_assoc]
      exact (List.Perm.append_left S (perm_pick hx)).trans pm
  · rintro σ1 G4 H4 e4 g4 ⟨L, S, vL, y1, y2, rfl, rl, n4, p4, hl, pm⟩
    rw [rng_length] at hl
    dsimp only
    refine s_retH (K := K) (G := G4) (f := false) (P := fun d => ∃ ns : List Int, d = .tup (ns.map .int) ∧ ns.Perm S ∧ ns.Pairwise (· ≤ ·)) ?_ fun d v G5 H5 pd g5 rv => ?_
    · refine fun Q' q' => ?_
      refine (evS_cb (f := false) (P := fun d => ∃ zs : List Int, d = .lst (zs.map .int) ∧ zs.Perm S ∧ zs.Pairwise (· ≤ ·)) (G := upd G4 p (.lst (S.map V.int))) (ea_cons (ev_var (d := .lst (S.map .int)) rfl (rep_ownN n4 (RepA.ofInts S))) ea_nil).toS (by rintro _ rfl; exact rcS_sortedU)) H4 (ex_own p4 g4.sub) _ fun d v G5 H5 pd g5 rv => ?_
      obtain ⟨zs, rfl, hz1, hz2⟩ := pd
      obtain ⟨x, us, rfl, _, hx, ru⟩ := rv.lst_inv
      have hu := ru.ints
      subst hu
      refine ⟨x, _, rfl, Or.inl ⟨SqL.of (g5.sub _ _ hx), fun l hl => ?_⟩⟩
      have gf := Grow.forget n4 g4.sub g5
      exact q' _ (.ref l) _ _ ⟨zs, rfl, hz1, hz2⟩ (gf.trans (Grow.laid (o := .tup (zs.map V.int)) gf.sub hl)) (.tup (Evl.ex_t (Ex.refl _) (SqT.of upd_same)) (RepA.ofInts zs))
    · obtain ⟨ns, rfl, hp1, hp2⟩ := pd
      have hlen := hp1.length_eq
      have hnd : (S ++ L).Nodup := pm.symm.nodup_iff.mp (rng_nodup _ _) 
      have hnS : ns.Nodup := hp1.symm.nodup_iff.mp (List.Nodup.sublist (List.sublist_append_left S L) hnd)
      have hlen2 := pm.length_eq
      rw [List.length_append, rng_length] at hlen2
      refine q _ v G5 H5 ⟨ns, rfl, by omega, by omega, fun v hv => ?_, ?_⟩ (g4.trans g5) (rv.h2 g4.ext)
      · have := mem_rng.mp (pm.mem_iff.mp (List.mem_append_left L (hp1.mem_iff.mp hv)))
        omega
      · have z := List.pairwise_and_iff.mpr ⟨hp2, hnS⟩
        exact z.imp fun {a b} h => by have := h.1; have := h.2; omega
abbrev sp_law_blocks (K : Fr) : Sp := spF K true (fun i : List Int => [blockD i]) (fun i => i.length ≤ 1000) (fun i d => d = rowsD (blocksOf i))
theorem ok_law_blocks {P : Program} {w : World} {K : Fr} {mg : Str → Option Value} {base : Heap} {fa : Addr} {fd : FuncData} (F : L2.Fun K "_law_blocks" "_law_blocks" s_law_blocks fa fd) (B : Bt mg) : FnOk P w K mg base CX0 1 fa fd ["labels"] (sp_law_blocks K) := by
  refine okF F sc_law_blocks (fun _ => rfl) fun cdv A outer s H vs Q E hr L G eG rr pre q => ?_
  obtain ⟨v1, rfl, r1⟩ := rr.one
  have lenE : ∀ {f : Bool} {G1 : Hp} {y1 y2 : Option V}, Ex G G1 → Ev K f (tCB (rcLen K) (tCons (tVar 0) tNil)) [some v1, y1, y2] G1 (.int (L.length : Int)) := fun e => Ev.is (ev_cb (ea_cons (ev_var rfl (r1.mono e)) ea_nil) c_lenL) (by rw [List.length_map])
  have rgE : ∀ {G1 : Hp} {y1 y2 : Option V}, Ex G G1 → EvI K (iRng1 (tCons (tCB (rcLen K) (tCons (tVar 0) tNil)) tNil)) [some v1, y1, y2] G1 (rng 0 L.length) D.int := fun e => (ei_rng1 (n := (L.length : Int)) (ea_cons (lenE e) ea_nil) (by omega) (by omega)).is (by congr 1)
  refine ⟨_, (pss_one (ps_ret (pe_lc (own := [("first", 2)]) rfl sc_law_blocks.nd (pi_range1 (by rfl) B.b_range (pa_cons (pe_callB (cl_lenK (K := K) rfl) (by rfl) B.b_len bt_len (pa_cons (pv 0) pa_nil)) pa_nil)) (blkOk_by (by kernel_rfl)) (fun _ _ _ _ _ => (pg_name (i := 2) sc_law_blocks.nd rfl (Or.inr rfl))) (fun _ _ _ _ _ => (pts_one (pt_cmpR (op_eqUK (K := K) rfl hr.units) (pe_ix (ix_seqK (K := K) rfl) (pv 0) (pv 2) (fun _ _ => rfl)) (pv 2) (nomark _)))) (fun _ _ _ _ _ => (pe_lc (own := [("v", 1)]) rfl sc_law_blocks.nd (pi_range1 (by rfl) B.b_range (pa_cons (pe_callB (cl_lenK (K := K) rfl) (by rfl) B.b_len bt_len (pa_cons (pv 0) pa_nil)) pa_nil)) (blkOk_by (by kernel_rfl)) (fun _ _ _ _ _ => (pg_name (i := 1) sc_law_blocks.nd rfl (Or.inl rfl))) (fun _ _ _ _ _ => (pts_one (pt_cmpR (op_eqUK (K := K) rfl hr.units) (pe_ix (ix_seqK (K := K) rfl) (pv 0) (pv 1) (fun _ _ => rfl)) (pv 2) (nomark _)))) (fun _ _ _ _ _ => (pv 1))))))), ?_⟩
  refine s_ret (K := K) (f := true) eG (Ev.is (evl_lc (f := true) (b := fun x => decide (ix L x = x)) (h := fun x => blockD (cls L x)) (rgE (Ex.refl _)) (by rw [rng_length]; omega)
    (S := fun x G1 σ' => σ' = [some v1, none, some (.int x)]) (by rintro x G1 σ' rfl; rfl) (fun x _ G1 _ => tg_int)
    (fun x mx G1 e1 σ' hs => ?_) (fun x mx _ G1 e1 σ' hs => ?_)).ev (by unfold blocksOf; rw [rowsD, List.map_map]; rfl)) fun v G' H' g r => q _ v G' H' rfl g r
  · subst hs
    have := mem_rng.mp mx
    exact et_test (f := false) (ev_op (f1 := false) (ev_op (f1 := false) (ev_var rfl (r1.mono e1)) (ev_vi rfl) (v_ixL (at_int (by omega) (by omega)))) (ev_vi rfl) v_eqI)
  · subst hs
    refine Ev.is (ev_intLc (h := fun v => v) (b := fun v => decide (ix L v = x)) (rgE e1) (by rw [rng_length]; omega) (S := fun v G1 σ' => σ' = [some v1, some (.int v), some (.int x)]) (by rintro a G1 σ' rfl; rfl) (fun a _ G1 _ => tg_int) (fun a ma G2 e2 σ' hs => ?_) (fun a ma _ G2 e2 σ' hs => ?_)) (by rw [List.map_id']; rfl)
    · subst hs
      have := mem_rng.mp ma
      exact et_test (f := false) (ev_op (f1 := false) (ev_op (f1 := false) (ev_var rfl (r1.mono (e1.trans e2))) (ev_vi rfl) (v_ixL (at_int (by omega) (by omega)))) (ev_vi rfl) v_eqI)
    · subst hs
      exact ev_vi rfl
def fIndex (L : List Int) (v : Int) : Nat := ((rng 0 (ix L v).toNat).filter fun x => decide (ix L x = x)).length
abbrev sp_law_index (K : Fr) : Sp := spF K true (fun i : List Int × Int => [blockD i.1, .int i.2]) (fun i => i.1.length ≤ 1000 ∧ 0 ≤ i.2 ∧ i.2 < i.1.length ∧ 0 ≤ ix i.1 i.2 ∧ ix i.1 i.2 ≤ i.1.length) (fun i d => d = .int (fIndex i.1 i.2 : Nat))
theorem ok_law_index {P : Program} {w : World} {K : Fr} {mg : Str → Option Value} {base : Heap} {fa : Addr} {fd : FuncData} (F : L2.Fun K "_law_index" "_law_index" s_law_index fa fd) (B : Bt mg) : FnOk P w K mg base CX0 1 fa fd ["labels", "village"] (sp_law_index K) := by
  refine okF F sc_law_index (fun _ => rfl) fun cdv A outer s H vs Q E hr i G eG rr pre q => ?_
  obtain ⟨L, x⟩ := i
  dsimp only at rr pre q
  obtain ⟨v1, v2, rfl, r1, r2⟩ := rr.two
  cases r2
  obtain ⟨h1, h2, h3, h4, h5⟩ := pre
  refine ⟨_, (pss_one (ps_ret (pe_callB (cl_lenK (K := K) rfl) (by rfl) B.b_len bt_len (pa_cons (pe_lc (own := [("v", 2)]) rfl sc_law_index.nd (pi_range1 (by rfl) B.b_range (pa_cons (pe_ix (ix_seqK (K := K) rfl) (pv 0) (pv 1) (fun _ _ => rfl)) pa_nil)) (blkOk_by (by kernel_rfl)) (fun _ _ _ _ _ => (pg_name (i := 2) sc_law_index.nd rfl (Or.inl rfl))) (fun _ _ _ _ _ => (pts_one (pt_cmpR (op_eqUK (K := K) rfl hr.units) (pe_ix (ix_seqK (K := K) rfl) (pv 0) (pv 2) (fun _ _ => rfl)) (pv 2) (nomark _)))) (fun _ _ _ _ _ => (pv 2))) pa_nil)))), ?_⟩
  refine s_ret (K := K) (f := true) (d := .int (fIndex L x : Nat)) eG (Ev.is (ev_cb (ea_cons (ev_intLc (f := false) (h := fun v => v) (b := fun v => decide (ix L v = v)) (ei_rng1 (n := ix L x) (ea_cons (ev_op (f1 := false) (ev_var rfl r1) (ev_vi rfl) (v_ixL (at_int h2 h3))) ea_nil) (by omega) (by omega)) (by rw [rng_length]; omega) (S := fun v G1 σ' => σ' = [some v1, some (.int x), some (.int v)]) (by rintro a G1 σ' rfl; rfl) (fun a _ G1 _ => tg_int) (fun a ma G2 e2 σ' hs => ?_) (fun a ma _ G2 e2 σ' hs => ?_)) ea_nil) c_lenL) ?_) fun v G' H' g r => q _ v G' H' rfl g r
  · subst hs
    have := mem_rng.mp ma
    exact et_test (f := false) (ev_op (f1 := false) (ev_op (f1 := false) (ev_var rfl (r1.mono e2)) (ev_vi rfl) (v_ixL (at_int (by omega) (by omega)))) (ev_vi rfl) v_eqI)
  · subst hs
    exact ev_vi rfl
  · rw [List.length_map, List.map_id']; rfl
/-! ### the place of a class -/
def firstsOf (L : List Int) : List Int := (rng 0 L.length).filter fun x => decide (ix L x = x)
theorem blocks_firsts (L : List Int) : blocksOf L = (firstsOf L).map (cls L) := rfl
section
variable {n : Nat} {L : List Int}
theorem Canon.first_at (c : Canon n L) {x : Int} (h0 : 0 ≤ x) (h1 : x < n) (h2 : ix L x = x) : (firstsOf L)[((rng 0 x.toNat).filter fun y => decide (ix L y = y)).length]? = some x := by
  have sp : rng 0 L.length = rng 0 x.toNat ++ x :: (rng (x + 1) (L.length - x.toNat - 1)) := by
    refine List.ext_getElem? fun i => ?_
    have hl := c.len
    by_cases hi : i < L.length
    · rw [rng_get hi]
      by_cases h : i < x.toNat
      · rw [List.getElem?_append_left (by rw [rng_length]; exact h), rng_get h]
      · rw [List.getElem?_append_right (by rw [rng_length]; omega), rng_length]
        by_cases e : i - x.toNat = 0
        · rw [e]; simp; omega
        · obtain ⟨k, hk⟩ : ∃ k, i - x.toNat = k + 1 := ⟨i - x.toNat - 1, by omega⟩
          rw [hk, List.getElem?_cons_succ, rng_get (by omega)]
          congr 1; omega
    · rw [List.getElem?_eq_none (by rw [rng_length]; omega), List.getElem?_eq_none (by rw [List.length_append, List.length_cons, rng_length, rng_length]; omega)]
  unfold firstsOf
  rw [sp, List.filter_append, List.getElem?_append_right (Nat.le_refl _), Nat.sub_self, List.filter_cons, if_pos (decide_eq_true h2)]; rfl
theorem Canon.idx_at (c : Canon n L) {v : Int} (h0 : 0 ≤ v) (h1 : v < n) : (firstsOf L)[fIndex L v]? = some (ix L v) := by
  have := c.at0 v h0 h1
  exact c.first_at this.1 (by omega) this.2.2
theorem mem_firsts (c : Canon n L) {x : Int} : x ∈ firstsOf L ↔ 0 ≤ x ∧ x < n ∧ ix L x = x := by
  unfold firstsOf
  rw [List.mem_filter, mem_rng, decide_eq_true_iff, c.len]
  constructor
  · rintro ⟨h, e⟩; exact ⟨by omega, by omega, e⟩
  · rintro ⟨h, h', e⟩; exact ⟨⟨by omega, by omega⟩, e⟩
theorem firsts_nodup (L : List Int) : (firstsOf L).Nodup := (rng_nodup _ _).filter _
theorem nodup_idx {α : Type} {xs : List α} (h : xs.Nodup) {i j : Nat} {x : α} (hi : xs[i]? = some x) (hj : xs[j]? = some x) : i = j := by
  obtain ⟨li, ei⟩ := List.getElem?_eq_some_iff.mp hi
  obtain ⟨lj, ej⟩ := List.getElem?_eq_some_iff.mp hj
  by_cases e : i = j
  · exact e
  · exfalso
    rcases Nat.lt_or_gt_of_ne e with h' | h'
    · exact List.pairwise_iff_getElem.mp h i j li lj h' (by rw [ei, ej])
    · exact List.pairwise_iff_getElem.mp h j i lj li h' (by rw [ei, ej])
theorem enum_mem {α : Type} {xs : List α} {i : Nat} {x : α} (h : xs[i]? = some x) : ((i : Int), x) ∈ enumL 0 xs := by
  have := enumL_get (n := 0) h
  rw [Nat.zero_add] at this
  exact List.mem_of_getElem? this
/-- a place is touched iff it is a stop's place -/
theorem Canon.mem_touched (c : Canon n L) {stops : List Int} (hs : ∀ s ∈ stops, 0 ≤ s ∧ s < n) (k : Int) : k ∈ touched (blocksOf L) stops ↔ k ∈ stops.map fun s => (fIndex L s : Int) := by
  unfold touched
  rw [List.mem_map, List.mem_map]
  constructor
  · rintro ⟨p, hp, rfl⟩
    obtain ⟨hp1, hp2⟩ := List.mem_filter.mp hp
    obtain ⟨s, ms, h⟩ := List.any_eq_true.mp hp2
    have h := of_decide_eq_true h
    obtain ⟨i, hi, ei⟩ := mem_enumL hp1
    rw [blocks_firsts, List.getElem?_map] at hi
    cases hx : (firstsOf L)[i]? with
    | none => rw [hx] at hi; cases hi
    | some x =>
      rw [hx] at hi
      have hi : cls L x = p.2 := Option.some.inj hi
      rw [← hi] at h
      have hc := (mem_cls.mp h).2
      refine ⟨s, ms, ?_⟩
      have z := c.idx_at (hs s ms).1 (hs s ms).2
      rw [hc] at z
      have := nodup_idx (firsts_nodup L) hx z
      omega
  · rintro ⟨s, ms, rfl⟩
    have z := c.idx_at (hs s ms).1 (hs s ms).2
    refine ⟨((fIndex L s : Int), cls L (ix L s)), List.mem_filter.mpr ⟨enum_mem (by rw [blocks_firsts, List.getElem?_map, z]; rfl), ?_⟩, rfl⟩
    exact List.any_eq_true.mpr ⟨s, ms, decide_eq_true (mem_cls.mpr ⟨by rw [c.len]; exact hs s ms, rfl⟩)⟩
theorem enum_lt {α : Type} : ∀ (k : Nat) (xs : List α), (enumL k xs).Pairwise fun p q => p.1 < q.1
  | _, [] => .nil
  | k, x :: xs => List.pairwise_cons.mpr ⟨fun q hq => by
      obtain ⟨i, _, e⟩ := mem_enumL hq
      show (k : Int) < q.1
      omega, enum_lt (k + 1) xs⟩
theorem touched_lt (rs : List (List Int)) (stops : List Int) : (touched rs stops).Pairwise (· < ·) := List.pairwise_map.mpr ((enum_lt 0 rs).filter _)
theorem joinR_congr {rs : List (List Int)} {ps qs : List Int} (h : ∀ k, k ∈ ps ↔ k ∈ qs) : joinR rs ps = joinR rs qs := by
  unfold joinR
  have e : ∀ k : Int, decide (k ∈ ps) = decide (k ∈ qs) := fun k => decide_eq_decide.mpr (h k)
  simp only [e]
/-- blocks at places are joined -/
theorem Canon.joinP (c : Canon n L) {places : List Int} (h0 : 0 < places.length) (hp : ∀ p ∈ places, 0 ≤ p ∧ p < (firstsOf L).length) : orderedR (joinR (blocksOf L) places) = blocksOf (mergeLab L (places.map (ix (firstsOf L)))) := by
  have hm : ∀ m ∈ places.map (ix (firstsOf L)), m ∈ firstsOf L := fun m hm => by
    obtain ⟨p, mp, rfl⟩ := List.mem_map.mp hm
    exact List.mem_of_getElem? (ix_get (hp p mp).1 (hp p mp).2)
  have hf : ∀ m ∈ places.map (ix (firstsOf L)), 0 ≤ m ∧ m < n ∧ ix L m = m := fun m h => (mem_firsts c).mp (hm m h)
  have hs : ∀ s ∈ places.map (ix (firstsOf L)), 0 ≤ s ∧ s < n := fun s h => ⟨(hf s h).1, (hf s h).2.1⟩
  have e1 : (places.map (ix (firstsOf L))).map (ix L) = places.map (ix (firstsOf L)) := by
    conv => rhs; rw [← List.map_id (places.map (ix (firstsOf L)))]
    exact List.map_congr_left fun m h => (hf m h).2.2
  rw [joinR_congr (qs := touched (blocksOf L) (places.map (ix (firstsOf L)))) fun k => ?_, c.join (by rw [List.length_map]; exact h0) hs, e1]
  rw [c.mem_touched hs, List.map_map, List.mem_map]
  have back : ∀ p ∈ places, (fIndex L (ix (firstsOf L) p) : Int) = p := fun p mp => by
    have z := ix_get (hp p mp).1 (hp p mp).2
    have f := hf _ (List.mem_map_of_mem mp)
    have y := c.idx_at f.1 f.2.1
    rw [f.2.2] at y
    have := nodup_idx (firsts_nodup L) z y
    have := (hp p mp).1
    omega
  constructor
  · intro h; exact ⟨k, h, back k h⟩
  · rintro ⟨p, mp, e⟩
    have : (fIndex L (ix (firstsOf L) p) : Int) = k := e
    rw [back p mp] at this
    exact this ▸ mp
theorem Canon.place (c : Canon n L) {v : Int} (h0 : 0 ≤ v) (h1 : v < n) : placeD (blocksOf L) v = .int (fIndex L v : Nat) := by
  have z := c.idx_at h0 h1
  have e : (enumL 0 (blocksOf L))[fIndex L v]? = some ((fIndex L v : Int), cls L (ix L v)) := by
    have := enumL_get (n := 0) (xs := blocksOf L) (i := fIndex L v) (x := cls L (ix L v)) (by rw [blocks_firsts, List.getElem?_map, z]; rfl)
    rwa [Nat.zero_add] at this
  have mv : v ∈ cls L (ix L v) := mem_cls.mpr ⟨⟨h0, by rw [c.len]; exact h1⟩, rfl⟩
  have hf : (enumL 0 (blocksOf L)).find? (fun p : Int × List Int => decide (v ∈ p.2)) = some ((fIndex L v : Int), cls L (ix L v)) := find_at e (decide_eq_true mv) fun p hp => decide_eq_false fun hv => ?_
  · unfold placeD
    rw [hf]
  obtain ⟨i, hi⟩ := List.mem_iff_getElem?.mp hp
  have hil : i < fIndex L v := by
    have := (List.getElem?_eq_some_iff.mp hi).1
    rw [List.length_take] at this; omega
  rw [List.getElem?_take_of_lt hil] at hi
  obtain ⟨j, hj, ej⟩ := mem_enumL (List.mem_of_getElem? hi)
  have hb : (blocksOf L)[i]? = some p.2 := by
    obtain ⟨x, hx⟩ : ∃ x, (blocksOf L)[i]? = some x := by
      have := (List.getElem?_eq_some_iff.mp hi).1
      rw [enumL_length] at this
      exact ⟨_, List.getElem?_eq_getElem this⟩
    have := enumL_get (n := 0) hx
    rw [hi] at this
    rw [hx, Option.some.inj this]
  rw [blocks_firsts, List.getElem?_map] at hb
  cases hx : (firstsOf L)[i]? with
  | none => rw [hx] at hb; cases hb
  | some x =>
    rw [hx] at hb
    have hb : cls L x = p.2 := Option.some.inj hb
    rw [← hb] at hv
    have := (mem_cls.mp hv).2
    rw [← this] at hx
    have := nodup_idx (firsts_nodup L) hx z
    omega
end
structure JoinI where
  n : Nat
  L : List Int
  places : List Int
abbrev joinOk (i : JoinI) : Prop := 1 ≤ i.n ∧ i.n ≤ 7 ∧ Canon i.n i.L ∧ 0 < i.places.length ∧ i.places.length ≤ 1000 ∧ ∀ p ∈ i.places, 0 ≤ p ∧ p < (firstsOf i.L).length
theorem firsts_len {n : Nat} {L : List Int} (c : Canon n L) : (firstsOf L).length ≤ n := by
  unfold firstsOf
  refine Nat.le_trans (List.length_filter_le _ _) ?_
  rw [rng_length, c.len]; exact Nat.le_refl _
theorem Canon.flat' {n : Nat} {A : List Int} (a : Canon n A) : (∀ r ∈ blocksOf A, r.length ≤ n) ∧ (blocksOf A).length ≤ n := ⟨fun r hr => by
  obtain ⟨x, _, _, _, rfl⟩ := mem_blocks.mp hr
  unfold cls
  refine Nat.le_trans (List.length_filter_le _ _) ?_
  rw [rng_length, a.len]; exact Nat.le_refl _, by
  unfold blocksOf
  rw [List.length_map]
  refine Nat.le_trans (List.length_filter_le _ _) ?_
  rw [rng_length, a.len]; exact Nat.le_refl _⟩
theorem Pl.rows' {k : Nat} {rs : List (List Int)} (h : rs.length ≤ 50000) (hr : ∀ r ∈ rs, r.length ≤ 50000) : Pl (k + 2) (rowsD rs) := .lst (by rw [List.length_map]; exact h) fun d hd => by
  obtain ⟨r, mr, rfl⟩ := List.mem_map.mp hd
  exact .lst (by rw [List.length_map]; exact hr r mr) fun d hd => by
    obtain ⟨x, _, rfl⟩ := List.mem_map.mp hd
    exact .sc rfl
theorem Pl.blk {k : Nat} {xs : List Int} (h : xs.length ≤ 50000) : Pl (k + 1) (blockD xs) := .lst (by rw [List.length_map]; exact h) fun d hd => by
  obtain ⟨x, _, rfl⟩ := List.mem_map.mp hd
  exact .sc rfl
abbrev sp_law_joins (K : Fr) : Sp := spF K true (fun i : JoinI => [blockD i.L, rowsD (blocksOf i.L), blockD i.places]) joinOk (fun i d => d = .bl true)
theorem ok_law_joins {P : Program} {w : World} {K : Fr} {mg : Str → Option Value} {base : Heap} {fa : Addr} {fd : FuncData} (F : L2.Fun K "_law_joins" "_law_joins" s_law_joins fa fd) (B : Bt mg)
    (c_law_blocks : C8.Cal P w K mg base 1 "_law_blocks" (sp_law_blocks K) []) (c_join_blocks : C8.Cal P w K mg base 2 "join_blocks" (sp_join_blocks K) []) (c_law_same : C8.Cal P w K mg base 9 "_law_same" (spSame K 9) []) : FnOk P w K mg base CX0 10 fa fd ["labels", "mine", "places"] (sp_law_joins K) := by
  refine okF F sc_law_joins (fun _ => rfl) fun cdv A outer s H vs Q E hr i G eG rr pre q => ?_
  obtain ⟨n, L, places⟩ := i
  obtain ⟨h1, h2, c, h0, hp1, hp⟩ := pre
  dsimp only at rr q h1 h2 c h0 hp1 hp
  obtain ⟨v1, v2, v3, rfl, r1, r2, r3⟩ := rr.three
  have cl := c.len
  have fl := firsts_len c
  have same : ∀ {f : Bool} {ta tb : TE} {σ : L2.St} {G1 : Hp} {d1 d2 : D} {E : XK}, Ev K false ta σ G1 d1 → Ev K false tb σ G1 d2 → d1 = d2 → Pl 8 d2 → Ev K f (tCall (spSame K 9) [] E (tCons ta (tCons tb tNil))) σ G1 (.bl true) := fun h1 h2 e p => Ev.sc (Ev.is (ev_call (f := true) (ea_cons h1 (ea_cons h2 ea_nil)) (same_use (e ▸ p) p)).old (by rw [e, sameD_refl p])) rfl
  have lenL : ∀ {f : Bool} {σ : L2.St} {G1 : Hp}, σ[0]? = some (some v1) → Ex G G1 → Ev K f (tCB (rcLen K) (tCons (tVar 0) tNil)) σ G1 (.int (L.length : Int)) := fun hv e => Ev.is (ev_cb (ea_cons (ev_var hv (r1.mono e)) ea_nil) c_lenL) (by rw [List.length_map])
  refine ⟨_, (pss_cons (ps_set (i := 3) sc_law_joins.nd rfl (Or.inr rfl) (pe_lc (own := [("v", 4)]) rfl sc_law_joins.nd (pi_range1 (by rfl) B.b_range (pa_cons (pe_callB (cl_lenK (K := K) rfl) (by rfl) B.b_len bt_len (pa_cons (pv 0) pa_nil)) pa_nil)) (blkOk_by (by kernel_rfl)) (fun _ _ _ _ _ => (pg_name (i := 4) sc_law_joins.nd rfl (Or.inl rfl))) (fun _ _ _ _ _ => (pts_one (pt_cmpR (op_eqUK (K := K) rfl hr.units) (pe_ix (ix_seqK (K := K) rfl) (pv 0) (pv 4) (fun _ _ => rfl)) (pv 4) (nomark _)))) (fun _ _ _ _ _ => (pv 4)))) 
  (pss_cons (ps_set (i := 5) sc_law_joins.nd rfl (Or.inr rfl) (pe_lc (own := [("place", 6)]) rfl sc_law_joins.nd (pi_seqK (K := K) rfl (pv 2)) (blkOk_by (by kernel_rfl)) (fun _ _ _ _ _ => (pg_name (i := 6) sc_law_joins.nd rfl (Or.inl rfl))) (fun _ _ _ _ _ => pts_nil) (fun _ _ _ _ _ => (pe_ix (ix_seqK (K := K) rfl) (pv 3) (pv 6) (fun _ _ => rfl))))) 
  (pss_cons (ps_set (i := 7) sc_law_joins.nd rfl (Or.inl rfl) (C8.pe_c c_law_blocks hr (by first | decide | exact Nat.le_refl _) (by rfl) (pa_cons (pe_lc (own := [("label", 8)]) rfl sc_law_joins.nd (pi_seqK (K := K) rfl (pv 0)) (blkOk_by (by kernel_rfl)) (fun _ _ _ _ _ => (pg_name (i := 8) sc_law_joins.nd rfl (Or.inl rfl))) (fun _ _ _ _ _ => pts_nil) (fun _ _ _ _ _ => (pe_ifExp (pt_cmpR (op_inK (K := K) rfl) (pv 8) (pv 5) rfl) (pe_callB (cr_minK (K := K) rfl rfl) (by rfl) B.b_min bt_min (pa_cons (pv 5) pa_nil)) (pv 8)))) pa_nil))) 
  (pss_cons (ps_set (i := 9) sc_law_joins.nd rfl (Or.inl rfl) (pe_callTy (cl_listK (K := K) rfl) (by rfl) B.b_list bt_list (pa_cons (pv 2) pa_nil))) 
  (pss_cons (ps_set (i := 10) sc_law_joins.nd rfl (Or.inl rfl) (C8.pe_c c_join_blocks hr (by first | decide | exact Nat.le_refl _) (by rfl) (pa_cons (pv 1) (pa_cons (pv 9) pa_nil)))) 
  (pss_cons (ps_if (pt_not (pt_val (C8.pe_c c_law_same hr (by first | decide | exact Nat.le_refl _) (by rfl) (pa_cons (pv 10) (pa_cons (pv 7) pa_nil))))) (pss_one (ps_ret pe_bl)) pss_nil) 
  (pss_cons (ps_for PassesOwn.never rfl (pi_range1 (by rfl) B.b_range (pa_cons (pe_callB (cl_lenK (K := K) rfl) (by rfl) B.b_len bt_len (pa_cons (pv 7) pa_nil)) pa_nil)) (pg_name (i := 11) sc_law_joins.nd rfl (Or.inl rfl)) (pss_one (ps_expr (pe_bmK (K := K) rfl PySem.F.plainAttrs_list PySem.F.slot_list_append PySem.F.type_list_append mt_append (pe_ix (ix_seqK (K := K) rfl) (pv 10) (pv 11) (fun _ _ => rfl)) (pa_cons (pe_callB (cl_lenK (K := K) rfl) (by rfl) B.b_len bt_len (pa_cons (pv 0) pa_nil)) pa_nil))))) 
  (pss_cons (ps_expr (pe_bmK (K := K) rfl PySem.F.plainAttrs_list PySem.F.slot_list_append PySem.F.type_list_append mt_append (pv 10) (pa_cons (pe_lst (pa_cons (pe_callB (cl_lenK (K := K) rfl) (by rfl) B.b_len bt_len (pa_cons (pv 0) pa_nil)) pa_nil)) pa_nil))) 
  (pss_one (ps_ret (pe_and (C8.pe_c c_law_same hr (by first | decide | exact Nat.le_refl _) (by rfl) (pa_cons (pv 9) (pa_cons (pv 2) pa_nil))) (pe_one (C8.pe_c c_law_same hr (by first | decide | exact Nat.le_refl _) (by rfl) (pa_cons (C8.pe_c c_join_blocks hr (by first | decide | exact Nat.le_refl _) (by rfl) (pa_cons (pv 1) (pa_cons (pv 9) pa_nil))) (pa_cons (pv 7) pa_nil))))))))))))))), ?_⟩
  -- firsts
  refine s_asg (K := K) (f := false) (d := blockD (firstsOf L)) eG (Ev.is (ev_intLc (h := fun v => v) (b := fun v => decide (ix L v = v)) ((ei_rng1 (n := (L.length : Int)) (ea_cons (lenL rfl (Ex.refl _)) ea_nil) (by omega) (by omega)).is (show _ = rng 0 L.length by congr 1)) (by rw [rng_length]; omega) (S := fun v G1 σ' => σ' = [some v1, some v2, some v3, none, some (.int v), none, none, none, none, none, none, none]) (by rintro a G1 σ' rfl; rfl) (fun a _ G1 _ => tg_int) (fun a ma G2 e2 σ' hs => ?_) (fun a ma _ G2 e2 σ' hs => ?_)) (by rw [List.map_id']; rfl)) fun v4 G1 H1 g1 r4 => ?_
  · subst hs
    have := mem_rng.mp ma
    exact et_test (f := false) (ev_op (f1 := false) (ev_op (f1 := false) (ev_var rfl (r1.mono e2)) (ev_vi rfl) (v_ixL (at_int (by omega) (by omega)))) (ev_vi rfl) v_eqI)
  · subst hs
    exact ev_vi rfl
  -- marks
  generalize hM : places.map (ix (firstsOf L)) = marks
  refine s_asg (K := K) (f := false) (d := blockD marks) g1.sub (Ev.is (ev_intLc0 (h := ix (firstsOf L)) (ei_seqL (ev_var rfl (r3.mono g1.e))) (by omega) (S := fun v G1 σ' => σ' = [some v1, some v2, some v3, some v4, none, none, some (.int v), none, none, none, none, none]) (by rintro a G1 σ' rfl; rfl) (fun a _ G1 _ => tg_int) (fun a ma G2 e2 σ' hs => by subst hs; exact ev_op (f1 := false) (ev_var rfl (r4.mono e2)) (ev_vi rfl) (v_ixL (at_int (hp a ma).1 (hp a ma).2)))) (by rw [hM])) fun v5 G2 H2 g2 r5 => ?_
  have hm0 : 0 < marks.length := by rw [← hM, List.length_map]; exact h0
  have hmf : ∀ m ∈ marks, 0 ≤ m ∧ m < n ∧ ix L m = m := fun m hm => by
    rw [← hM] at hm
    obtain ⟨p, mp, rfl⟩ := List.mem_map.mp hm
    exact (mem_firsts c).mp (List.mem_of_getElem? (ix_get (hp p mp).1 (hp p mp).2))
  have c' := c.merge hm0 hmf
  have jn : orderedR (joinR (blocksOf L) places) = blocksOf (mergeLab L marks) := by rw [c.joinP h0 hp, hM]
  have g12 := g1.trans g2
  -- due
  refine s_asg (K := K) (f := true) (d := rowsD (blocksOf (mergeLab L marks))) g2.sub (ev_call (f := true) (ea_cons (ev_intLc0 (f := false) (h := fun l => if l ∈ marks then minI marks else l) (ei_seqL (ev_var rfl (r1.mono g12.e))) (by omega) (S := fun a G1 σ' => σ' = [some v1, some v2, some v3, some v4, none, some v5, none, none, some (.int a), none, none, none]) (by rintro a G1 σ' rfl; rfl) (fun a _ G1 _ => tg_int) (fun a ma G3 e3 σ' hs => ?_)) ea_nil) (spF_use (o := fun i => rowsD (blocksOf i)) (mergeLab L marks) (by rw [c'.len]; omega))) fun v6 G3 H3 g3 r6 => ?_
  · subst hs
    refine ev_if (x := decide (a ∈ marks)) (et_test (f := false) (ev_op (f1 := false) (ev_vi rfl) (ev_var rfl (r5.mono e3)) rv_inL)) (fun h => ?_) (fun h => ?_)
    · rw [if_pos (of_decide_eq_true h)]
      exact ev_cb (ea_cons (ev_var rfl (r5.mono e3)) ea_nil) (rc_minL hm0)
    · rw [if_neg (of_decide_eq_false h)]
      exact ev_vi rfl
  have g13 := g12.trans g3
  have pl : Pl 8 (rowsD (blocksOf (mergeLab L marks))) := Pl.rows' (by have := c'.flat'.2; omega) fun r hr => by have := c'.flat'.1 r hr; omega
  -- asked, got
  refine s_asg (K := K) (f := false) g3.sub (ev_cb (ea_cons (ev_var rfl (r3.mono g13.e)) ea_nil) c_listL) fun v7 G4 H4 g4 r7 => ?_
  have g14 := g13.trans g4
  have join : ∀ {σ : L2.St} {G1 : Hp} {E : XK}, σ[1]? = some (some v2) → σ[9]? = some (some v7) → Ex G4 G1 → Ev K true (tCall (sp_join_blocks K) [] E (tCons (tVar 1) (tCons (tVar 9) tNil))) σ G1 (rowsD (blocksOf (mergeLab L marks))) := fun {σ G1 E} s1 s2 e => (ev_call (ea_cons (ev_var s1 (r2.mono (g14.e.trans e))) (ea_cons (ev_var s2 (r7.mono e)) ea_nil)) (spF_use (o := fun i : List (List Int) × List Int => rowsD (orderedR (joinR i.1 i.2))) (blocksOf L, places) ⟨by have := c.flat'.2; show (blocksOf L).length ≤ 50; omega, fun r hr => by have := c.flat'.1 r hr; omega⟩)).is (congrArg rowsD jn)
  refine s_asg (K := K) (f := true) g4.sub (join rfl rfl (Ex.refl _)) fun v8 G5 H5 g5 r8 => ?_
  refine s_ifc (K := K) (x := false) g5.sub ((et_not (et_B (same (f := false) (ev_var rfl r8.old) (ev_var rfl (r6.old.mono (g4.e.trans g5.e))) rfl pl))).is rfl) (fun hh => by cases hh) fun _ G6 H6 g6 => ?_
  obtain ⟨p8, us8, rfl, _⟩ := id r8.lst_inv
  have gl : Grow G H G4 H6 := ((g14.trans g5).trans g6).less g14.e (g5.e.trans g6.e)
  obtain ⟨us, lus, own⟩ := OwnRows.of (H0 := H) (G2 := G4) (H := H6) (b := 1000) r8 (g6.e.trans g6.sub) g4.sub g14.ext (fun r hr => by have := c'.flat'.1 r hr; omega)
  generalize hB : blocksOf (mergeLab L marks) = due at *
  -- got is spoilt
  refine s_for (K := K) (xs := rng 0 due.length) (c := D.int) (S := fun a σ1 G2 σ' => σ' = σ1.set 11 (some (.int a))) gl ((ei_rng1 (n := (due.length : Int)) (ea_cons (Ev.is (ev_cb (ea_cons (ev_var rfl (r6.old.mono g4.e)) ea_nil) c_lenL) (by rw [List.length_map])) ea_nil) (by have := c'.flat'.2; rw [hB] at this; omega) (by have := c'.flat'.2; rw [hB] at this; omega)).is (by congr 1))
    (fun i σ1 G1 H1 => ∃ y, σ1 = [some v1, some v2, some v3, some v4, none, some v5, none, some v6, none, some v7, some (.ref p8), y] ∧ Ex G4 G1 ∧ OwnRows H G1 H1 p8 us (1000 + i)) ?_ ?_ ?_ ?_
  · intro G' H' g
    exact ⟨none, rfl, g.e, own.grow g⟩
  · rintro a _ i σ1 G2 H2 G3 ⟨y, rfl, _⟩ _
    exact tg_int
  · rintro i a σ1 G7 H7 G8 H8 σ2 ha e7 g7 ⟨y, rfl, e47, o⟩ g8 rfl N hN
    have hi : i < due.length := by have := (List.getElem?_eq_some_iff.mp ha).1; rwa [rng_length] at this
    rw [rng_get hi] at ha
    have ea : a = ((i : Nat) : Int) := by have := Option.some.inj ha; omega
    subst ea
    have lim : due.length ≤ 7 := by have := c'.flat'.2; rw [hB] at this; omega
    refine s_appRow (o.grow g8) (g7.trans g8) rfl (ev_vi rfl) (by omega) (by omega) (by omega) (lenL (f := false) rfl ((g14.e.trans e47).trans g8.e)) fun G9 H9 e9 g9 o9 => ?_
    exact hN _ G9 H9 (g8.e.trans e9) g9 ⟨_, rfl, (e47.trans g8.e).trans e9, o9⟩
  rintro σ1 G7 H7 e7 g7 ⟨y, rfl, e47, o⟩
  have lim : due.length ≤ 7 := by have := c'.flat'.2; rw [hB] at this; omega
  dsimp only
  refine s_app (K := K) (f := false) (P := fun d => d = blockD [(L.length : Int)]) g7.sub rfl o.hp o.gp (by omega) (ev_lst (ea_cons (lenL (f := false) rfl (g14.e.trans e47)) ea_nil) (Nat.le_of_ble_eq_true rfl)).toS fun d v9 G8 H8 pd g8 r9 h8 n8 => ?_
  have g78 : Grow G H G8 (upd H8 p8 (.lst (us ++ [v9]))) := (g7.trans g8).put o.h0 n8
  have e48 : Ex G4 G8 := e47.trans g8.e
  refine s_ret (K := K) (f := true) (d := .bl (true && true)) g78.sub (ev_andV (same (f := true) (ev_var rfl (r7.mono e48)) (ev_var rfl (r3.mono (g14.e.trans e48))) rfl (Pl.blk (by omega))) fun _ => same (f := true) (join rfl rfl e48).old (ev_var rfl (r6.old.mono (g4.e.trans e48))) rfl pl) ?_
  exact fun v G' H' g r => q _ v G' H' rfl (g78.trans g) (r.h2 g78.ext)
structure TouI where
  n : Nat
  L : List Int
  stops : List Int
theorem touched_congr {rs : List (List Int)} {ss ts : List Int} (h : ∀ k, k ∈ ss ↔ k ∈ ts) : touched rs ss = touched rs ts := by
  unfold touched
  have e : ∀ r : List Int, (ss.any fun s => decide (s ∈ r)) = ts.any fun s => decide (s ∈ r) := fun r => by
    rw [Bool.eq_iff_iff, List.any_eq_true, List.any_eq_true]
    constructor
    · rintro ⟨x, hx, hr⟩; exact ⟨x, (h x).mp hx, hr⟩
    · rintro ⟨x, hx, hr⟩; exact ⟨x, (h x).mpr hx, hr⟩
  simp only [e]
abbrev touOk (i : TouI) : Prop := 1 ≤ i.n ∧ i.n ≤ 7 ∧ Canon i.n i.L ∧ 2 ≤ i.stops.length ∧ i.stops.length ≤ 60 ∧ ∀ s ∈ i.stops, 0 ≤ s ∧ s < (i.n : Int)
abbrev sp_law_touches (K : Fr) : Sp := spF K true (fun i : TouI => [blockD i.L, rowsD (blocksOf i.L), .tup (i.stops.map .int)]) touOk (fun i d => d = .bl true)
theorem ok_law_touches {P : Program} {w : World} {K : Fr} {mg : Str → Option Value} {base : Heap} {fa : Addr} {fd : FuncData} (F : L2.Fun K "_law_touches" "_law_touches" s_law_touches fa fd) (B : Bt mg)
    (c_law_index : C8.Cal P w K mg base 1 "_law_index" (sp_law_index K) []) (c_touched_by : C8.Cal P w K mg base 1 "touched_by" (sp_touched_by K) []) (c_law_same : C8.Cal P w K mg base 9 "_law_same" (spSame K 9) []) (c_law_joins : C8.Cal P w K mg base 10 "_law_joins" (sp_law_joins K) []) : FnOk P w K mg base CX0 11 fa fd ["labels", "mine", "stops"] (sp_law_touches K) := by
  refine okF F sc_law_touches (fun _ => rfl) fun cdv A outer s H vs Q E hr i G eG rr pre q => ?_
  obtain ⟨n, L, stops⟩ := i
  obtain ⟨h1, h2, c, hs2, hs60, hs⟩ := pre
  dsimp only at rr q h1 h2 c hs2 hs60 hs
  obtain ⟨v1, v2, v3, rfl, r1, r2, r3⟩ := rr.three
  have cl := c.len
  have same : ∀ {f : Bool} {ta tb : TE} {σ : L2.St} {G1 : Hp} {d1 d2 : D} {E : XK}, Ev K false ta σ G1 d1 → Ev K false tb σ G1 d2 → d1 = d2 → Pl 8 d2 → Ev K f (tCall (spSame K 9) [] E (tCons ta (tCons tb tNil))) σ G1 (.bl true) := fun h1 h2 e p => Ev.sc (Ev.is (ev_call (f := true) (ea_cons h1 (ea_cons h2 ea_nil)) (same_use (e ▸ p) p)).old (by rw [e, sameD_refl p])) rfl
  have lenL : ∀ {f : Bool} {σ : L2.St} {G1 : Hp}, σ[0]? = some (some v1) → Ex G G1 → Ev K f (tCB (rcLen K) (tCons (tVar 0) tNil)) σ G1 (.int (L.length : Int)) := fun hv e => Ev.is (ev_cb (ea_cons (ev_var hv (r1.mono e)) ea_nil) c_lenL) (by rw [List.length_map])
  have idx : ∀ {f : Bool} {σ : L2.St} {G1 : Hp} {E : XK} {j : Nat} {x : Int}, σ[0]? = some (some v1) → Ex G G1 → σ[j]? = some (some (.int x)) → 0 ≤ x → x < n → Ev K f (tCall (sp_law_index K) [] E (tCons (tVar 0) (tCons (tVar j) tNil))) σ G1 (.int (fIndex L x : Nat)) := fun {f σ G1 E j x} hv e hx h0 h1 => (ev_call (f := true) (ea_cons (ev_var hv (r1.mono e)) (ea_cons (ev_vi hx) ea_nil)) (spF_use (o := fun i : List Int × Int => .int (fIndex i.1 i.2 : Nat)) (L, x) (by
    have := c.at0 x h0 h1
    exact ⟨by show L.length ≤ 1000; omega, h0, by show x < (L.length : Int); omega, this.1, by show ix L x ≤ (L.length : Int); omega⟩))).old.sc rfl
  have tou : ∀ {σ : L2.St} {G1 : Hp} {E : XK} {te : TE} {b : Bool} {ts : List Int}, σ[1]? = some (some v2) → Ex G G1 → Ev K false te σ G1 (seqD b (ts.map .int)) → ts.length ≤ 50000 → Ev K true (tCall (sp_touched_by K) [] E (tCons (tVar 1) (tCons te tNil))) σ G1 (blockD (touched (blocksOf L) ts)) := fun {σ G1 E te b ts} hv e h hl => ev_call (ea_cons (ev_var hv (r2.mono e)) (ea_cons h ea_nil)) (spF_use (o := fun i : List (List Int) × Bool × List Int => blockD (touched i.1 i.2.2)) (blocksOf L, b, ts) ⟨by have := c.flat'.2; show (blocksOf L).length ≤ 50000; omega, hl⟩)
  have tlen : ∀ ts : List Int, (touched (blocksOf L) ts).length ≤ 7 := fun ts => by
    unfold touched
    rw [List.length_map]
    refine Nat.le_trans (List.length_filter_le _ _) ?_
    rw [enumL_length]; have := c.flat'.2; omega
  refine ⟨_, (pss_cons (ps_set (i := 3) sc_law_touches.nd rfl (Or.inl rfl) (pe_callB (cr_sortedSetK (w := w) rfl rfl) (by rfl) B.b_sorted bt_sorted (pa_cons (pe_callTy (cr_setLK (K := K) (w := w) rfl rfl rfl) (by rfl) B.b_set bt_set (pa_cons (pe_lc (own := [("stop", 4)]) rfl sc_law_touches.nd (pi_seqK (K := K) rfl (pv 2)) (blkOk_by (by kernel_rfl)) (fun _ _ _ _ _ => (pg_name (i := 4) sc_law_touches.nd rfl (Or.inl rfl))) (fun _ _ _ _ _ => pts_nil) (fun _ _ _ _ _ => (C8.pe_c c_law_index hr (by first | decide | exact Nat.le_refl _) (by rfl) (pa_cons (pv 0) (pa_cons (pv 4) pa_nil))))) pa_nil)) pa_nil))) 
  (pss_cons (ps_set (i := 5) sc_law_touches.nd rfl (Or.inl rfl) (C8.pe_c c_touched_by hr (by first | decide | exact Nat.le_refl _) (by rfl) (pa_cons (pv 1) (pa_cons (pv 2) pa_nil)))) 
  (pss_cons (ps_if (pt_not (pt_val (C8.pe_c c_law_same hr (by first | decide | exact Nat.le_refl _) (by rfl) (pa_cons (pv 5) (pa_cons (pv 3) pa_nil))))) (pss_one (ps_ret pe_bl)) pss_nil) 
  (pss_cons (ps_expr (pe_bmK (K := K) rfl PySem.F.plainAttrs_list PySem.F.slot_list_append PySem.F.type_list_append mt_append (pv 5) (pa_cons (pe_callB (cl_lenK (K := K) rfl) (by rfl) B.b_len bt_len (pa_cons (pv 0) pa_nil)) pa_nil))) 
  (pss_cons (ps_if (PW.pt (pw_or (pt_not (pt_val (C8.pe_c c_law_same hr (by first | decide | exact Nat.le_refl _) (by rfl) (pa_cons (C8.pe_c c_touched_by hr (by first | decide | exact Nat.le_refl _) (by rfl) (pa_cons (pv 1) (pa_cons (pv 2) pa_nil))) (pa_cons (pv 3) pa_nil))))) (pw_or1 (pt_not (pt_val (C8.pe_c c_law_same hr (by first | decide | exact Nat.le_refl _) (by rfl) (pa_cons (C8.pe_c c_touched_by hr (by first | decide | exact Nat.le_refl _) (by rfl) (pa_cons (pv 1) (pa_cons (pe_callTy (cl_listK (K := K) rfl) (by rfl) B.b_list bt_list (pa_cons (pv 2) pa_nil)) pa_nil))) (pa_cons (pv 3) pa_nil)))))))) (pss_one (ps_ret pe_bl)) pss_nil) 
  (pss_cons (ps_if (PW.pt (pw_or (pt_not (pt_val (C8.pe_c c_law_same hr (by first | decide | exact Nat.le_refl _) (by rfl) (pa_cons (C8.pe_c c_touched_by hr (by first | decide | exact Nat.le_refl _) (by rfl) (pa_cons (pv 1) (pa_cons (pe_revUK (K := K) rfl (pv 2)) pa_nil))) (pa_cons (pv 3) pa_nil))))) (pw_or1 (pt_not (pt_val (C8.pe_c c_law_same hr (by first | decide | exact Nat.le_refl _) (by rfl) (pa_cons (C8.pe_c c_touched_by hr (by first | decide | exact Nat.le_refl _) (by rfl) (pa_cons (pv 1) (pa_cons (pe_op (op_addUK (K := K) rfl) (pe_slice (sl_UK (K := K) rfl) (pv 2) (po_some pe_int) po_none) (pe_slice (sl_UK (K := K) rfl) (pv 2) po_none (po_some pe_int))) pa_nil))) (pa_cons (pv 3) pa_nil)))))))) (pss_one (ps_ret pe_bl)) pss_nil) 
  (pss_cons (ps_setLc (i := 6) (own := [("v", 7)]) rfl sc_law_touches.nd rfl rfl (sw_true rfl rfl rfl (by decide +kernel)) (pi_range1 (by rfl) B.b_range (pa_cons (pe_callB (cl_lenK (K := K) rfl) (by rfl) B.b_len bt_len (pa_cons (pv 0) pa_nil)) pa_nil)) (blkOk_by (by kernel_rfl)) (fun _ _ _ _ _ => (pg_name (i := 7) sc_law_touches.nd rfl (Or.inl rfl))) (fun _ _ _ _ _ => pts_nil) (fun _ _ _ _ _ => (C8.pe_c c_law_index hr (by first | decide | exact Nat.le_refl _) (by rfl) (pa_cons (pv 0) (pa_cons (pv 7) pa_nil))))) 
  (pss_cons (ps_if (pt_not (pt_val (C8.pe_c c_law_same hr (by first | decide | exact Nat.le_refl _) (by rfl) (pa_cons (C8.pe_c c_touched_by hr (by first | decide | exact Nat.le_refl _) (by rfl) (pa_cons (pv 1) (pa_cons (pe_tupRg rfl (by rfl) B.b_tuple (prg_1 (by rfl) B.b_range (pe_callB (cl_lenK (K := K) rfl) (by rfl) B.b_len bt_len (pa_cons (pv 0) pa_nil)))) pa_nil))) (pa_cons (pe_callB (cr_sortedSetK (w := w) rfl rfl) (by rfl) B.b_sorted bt_sorted (pa_cons (pe_callTy (cr_setLK (K := K) (w := w) rfl rfl rfl) (by rfl) B.b_set bt_set (pa_cons (pv 6) pa_nil)) pa_nil)) pa_nil))))) (pss_one (ps_ret pe_bl)) pss_nil) 
  (pss_one (ps_ret (C8.pe_c c_law_joins hr (by first | decide | exact Nat.le_refl _) (by rfl) (pa_cons (pv 0) (pa_cons (pv 1) (pa_cons (pv 3) pa_nil)))))))))))))), ?_⟩
  -- due
  refine s_asg (K := K) (f := false) (d := blockD (touched (blocksOf L) stops)) eG (ev_sortedSet (ns := stops.map fun s => (fIndex L s : Int)) (ev_intLc0 (f := false) (h := fun s => (fIndex L s : Int)) (ei_seqT (ev_var rfl r3)) (by omega) (S := fun x G1 σ' => σ' = [some v1, some v2, some v3, none, some (.int x), none, none, none]) (by rintro a G1 σ' rfl; rfl) (fun a _ G1 _ => tg_int) (fun a ma G2 e2 σ' hs' => by subst hs'; exact idx (f := false) rfl e2 rfl (hs a ma).1 (hs a ma).2)) (by rw [List.length_map]; omega) (touched_lt _ _) (c.mem_touched hs)) fun v4 G1 H1 g1 r4 => ?_
  have pl : Pl 8 (blockD (touched (blocksOf L) stops)) := Pl.blk (by have := tlen stops; omega)
  -- got
  refine s_asg (K := K) (f := true) g1.sub (tou (b := true) rfl g1.e (ev_var rfl (r3.mono g1.e)) (by omega)) fun v5 G2 H2 g2 r5 => ?_
  refine s_ifc (K := K) (x := false) g2.sub ((et_not (et_B (same (f := false) (ev_var rfl r5.old) (ev_var rfl (r4.mono g2.e)) rfl pl))).is rfl) (fun hh => by cases hh) fun _ G3 H3 g3 => ?_
  obtain ⟨p, us, rfl, fp, hp, rr5⟩ := id r5.lst_inv
  have hu := rr5.ints
  subst hu
  have fp : H1 p = none := fp
  have n1 : G1 p = none := Evl.fresh_back g1.sub fp
  have gl : Grow G H G1 H3 := ((g1.trans g2).trans g3).less g1.e (g2.e.trans g3.e)
  have p3 : H3 p = some (.lst ((touched (blocksOf L) stops).map V.int)) := g3.sub _ _ (g3.e _ _ hp)
  refine s_app (K := K) (f := false) (P := fun d => d = .int (L.length : Int)) gl.sub rfl p3 n1 (by rw [List.length_map]; have := tlen stops; omega) (lenL (f := false) rfl g1.e).toS fun d v6 G4 H4 pd g4 r6 h4 n4 => ?_
  have gA : Grow G H G4 (upd H4 p (.lst ((touched (blocksOf L) stops).map V.int ++ [v6]))) := (gl.trans g4).put (g1.free fp) n4
  have e4 : Ex G1 G4 := g4.e
  refine s_ifc (K := K) (x := false) gA.sub ((et_or (x := false) (y := false) ((et_not (et_B (same (f := false) (tou (b := true) rfl gA.e (ev_var rfl (r3.mono gA.e)) (by omega)).old (ev_var rfl (r4.mono e4)) rfl pl))).is rfl) fun _ => (et_not (et_B (same (f := false) (tou (b := false) rfl gA.e (ev_cb (ea_cons (ev_var rfl (r3.mono gA.e)) ea_nil) c_listT) (by omega)).old (ev_var rfl (r4.mono e4)) rfl pl))).is rfl).is rfl) (fun hh => by cases hh) fun _ G5 H5 g5 => ?_
  have gB := gA.trans g5
  have e5 := e4.trans g5.e
  have ls : (stops.map D.int).length = stops.length := List.length_map _
  have cut1 : cutD (stops.map D.int) (some 1) none = (stops.drop 1).map D.int := by rw [show (1 : Int) = ((1 : Nat) : Int) from rfl, cutD_from (by omega), List.map_drop]
  have cut2 : cutD (stops.map D.int) none (some 1) = (stops.take 1).map D.int := by rw [show (1 : Int) = ((1 : Nat) : Int) from rfl, cutD_to (by omega), List.map_take]
  have six : HT.sIx (stops.map D.int).length 0 (some 1) = 1 := by unfold HT.sIx; simp; omega
  have six2 : HT.sIx (stops.map D.int).length (stops.map D.int).length (some 1) = 1 := by unfold HT.sIx; simp; omega
  refine s_ifc (K := K) (x := false) g5.sub ((et_or (x := false) (y := false) ((et_not (et_B (same (f := false) (tou (b := true) (ts := stops.reverse) rfl gB.e (Ev.is (ev_revT (ev_var rfl (r3.mono gB.e))) (by rw [← List.map_reverse]; rfl)) (by rw [List.length_reverse]; omega)).old (ev_var rfl (r4.mono e5)) (congrArg blockD (touched_congr fun k => List.mem_reverse)) pl))).is rfl) fun _ => (et_not (et_B (same (f := false) (tou (b := true) (ts := stops.drop 1 ++ stops.take 1) rfl gB.e
    (Ev.is (ev_op (f1 := false) (ev_slT (ev_var rfl (r3.mono gB.e)) (eo_some ev_int) eo_none (by rintro ⟨z, _⟩; rw [six] at z; cases z)) (ev_slT (ev_var rfl (r3.mono gB.e)) eo_none (eo_some ev_int) (by rintro ⟨_, z⟩; rw [six2, ls] at z; omega)) (va_tup (by rw [cut1]; intro z; have := congrArg List.length z; rw [List.length_map, List.length_drop, List.length_nil] at this; omega) (by rw [cut2]; intro z; have := congrArg List.length z; rw [List.length_map, List.length_take, List.length_nil] at this; omega) (by rw [cut1, cut2, List.length_map, List.length_map, List.length_drop, List.length_take]; omega))) (by rw [cut1, cut2, ← List.map_append]; rfl)) (by rw [List.length_append, List.length_drop, List.length_take]; omega)).old (ev_var rfl (r4.mono e5)) (congrArg blockD (touched_congr fun k => by
      rw [List.mem_append, or_comm, ← List.mem_append, List.take_append_drop])) pl))).is rfl).is rfl) (fun hh => by cases hh) fun _ G6 H6 g6 => ?_
  have gC := gB.trans g6
  have e6 := e5.trans g6.e
  -- every village
  refine s_asg (K := K) (f := false) (d := blockD ((rng 0 L.length).map fun s => (fIndex L s : Int))) g6.sub (ev_intLc0 (h := fun s => (fIndex L s : Int)) ((ei_rng1 (n := (L.length : Int)) (ea_cons (lenL (f := false) rfl gC.e) ea_nil) (by omega) (by omega)).is (show _ = rng 0 L.length by congr 1)) (by rw [rng_length]; omega) (S := fun x G1 σ' => σ' = [some v1, some v2, some v3, some v4, none, some (.ref p), none, some (.int x)]) (by rintro a G1 σ' rfl; rfl) (fun a _ G1 _ => tg_int) (fun a ma G7 e7 σ' hs' => by
    subst hs'
    have := mem_rng.mp ma
    exact idx (f := false) rfl (gC.e.trans e7) rfl (by omega) (by omega))) fun v7 G7 H7 g7 r7 => ?_
  have gD := gC.trans g7
  have hall : ∀ s ∈ rng 0 L.length, 0 ≤ s ∧ s < (n : Int) := fun s ms => by have := mem_rng.mp ms; omega
  have e67 := e6.trans g7.e
  refine s_ifc (K := K) (x := false) g7.sub ((et_not (et_B (same (f := false) (tou (b := true) (ts := rng 0 L.length) rfl gD.e (Ev.is (ev_tupRg (n := (L.length : Int)) (lenL (f := false) rfl gD.e) (by omega) (by omega)) (show _ = seqD true ((rng 0 L.length).map .int) from rfl)) (by rw [rng_length]; omega)).old (ev_sortedSet (rs := touched (blocksOf L) (rng 0 L.length)) (ev_var rfl r7) (by rw [List.length_map, rng_length]; omega) (touched_lt _ _) (c.mem_touched hall)) rfl (Pl.blk (by have := tlen (rng 0 L.length); omega))))).is rfl) (fun hh => by cases hh) fun _ G8 H8 g8 => ?_
  have gE := gD.trans g8
  have e8 := e67.trans g8.e
  have tp : ∀ k ∈ touched (blocksOf L) stops, 0 ≤ k ∧ k < (firstsOf L).length := fun k hk => by
    obtain ⟨s, ms, rfl⟩ := List.mem_map.mp ((c.mem_touched hs k).mp hk)
    have := (List.getElem?_eq_some_iff.mp (c.idx_at (hs s ms).1 (hs s ms).2)).1
    omega
  have t0 : 0 < (touched (blocksOf L) stops).length := by
    obtain ⟨s, ms⟩ : ∃ s, s ∈ stops := ⟨stops[0]'(by omega), List.getElem_mem _⟩
    exact List.length_pos_of_mem ((c.mem_touched hs _).mpr (List.mem_map_of_mem ms))
  refine s_ret (K := K) (f := true) (d := .bl true) g8.sub (ev_call (f := true) (ea_cons (ev_var rfl (r1.mono gE.e)) (ea_cons (ev_var rfl (r2.mono gE.e)) (ea_cons (ev_var rfl (r4.mono e8)) ea_nil))) (spF_use (o := fun _ => .bl true) (⟨n, L, touched (blocksOf L) stops⟩ : JoinI) ⟨h1, h2, c, t0, by have := tlen stops; show (touched (blocksOf L) stops).length ≤ 1000; omega, tp⟩)) fun v G' H' g r => q _ v G' H' rfl (gE.trans g) (r.h2 gE.ext)
/-! ### labels from keys -/
def relab {α : Type} [DecidableEq α] (keys : List α) : List Int := keys.map fun k => (idx keys k : Int)
theorem idx_le {α : Type} [DecidableEq α] {keys : List α} {m : Nat} {k : α} (h : keys[m]? = some k) : idx keys k ≤ m := by
  by_cases z : m < idx keys k
  · exact absurd rfl (idx_first z h)
  · omega
theorem relab_at {α : Type} [DecidableEq α] {keys : List α} {v : Int} {k : α} (h : keys[v.toNat]? = some k) : ix (relab keys) v = idx keys k := by
  unfold ix relab
  rw [List.getD_eq_getElem?_getD, List.getElem?_map, h]; rfl
theorem relab_len {α : Type} [DecidableEq α] (keys : List α) : (relab keys).length = keys.length := by unfold relab; rw [List.length_map]
theorem relab_canon {α : Type} [DecidableEq α] (keys : List α) : Canon keys.length (relab keys) := ⟨relab_len keys, fun v h0 h1 => by
  obtain ⟨k, hk⟩ : ∃ k, keys[v.toNat]? = some k := ⟨_, List.getElem?_eq_getElem (by omega)⟩
  have hm := List.mem_of_getElem? hk
  have h2 := idx_le hk
  rw [relab_at hk]
  refine ⟨by omega, by omega, ?_⟩
  have e : ((idx keys k : Int)).toNat = idx keys k := by omega
  rw [relab_at (by rw [e]; exact idx_get hm)]⟩
theorem relab_iff {α : Type} [DecidableEq α] {keys : List α} {u v : Int} {k l : α} (hk : keys[u.toNat]? = some k) (hl : keys[v.toNat]? = some l) : ix (relab keys) u = ix (relab keys) v ↔ k = l := by
  rw [relab_at hk, relab_at hl]
  constructor
  · intro h
    have h' : idx keys k = idx keys l := by omega
    have e1 := idx_get (List.mem_of_getElem? hk)
    have e2 := idx_get (List.mem_of_getElem? hl)
    rw [h', e2] at e1
    exact (Option.some.inj e1).symm
  · rintro rfl; rfl
structure Bl12 where
  n : Nat
  L : List Int
  places : List Int
  stops : List Int
def bl12D (i : Bl12) : D := .tup [.int i.n, blockD i.L, blockD i.places, .tup (i.stops.map .int)]
abbrev bl12Ok (i : Bl12) : Prop := joinOk ⟨i.n, i.L, i.places⟩ ∧ (1 < i.n → stopsOk i.n i.stops)
abbrev sp_law_built (K : Fr) : Sp := spF K false (fun _ : Unit => [.pool]) (fun _ => True) (fun _ d => ∃ i, d = bl12D i ∧ bl12Ok i)
theorem ok_law_built {P : Program} {w : World} {K : Fr} {mg : Str → Option Value} {base : Heap} {fa : Addr} {fd : FuncData} (F : L2.Fun K "_law_built" "_law_built" s_law_built fa fd) (B : Bt mg)
    (c_law_draw : C8.Cal P w K mg base 1 "_law_draw" spDrawV []) (c_law_stops : C8.Cal P w K mg base 2 "_law_stops" (sp_law_stops K) []) : FnOk P w K mg base CX0 3 fa fd ["pool"] (sp_law_built K) := by
  refine okF F sc_law_built (fun _ => rfl) fun cdv A outer s H vs Q E hr i G eG rr pre q => ?_
  obtain ⟨v1, rfl, r1⟩ := rr.one
  refine ⟨_, (pss_cons (ps_set (i := 1) sc_law_built.nd rfl (Or.inl rfl) (pe_op (op_addUK (K := K) rfl) pe_int (C8.pe_c c_law_draw hr (by first | decide | exact Nat.le_refl _) (by rfl) (pa_cons (pv 0) (pa_cons pe_int pa_nil))))) 
  (C8.pss_cut (ps_if (pt_cmpR (op_eqUK (K := K) rfl hr.units) (C8.pe_c c_law_draw hr (by first | decide | exact Nat.le_refl _) (by rfl) (pa_cons (pv 0) (pa_cons pe_int pa_nil))) pe_int (nomark _)) (pss_one (ps_set (i := 1) sc_law_built.nd rfl (Or.inl rfl) (pe_op (op_addUK (K := K) rfl) pe_int (C8.pe_c c_law_draw hr (by first | decide | exact Nat.le_refl _) (by rfl) (pa_cons (pv 0) (pa_cons pe_int pa_nil)))))) pss_nil) 
  (pss_cons (ps_set (i := 2) sc_law_built.nd rfl (Or.inr rfl) (pe_op (op_addUK (K := K) rfl) pe_int (C8.pe_c c_law_draw hr (by first | decide | exact Nat.le_refl _) (by rfl) (pa_cons (pv 0) (pa_cons (pv 1) pa_nil))))) 
  (pss_cons (ps_set (i := 3) sc_law_built.nd rfl (Or.inr rfl) (pe_lc (own := [("v", 4)]) rfl sc_law_built.nd (pi_range1 (by rfl) B.b_range (pa_cons (pv 1) pa_nil)) (blkOk_by (by kernel_rfl)) (fun _ _ _ _ _ => (pg_name (i := 4) sc_law_built.nd rfl (Or.inl rfl))) (fun _ _ _ _ _ => pts_nil) (fun _ _ _ _ _ => (C8.pe_c c_law_draw hr (by first | decide | exact Nat.le_refl _) (by rfl) (pa_cons (pv 0) (pa_cons (pv 2) pa_nil)))))) 
  (pss_cons (ps_set (i := 5) sc_law_built.nd rfl (Or.inr rfl) (pe_lc (own := [("label", 6)]) rfl sc_law_built.nd (pi_seqK (K := K) rfl (pv 3)) (blkOk_by (by kernel_rfl)) (fun _ _ _ _ _ => (pg_name (i := 6) sc_law_built.nd rfl (Or.inl rfl))) (fun _ _ _ _ _ => pts_nil) (fun _ _ _ _ _ => (pe_bmK (K := K) rfl PySem.F.plainAttrs_list PySem.F.slot_list_index PySem.F.type_list_index (mt_indexUK (K := K) rfl (u65 hr)) (pv 3) (pa_cons (pv 6) pa_nil))))) 
  (pss_cons (ps_set (i := 7) sc_law_built.nd rfl (Or.inl rfl) (pe_listRg rfl (by rfl) B.b_list (prg_1 (by rfl) B.b_range (pe_callB (cl_lenK (K := K) rfl) (by rfl) B.b_len bt_len (pa_cons (pe_lc (own := [("v", 4)]) rfl sc_law_built.nd (pi_range1 (by rfl) B.b_range (pa_cons (pv 1) pa_nil)) (blkOk_by (by kernel_rfl)) (fun _ _ _ _ _ => (pg_name (i := 4) sc_law_built.nd rfl (Or.inl rfl))) (fun _ _ _ _ _ => (pts_one (pt_cmpR (op_eqUK (K := K) rfl hr.units) (pe_ix (ix_seqK (K := K) rfl) (pv 5) (pv 4) (fun _ _ => rfl)) (pv 4) (nomark _)))) (fun _ _ _ _ _ => (pv 4))) pa_nil))))) 
  (pss_cons (ps_set (i := 8) sc_law_built.nd rfl (Or.inl rfl) (pe_lst pa_nil)) 
  (pss_cons (ps_for PassesOwn.never rfl (pi_range1 (by rfl) B.b_range (pa_cons (pe_op (op_addUK (K := K) rfl) pe_int (C8.pe_c c_law_draw hr (by first | decide | exact Nat.le_refl _) (by rfl) (pa_cons (pv 0) (pa_cons (pe_callB (cl_lenK (K := K) rfl) (by rfl) B.b_len bt_len (pa_cons (pv 7) pa_nil)) pa_nil)))) pa_nil)) (pg_name (i := 9) sc_law_built.nd rfl (Or.inl rfl)) (pss_cons (ps_set (i := 10) sc_law_built.nd rfl (Or.inl rfl) (C8.pe_c c_law_draw hr (by first | decide | exact Nat.le_refl _) (by rfl) (pa_cons (pv 0) (pa_cons (pe_callB (cl_lenK (K := K) rfl) (by rfl) B.b_len bt_len (pa_cons (pv 7) pa_nil)) pa_nil)))) 
  (pss_cons (ps_expr (pe_bmK (K := K) rfl PySem.F.plainAttrs_list PySem.F.slot_list_append PySem.F.type_list_append mt_append (pv 8) (pa_cons (pe_ix (ix_seqK (K := K) rfl) (pv 7) (pv 10) (fun _ _ => rfl)) pa_nil))) 
  (pss_one (ps_set (i := 7) sc_law_built.nd rfl (Or.inl rfl) (pe_op (op_addUK (K := K) rfl) (pe_slice (sl_UK (K := K) rfl) (pv 7) po_none (po_some (pv 10))) (pe_slice (sl_UK (K := K) rfl) (pv 7) (po_some (pe_op (op_addUK (K := K) rfl) (pv 10) pe_int)) po_none))))))) 
  (pss_cons (ps_set (i := 11) sc_law_built.nd rfl (Or.inl rfl) (pe_tup pa_nil)) 
  (C8.pss_cut (ps_if (pt_cmpR op_gt (pv 1) pe_int (nomark _)) (pss_one (ps_set (i := 11) sc_law_built.nd rfl (Or.inl rfl) (C8.pe_c c_law_stops hr (by first | decide | exact Nat.le_refl _) (by rfl) (pa_cons (pv 0) (pa_cons (pv 1) (pa_cons pe_int pa_nil)))))) pss_nil) 
  (pss_one (ps_ret (pe_tup (pa_cons (pv 1) (pa_cons (pv 5) (pa_cons (pv 8) (pa_cons (pv 11) pa_nil))))))))))))))))), ?_⟩
  refine s_asgS (K := K) (f := true) eG (iS_add (p1 := fun j => j = 1) (p2 := fun j => 0 ≤ j ∧ j < 4) (p3 := fun j => 1 ≤ j ∧ j ≤ 7) (ev_int.toI rfl) (ev_draw (ea_cons (ev_var rfl r1) (ea_cons ev_int ea_nil)) (by decide) (by decide)) (by omega)) fun d v G1 H1 pd g1 rv => ?_
  obtain ⟨n0, rfl, hn0⟩ := pd
  cases rv
  refine ⟨fun σ' H' => ∃ (n : Nat) (G' : Hp), σ' = [some v1, some (.int n), none, none, none, none, none, none, none, none, none, none] ∧ 1 ≤ n ∧ n ≤ 7 ∧ Grow G H G' H', ?_, ?_⟩
  · refine s_ifS (K := K) (T := fun _ => True) g1.sub (etS_eq (ev_draw (ea_cons (ev_var rfl (r1.mono g1.e)) (ea_cons ev_int ea_nil)) (by decide) (by decide)) (ev_int.toI (p := fun j => j = 5) rfl) (fun i j => v_eqI) (fun _ _ _ _ => trivial)) (fun _ G2 H2 g2 => ?_) (fun _ G2 H2 g2 => ?_)
    · refine s_asgS (K := K) (f := true) g2.sub (iS_add (p1 := fun j => j = 1) (p2 := fun j => 0 ≤ j ∧ j < 7) (p3 := fun j => 1 ≤ j ∧ j ≤ 7) (ev_int.toI rfl) (ev_draw (ea_cons (ev_var rfl (r1.mono (g1.e.trans g2.e))) (ea_cons ev_int ea_nil)) (by decide) (by decide)) (by omega)) fun d v G3 H3 pd g3 rv => ?_
      obtain ⟨n1, rfl, hn1⟩ := pd
      cases rv
      exact ⟨n1.toNat, G3, by rw [show ((n1.toNat : Nat) : Int) = n1 by omega], by omega, by omega, (g1.trans g2).trans g3⟩
    · exact ⟨n0.toNat, G2, by rw [show ((n0.toNat : Nat) : Int) = n0 by omega], by omega, by omega, g1.trans g2⟩
  rintro σ' H2 ⟨n, G2, rfl, hn1, hn7, g2⟩
  -- kinds, drawn, labels
  refine s_asgS (K := K) (f := true) g2.sub (iS_add (p1 := fun j => j = 1) (p2 := fun j => 0 ≤ j ∧ j < n) (p3 := fun j => 1 ≤ j ∧ j ≤ n) (ev_int.toI rfl) (ev_draw (ea_cons (ev_var rfl (r1.mono g2.e)) (ea_cons (ev_vi rfl) ea_nil)) (by omega) (by omega)) (by omega)) fun d v G3 H3 pd g3 rv => ?_
  obtain ⟨kinds, rfl, hk⟩ := pd
  cases rv
  have g23 := g2.trans g3
  refine s_asgS (K := K) (f := true) g3.sub (evS_intLc (p := fun j => 0 ≤ j ∧ j < kinds) (ei_rng1 (n := (n : Int)) (ea_cons (ev_vi rfl) ea_nil) (by omega) (by omega)) (by rw [rng_length]; omega) (S := fun a G1 σ' => σ' = [some v1, some (.int n), some (.int kinds), none, some (.int a), none, none, none, none, none, none, none]) (by rintro a G1 σ' rfl; rfl) (fun a _ G1 _ => tg_int)
    (fun a ma G4 e4 σ' hs => by subst hs; exact ev_draw (ea_cons (ev_var rfl (r1.mono (g23.e.trans e4))) (ea_cons (ev_vi rfl) ea_nil)) (by omega) (by omega))) fun d v3 G4 H4 pd g4 r4 => ?_
  obtain ⟨drawn, rfl, ld, _⟩ := pd
  rw [rng_length] at ld
  have ld : drawn.length = n := by omega
  have c := relab_canon drawn
  rw [ld] at c
  refine s_asg (K := K) (f := true) (d := blockD (relab drawn)) g4.sub (ev_intLc0 (h := fun x => (idx drawn x : Int)) (ei_seqL (ev_var rfl r4.old)) (by omega) (S := fun a G1 σ' => σ' = [some v1, some (.int n), some (.int kinds), some v3, none, none, some (.int a), none, none, none, none, none]) (by rintro a G1 σ' rfl; rfl) (fun a _ G1 _ => tg_int)
    (fun a ma G5 e5 σ' hs => by subst hs; exact ev_indexI (ev_var rfl (r4.old.mono e5)) (ev_vi rfl) ma)) fun v5 G5 H5 g5 r5 => ?_
  generalize hL : relab drawn = L at *
  have g25 := (g23.trans g4).trans g5
  have fl := firsts_len c
  have lL := c.len
  have f0 : 0 < (firstsOf L).length := by
    have z := c.at0 0 (by omega) (by omega)
    exact List.length_pos_of_mem ((mem_firsts c).mpr ⟨by omega, by omega, by omega⟩ : (0 : Int) ∈ firstsOf L)
  -- left, places
  refine s_asg (K := K) (f := true) (d := blockD (rng 0 (firstsOf L).length)) g5.sub (Ev.is (ev_listRg (n := ((firstsOf L).length : Int)) (Ev.is (ev_cb (ea_cons (ev_intLc (f := false) (h := fun v => v) (b := fun v => decide (ix L v = v)) (ei_rng1 (n := (n : Int)) (ea_cons (ev_vi rfl) ea_nil) (by omega) (by omega)) (by rw [rng_length]; omega) (S := fun v G1 σ' => σ' = [some v1, some (.int n), some (.int kinds), some v3, some (.int v), some v5, none, none, none, none, none, none]) (by rintro a G1 σ' rfl; rfl) (fun a _ G1 _ => tg_int) (fun a ma G6 e6 σ' hs => ?_) (fun a ma _ G6 e6 σ' hs => ?_)) ea_nil) c_lenL) (by rw [List.length_map, List.map_id']; unfold firstsOf; rw [lL]; rfl)) (by omega) (by omega)) (by rw [show ((firstsOf L).length : Int).toNat = (firstsOf L).length by omega])) fun vL G6 H6 g6 rL => ?_
  · subst hs
    have := mem_rng.mp ma
    exact et_test (f := false) (ev_op (f1 := false) (ev_op (f1 := false) (ev_var rfl (r5.old.mono e6)) (ev_vi rfl) (v_ixL (at_int (by omega) (by omega)))) (ev_vi rfl) v_eqI)
  · subst hs
    exact ev_vi rfl
  have g26 := g25.trans g6
  generalize hF : (firstsOf L).length = m at *
  refine s_asgL (K := K) (f := true) g6.sub (evl_lst ea_nil (by decide)) fun p us G7 H7 g7 hp0 hnp hp ru => ?_
  cases ru
  have hp00 : H p = none := g26.free hp0
  refine s_forA (K := K) g7.sub (eaS_cons (iS_add (p1 := fun j => j = 1) (p2 := fun j => 0 ≤ j ∧ j < m) (p3 := fun j => 1 ≤ j ∧ j ≤ m) (ev_int.toI rfl) (ev_draw (ea_cons (ev_var rfl (r1.mono (g26.e.trans g7.e))) (ea_cons (Ev.is (ev_cb (ea_cons (ev_var rfl (rL.old.mono g7.e)) ea_nil) c_lenL) (by rw [List.length_map, rng_length])) ea_nil)) (by omega) (by omega)) (by omega)) eaS_nil) fun ds us8 G8 H8 pd g8 ru8 => ?_
  obtain ⟨_, _, rfl, ⟨size, rfl, hs1, hs2⟩, rfl⟩ := pd
  have z8 := g8.keep hp hnp
  have g28 := (g26.trans g7).trans g8
  refine s_for (K := K) (xs := rng 0 size.toNat) (c := D.int) (S := fun a σ1 G2 σ' => σ' = σ1.set 9 (some (.int a))) g28 (ei_rng1 (n := size) (ea_cst ru8) (by omega) (by omega))
    (fun i σ1 G1 H1 => ∃ (X S : List Int) (vL : V) (y1 y2 : Option V), σ1 = [some v1, some (.int n), some (.int kinds), some v3, none, some v5, none, some vL, some (.ref p), y1, y2, none] ∧ Rep K none G1 (blockD X) vL ∧ G1 p = none ∧ H1 p = some (.lst (S.map V.int)) ∧ S.length = i ∧ (S ++ X).Perm (rng 0 m)) ?_ ?_ ?_ ?_
  · intro G' H' g
    have z := g.keep z8.1 z8.2
    exact ⟨_, [], vL, none, none, rfl, rL.old.mono ((g7.e.trans g8.e).trans g.e), z.2, z.1, rfl, List.Perm.refl _⟩
  · rintro a _ i σ1 G2 H2 G3 ⟨X, S, vL, y1, y2, rfl, _⟩ _
    exact tg_int
  · rintro i a σ1 Ga Ha Gb Hb σ2 ha ea ga ⟨X, S, vL, y1, y2, rfl, rl, na, pa, hl, pm⟩ gb rfl N hN
    have hi : i < size.toNat := by have := (List.getElem?_eq_some_iff.mp ha).1; rwa [rng_length] at this
    have hlen := pm.length_eq
    rw [List.length_append, rng_length] at hlen
    have zb := gb.keep pa na
    have eb := ((g28.e.trans ea).trans gb.e)
    refine s_asgS (K := K) (f := true) gb.sub (ev_draw (many := (X.length : Int)) (ea_cons (ev_var rfl (r1.mono eb)) (ea_cons (Ev.is (ev_cb (ea_cons (ev_var rfl (rl.mono gb.e)) ea_nil) c_lenL) (by rw [List.length_map])) ea_nil)) (by omega) (by omega)) fun d v Gc Hc pd gc rv => ?_
    obtain ⟨at', rfl, ha1, ha2⟩ := pd
    cases rv
    have zc := gc.keep zb.1 zb.2
    obtain ⟨k, rfl⟩ : ∃ k : Nat, at' = (k : Int) := ⟨at'.toNat, by omega⟩
    have hx : X[k]? = some (ix X k) := ix_get (i := (k : Int)) ha1 ha2
    refine s_app (K := K) (f := false) (P := fun d => d = .int (ix X k)) gc.sub rfl zc.1 zc.2 (by rw [List.length_map]; omega) (ev_op (f1 := false) (ev_var rfl (rl.mono (gb.e.trans gc.e))) (ev_vi rfl) (v_ixL (at_int ha1 ha2))).toS fun d v Gd Hd pd gd rv hd' nd => ?_
    subst pd
    cases rv
    have ed := (gb.e.trans gc.e).trans gd.e
    refine s_asg (K := K) (f := false) (d := blockD (X.take k ++ X.drop (k + 1))) (gd.sub.mut nd) (Ev.is (ev_op (f1 := false) (ev_slU (ev_var rfl (rl.mono ed)) eo_none (eo_some (ev_vi rfl))) (ev_slU (ev_var rfl (rl.mono ed)) (eo_some (i := ((k + 1 : Nat) : Int)) (Ev.is (ev_op (f1 := false) (ev_vi rfl) ev_int va_int) (by simp))) eo_none) (va_lstO ?_)) ?_) fun v8 Ge He ge re => ?_
    · have q1 := cutD_length (X.map D.int) none (some (k : Int))
      have q2 := cutD_length (X.map D.int) (some ((k + 1 : Nat) : Int)) none
      rw [List.length_map] at q1 q2
      omega
    · rw [cutD_to (by rw [List.length_map]; omega), cutD_from (by rw [List.length_map]; omega), blockD, List.map_append, List.map_take, List.map_drop]
    · have ze := ge.keep upd_same nd
      refine hN _ Ge He (ed.trans ge.e) (((((ga.trans gb).trans gc).trans gd).put hp00 nd).trans ge) ⟨_, S ++ [ix X k], v8, _, _, rfl, re, ze.2, by rw [List.map_append]; exact ze.1, by rw [List.length_append, hl]; rfl, ?_⟩
      rw [List.append_assoc]
      exact (List.Perm.append_left S (perm_pick hx)).trans pm
  rintro σ1 Ga Ha ea ga ⟨X, S, vL', y1, y2, rfl, rl, na, pa, hl, pm⟩
  rw [rng_length] at hl
  have hlen := pm.length_eq
  rw [List.length_append, rng_length] at hlen
  -- places are known from here on
  have gk := ga.own pa na hp00
  generalize hGk : upd Ga p (.lst (S.map V.int)) = Gk at gk
  have rP : Rep K none Gk (blockD S) (.ref p) := by rw [← hGk]; exact rep_ownN na (RepA.ofInts S)
  have eak : Ex Ga Gk := by rw [← hGk]; exact Ex.new na
  have e5k : Ex G5 Gk := (((g6.e.trans g7.e).trans g8.e).trans ea).trans eak
  have pok : joinOk ⟨n, L, S⟩ := ⟨hn1, hn7, c, by show 0 < S.length; omega, by show S.length ≤ 1000; omega, fun x hx => by
    have := mem_rng.mp (pm.mem_iff.mp (List.mem_append_left X hx))
    show 0 ≤ x ∧ x < ((firstsOf L).length : Int)
    omega⟩
  dsimp only
  refine s_asg (K := K) (f := false) (d := .tup ([] : List D)) gk.sub (ev_tup ea_nil (by decide)) fun vT Gl Hl gl rT => ?_
  have gkl := gk.trans gl
  refine ⟨fun σ' H' => ∃ (stops : List Int) (vS : V) (G' : Hp), σ' = [some v1, some (.int n), some (.int kinds), some v3, none, some v5, none, some vL', some (.ref p), y1, y2, some vS] ∧ (1 < n → stopsOk n stops) ∧ Rep K none G' (.tup (stops.map .int)) vS ∧ Ex Gk G' ∧ Grow G H G' H', ?_, ?_⟩
  · refine s_if (K := K) (x := decide ((1 : Int) < n)) gl.sub (et_test (f := false) (ev_op (f1 := false) (ev_vi rfl) ev_int v_gt)) (fun hx Gm Hm gm => ?_) (fun hx Gm Hm gm => ?_)
    · have hx := of_decide_eq_true hx
      refine s_asgS (K := K) (f := false) gm.sub (evS_call1 (ea_cons (ev_var rfl (r1.mono (gkl.e.trans gm.e))) (ea_cons (ev_vi rfl) (ea_cons ev_int ea_nil))) (spF_useS (out := fun (i : Int × Int) d => ∃ ns, d = .tup (ns.map .int) ∧ stopsOk i.1 ns) ((n : Int), 5) ⟨by show (2 : Int) ≤ n; omega, by show (n : Int) ≤ 1000; omega, by show (2 : Int) ≤ 5; decide, by show (5 : Int) ≤ 1000; decide⟩)) fun d vS Gn Hn pd gn rS => ?_
      obtain ⟨stops, rfl, hs⟩ := pd
      exact ⟨stops, vS, Gn, rfl, fun _ => hs, rS, (gl.e.trans gm.e).trans gn.e, (gkl.trans gm).trans gn⟩
    · have hx := of_decide_eq_false hx
      exact ⟨[], vT, Gm, rfl, fun h => absurd (by omega) hx, rT.mono gm.e, gl.e.trans gm.e, gkl.trans gm⟩
  rintro σ' Hm ⟨stops, vS, Gm, rfl, hst, rS, ekm, gm⟩
  exact s_ret (K := K) (f := false) (d := bl12D ⟨n, L, S, stops⟩) gm.sub (ev_tup (ea_cons (ev_vi rfl) (ea_cons (ev_var rfl (r5.old.mono (e5k.trans ekm))) (ea_cons (ev_var rfl (rP.mono ekm)) (ea_cons (ev_var rfl rS) ea_nil)))) (Nat.le_of_ble_eq_true rfl)) fun v G' H' g r => q _ v G' H' ⟨_, rfl, pok, hst⟩ (gm.trans g) (r.h2 gm.ext)
def spLaw (K : Fr) : Sp := fun vs H Q _ => ∃ (a : Addr) (ns : List Int), vs = [.ref a] ∧ SqL K H a (ns.map V.int) ∧ ns.length ≤ 63 ∧ ∀ H', Q (.bl true) H'
theorem nodup_sub_len {α : Type} [DecidableEq α] : ∀ {xs ys : List α}, xs.Nodup → (∀ x ∈ xs, x ∈ ys) → xs.length ≤ ys.length
  | [], _, _, _ => Nat.zero_le _
  | x :: xs, ys, h, hs => by
    have h' := List.nodup_cons.mp h
    have ih := nodup_sub_len (ys := ys.erase x) h'.2 fun z hz => (List.mem_erase_of_ne (fun e => h'.1 (by rw [← e]; exact hz))).mpr (hs z (List.mem_cons_of_mem _ hz))
    have hx := hs x List.mem_cons_self
    rw [List.length_erase_of_mem hx] at ih
    have := List.length_pos_of_mem hx
    rw [List.length_cons]; omega
theorem ok_law {P : Program} {w : World} {K : Fr} {mg : Str → Option Value} {base : Heap} {fa : Addr} {fd : FuncData} (F : L2.Fun K "law" "law" s_law fa fd) (B : Bt mg)
    (c_law_pool : C8.Cal P w K mg base 1 "_law_pool" (spPoolV K) []) (c_law_built : C8.Cal P w K mg base 3 "_law_built" (sp_law_built K) []) (c_law_blocks : C8.Cal P w K mg base 1 "_law_blocks" (sp_law_blocks K) []) (c_singles : C8.Cal P w K mg base 1 "singles" (sp_singles K) [])
    (c_law_same : C8.Cal P w K mg base 9 "_law_same" (spSame K 9) []) (c_law_index : C8.Cal P w K mg base 1 "_law_index" (sp_law_index K) []) (c_place_of : C8.Cal P w K mg base 1 "place_of" (sp_place_of K) []) (c_touched_by : C8.Cal P w K mg base 1 "touched_by" (sp_touched_by K) [])
    (c_law_joins : C8.Cal P w K mg base 10 "_law_joins" (sp_law_joins K) []) (c_law_touches : C8.Cal P w K mg base 11 "_law_touches" (sp_law_touches K) []) : FnOk P w K mg base CX0 12 fa fd ["script"] (spLaw K) := by
  refine F.ok sc_law (fun vs H Q E h => ?_) (fun cdv A outer s H vs Q E hr h => ?_)
  · obtain ⟨a, ns, rfl, _⟩ := h
    rfl
  obtain ⟨a, ns, rfl, hS, hl, q⟩ := h
  have same : ∀ {f : Bool} {ta tb : TE} {σ : L2.St} {G1 : Hp} {d1 d2 : D} {E : XK}, Ev K false ta σ G1 d1 → Ev K false tb σ G1 d2 → d1 = d2 → Pl 8 d2 → Ev K f (tCall (spSame K 9) [] E (tCons ta (tCons tb tNil))) σ G1 (.bl true) := fun h1 h2 e p => Ev.sc (Ev.is (ev_call (f := true) (ea_cons h1 (ea_cons h2 ea_nil)) (same_use (e ▸ p) p)).old (by rw [e, sameD_refl p])) rfl
  refine ⟨_, (pss_cons (ps_asg (C8.pe_c c_law_built hr (by first | decide | exact Nat.le_refl _) (by rfl) (pa_cons (C8.pe_c c_law_pool hr (by first | decide | exact Nat.le_refl _) (by rfl) (pa_cons (pv 0) pa_nil)) pa_nil)) (pg_tupK (K := K) (n := 4) rfl rfl (pgs_cons (pg_name (i := 1) sc_law.nd rfl (Or.inl rfl)) (pgs_cons (pg_name (i := 2) sc_law.nd rfl (Or.inl rfl)) (pgs_cons (pg_name (i := 3) sc_law.nd rfl (Or.inl rfl)) (pgs_cons (pg_name (i := 4) sc_law.nd rfl (Or.inl rfl)) pgs_nil)))))) 
  (pss_cons (ps_set (i := 5) sc_law.nd rfl (Or.inl rfl) (C8.pe_c c_law_blocks hr (by first | decide | exact Nat.le_refl _) (by rfl) (pa_cons (pv 2) pa_nil))) 
  (pss_cons (ps_setLc (i := 6) (own := [("block", 7)]) rfl sc_law.nd rfl rfl (sw_true rfl rfl rfl (by decide +kernel)) (pi_seqK (K := K) rfl (pv 5)) (blkOk_by (by kernel_rfl)) (fun _ _ _ _ _ => (pg_name (i := 7) sc_law.nd rfl (Or.inl rfl))) (fun _ _ _ _ _ => pts_nil) (fun _ _ _ _ _ => (pe_callTy (cl_listK (K := K) rfl) (by rfl) B.b_list bt_list (pa_cons (pv 7) pa_nil)))) 
  (pss_cons (ps_set (i := 8) sc_law.nd rfl (Or.inl rfl) (C8.pe_c c_singles hr (by first | decide | exact Nat.le_refl _) (by rfl) (pa_cons (pv 1) pa_nil))) 
  (pss_cons (ps_if (pt_not (pt_val (C8.pe_c c_law_same hr (by first | decide | exact Nat.le_refl _) (by rfl) (pa_cons (pv 8) (pa_cons (pe_lc (own := [("v", 9)]) rfl sc_law.nd (pi_range1 (by rfl) B.b_range (pa_cons (pv 1) pa_nil)) (blkOk_by (by kernel_rfl)) (fun _ _ _ _ _ => (pg_name (i := 9) sc_law.nd rfl (Or.inl rfl))) (fun _ _ _ _ _ => pts_nil) (fun _ _ _ _ _ => (pe_lst (pa_cons (pv 9) pa_nil)))) pa_nil))))) (pss_one (ps_ret pe_bl)) pss_nil) 
  (pss_cons (ps_expr (pe_bmK (K := K) rfl PySem.F.plainAttrs_list PySem.F.slot_list_append PySem.F.type_list_append mt_append (pe_ix (ix_seqK (K := K) rfl) (pv 8) pe_int (fun _ _ => rfl)) (pa_cons (pv 1) pa_nil))) 
  (pss_cons (ps_expr (pe_bmK (K := K) rfl PySem.F.plainAttrs_list PySem.F.slot_list_append PySem.F.type_list_append mt_append (pv 8) (pa_cons (pe_lst (pa_cons pe_int pa_nil)) pa_nil))) 
  (pss_cons (ps_if (pt_not (pt_val (C8.pe_c c_law_same hr (by first | decide | exact Nat.le_refl _) (by rfl) (pa_cons (C8.pe_c c_singles hr (by first | decide | exact Nat.le_refl _) (by rfl) (pa_cons (pv 1) pa_nil)) (pa_cons (pe_lc (own := [("v", 9)]) rfl sc_law.nd (pi_range1 (by rfl) B.b_range (pa_cons (pv 1) pa_nil)) (blkOk_by (by kernel_rfl)) (fun _ _ _ _ _ => (pg_name (i := 9) sc_law.nd rfl (Or.inl rfl))) (fun _ _ _ _ _ => pts_nil) (fun _ _ _ _ _ => (pe_lst (pa_cons (pv 9) pa_nil)))) pa_nil))))) (pss_one (ps_ret pe_bl)) pss_nil) 
  (pss_cons (ps_for PassesOwn.never rfl (pi_range1 (by rfl) B.b_range (pa_cons (pv 1) pa_nil)) (pg_name (i := 9) sc_law.nd rfl (Or.inl rfl)) (pss_cons (ps_set (i := 10) sc_law.nd rfl (Or.inl rfl) (C8.pe_c c_law_index hr (by first | decide | exact Nat.le_refl _) (by rfl) (pa_cons (pv 2) (pa_cons (pv 9) pa_nil)))) 
  (pss_cons (ps_if (pt_not (pt_val (C8.pe_c c_law_same hr (by first | decide | exact Nat.le_refl _) (by rfl) (pa_cons (C8.pe_c c_place_of hr (by first | decide | exact Nat.le_refl _) (by rfl) (pa_cons (pv 6) (pa_cons (pv 9) pa_nil))) (pa_cons (pv 10) pa_nil))))) (pss_one (ps_ret pe_bl)) pss_nil) 
  (pss_one (ps_if (PW.pt (pw_or (pt_not (pt_val (C8.pe_c c_law_same hr (by first | decide | exact Nat.le_refl _) (by rfl) (pa_cons (C8.pe_c c_touched_by hr (by first | decide | exact Nat.le_refl _) (by rfl) (pa_cons (pv 6) (pa_cons (pe_tup (pa_cons (pv 9) pa_nil)) pa_nil))) (pa_cons (pe_lst (pa_cons (pv 10) pa_nil)) pa_nil))))) (pw_or1 (pt_not (pt_val (C8.pe_c c_law_same hr (by first | decide | exact Nat.le_refl _) (by rfl) (pa_cons (C8.pe_c c_touched_by hr (by first | decide | exact Nat.le_refl _) (by rfl) (pa_cons (pv 6) (pa_cons (pe_lst (pa_cons (pv 9) pa_nil)) pa_nil))) (pa_cons (pe_lst (pa_cons (pv 10) pa_nil)) pa_nil)))))))) (pss_one (ps_ret pe_bl)) pss_nil))))) 
  (pss_cons (ps_if (pt_not (pt_val (C8.pe_c c_law_joins hr (by first | decide | exact Nat.le_refl _) (by rfl) (pa_cons (pv 2) (pa_cons (pv 6) (pa_cons (pv 3) pa_nil)))))) (pss_one (ps_ret pe_bl)) pss_nil) 
  (pss_cons (ps_if (PW.pt (pw_and (pt_cmpR op_gt (pv 1) pe_int (nomark _)) (pw_and1 (pt_not (pt_val (C8.pe_c c_law_touches hr (by first | decide | exact Nat.le_refl _) (by rfl) (pa_cons (pv 2) (pa_cons (pv 6) (pa_cons (pv 4) pa_nil))))))))) (pss_one (ps_ret pe_bl)) pss_nil) 
  (pss_one (ps_ret (C8.pe_c c_law_same hr (by first | decide | exact Nat.le_refl _) (by rfl) (pa_cons (pv 6) (pa_cons (pv 5) pa_nil)))))))))))))))), ?_⟩
  refine ⟨_, rfl, a, ns, rfl, hS, hl, fun p H0 hP e0 => ⟨(), H0, Ex.refl _, .cons (.pool hP) .nil, trivial, fun d v0 G1 H1 pd g1 r0 => ?_⟩⟩
  obtain ⟨⟨n, L, places, stops⟩, rfl, ⟨hn1, hn7, c, hp0, hp1, hp2⟩, hst⟩ := pd
  dsimp only at hn1 hn7 c hp0 hp1 hp2 hst
  obtain ⟨t, us, rfl, ht, ru⟩ := r0.tup_inv
  obtain ⟨u1, v2, v3, v4, rfl, r1, r2, r3, r4⟩ := ru.four
  cases r1
  have cl := c.len
  have r2 : Rep K none G1 (blockD L) v2 := r2
  have r3 : Rep K none G1 (blockD places) v3 := r3
  have r4 : Rep K none G1 (.tup (stops.map .int)) v4 := r4
  refine ⟨t, _, rfl, Evl.ex_t g1.sub ht, rfl, _, _, rfl, _, _, rfl, _, _, rfl, _, _, rfl, rfl, ?_⟩
  show tSeq _ _ _ [some (.ref a), some (.int n), some v2, some v3, some v4, none, none, none, none, none, none] H1
  have bl := c.flat'
  -- blocks, mine
  refine s_asg (K := K) (f := true) (d := rowsD (blocksOf L)) g1.sub (ev_call (f := true) (ea_cons (ev_var rfl r2) ea_nil) (spF_use (o := fun i => rowsD (blocksOf i)) L (by omega))) fun v5 G2 H2 g2 r5 => ?_
  refine s_asg (K := K) (f := true) (d := rowsD (blocksOf L)) g2.sub (evl_lc0 (f := true) (h := fun r => blockD r) (ei_seqL (ev_var rfl r5.old)) (by omega) (S := fun r G2 σ' => ∃ u, Rep K none G2 (blockD r) u ∧ σ' = [some (.ref a), some (.int n), some v2, some v3, some v4, some v5, none, some u, none, none, none]) (by rintro _ _ _ ⟨v, rv, rfl⟩; rfl) (fun _ _ _ _ => tg_name.imp (by rintro _ ⟨v, rv, rfl⟩; exact ⟨v, rv, rfl⟩))
    (fun r mr G4 e4 σ' hs => by
      obtain ⟨u, ru, rfl⟩ := hs
      exact ev_cb (ea_cons (ev_var rfl ru) ea_nil) (c_listLs fun d hd => by obtain ⟨x, _, rfl⟩ := List.mem_map.mp hd; rfl))).ev fun v6 G3 H3 g3 r6 => ?_
  have g13 := (g1.trans g2).trans g3
  have e13 := g2.e.trans g3.e
  have sg : ∀ {σ : L2.St} {G : Hp} {E : XK}, σ[1]? = some (some (.int n)) → Ev K true (tCall (sp_singles K) [] E (tCons (tVar 1) tNil)) σ G (rowsD (singlesR n)) := fun hv => ev_call (ea_cons (ev_vi hv) ea_nil) (spF_use (o := fun i => rowsD (singlesR i)) (n : Int) ⟨by omega, by omega⟩)
  have pls : Pl 8 (rowsD (singlesR n)) := Pl.rows' (by unfold singlesR; rw [List.length_map, rng_length]; omega) fun r hr => by
    obtain ⟨x, _, rfl⟩ := List.mem_map.mp hr
    exact Nat.le_of_ble_eq_true rfl
  -- alone
  refine s_asg (K := K) (f := true) g3.sub (sg rfl) fun v8 G4 H4 g4 r8 => ?_
  have alone : ∀ {y7 y10 : Option V} {v6 v8 : V} {G : Hp}, Ev K false (tLc (iRng1 (tCons (tVar 1) tNil)) (gName 9) tYes (tLst (tCons (tVar 9) tNil)) [9]) [some (.ref a), some (.int n), some v2, some v3, some v4, some v5, some v6, y7, some v8, none, y10] G (rowsD (singlesR n)) := fun {y7 y10 v6 v8 G} => Ev.is (evl_lc0 (f := false) (h := fun v => blockD [v]) (ei_rng1 (n := (n : Int)) (ea_cons (ev_vi rfl) ea_nil) (by omega) (by omega)) (by rw [rng_length]; omega) (S := fun x G1 σ' => σ' = [some (.ref a), some (.int n), some v2, some v3, some v4, some v5, some v6, y7, some v8, some (.int x), y10]) (by rintro x G1 σ' rfl; rfl) (fun x _ G1 _ => tg_int)
    (fun x mx G1 e1 σ' hs => by subst hs; exact ev_lst (ea_cons (ev_vi rfl) ea_nil) (Nat.le_of_ble_eq_true rfl))).ev (by unfold singlesR; rw [rowsD, List.map_map]; rfl)
  refine s_ifc (K := K) (x := false) g4.sub ((et_not (et_B (same (f := false) (ev_var rfl r8.old) alone rfl pls))).is rfl) (fun hh => by cases hh) fun _ G5 H5 g5 => ?_
  obtain ⟨p8, us8, rfl, _⟩ := id r8.lst_inv
  have gl : Grow H0 H0 G3 H5 := ((g13.trans g4).trans g5).less g13.e (g4.e.trans g5.e)
  obtain ⟨us, lus, own⟩ := OwnRows.of (H0 := H0) (G2 := G3) (H := H5) (b := 1000) r8 (g5.e.trans g5.sub) g3.sub g13.ext (fun r hr => by
    obtain ⟨x, _, rfl⟩ := List.mem_map.mp hr
    exact Nat.le_of_ble_eq_true rfl)
  have lu : us.length = n := by rw [lus]; unfold singlesR; rw [List.length_map, rng_length]; omega
  refine s_appRow own gl rfl (ev_int (n := 0)) (by decide) (by omega) (by decide) (ev_vi (f := false) rfl) fun G6 H6 e6 g6 o6 => ?_
  refine s_app (K := K) (f := false) (P := fun d => d = blockD [0]) g6.sub rfl o6.hp o6.gp (by omega) (ev_lst (ea_cons ev_int ea_nil) (Nat.le_of_ble_eq_true rfl)).toS fun d v9 G7 H7 pd g7 r9 h7 n7 => ?_
  have g77 : Grow H0 H0 G7 (upd H7 p8 (.lst (us ++ [v9]))) := (g6.trans g7).put o6.h0 n7
  have e37 : Ex G3 G7 := e6.trans g7.e
  refine s_ifc (K := K) (x := false) g77.sub ((et_not (et_B (same (f := false) (sg rfl).old alone rfl pls))).is rfl) (fun hh => by cases hh) fun _ G8 H8 g8 => ?_
  have g18 := g77.trans g8
  have e38 := e37.trans g8.e
  -- every village
  have idx : ∀ {f : Bool} {σ : L2.St} {G : Hp} {E : XK} {x : Int}, σ[2]? = some (some v2) → Ex G3 G → σ[9]? = some (some (.int x)) → 0 ≤ x → x < n → Ev K f (tCall (sp_law_index K) [] E (tCons (tVar 2) (tCons (tVar 9) tNil))) σ G (.int (fIndex L x : Nat)) := fun {f σ G E x} hv e hx h0 h1 => (ev_call (f := true) (ea_cons (ev_var hv (r2.mono (e13.trans e))) (ea_cons (ev_vi hx) ea_nil)) (spF_use (o := fun i : List Int × Int => .int (fIndex i.1 i.2 : Nat)) (L, x) (by
    have := c.at0 x h0 h1
    exact ⟨by show L.length ≤ 1000; omega, h0, by show x < (L.length : Int); omega, this.1, by show ix L x ≤ (L.length : Int); omega⟩))).old.sc rfl
  have tou : ∀ {σ : L2.St} {G : Hp} {E : XK} {te : TE} {b : Bool} {x : Int}, σ[6]? = some (some v6) → Ex G3 G → Ev K false te σ G (seqD b ([x].map .int)) → 0 ≤ x → x < n → Ev K true (tCall (sp_touched_by K) [] E (tCons (tVar 6) (tCons te tNil))) σ G (blockD [(fIndex L x : Int)]) := fun {σ G E te b x} hv e h h0 h1 => (ev_call (ea_cons (ev_var hv (r6.old.mono e)) (ea_cons h ea_nil)) (spF_use (o := fun i : List (List Int) × Bool × List Int => blockD (touched i.1 i.2.2)) (blocksOf L, b, [x]) ⟨by show (blocksOf L).length ≤ 50000; omega, Nat.le_of_ble_eq_true rfl⟩)).is (congrArg blockD (lt_uniq (touched_lt _ _) (List.pairwise_singleton _ _) fun k => by
      rw [c.mem_touched (fun s ms => by rw [List.mem_singleton.mp ms]; exact ⟨h0, h1⟩)]; rfl))
  refine s_for (K := K) (xs := rng 0 n) (c := D.int) (S := fun a σ1 G2 σ' => σ' = σ1.set 9 (some (.int a))) g18 ((ei_rng1 (n := (n : Int)) (ea_cons (ev_vi rfl) ea_nil) (by omega) (by omega)).is (by congr 1))
    (fun i σ1 G9 H9 => ∃ (y1 y2 : Option V), σ1 = [some (.ref a), some (.int n), some v2, some v3, some v4, some v5, some v6, none, some (.ref p8), y1, y2] ∧ Ex G3 G9) ?_ ?_ ?_ ?_
  · intro G' H' g
    exact ⟨none, none, rfl, e38.trans g.e⟩
  · rintro x _ i σ1 Ga Ha Gb ⟨y1, y2, rfl, _⟩ _
    exact tg_int
  · rintro i x σ1 Ga Ha Gb Hb σ2 hx ea ga ⟨y1, y2, rfl, e3a⟩ gb rfl N hN
    have mx := mem_rng.mp (List.mem_of_getElem? hx)
    have x0 : 0 ≤ x := by omega
    have x1 : x < n := by omega
    have e3b := e3a.trans gb.e
    refine s_asg (K := K) (f := true) gb.sub (idx (f := true) rfl e3b rfl x0 x1) fun v10 Gc Hc gc rc => ?_
    cases rc
    have e3c := e3b.trans gc.e
    refine s_ifc (K := K) (x := false) gc.sub ((et_not (et_B (same (f := false) (Ev.is (ev_call (f := true) (ea_cons (ev_var rfl (r6.old.mono e3c)) (ea_cons (ev_vi rfl) ea_nil)) (spF_use (o := fun i : List (List Int) × Int => placeD i.1 i.2) (blocksOf L, x) (by show (blocksOf L).length ≤ 50000; omega))).old (c.place x0 x1)) (ev_vi rfl) rfl (.sc rfl)))).is rfl) (fun hh => by cases hh) fun _ Gd Hd gd => ?_
    have e3d := e3c.trans gd.e
    refine s_if (K := K) (x := false) gd.sub ((et_or (x := false) (y := false) ((et_not (et_B (same (f := false) (tou (b := true) rfl e3d (ev_tup (ea_cons (ev_vi rfl) ea_nil) (Nat.le_of_ble_eq_true rfl)) x0 x1).old (ev_lst (ea_cons (ev_vi rfl) ea_nil) (Nat.le_of_ble_eq_true rfl)) rfl (Pl.blk (xs := [(fIndex L x : Int)]) (Nat.le_of_ble_eq_true rfl))))).is rfl) fun _ => (et_not (et_B (same (f := false) (tou (b := false) rfl e3d (ev_lst (ea_cons (ev_vi rfl) ea_nil) (Nat.le_of_ble_eq_true rfl)) x0 x1).old (ev_lst (ea_cons (ev_vi rfl) ea_nil) (Nat.le_of_ble_eq_true rfl)) rfl (Pl.blk (xs := [(fIndex L x : Int)]) (Nat.le_of_ble_eq_true rfl))))).is rfl).is rfl) (fun hh => by cases hh) fun _ Ge He ge => ?_
    exact hN _ Ge He ((gb.e.trans gc.e).trans (gd.e.trans ge.e)) ((((ga.trans gb).trans gc).trans gd).trans ge) ⟨_, _, rfl, e3d.trans ge.e⟩
  rintro σ1 Ga Ha ea ga ⟨y1, y2, rfl, e3a⟩
  dsimp only
  have e1a := e13.trans e3a
  refine s_ifc (K := K) (x := false) ga.sub ((et_not (et_B (Ev.sc (f := false) (ev_call (f := true) (ea_cons (ev_var rfl (r2.mono e1a)) (ea_cons (ev_var rfl (r6.old.mono e3a)) (ea_cons (ev_var rfl (r3.mono e1a)) ea_nil))) (spF_use (o := fun _ => .bl true) (⟨n, L, places⟩ : JoinI) ⟨hn1, hn7, c, hp0, hp1, hp2⟩)).old rfl))).is rfl) (fun hh => by cases hh) fun _ Gb Hb gb => ?_
  have e3b := e3a.trans gb.e
  have e1b := e13.trans e3b
  refine s_ifc (K := K) (x := false) gb.sub ((et_and (x := decide ((1 : Int) < n)) (y := false) (et_test (f := false) (ev_op (f1 := false) (ev_vi rfl) ev_int v_gt)) fun hx => (et_not (et_B (Ev.sc (f := false) (ev_call (f := true) (ea_cons (ev_var rfl (r2.mono e1b)) (ea_cons (ev_var rfl (r6.old.mono e3b)) (ea_cons (ev_var rfl (r4.mono e1b)) ea_nil))) (spF_use (o := fun _ => .bl true) (⟨n, L, stops⟩ : TouI) (by
    have hs := hst (by have := of_decide_eq_true hx; omega)
    refine ⟨hn1, hn7, c, hs.1, ?_, hs.2.2.1⟩
    show stops.length ≤ 60
    have nd : stops.Nodup := lt_nodup' hs.2.2.2
    have sub : ∀ s ∈ stops, s ∈ rng 0 n := fun s ms => mem_rng.mpr (by have := hs.2.2.1 s ms; omega)
    have := (nodup_sub_len nd sub)
    rw [rng_length] at this; omega))).old rfl))).is rfl).is (Bool.and_false _)) (fun hh => by cases hh) fun _ Gc Hc gc => ?_
  refine s_ret (K := K) (f := true) gc.sub (same (f := true) (ev_var rfl (r6.old.mono (e3b.trans gc.e))) (ev_var rfl (r5.old.mono (g3.e.trans (e3b.trans gc.e)))) rfl (Pl.rows' (by omega) fun r hr => by have := bl.1 r hr; omega)) ?_
  intro v G' H' g r
  cases r
  exact q _
theorem all_mk {l : PySem.W.OpenLaw} {w : World} {K : PySem.W.Frag} {h : Heap} {mg : Str → Option Value} {fa f0 f1 f2 f3 f4 f5 f6 f7 f8 f9 f10 f11 f12 f13 f14 : Addr} (X : K.In h) (G : h.Ns mainGlobals mg) (hfa : mg "law" = some (.ref fa))
    {od0 an0 od1 an1 od2 an2 od3 an3 od4 an4 od5 an5 od6 an6 od7 an7 od8 an8 od9 an9 od10 an10 od11 an11 od12 an12 od13 an13 od14 an14 : Option Addr} {sl0 sl1 sl2 sl3 sl4 sl5 sl6 sl7 sl8 sl9 sl10 sl11 sl12 sl13 sl14 : Array (Option Value)} {oc0 kV0 dc0 pm0 cd0 ct0 oc1 kV1 dc1 pm1 cd1 ct1 oc2 kV2 dc2 pm2 cd2 ct2 oc3 kV3 dc3 pm3 cd3 ct3 oc4 kV4 dc4 pm4 cd4 ct4 oc5 kV5 dc5 pm5 cd5 ct5 oc6 kV6 dc6 pm6 cd6 ct6 oc7 kV7 dc7 pm7 cd7 ct7 oc8 kV8 dc8 pm8 cd8 ct8 oc9 kV9 dc9 pm9 cd9 ct9 oc10 kV10 dc10 pm10 cd10 ct10 oc11 kV11 dc11 pm11 cd11 ct11 oc12 kV12 dc12 pm12 cd12 ct12 oc13 kV13 dc13 pm13 cd13 ct13 oc14 kV14 dc14 pm14 cd14 ct14 : Value}
    (a0 : PySem.W.nsIn K mainGlobals "ordered" = some (some (.ref f0)))
    (l0 : K.lookup f0 = some ⟨oc0, od0, .func (PySem.W.fnOf "ordered" "ordered" (defArgs s_ordered) (defBody s_ordered) (defScope s_ordered) .none kV0 dc0 pm0 an0 cd0 ct0), sl0⟩)
    (c0 : PySem.W.codeIn K cd0 "ordered" = true)
    (k0 : PySem.W.keepIn K (.ref f0) = true)
    (a1 : PySem.W.nsIn K mainGlobals "touched_by" = some (some (.ref f1)))
    (l1 : K.lookup f1 = some ⟨oc1, od1, .func (PySem.W.fnOf "touched_by" "touched_by" (defArgs s_touched_by) (defBody s_touched_by) (defScope s_touched_by) .none kV1 dc1 pm1 an1 cd1 ct1), sl1⟩)
    (c1 : PySem.W.codeIn K cd1 "touched_by" = true)
    (k1 : PySem.W.keepIn K (.ref f1) = true)
    (a2 : PySem.W.nsIn K mainGlobals "join_blocks" = some (some (.ref f2)))
    (l2 : K.lookup f2 = some ⟨oc2, od2, .func (PySem.W.fnOf "join_blocks" "join_blocks" (defArgs s_join_blocks) (defBody s_join_blocks) (defScope s_join_blocks) .none kV2 dc2 pm2 an2 cd2 ct2), sl2⟩)
    (c2 : PySem.W.codeIn K cd2 "join_blocks" = true)
    (k2 : PySem.W.keepIn K (.ref f2) = true)
    (a3 : PySem.W.nsIn K mainGlobals "singles" = some (some (.ref f3)))
    (l3 : K.lookup f3 = some ⟨oc3, od3, .func (PySem.W.fnOf "singles" "singles" (defArgs s_singles) (defBody s_singles) (defScope s_singles) .none kV3 dc3 pm3 an3 cd3 ct3), sl3⟩)
    (c3 : PySem.W.codeIn K cd3 "singles" = true)
    (k3 : PySem.W.keepIn K (.ref f3) = true)
    (a4 : PySem.W.nsIn K mainGlobals "place_of" = some (some (.ref f4)))
    (l4 : K.lookup f4 = some ⟨oc4, od4, .func (PySem.W.fnOf "place_of" "place_of" (defArgs s_place_of) (defBody s_place_of) (defScope s_place_of) .none kV4 dc4 pm4 an4 cd4 ct4), sl4⟩)
    (c4 : PySem.W.codeIn K cd4 "place_of" = true)
    (k4 : PySem.W.keepIn K (.ref f4) = true)
    (a5 : PySem.W.nsIn K mainGlobals "_law_draw" = some (some (.ref f5)))
    (l5 : K.lookup f5 = some ⟨oc5, od5, .func (PySem.W.fnOf "_law_draw" "_law_draw" (defArgs s_law_draw) (defBody s_law_draw) (defScope s_law_draw) .none kV5 dc5 pm5 an5 cd5 ct5), sl5⟩)
    (c5 : PySem.W.codeIn K cd5 "_law_draw" = true)
    (k5 : PySem.W.keepIn K (.ref f5) = true)
    (a6 : PySem.W.nsIn K mainGlobals "_law_pool" = some (some (.ref f6)))
    (l6 : K.lookup f6 = some ⟨oc6, od6, .func (PySem.W.fnOf "_law_pool" "_law_pool" (defArgs s_law_pool) (defBody s_law_pool) (defScope s_law_pool) .none kV6 dc6 pm6 an6 cd6 ct6), sl6⟩)
    (c6 : PySem.W.codeIn K cd6 "_law_pool" = true)
    (k6 : PySem.W.keepIn K (.ref f6) = true)
    (a7 : PySem.W.nsIn K mainGlobals "_law_same" = some (some (.ref f7)))
    (l7 : K.lookup f7 = some ⟨oc7, od7, .func (PySem.W.fnOf "_law_same" "_law_same" (defArgs s_law_same) (defBody s_law_same) (defScope s_law_same) .none kV7 dc7 pm7 an7 cd7 ct7), sl7⟩)
    (c7 : PySem.W.codeIn K cd7 "_law_same" = true)
    (k7 : PySem.W.keepIn K (.ref f7) = true)
    (a8 : PySem.W.nsIn K mainGlobals "_law_stops" = some (some (.ref f8)))
    (l8 : K.lookup f8 = some ⟨oc8, od8, .func (PySem.W.fnOf "_law_stops" "_law_stops" (defArgs s_law_stops) (defBody s_law_stops) (defScope s_law_stops) .none kV8 dc8 pm8 an8 cd8 ct8), sl8⟩)
    (c8 : PySem.W.codeIn K cd8 "_law_stops" = true)
    (k8 : PySem.W.keepIn K (.ref f8) = true)
    (a9 : PySem.W.nsIn K mainGlobals "_law_blocks" = some (some (.ref f9)))
    (l9 : K.lookup f9 = some ⟨oc9, od9, .func (PySem.W.fnOf "_law_blocks" "_law_blocks" (defArgs s_law_blocks) (defBody s_law_blocks) (defScope s_law_blocks) .none kV9 dc9 pm9 an9 cd9 ct9), sl9⟩)
    (c9 : PySem.W.codeIn K cd9 "_law_blocks" = true)
    (k9 : PySem.W.keepIn K (.ref f9) = true)
    (a10 : PySem.W.nsIn K mainGlobals "_law_index" = some (some (.ref f10)))
    (l10 : K.lookup f10 = some ⟨oc10, od10, .func (PySem.W.fnOf "_law_index" "_law_index" (defArgs s_law_index) (defBody s_law_index) (defScope s_law_index) .none kV10 dc10 pm10 an10 cd10 ct10), sl10⟩)
    (c10 : PySem.W.codeIn K cd10 "_law_index" = true)
    (k10 : PySem.W.keepIn K (.ref f10) = true)
    (a11 : PySem.W.nsIn K mainGlobals "_law_joins" = some (some (.ref f11)))
    (l11 : K.lookup f11 = some ⟨oc11, od11, .func (PySem.W.fnOf "_law_joins" "_law_joins" (defArgs s_law_joins) (defBody s_law_joins) (defScope s_law_joins) .none kV11 dc11 pm11 an11 cd11 ct11), sl11⟩)
    (c11 : PySem.W.codeIn K cd11 "_law_joins" = true)
    (k11 : PySem.W.keepIn K (.ref f11) = true)
    (a12 : PySem.W.nsIn K mainGlobals "_law_touches" = some (some (.ref f12)))
    (l12 : K.lookup f12 = some ⟨oc12, od12, .func (PySem.W.fnOf "_law_touches" "_law_touches" (defArgs s_law_touches) (defBody s_law_touches) (defScope s_law_touches) .none kV12 dc12 pm12 an12 cd12 ct12), sl12⟩)
    (c12 : PySem.W.codeIn K cd12 "_law_touches" = true)
    (k12 : PySem.W.keepIn K (.ref f12) = true)
    (a13 : PySem.W.nsIn K mainGlobals "_law_built" = some (some (.ref f13)))
    (l13 : K.lookup f13 = some ⟨oc13, od13, .func (PySem.W.fnOf "_law_built" "_law_built" (defArgs s_law_built) (defBody s_law_built) (defScope s_law_built) .none kV13 dc13 pm13 an13 cd13 ct13), sl13⟩)
    (c13 : PySem.W.codeIn K cd13 "_law_built" = true)
    (k13 : PySem.W.keepIn K (.ref f13) = true)
    (a14 : PySem.W.nsIn K mainGlobals "law" = some (some (.ref f14)))
    (l14 : K.lookup f14 = some ⟨oc14, od14, .func (PySem.W.fnOf "law" "law" (defArgs s_law) (defBody s_law) (defScope s_law) .none kV14 dc14 pm14 an14 cd14 ct14), sl14⟩)
    (c14 : PySem.W.codeIn K cd14 "law" = true)
    (k14 : PySem.W.keepIn K (.ref f14) = true)
    (z_len : PySem.W.nsIn K mainGlobals "len" = some none)
    (z_range : PySem.W.nsIn K mainGlobals "range" = some none)
    (z_sum : PySem.W.nsIn K mainGlobals "sum" = some none)
    (z_any : PySem.W.nsIn K mainGlobals "any" = some none)
    (z_all : PySem.W.nsIn K mainGlobals "all" = some none)
    (z_abs : PySem.W.nsIn K mainGlobals "abs" = some none)
    (z_int : PySem.W.nsIn K mainGlobals "int" = some none)
    (z_isinstance : PySem.W.nsIn K mainGlobals "isinstance" = some none)
    (z_list : PySem.W.nsIn K mainGlobals "list" = some none)
    (z_tuple : PySem.W.nsIn K mainGlobals "tuple" = some none)
    (z_sorted : PySem.W.nsIn K mainGlobals "sorted" = some none)
    (z_enumerate : PySem.W.nsIn K mainGlobals "enumerate" = some none)
    (z_max : PySem.W.nsIn K mainGlobals "max" = some none)
    (z_min : PySem.W.nsIn K mainGlobals "min" = some none)
    (z_str : PySem.W.nsIn K mainGlobals "str" = some none)
    (z_set : PySem.W.nsIn K mainGlobals "set" = some none)
    (z_zip : PySem.W.nsIn K mainGlobals "zip" = some none)
    (z_reversed : PySem.W.nsIn K mainGlobals "reversed" = some none)
    (z_dict : PySem.W.nsIn K mainGlobals "dict" = some none)
    (z_bool : PySem.W.nsIn K mainGlobals "bool" = some none) :
    ∃ fd : FuncData, (∀ (s : Shared) (v : Value), BindsTo s fd ⟨[v], []⟩ [("script", v)]) ∧ ∀ base : Heap, K.In base → base.Ns mainGlobals mg → FnOk l.prog w K mg base CX0 12 fa fd ["script"] (spLaw K) := by
  have e := hfa.symm.trans (PySem.W.mg_of X G a14)
  cases e
  have B : Bt mg := ⟨PySem.W.mg_none_of X G z_len, PySem.W.mg_none_of X G z_range, PySem.W.mg_none_of X G z_sum, PySem.W.mg_none_of X G z_any, PySem.W.mg_none_of X G z_all, PySem.W.mg_none_of X G z_abs, PySem.W.mg_none_of X G z_int, PySem.W.mg_none_of X G z_isinstance, PySem.W.mg_none_of X G z_list, PySem.W.mg_none_of X G z_tuple, PySem.W.mg_none_of X G z_sorted, PySem.W.mg_none_of X G z_enumerate, PySem.W.mg_none_of X G z_max, PySem.W.mg_none_of X G z_min, PySem.W.mg_none_of X G z_str, PySem.W.mg_none_of X G z_set, PySem.W.mg_none_of X G z_zip, PySem.W.mg_none_of X G z_reversed, PySem.W.mg_none_of X G z_dict, PySem.W.mg_none_of X G z_bool⟩
  have F0 := fun_mk (st := s_ordered) l0 c0 k0
  have b0 := F0.binds (ps := ["blocks"]) fun _ _ _ _ _ _ us hl => match us, hl with | [_], _ => rfl
  have F1 := fun_mk (st := s_touched_by) l1 c1 k1
  have b1 := F1.binds (ps := ["division", "stops"]) fun _ _ _ _ _ _ us hl => match us, hl with | [_, _], _ => rfl
  have F2 := fun_mk (st := s_join_blocks) l2 c2 k2
  have b2 := F2.binds (ps := ["division", "places"]) fun _ _ _ _ _ _ us hl => match us, hl with | [_, _], _ => rfl
  have F3 := fun_mk (st := s_singles) l3 c3 k3
  have b3 := F3.binds (ps := ["villages"]) fun _ _ _ _ _ _ us hl => match us, hl with | [_], _ => rfl
  have F4 := fun_mk (st := s_place_of) l4 c4 k4
  have b4 := F4.binds (ps := ["division", "village"]) fun _ _ _ _ _ _ us hl => match us, hl with | [_, _], _ => rfl
  have F5 := fun_mk (st := s_law_draw) l5 c5 k5
  have b5 := F5.binds (ps := ["pool", "many"]) fun _ _ _ _ _ _ us hl => match us, hl with | [_, _], _ => rfl
  have F6 := fun_mk (st := s_law_pool) l6 c6 k6
  have b6 := F6.binds (ps := ["script"]) fun _ _ _ _ _ _ us hl => match us, hl with | [_], _ => rfl
  have F7 := fun_mk (st := s_law_same) l7 c7 k7
  have b7 := F7.binds (ps := ["got", "due"]) fun _ _ _ _ _ _ us hl => match us, hl with | [_, _], _ => rfl
  have F8 := fun_mk (st := s_law_stops) l8 c8 k8
  have b8 := F8.binds (ps := ["pool", "villages", "widest"]) fun _ _ _ _ _ _ us hl => match us, hl with | [_, _, _], _ => rfl
  have F9 := fun_mk (st := s_law_blocks) l9 c9 k9
  have b9 := F9.binds (ps := ["labels"]) fun _ _ _ _ _ _ us hl => match us, hl with | [_], _ => rfl
  have F10 := fun_mk (st := s_law_index) l10 c10 k10
  have b10 := F10.binds (ps := ["labels", "village"]) fun _ _ _ _ _ _ us hl => match us, hl with | [_, _], _ => rfl
  have F11 := fun_mk (st := s_law_joins) l11 c11 k11
  have b11 := F11.binds (ps := ["labels", "mine", "places"]) fun _ _ _ _ _ _ us hl => match us, hl with | [_, _, _], _ => rfl
  have F12 := fun_mk (st := s_law_touches) l12 c12 k12
  have b12 := F12.binds (ps := ["labels", "mine", "stops"]) fun _ _ _ _ _ _ us hl => match us, hl with | [_, _, _], _ => rfl
  have F13 := fun_mk (st := s_law_built) l13 c13 k13
  have b13 := F13.binds (ps := ["pool"]) fun _ _ _ _ _ _ us hl => match us, hl with | [_], _ => rfl
  have F14 := fun_mk (st := s_law) l14 c14 k14
  refine ⟨PySem.W.fnOf "law" "law" (defArgs s_law) (defBody s_law) (defScope s_law) .none kV14 dc14 pm14 an14 cd14 ct14, fun s v => .of_eq rfl, fun base _ _ => ?_⟩
  have c_ordered : C8.Cal l.prog w K mg base 1 "ordered" (sp_ordered K) [] := ⟨f0, _, ["blocks"], [], ok_ordered F0 B, PySem.W.mg_of X G a0, k0, b0, .nil⟩
  have c_touched_by : C8.Cal l.prog w K mg base 1 "touched_by" (sp_touched_by K) [] := ⟨f1, _, ["division", "stops"], [], ok_touched_by F1 B, PySem.W.mg_of X G a1, k1, b1, .nil⟩
  have c_join_blocks : C8.Cal l.prog w K mg base 2 "join_blocks" (sp_join_blocks K) [] := ⟨f2, _, ["division", "places"], [], ok_join_blocks F2 B c_ordered, PySem.W.mg_of X G a2, k2, b2, .nil⟩
  have c_singles : C8.Cal l.prog w K mg base 1 "singles" (sp_singles K) [] := ⟨f3, _, ["villages"], [], ok_singles F3 B, PySem.W.mg_of X G a3, k3, b3, .nil⟩
  have c_place_of : C8.Cal l.prog w K mg base 1 "place_of" (sp_place_of K) [] := ⟨f4, _, ["division", "village"], [], ok_place_of F4 B, PySem.W.mg_of X G a4, k4, b4, .nil⟩
  have c_law_draw : C8.Cal l.prog w K mg base 1 "_law_draw" spDrawV [] := ⟨f5, _, ["pool", "many"], [], draw_out (ok_draw_in F5 B) rfl, PySem.W.mg_of X G a5, k5, b5, .nil⟩
  have c_law_pool : C8.Cal l.prog w K mg base 1 "_law_pool" (spPoolV K) [] := ⟨f6, _, ["script"], [], pool_made (ok_pool_in F6 B) rfl, PySem.W.mg_of X G a6, k6, b6, .nil⟩
  have c_law_same : C8.Cal l.prog w K mg base 9 "_law_same" (spSame K 9) [] := ⟨f7, _, ["got", "due"], [], ok_same (base := base) F7 B (fun k sp h => ⟨f7, _, ["got", "due"], [], h, PySem.W.mg_of X G a7, k7, b7, .nil⟩) 9, PySem.W.mg_of X G a7, k7, b7, .nil⟩
  have c_law_stops : C8.Cal l.prog w K mg base 2 "_law_stops" (sp_law_stops K) [] := ⟨f8, _, ["pool", "villages", "widest"], [], ok_law_stops F8 B c_law_draw, PySem.W.mg_of X G a8, k8, b8, .nil⟩
  have c_law_blocks : C8.Cal l.prog w K mg base 1 "_law_blocks" (sp_law_blocks K) [] := ⟨f9, _, ["labels"], [], ok_law_blocks F9 B, PySem.W.mg_of X G a9, k9, b9, .nil⟩
  have c_law_index : C8.Cal l.prog w K mg base 1 "_law_index" (sp_law_index K) [] := ⟨f10, _, ["labels", "village"], [], ok_law_index F10 B, PySem.W.mg_of X G a10, k10, b10, .nil⟩
  have c_law_joins : C8.Cal l.prog w K mg base 10 "_law_joins" (sp_law_joins K) [] := ⟨f11, _, ["labels", "mine", "places"], [], ok_law_joins F11 B c_law_blocks c_join_blocks c_law_same, PySem.W.mg_of X G a11, k11, b11, .nil⟩
  have c_law_touches : C8.Cal l.prog w K mg base 11 "_law_touches" (sp_law_touches K) [] := ⟨f12, _, ["labels", "mine", "stops"], [], ok_law_touches F12 B c_law_index c_touched_by c_law_same c_law_joins, PySem.W.mg_of X G a12, k12, b12, .nil⟩
  have c_law_built : C8.Cal l.prog w K mg base 3 "_law_built" (sp_law_built K) [] := ⟨f13, _, ["pool"], [], ok_law_built F13 B c_law_draw c_law_stops, PySem.W.mg_of X G a13, k13, b13, .nil⟩
  exact ok_law F14 B c_law_pool c_law_built c_law_blocks c_singles c_law_same c_law_index c_place_of c_touched_by c_law_joins c_law_touches
theorem walk {l : PySem.W.OpenLaw} {q : Program} {loose : List Str} {XP : (Str → Option Value) → Heap → Prop} {YP : World → Heap → Prop} {d : DefRec} {K : Params → PySem.W.Frag} (hn : l.most = some 63) (hdf : d.params.defaults = []) (hY : ∀ (w : World) (h : Heap), YP w h → (K w.params).In h)
    (F : ∀ (w : World) (mg : Str → Option Value) (fa : Addr) (h : Heap), (K w.params).In h → h.Ns mainGlobals mg → mg d.name = some (.ref fa) → ∃ fd : FuncData, (∀ (s : Shared) (u : Value), BindsTo s fd ⟨[u], []⟩ [("script", u)]) ∧ ∀ base : Heap, (K w.params).In base → base.Ns mainGlobals mg → FnOk l.prog w (K w.params) mg base CX0 12 fa fd ["script"] (spLaw (K w.params))) : PySem.W.WalkO q loose XP YP l.row.toRowW d [] (fun f vs => PySem.call f vs) :=
  L2.walk_of (n := 63) (k := 12) (x := "script") (CX := fun _ => CX0) (sp := fun w => spLaw (K w.params)) hn (by decide) hdf ⟨rfl, by decide, by decide⟩ hY F (fun _ _ a ns hl _ hS => ⟨a, ns, rfl, hS, hl, fun _ => rfl⟩) fun _ _ _ _ _ z => z
end VL
open PySem PySem.W PyProof.Rows in
set_option maxRecDepth 100000 in
set_option maxHeartbeats 0 in
theorem PySem.Challenge.cw_villagelines_k12_touch_and_join_holds : PySem.Challenge.rw_villagelines_k12_touch_and_join.Holds := by
  w_on; o_law; k_head; (case hw => w_witness2)
  k_fill
  refine VL.walk (l := PySem.Challenge.rw_villagelines_k12_touch_and_join) rfl rfl (fun w h Y => PySem.W.kIn_of Y) ?F
  case F =>
    intro w mg fa h KX G hmg
    refine' VL.all_mk KX G hmg ?a0 ?l0 ?c0 ?k0 ?a1 ?l1 ?c1 ?k1 ?a2 ?l2 ?c2 ?k2 ?a3 ?l3 ?c3 ?k3 ?a4 ?l4 ?c4 ?k4 ?a5 ?l5 ?c5 ?k5 ?a6 ?l6 ?c6 ?k6 ?a7 ?l7 ?c7 ?k7 ?a8 ?l8 ?c8 ?k8 ?a9 ?l9 ?c9 ?k9 ?a10 ?l10 ?c10 ?k10 ?a11 ?l11 ?c11 ?k11 ?a12 ?l12 ?c12 ?k12 ?a13 ?l13 ?c13 ?k13 ?a14 ?l14 ?c14 ?k14 ?z_len ?z_range ?z_sum ?z_any ?z_all ?z_abs ?z_int ?z_isinstance ?z_list ?z_tuple ?z_sorted ?z_enumerate ?z_max ?z_min ?z_str ?z_set ?z_zip ?z_reversed ?z_dict ?z_bool
    (case a0 => k_is)
    (case l0 => k_is)
    (case c0 => k_is)
    (case k0 => k_is)
    (case a1 => k_is)
    (case l1 => k_is)
    (case c1 => k_is)
    (case k1 => k_is)
    (case a2 => k_is)
    (case l2 => k_is)
    (case c2 => k_is)
    (case k2 => k_is)
    (case a3 => k_is)
    (case l3 => k_is)
    (case c3 => k_is)
    (case k3 => k_is)
    (case a4 => k_is)
    (case l4 => k_is)
    (case c4 => k_is)
    (case k4 => k_is)
    (case a5 => k_is)
    (case l5 => k_is)
    (case c5 => k_is)
    (case k5 => k_is)
    (case a6 => k_is)
    (case l6 => k_is)
    (case c6 => k_is)
    (case k6 => k_is)
    (case a7 => k_is)
    (case l7 => k_is)
    (case c7 => k_is)
    (case k7 => k_is)
    (case a8 => k_is)
    (case l8 => k_is)
    (case c8 => k_is)
    (case k8 => k_is)
    (case a9 => k_is)
    (case l9 => k_is)
    (case c9 => k_is)
    (case k9 => k_is)
    (case a10 => k_is)
    (case l10 => k_is)
    (case c10 => k_is)
    (case k10 => k_is)
    (case a11 => k_is)
    (case l11 => k_is)
    (case c11 => k_is)
    (case k11 => k_is)
    (case a12 => k_is)
    (case l12 => k_is)
    (case c12 => k_is)
    (case k12 => k_is)
    (case a13 => k_is)
    (case l13 => k_is)
    (case c13 => k_is)
    (case k13 => k_is)
    (case a14 => k_is)
    (case l14 => k_is)
    (case c14 => k_is)
    (case k14 => k_is)
    (case z_len => k_is)
    (case z_range => k_is)
    (case z_sum => k_is)
    (case z_any => k_is)
    (case z_all => k_is)
    (case z_abs => k_is)
    (case z_int => k_is)
    (case z_isinstance => k_is)
    (case z_list => k_is)
    (case z_tuple => k_is)
    (case z_sorted => k_is)
    (case z_enumerate => k_is)
    (case z_max => k_is)
    (case z_min => k_is)
    (case z_str => k_is)
    (case z_set => k_is)
    (case z_zip => k_is)
    (case z_reversed => k_is)
    (case z_dict => k_is)
    (case z_bool => k_is)
#print axioms PySem.Challenge.cw_villagelines_k12_touch_and_join_holds
